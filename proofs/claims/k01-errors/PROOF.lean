import PyProof.Rows.All
import Wide.All
import OpenK.AllK
import Wide.FinOn
import HandS.ForMost
import HandS.IsInst
import HandS.Walk
import HandS.FStr
import HandS.Star
import HandS.TupAny
import HandS.TupMul
import HandS.Style
import HandS.RaiseMore
import HandS.ClsMeth
import KE.KSuper
import HandS.More
import HandS.SlotsOwn
import KE.KCallOwn
import KE.KDictKeyed
import HandS.Lambda
import HandS.ExcInit
import HandS.ForExc
import HandS.CallSlots
import HandS.Wide
import HandS.Conv
import HandS.MakeKwOnly
import HandS.MakeKw
import HandS.Defaults
import HandS.NoneIn
import HandS.DictComp
import KE.GoesZip
import KE.GoesMore
import HandS.Ends
import HandS.Dict
import PyProof.RulesMatch
import PyProof.Rows.MatchSeqLen
import KE.KUnpack
import HandS.CallLocal
import HandS.Exc
import PyProof.EqAt
import PyProof.NeKinds
import HandS.ExcSuper
import HandS.WordsExc
import HandS.ExcIs
import HandS.ExcField
import KE.KExcIs
import KE.KExcSuper
import HandS.TryOnly
import KE.KEqNest
import HandS.Text
import PyProof.StrOps2
import PyProof.DictUpdate
import PyProof.FactsAll.dict_3
import PyProof.FactsAll.dict_4
import PyProof.InstSpecial
import KE.KExcHand
import PyProof.ListStr
import KE.GoesEnum
import HandS.EndBits
import OpenK.KMeth
import KE.KExcInit
import HandS.Iter
import PyProof.ExcBaseAll.ValueError
import HandS.Deep
import KE.KDictZip
import HandS.ExcValue
import KE.KDictCopyH
import HandS.Strs
import KE.KDictPairs
import HandS.TupLen
import HandS.EndTab
import HandS.SetFor
import PyProof.RulesMatchSeq
import HandS.Property
import HandS.ReplaceLit
import PySem.Challenge.RW_wholetraces_k01_errors_and_what_they_kee
set_option Elab.async false
set_option linter.all false
set_option maxRecDepth 100000
set_option maxHeartbeats 4000000
namespace L2
open PySem PySem.Spec PyProof.Rows
/-! ### steps of a reading, by its head -/
section
variable {D : Ends} {σ : St} {H : Hp} {Q : VK} {QT : Bool → Hp → Prop} {QA : List V → Hp → Prop} {ta tb te tc : TE} {tA tr : TA} {t1 t2 : TS} {c u : TT} {v x y : V} {i : Nat} {r r' : R2} {b : Bool} {K : PySem.W.Frag}
theorem Same.new {p : Addr} {o : HO} (h : H p = none) : Same H (upd H p o) := fun a u e => by
  rw [upd_ne (ne_of_none e h)]
  exact e
/-! operators -/
/-! fields, methods -/
end
/-! ### heaps -/
section
variable {H H1 H2 : Hp} {a p : Addr} {o : HO} {K : PySem.W.Frag} {xs : List V}
theorem Same.fresh (e : Same H H1) (h : H1 p = none) : H p = none := e.free h
/-- what never changes once it stands: all but lists of ints -/
def fz : HO → Bool
  | .lst xs => !(xs.all fun v => match v with | .int _ => true | _ => false) || xs.isEmpty
  | .tup _ => true
  | .ins _ _ _ => true
  | .dK _ => true
  | .frz _ _ => true
  | _ => false
def Kp (H H' : Hp) : Prop := ∀ a o, H a = some o → fz o = true → H' a = some o
theorem Kp.refl (H : Hp) : Kp H H := fun _ _ h _ => h
theorem Kp.trans (a : Kp H H1) (b : Kp H1 H2) : Kp H H2 := fun c o h z => b c o (a c o h z) z
theorem Same.kp (e : Same H H1) : Kp H H1 := fun a o h _ => e a o h
theorem Kp.same (a : Kp H H1) (b : Same H1 H2) : Kp H H2 := a.trans b.kp
/-- the script, or a list that stands in the written part -/
def SqF (K : PySem.W.Frag) (H : Hp) (a : Addr) (xs : List V) : Prop := (∃ o, H a = some (.frz o (.lst xs))) ∨ ∃ (o : Obj) (its : Array Value) (n : Nat), K.lookup a = some o ∧ o.cls = .type "list" ∧ o.dict = none ∧ o.data = .seq its n ∧ its.size ≤ sizeLine ∧ Vals xs its.toList
theorem SqF.l (h : SqF K H a xs) : SqL K H a xs := by
  rcases h with ⟨o, h⟩ | h
  · exact .inl (.inr ⟨o, h⟩)
  · exact .inr h
theorem SqF.kp (e : Kp H H1) (h : SqF K H a xs) : SqF K H1 a xs := by
  rcases h with ⟨o, h⟩ | h
  · exact .inl ⟨o, e _ _ h rfl⟩
  · exact .inr h
theorem SqF.of (ho : ∀ b, H b = none ∨ ∃ o xs, H b = some (.frz o (.lst xs))) (h : SqL K H a xs) : SqF K H a xs := by
  rcases h with (h | ⟨o, h⟩) | h
  · rcases ho a with z | ⟨o, ys, z⟩
    · rw [h] at z; cases z
    · rw [h] at z; cases z
  · exact .inl ⟨o, h⟩
  · exact .inr h
end
section
variable {K : PySem.W.Frag} {H : Hp} {Q : VK} {p : Addr} {z : Str} {ws : List Str}
end
section
variable {K : PySem.W.Frag} {H H1 : Hp} {σ : St} {Q : VK} {D : Ends} {ta tv : TE} {f : Str} {a C dx : Addr} {fs : List (Str × V)} {v y : V}
theorem TyX.same {t : Value} (e : Same H H1) (h : TyX K H v t) : TyX K H1 v t := by
  cases h with
  | base b =>
    cases b with
    | non => exact .base .non
    | bl x => exact .base (.bl x)
    | int i => exact .base (.int i)
    | str x => exact .base (.str x)
    | flt x => exact .base (.flt x)
    | lst q => exact .base (.lst (e _ _ q))
    | frz q => exact .base (.frz (e _ _ q))
    | tup q => exact .base (.tup (e _ _ q))
    | dK q => exact .base (.dK (e _ _ q))
    | dT q => exact .base (.dT (e _ _ q))
    | ins q cl ha hn htk hm => exact .base (.ins (e _ _ q) cl ha hn htk hm)
  | byt b => exact .byt b
  | set q => exact .set (e _ _ q)
  | kList q c => exact .kList q c
  | kTuple q c => exact .kTuple q c
  | kDict q c => exact .kDict q c
  | fTuple q => exact .fTuple (e _ _ q)
  | fDict q => exact .fDict (e _ _ q)
end
/-! ### comprehensions -/
end L2
namespace L2
open PySem PySem.Spec PyProof.Rows
/-- names of a method that says super(): the parameters first, all local; __class__ alone is free -/
structure FnScopeS (N P : List Str) (sc : Scope) : Prop where
  kind : sc.kind = .function
  co : sc.isCoroutine = false
  gen : sc.isGenerator = false
  nd : N.Nodup
  pre : N.take P.length = P
  par : ∀ x ∈ P, sc.names.lookup x = some .local
  nocell : ∀ y ∈ sc.names, y.2 ≠ .cell
  free : ∀ y ∈ sc.names, y.2 = .free → y.1 = "__class__"
  sup : sc.names.lookup ("super" : Str) = some .globalImplicit
  cls : sc.names.lookup ("__class__" : Str) = some .free
def cxS (CX : CXT) (P : Program) (w : World) (K : PySem.W.Frag) (mg : Str → Option Value) (base : Heap) (N : List Str) (qual : Str) (scope : Scope) (f : Addr) (cd : Value) (cc : Addr) (A : Around) (outer : List Env) (s : Shared) (H : Hp) (E : XK) : Cx where
  prog := P
  w := w
  K := K
  mg := mg
  base := base
  A := A.deeper (PySem.W.ksEnv qual scope s.heap.objs.size f cd cc)
  N := N
  s_0 := s
  H_0 := H
  env := PySem.W.ksEnv qual scope s.heap.objs.size f cd cc
  outer := outer
  stack := PySem.W.ksEnv qual scope s.heap.objs.size f cd cc :: outer
  ex := []
  calm := true
  fn := fun _ => false
  pn := []
  xe := fun e s' => wpAny (model P w) (A.deeper (PySem.W.ksEnv qual scope s.heap.objs.size f cd cc)) (leaving (PySem.W.ksEnv qual scope s.heap.objs.size f cd cc) e) (fun _ s'' => CX outer H s E e s'') (fun e' s'' => CX outer H s E e' s'') s'
theorem zip_lookup {P : List Str} {us : List Value} {i : Nat} {x : Str} {u : Value} (nd : P.Nodup) (h1 : P[i]? = some x) (h2 : us[i]? = some u) : (P.zip us).reverse.lookup x = some u := by
  have nd2 : ((P.zip us).reverse.map (·.1)).Nodup := by
    rw [List.map_reverse]
    show List.Pairwise (· ≠ ·) _
    rw [List.pairwise_reverse]
    refine List.Pairwise.imp (R := (· ≠ ·)) (fun h => h.symm) ?_
    show List.Nodup _
    have e : (P.zip us).map (·.1) = P.take us.length := by
      clear nd h1 h2
      induction P generalizing us with
      | nil => simp
      | cons a P ih =>
        cases us with
        | nil => simp
        | cons b us => simp [ih]
    rw [e]
    exact nd.sublist (List.take_sublist _ _)
  have mem : (x, u) ∈ (P.zip us).reverse := by
    rw [List.mem_reverse]
    have z : (P.zip us)[i]? = some (x, u) := by
      rw [List.getElem?_zip_eq_some]
      exact ⟨h1, h2⟩
    exact List.mem_of_getElem? z
  generalize (P.zip us).reverse = l at nd2 mem
  induction l with
  | nil => cases mem
  | cons p l ih =>
    obtain ⟨y, v⟩ := p
    rw [List.map_cons, List.nodup_cons] at nd2
    rcases List.mem_cons.mp mem with e | e
    · cases e
      simp [List.lookup]
    · have ne : x ≠ y := fun z => nd2.1 (by rw [← z]; exact List.mem_map_of_mem (f := (·.1)) e)
      have q : (x == y) = false := by simpa using ne
      simp only [List.lookup, q]
      exact ih nd2.2 e
/-- what a slot of the start holds is an argument -/
theorem start_arg {N : List Str} {vs : List V} {i : Nat} {v : V} (h : (start N vs)[i]? = some (some v)) : vs[i]? = some v := by
  unfold start at h
  rcases Nat.lt_or_ge i (vs.map some).length with q | q
  · have z := (List.getElem?_append_left q).symm.trans h
    simpa using z
  · have z := (List.getElem?_append_right q).symm.trans h
    simp [List.getElem?_replicate] at z
theorem start_len {N ps : List Str} {vs : List V} (h : N.take ps.length = ps) (hl : vs.length = ps.length) : (start N vs).length = N.length := by
  have q : (N.take ps.length).length = ps.length := by rw [h]
  simp only [List.length_take] at q
  simp [start, hl]
  omega
theorem start_name {N ps : List Str} {vs : List V} {i : Nat} {y : Str} {v : V} (h : N.take ps.length = ps) (hl : vs.length = ps.length) (hv : vs[i]? = some v) (hy : N[i]? = some y) : ps[i]? = some y := by
  have q : i < ps.length := by rw [← hl]; exact (List.getElem?_eq_some_iff.mp hv).1
  have z := List.getElem?_take_of_lt (l := N) q
  rw [h, hy] at z
  exact z
theorem inv_startS {CX : CXT} {P : Program} {w : World} {K : PySem.W.Frag} {mg : Str → Option Value} {base : Heap} {N ps : List Str} {qual : Str} {scope : Scope} {f : Addr} {cd : Value} {cc : Addr} {A : Around} {outer : List Env} {s : Shared} {H : Hp} {E : XK} {us : List Value} {vs : List V} {h1 : Heap} {tk : Nat}
    {cl : Value} {cld : Option Addr} {csl : Array (Option Value)} {cv : Option Value}
    (S : FnScopeS N ps scope) (hd : A.handled = none) (e0 : Env0 P w K mg base A outer s H) (hl : vs.length = ps.length) (r : Vals vs us) (hcc : K.lookup cc = some ⟨cl, cld, .cell cv, csl⟩)
    (hns : h1.Ns s.heap.objs.size (fun x => (ps.zip us).reverse.lookup x)) (hk : ∀ b o, s.heap.get? b = some o → h1.get? b = some o) :
    Inv (cxS CX P w K mg base N qual scope f cd cc A outer s H E) [] (start N vs) H { s with heap := h1, toks := tk } := by
  have noA : ∀ b : Addr, b ∉ (cxS CX P w K mg base N qual scope f cd cc A outer s H E).ex := fun b z => absurd (show b ∈ ([] : List Addr) from z) (by simp)
  have cel : ∀ y c, (cxS CX P w K mg base N qual scope f cd cc A outer s H E).env.cells.lookup y = some c → y = "__class__" ∧ c = cc := fun y c h => by
    have h' : ([(("__class__" : Str), cc)] : List (Str × Addr)).lookup y = some c := h
    by_cases z : y = "__class__"
    · subst z
      have q : ([(("__class__" : Str), cc)] : List (Str × Addr)).lookup ("__class__" : Str) = some cc := by simp [List.lookup]
      rw [q] at h'
      exact ⟨rfl, (Option.some.inj h').symm⟩
    · have q : (y == ("__class__" : Str)) = false := by simpa using z
      simp [List.lookup, q] at h'
  have kcc : base.get? cc = some ⟨cl, cld, .cell cv, csl⟩ := e0.mod.kin _ _ hcc
  refine ⟨⟨e0.mod, S.kind, rfl, rfl, Nat.le_refl _, fun y z c h1 h2 => ?_, fun y hy => ?_, fun y c h _ => ?_, fun _ => hd, Around.frames_deeper e0.frames, .inr ⟨rfl, rfl⟩, fun b z => absurd z (noA b), e0.bs, e0.bsz, fun b _ _ => noA b, fun b z => absurd z (noA b), e0.funs, e0.frf⟩,
    rfl, e0.bare, Un.kept hk, ⟨_, hns, fun i y v h1 h2 h3 => ?_⟩, fun y c h => ?_, e0.hok.fresh (Nat.le_refl _), fun y c h => ?_, fun p hp => absurd (show p ∈ ([] : List (Addr × Obj)) from hp) (by simp), e0.hok.kept hk, ?_⟩
  · rw [(cel y c h1).1, (cel z c h2).1]
  · rcases (show scope.names.lookup y = some .cell ∨ scope.names.lookup y = some .free from hy) with q | q
    · exact (S.nocell _ (PySem.mem_of_lookup q) rfl).elim
    · have e := S.free _ (PySem.mem_of_lookup q) rfl
      have e' : y = "__class__" := e
      subst e'
      exact ⟨cc, by show ([(("__class__" : Str), cc)] : List (Str × Addr)).lookup ("__class__" : Str) = some cc; simp [List.lookup]⟩
  · exact Bool.noConfusion h
  · have ha := start_arg h2
    have hp := start_name S.pre hl ha h1
    obtain ⟨u, hu, rv⟩ := Vals.get r ha
    exact ⟨u, rv, .inl ⟨S.par y (List.mem_of_getElem? hp), zip_lookup (S.pre ▸ S.nd.sublist (List.take_sublist _ N)) hp hu⟩⟩
  · obtain ⟨_, e2⟩ := cel y c h
    subst e2
    exact ⟨cv, _, hk _ _ (e0.bs _ _ kcc).1, rfl⟩
  · obtain ⟨_, e2⟩ := cel y c h
    subst e2
    exact (e0.bs _ _ kcc).2
  · exact start_len S.pre hl
/-! ### blocks at a known activation -/
structure PSA (X : Cx) (c : Code) (st : Stmt) (t : TS) : Prop where
  run : ∀ (pins : List (Addr × Obj)) (s : Shared) (σ : St) (H : Hp) (D : Ends), Inv X pins σ H s → t D σ H → _root_.PySem.wpAt (model X.prog X.w) X.A c (exec st X.env) (SP X pins D) X.xe s
structure PSsA (X : Cx) (c : Code) (st : List Stmt) (t : TS) : Prop where
  run : ∀ (pins : List (Addr × Obj)) (s : Shared) (σ : St) (H : Hp) (D : Ends), Inv X pins σ H s → t D σ H → _root_.PySem.wpAt (model X.prog X.w) X.A c (execs st X.env) (SP X pins D) X.xe s
section
variable {X : Cx} {c : Code} {st : Stmt} {rest : List Stmt} {t u : TS}
theorem psa_of (h : PS X st t) : PSA X c st t := ⟨fun pins s σ H D I q => wpAt_of_wpAny (h.run pins s σ H D I q)⟩
theorem pssa_cons (h1 : PSA X c st t) (h2 : PSsA X c rest u) : PSsA X c (st :: rest) (tSeq t u) := by
  refine ⟨fun pins s σ H D I h => ?_⟩
  refine ks_wpAt_execs_cons (ks_wpAt_mono (h1.run pins s σ H { D with nx := u D } I h) (fun f s1 q => ?_) fun _ _ z => z)
  cases f with
  | next =>
    obtain ⟨σ', H', I', q⟩ := q
    exact h2.run pins s1 σ' H' D I' q
  | ret v => exact q
  | brk => exact q
  | cont => exact q
theorem pssa_one (h1 : PSA X c st t) : PSsA X c [st] t := by
  refine ⟨fun pins s σ H D I h => ?_⟩
  refine ks_wpAt_execs_cons (ks_wpAt_mono (h1.run pins s σ H D I h) (fun f s1 q => ?_) fun _ _ z => z)
  cases f with
  | next => exact wpAt_of_wpAny (wpAny_execs_nil q)
  | ret v => exact q
  | brk => exact q
  | cont => exact q
end
/-- THE RULE for a method that says super() -/
theorem fnS_of {CX : CXT} {P : Program} {w : World} {K : PySem.W.Frag} {mg : Str → Option Value} {base : Heap} {k : Nat} {f : Addr} {name qual : Str} {params : Arguments} {body : List Stmt} {scope : Scope} {dV kV doc pm cdv ct oc : Value} {an od : Option Addr} {cc : Addr}
    {osl : Array (Option Value)} {N ps : List Str} {sp : Sp} {cl : Value} {cld : Option Addr} {csl : Array (Option Value)} {cv : Option Value} (hcc : K.lookup cc = some ⟨cl, cld, .cell cv, csl⟩)
    (lk : K.lookup f = some ⟨oc, od, .func (PySem.W.ksFn name qual params body scope dV kV doc pm an cdv ct cc), osl⟩) (hcd : PySem.W.codeIn K cdv qual = true) (S : FnScopeS N ps scope)
    (len : ∀ vs H Q E, sp vs H Q E → vs.length = ps.length)
    (hbody : ∀ (A : Around) (outer : List Env) (s : Shared) (H : Hp) (vs : List V) (Q : VK) (E : XK), Room k (A.deeper (PySem.W.ksEnv qual scope s.heap.objs.size f cdv cc)) → sp vs H Q E →
      ∃ t, PSsA (cxS CX P w K mg base N qual scope f cdv cc A outer s H E) (.func body (PySem.W.ksEnv qual scope s.heap.objs.size f cdv cc)) body t ∧ t { nx := fun _ H' => Q .non H', rt := Q } (start N vs) H) :
    FnOk P w K mg base CX (k + 1) f (PySem.W.ksFn name qual params body scope dV kV doc pm an cdv ct cc) ps sp := by
  refine ⟨len, fun A outer s H args us vs Q E hr e0 hb rel want => ?_⟩
  have keep := fun (b : Addr) (o : Obj) (e : base.get? b = some o) => (e0.bs b o e).1
  have KX : K.In s.heap := e0.mod.kin.keeps keep
  have lim : s.heap.NoLimit := e0.mod.nolimit.keeps keep
  have hloc : ∀ y ∈ ps.zip us, scope.names.lookup y.1 = some .local := fun ⟨n, v⟩ hy => S.par n (List.of_mem_zip hy).1
  obtain ⟨t, ht, hq⟩ := hbody A outer s H vs Q E (Room.deeper hr _) want
  refine ks_codeAny_call_defAt (fd := PySem.W.ksFn name qual params body scope dV kV doc pm an cdv ct cc) (body := body) (binds := ps.zip us) hr.depth (KX _ _ lk) rfl lim (PySem.W.codeRec_of KX hcd) rfl hb S.nocell hloc (fun h₁ hns hk₁ => ?_) S.co S.gen S.kind
  have I : Inv (cxS CX P w K mg base N qual scope f cdv cc A outer s H E) [] (start N vs) H { s with heap := h₁, toks := s.toks + (ps.zip us).length } := inv_startS S hr.hd e0 (len _ _ _ _ want) rel hcc hns hk₁
  refine ks_wpAt_mono (ht.run [] _ (start N vs) H _ I hq) (fun fl s' hs => ?_) fun e s' hs => hs
  cases fl with
  | ret u => exact let ⟨v, _, H1, J, rv, q⟩ := hs; ⟨v, H1, J.os, J.bare, J.base, J.hok, rv, q⟩
  | next => exact let ⟨_, H1, J, q⟩ := hs; ⟨.non, H1, J.os, J.bare, J.base, J.hok, rfl, q⟩
  | brk =>
    obtain ⟨_, _, _, q⟩ := hs
    exact False.elim q
  | cont =>
    obtain ⟨_, _, _, q⟩ := hs
    exact False.elim q
/-! ### super().m(e, ..) -/
/-- what is known of the running body -/
structure SupX (X : Cx) (D : Addr) (y : Str) : Prop where
  sup : X.env.scope.names.lookup ("super" : Str) = some .globalImplicit
  cls : X.env.scope.names.lookup ("__class__" : Str) = some .free
  kind : X.env.scope.kind = .function
  fn : ∃ (f : Addr) (oc : Value) (od : Option Addr) (fd : FuncData) (osl : Array (Option Value)) (ar : Arg), X.env.func = some f ∧ X.K.lookup f = some ⟨oc, od, .func fd, osl⟩ ∧ (fd.params.posonlyargs ++ fd.params.args).head? = some ar ∧ ar.arg = y
  code : ∃ (cda : Addr) (ccl : Value) (cdd : Option Addr) (vs : Array Value) (ccs : Array (Option Value)) (file : Str) (tf : Tok), X.env.code = .ref cda ∧ X.K.lookup cda = some ⟨ccl, cdd, .fields vs, ccs⟩ ∧ vs[2]? = some (.str file tf) ∧ ((X.prog.main.file : Str) == file) = true
  top : (X.prog.main.scope.names.lookup ("super" : Str)).isSome = false
  mg : X.mg "super" = none
  cell : ∃ (cc : Addr) (cl : Value) (cld : Option Addr) (csl : Array (Option Value)), X.env.cells.lookup ("__class__" : Str) = some cc ∧ X.K.lookup cc = some ⟨cl, cld, .cell (some (.ref D)), csl⟩
  dcl : ∃ cdD, PySem.W.clsIn X.K D = some cdD
  loc : X.env.scope.names.lookup y = some .local
  opq : PySem.W.nsIn X.K cStatics "thirdparty.any" = some none
/-- C's next m behind D is the def at g -/
structure SupM (K : PySem.W.Frag) (C D : Addr) (m : Str) (g : Addr) : Prop where
  sub : PySem.W.mroIn K C (.ref D) = some true
  at_ : PySem.W.ks_superIn K C D m = some (some (.ref g))
  ty : PySem.W.typeIn K (.ref g) = some (.type "function")
  fi : PySem.W.fnIn K g = true
section
variable {X : Cx} {pins : List (Addr × Obj)} {σ : St} {H : Hp} {s : Shared} {D C a dx g : Addr} {fs : List (Str × V)} {y m : Str}
theorem sup_base {body : List Stmt} {p0 p1 : Pos} {whole : Sem Value} {i : Nat} {ox : Obj} {odx : Option Obj} {Q : Value → Shared → Prop} (S : SupX X D y) (I : Inv X pins σ H s) (hN : X.N[i]? = some y) (hv : σ[i]? = some (some (.ref a)))
    (J : PySem.W.InstAt s.heap a ox C odx) (hsub : PySem.W.mroIn X.K C (.ref D) = some true) (hm : (m == ("__class__" : Str)) = false)
    (h : ∀ so s', Inv X ((so, PySem.W.ks_superObj D a C) :: pins) σ H s' → (∀ b o, s.heap.get? b = some o → s'.heap.get? b = some o) → Q (.ref so) s') :
    _root_.PySem.wpAt (model X.prog X.w) X.A (.func body X.env) (attributeBase (.Call (.Name "super" p0) [] [] p1) m X.env whole) Q X.xe s := by
  obtain ⟨f, oc, od, fd, osl, ar, hfu, hf, hp, har⟩ := S.fn
  obtain ⟨cda, ccl, cdd, vs, ccs, file, tf, hco, hcode, hvs, hfile⟩ := S.code
  obtain ⟨cc, cl, cld, csl, hcl, hcell⟩ := S.cell
  obtain ⟨cdD, hD⟩ := S.dcl
  have X1 : X.K.In s.heap := I.kIn
  obtain ⟨mm, hns, hloc⟩ := I.loc
  obtain ⟨oD, hD1, hD2⟩ : ∃ oD, s.heap.get? D = some oD ∧ oD.data = .cls cdD := by
    unfold PySem.W.clsIn at hD
    split at hD
    · rename_i c d cd' sl ho
      cases hD
      exact ⟨_, X1 _ _ ho, rfl⟩
    · cases hD
  subst har
  obtain ⟨u, ru, lk⟩ := hloc i _ _ hN hv (.inl S.loc)
  obtain rfl : u = Value.ref a := ru
  have hself : mm ar.arg = some (.ref a) := by
    rcases lk with ⟨_, e⟩ | ⟨k, _⟩
    · exact e
    · have k' : X.env.scope.names.lookup ar.arg = some .cell ∨ X.env.scope.names.lookup ar.arg = some .free := k
      rw [S.loc] at k'
      rcases k' with z | z <;> cases z
  refine ks_wpAt_super_base (env := X.env) S.sup S.cls hm hfu (X1 _ _ hf) rfl hp hco (X1 _ _ hcode) rfl hvs hfile S.top ?_
  obtain ⟨mb, hb1, hb2⟩ := I.mod.blt
  refine PySem.W.ks_loadName_global S.kind S.sup (PySem.Calls.loadGlobal_builtin (env := X.env) (by rw [I.ok.glob]; exact I.mod.glob.keeps I.bk) S.mg (by rw [I.ok.blt]; exact hb1.keeps I.bk) ((hb2 _ (by decide +kernel)).trans (by first | boot_by_name | rfl | kernel_rfl)) ⟨rfl, ?_⟩)
  refine wpAny_loadName_free S.kind S.cls hcl ⟨_, X1 _ _ hcell, rfl⟩ ?_
  refine wpAny_loadName_local S.kind S.loc hns hself ?_
  refine ks_wpAny_isType_cls hD1 hD2 ⟨rfl, ?_⟩
  obtain ⟨hh, gg, d, t, os⟩ := s
  refine ks_wpAny_call_super hD1 hD2 J.at_ J.cls (fun c e => ?_) (PySem.W.looks_mroIn X1 hsub) (fun h' e k => ?_)
  · have := J.no
    unfold PySem.W.notCls at this
    rw [e] at this
    exact Bool.noConfusion this
  · exact h _ _ (ClX.pin_new (t' := t) I k (Nat.le_refl _) e (fun v z => nomatch z)) k
end
section
variable {X : Cx} {D g : Addr} {y m : Str} {CX : CXT} {k : Nat} {fd : FuncData} {ps : List Str} {sp : Sp} {E : XK} {e : Expr} {es : List Expr} {ta : TA} {p0 p1 p2 pos pos' : Pos} {i : Nat} {pl : Sem Bool} {body : List Stmt}
end
end L2
namespace L2
open PySem PySem.Spec PyProof.Rows
section
variable {X : Cx} {pins : List (Addr × Obj)} {σ : St} {H : Hp} {s : Shared}
end
/-- the class at C compares by its own __eq__ at g, and has no __ne__ of its own -/
structure EqC (K : PySem.W.Frag) (C g : Addr) : Prop where
  eq : PySem.W.findIn K (.ref C) "__eq__" = some (some (.ref g))
  fn : PySem.W.isFn K (.ref g) = true
  ne : PySem.W.findIn K (.ref C) "__ne__" = some (some (.builtin "object.__ne__"))
  ob : PySem.W.mroIn K C (.type "object") = some true
section
variable {prog : Program} {w : World} {A : Around} {E : Value → Shared → Prop} {s : Shared} {K : PySem.W.Frag} {x C f : Addr} {ox : Obj} {od : Option Obj} {b tb : Value}
open PySem.W in
theorem ifBound_Kb {M : Model} {name : Str} {id : String} {args : List Value} {Q : Option Value → Shared → Prop} (X : K.In s.heap) (I : InstAt s.heap x ox C od) (hs : findIn K (.ref C) name = some (some (.builtin id))) (hb : bindSpecial (.builtin id) (.ref x) = pure (.builtin id, [.ref x]))
    (h : wpAny M A (call (.builtin id) (.ref x :: args)) (fun v => Q (some v)) E s) : wpAny M A (callSpecialIfBound? (.ref x) name args) Q E s := by
  simp only [callSpecialIfBound?, bindSpecialIfBound?]
  refine wpAny_holding (wpAny_bind (wpAny_bind (wpAny_bind (I.type.here ((looks_findIn X hs).here ?_)))))
  refine wpAny_bind (wpAny_askSetting (wpAny_ite ?_))
  have fin : wpAny M A (call (.builtin id) ([.ref x] ++ args) >>= fun v => pure (some v)) Q E s := wpAny_bind (wpAny_mono h (fun v s' h' => wpAny_pure h') fun _ _ h' => h')
  dsimp only
  rw [hb]
  split
  · exact wpAny_bind (wpAny_pure (wpAny_pure fin))
  · exact wpAny_tryCatch (wpAny_bind (wpAny_pure (wpAny_pure fin)))
open PySem.W in
theorem cmpNe_K {Q : Value → Shared → Prop} (hu : A.units + 1 < cLine) (X : K.In s.heap) (I : InstAt s.heap x ox C od) (hb : Looks (model prog w) s.heap (typeOf b) tb) (hn : notFirst K C tb = true) (e : EqC K C f)
    (h : wpAny (model prog w) A.in1 (call (.ref f) [.ref x, b]) (fun v s' => ∃ k, v = .bool k ∧ Q (.bool (!k)) s') E s) : wpAny (model prog w) A (richCompare .NotEq (.ref x) b) Q E s := by
  have hin : Looks (model prog w) s.heap (isInstance (.ref x) (.type "object")) true := I.type.andThen (looks_mroIn X e.ob)
  have body : wpAny (model prog w) A (call (.builtin "object.__ne__") [.ref x, b]) (fun v s' => ∃ k, v = .bool k ∧ Q (.bool k) s') E s := by
    refine wpAny_call (codeAny_call_builtin F.cmp_object.ne.plain F.cmpEntry_ne (check_slot F.cmpKind_ne F.cmpSplit_ne hin (F.cmpArgs_ne _ _) ?_))
    unfold Builtin.«object.__ne__»
    repeat (first
      | with_reducible refine wpAny_cRoomFor (show A.in1.units < cLine from hu) ?_
      | (refine wpAny_bind (m := callSpecialIfBound? (.ref x) (Str.ofString "__eq__") [b])
          (ifBound_K X I e.eq e.fn (wpAny_mono h (fun r s' hr => by
            obtain ⟨k, rfl, hq⟩ := hr
            repeat (first | exact ⟨_, rfl, hq⟩ | exact wpAny_pure ⟨_, rfl, hq⟩ | exact wpAny_truthy_bool ⟨_, rfl, hq⟩ | (refine wpAny_bind (m := truthy (.bool _)) (wpAny_truthy_bool ?_)) | wp_step)) fun _ _ e => e)))
      | wp_step)
  have one : wpAny (model prog w) A (tryCompare (.ref x) (cmpInfo .NotEq).2.1 b) (fun r s' => ∃ v, r = some v ∧ Q v s') E s := by
    unfold tryCompare
    refine wpAny_bind (ifBound_Kb X I e.ne (F.cmp_object.ne.bind _) (wpAny_mono body (fun v s' hv => ?_) fun _ _ e => e))
    obtain ⟨k, rfl, hq⟩ := hv
    exact wpAny_pure ⟨_, rfl, hq⟩
  have step : ∀ k : Option Value → Sem Value, (∀ v s', Q v s' → wpAny (model prog w) A (k (some v)) Q E s') → wpAny (model prog w) A (tryCompare (.ref x) (cmpInfo .NotEq).2.1 b >>= k) Q E s :=
    fun k hk => wpAny_bind (wpAny_mono one (fun r s' ⟨v, er, hq⟩ => er ▸ hk v s' hq) fun _ _ z => z)
  unfold richCompare
  simp only [oneThing_ref]
  refine wpAny_holding (wpAny_bind (wpAny_cRoomFor (Nat.lt_of_succ_lt hu) (wpAny_bind (I.type.here (wpAny_bind (hb.here ?_))))))
  split
  · rename_i q
    have sub : subIn K tb (.ref C) = some false := by
      unfold notFirst at hn
      cases z : (tb == .ref C) with
      | true => rw [beq_iff_eq.mp z] at q; simp at q
      | false => rw [z, Bool.false_or] at hn; exact beq_iff_eq.mp hn
    refine wpAny_bind (Looks.here (looks_subIn X sub) ?_)
    rw [if_neg Bool.false_ne_true]
    exact step _ fun v s' hq => wpAny_pure hq
  · refine wpAny_bind (wpAny_pure (s := s) ?_)
    rw [if_neg Bool.false_ne_true]
    exact step _ fun v s' hq => wpAny_pure hq
end
section
variable {X : Cx} {CX : CXT} {n : Nat} {g : Addr} {sp : Sp} {E : XK}
/-- repr(x), x a list or a tuple of data; of a text; the frame is under no repr -/
def rRepr (K : PySem.W.Frag) : List V → Hp → VK → Prop := fun xs H Q => ∃ (a : Addr) (d : PyData), xs = [V.ref a] ∧ Dp K H (.ref a) d ∧ d.showable = true ∧ d.hasDict = false ∧ d.depth ≤ 50 ∧ d.shown.length ≤ sizeLine ∧ Q (.str d.shown) H
theorem call_repr (hg : X.A.guards = some []) (hr : Room n X.A) : CallR X (.builtin "repr") (rRepr X.K) := by
  intro pins s σ H xs us Q I r h
  obtain ⟨a, d, rfl, dp, hs, hnd, hdep, hsz, q⟩ := h
  obtain ⟨u, rfl, ru⟩ := r.one
  cases (show u = Value.ref a from ru)
  obtain ⟨as, rd⟩ := Dp.reads I d _ _ dp (show RelV (.ref a) (Value.ref a) from rfl)
  have hu := hr.units
  exact repr_of_reads' rd hs (PyData.noDict_hsm hnd) hg (by omega) (fun _ _ e => e) (fun h' u tk hk => ⟨.str d.shown, H, I.kept hk, ⟨u, rfl⟩, q⟩) hsz
end
end L2
namespace L2
open PySem PySem.Spec PyProof.Rows
/-- a def of the module: its text, its name, how it binds -/
structure Dn (K : PySem.W.Frag) (mg : Str → Option Value) (x : Str) (st : Stmt) (ps : List Str) (f : Addr) (fd : FuncData) : Prop where
  F : Fun K x x st f fd
  g : mg x = some (.ref f)
  b : Binds K fd ps []
/-- a method -/
structure Mn (K : PySem.W.Frag) (x qual : Str) (st : Stmt) (ps : List Str) (f : Addr) (fd : FuncData) : Prop where
  F : Fun K x qual st f fd
  b : Binds K fd ps []
  fn : PySem.W.isFn K (.ref f) = true
/-- a method that says super(), written in the class at D -/
structure Sn (P : Program) (K : PySem.W.Frag) (x qual : Str) (st : Stmt) (ps : List Str) (f : Addr) (fd : FuncData) (D : Addr) : Prop where
  ex : ∃ (oc : Value) (od : Option Addr) (kV doc pm : Value) (an : Option Addr) (cda : Addr) (ct : Value) (osl : Array (Option Value)) (cc : Addr) (cl : Value) (cld : Option Addr) (csl : Array (Option Value)) (ccl : Value) (cdd : Option Addr) (vs : Array Value) (ccs : Array (Option Value)) (file : Str) (tf : Tok),
    fd = PySem.W.ksFn x qual (defArgs st) (defBody st) (defScope st) .none kV doc pm an (.ref cda) ct cc ∧ K.lookup f = some ⟨oc, od, .func fd, osl⟩ ∧ PySem.W.codeIn K (.ref cda) qual = true ∧ K.lookup cc = some ⟨cl, cld, .cell (some (.ref D)), csl⟩ ∧
    K.lookup cda = some ⟨ccl, cdd, .fields vs, ccs⟩ ∧ vs[2]? = some (.str file tf) ∧ ((P.main.file : Str) == file) = true
  b : Binds K fd ps []
  fn : PySem.W.isFn K (.ref f) = true
  kp : PySem.W.keepIn K (.ref f) = true
  fi : PySem.W.fnIn K f = true
/-- what super() asks of the module -/
structure SupT (P : Program) (K : PySem.W.Frag) (mg : Str → Option Value) : Prop where
  top : (P.main.scope.names.lookup ("super" : Str)).isSome = false
  mg : mg "super" = none
  opq : PySem.W.nsIn K cStatics "thirdparty.any" = some none
/-- a class, as instances ask for it -/
structure ClsT (K : PySem.W.Frag) (C : Addr) : Prop where
  cl : Cls K C
  ha : PySem.W.findIn K (.ref C) "__class__" = some (some (.builtin "object.__class__"))
  hn : PySem.W.specialIn K (.builtin "object.__class__") "__get__" = some (some (.builtin "getset_descriptor.__get__"))
  htk : PySem.W.takesIn K (.builtin "object.__class__") = some true
  hm : PySem.W.mroIn K C (.type "object") = some true
theorem ClsT.ty {K : PySem.W.Frag} {C a dx : Addr} {H : Hp} {fs : List (Str × V)} (c : ClsT K C) (h : H a = some (.ins C dx fs)) : TyX K H (.ref a) (.ref C) := .base (.ins h c.cl c.ha c.hn c.htk c.hm)
theorem kit_ownT {K : PySem.W.Frag} {t : Value} {C : Addr} {cd : ClassData} (h : PySem.W.clsIn K C = some cd) (ht : PySem.W.typeIn K (.ref C) = some (.type "type")) (hs : PySem.W.subIn K t (.ref C) = some true) : PySem.W.kitOne K t (.ref C) = some true := by
  unfold PySem.W.kitOne
  by_cases e : (t == .ref C) = true
  · rw [if_pos e]
  · rw [if_neg e]
    show (if ((PySem.W.clsIn K C).isSome && PySem.W.typeIn K (.ref C) == some (.type "type")) = true then PySem.W.subIn K t (.ref C) else none) = some true
    rw [h, ht]
    exact (if_pos rfl).trans hs
structure Cn (K : PySem.W.Frag) (mg : Str → Option Value) (x : Str) (C fI : Addr) : Prop where
  g : mg x = some (.ref C)
  t : ClsT K C
  m : Mk K C fI
section
variable {P : Program} {w : World} {K : PySem.W.Frag} {mg : Str → Option Value} {base : Heap}
theorem Sn.okX {CX : CXT} {x qual y : Str} {st : Stmt} {f D : Addr} {fd : FuncData} {N ps : List Str} {k : Nat} {sp : Sp} {ar : Arg} {cdD : ClassData} (F : Sn P K x qual st ps f fd D) (T : SupT P K mg) (S : FnScopeS N ps (defScope st)) (hD : PySem.W.clsIn K D = some cdD)
    (hp : ((defArgs st).posonlyargs ++ (defArgs st).args).head? = some ar) (hy : ar.arg = y) (hl : (defScope st).names.lookup y = some .local) (len : ∀ vs H Q E, sp vs H Q E → vs.length = ps.length)
    (hbody : ∀ (cdv : Value) (cc : Addr) (A : Around) (outer : List Env) (s : Shared) (H : Hp) (vs : List V) (Q : VK) (E : XK), Room k (A.deeper (PySem.W.ksEnv qual (defScope st) s.heap.objs.size f cdv cc)) →
      SupX (cxS CX P w K mg base N qual (defScope st) f cdv cc A outer s H E) D y → sp vs H Q E →
      ∃ t, PSsA (cxS CX P w K mg base N qual (defScope st) f cdv cc A outer s H E) (.func (defBody st) (PySem.W.ksEnv qual (defScope st) s.heap.objs.size f cdv cc)) (defBody st) t ∧ t { nx := fun _ H' => Q .non H', rt := Q } (start N vs) H) :
    FnOk P w K mg base CX (k + 1) f fd ps sp := by
  obtain ⟨oc, od, kV, doc, pm, an, cda, ct, osl, cc, cl, cld, csl, ccl, cdd, vs, ccs, file, tf, rfl, lk, hcd, hcc, hco, hvs, hfile⟩ := F.ex
  refine fnS_of hcc lk hcd S len fun A outer s H ws Q E hr hsp => ?_
  refine hbody (.ref cda) cc A outer s H ws Q E hr ⟨S.sup, S.cls, S.kind, ⟨f, oc, od, _, osl, ar, rfl, lk, hp, hy⟩, ⟨cda, ccl, cdd, vs, ccs, file, tf, rfl, hco, hvs, hfile⟩, T.top, T.mg, ⟨cc, cl, cld, csl, ?_, hcc⟩, ⟨cdD, hD⟩, hl, T.opq⟩ hsp
  show ([(("__class__" : Str), cc)] : List (Str × Addr)).lookup ("__class__" : Str) = some cc
  simp [List.lookup]
end
/-- all but the thing at p is as it was -/
def But (p : Addr) (H H' : Hp) : Prop := ∀ a o, a ≠ p → H a = some o → H' a = some o
theorem But.refl {p : Addr} (H : Hp) : But p H H := fun _ _ _ h => h
theorem But.trans {p : Addr} {H H1 H2 : Hp} (x : But p H H1) (y : But p H1 H2) : But p H H2 := fun a o n e => y a o n (x a o n e)
theorem Same.but {p : Addr} {H H1 : Hp} (e : Same H H1) : But p H H1 := fun a o _ h => e a o h
theorem But.upd {p : Addr} {H : Hp} {o : HO} : But p H (upd H p o) := fun a u n e => by rw [upd_ne n]; exact e
/-! ### the box of draws -/
abbrev boxO (w s c : Int) : HO := .lst [.int w, .int s, .int c]
def BoxAt (H : Hp) (b : Addr) : Prop := ∃ w s c : Int, H b = some (boxO w s c)
theorem BoxAt.same {H H' : Hp} {b : Addr} (e : Same H H') (h : BoxAt H b) : BoxAt H' b := let ⟨w, s, c, q⟩ := h; ⟨w, s, c, e _ _ q⟩
/-- the box at b may have changed, nothing else -/
structure Bx (b : Addr) (H H' : Hp) : Prop where
  kx : ∀ a o, a ≠ b → H a = some o → H' a = some o
  b0 : BoxAt H b
  b1 : BoxAt H' b
section
variable {H H1 H2 : Hp} {a b p : Addr} {o : HO}
theorem Bx.refl (h : BoxAt H b) : Bx b H H := ⟨fun _ _ _ e => e, h, h⟩
theorem Bx.trans (x : Bx b H H1) (y : Bx b H1 H2) : Bx b H H2 := ⟨fun c o n e => y.kx c o n (x.kx c o n e), x.b0, y.b1⟩
theorem Bx.same (x : Bx b H H1) (e : Same H1 H2) : Bx b H H2 := ⟨fun c o n q => e c o (x.kx c o n q), x.b0, x.b1.same e⟩
theorem Bx.upd {w s c : Int} (h : BoxAt H b) : Bx b H (upd H b (boxO w s c)) := ⟨fun a o n e => by rw [upd_ne n]; exact e, h, ⟨w, s, c, upd_same⟩⟩
theorem BoxAt.ne (h : BoxAt H b) (e : H a = some o) (z : fz o = true) : a ≠ b := fun q => by
  obtain ⟨w', s', c', hb⟩ := h
  rw [q, hb] at e
  cases e
  cases z
theorem Bx.kp (x : Bx b H H1) : Kp H H1 := fun a o e z => x.kx a o (x.b0.ne e z) e
theorem Bx.free (x : Bx b H H1) (h : H1 p = none) : H p = none := by
  cases q : H p with
  | none => rfl
  | some u =>
    by_cases hp : p = b
    · obtain ⟨w', s', c', hb⟩ := x.b1
      rw [hp, hb] at h
      cases h
    · rw [x.kx p u hp q] at h
      cases h
end
end L2
/-! values without addresses, and what they stand for -/
namespace S
open PySem L2
inductive D where
  | non
  | bl (b : Bool)
  | int (i : Int)
  | str (x : Str)
  | lst (xs : List D)
  | rls (xs : List D)
  | tup (xs : List D)
  | dct (ks : List Key) (ds : List D)
  | ins (c : Nat) (ns : List Str) (ds : List D)
  | ptr (i : Nat)
  | cls (c : Nat)
  | dkd (ks ds : List D)
  | ptp (xs : List D)
  | fn (a : Addr)
  | exv (c : Nat) (ns : List Str) (ds : List D)
/-- a thing that may still change -/
inductive C where
  | lst (xs : List D)
  | dct (ks : List Key) (ds : List D)
  | dkd (ks ds : List D)
  | ins (c : Nat) (ns : List Str) (ds : List D)
  | tab (q : Str)
  | dead
abbrev Env := List (Option D)
abbrev Sto := List C
/-- the part of the heap that never changes any more; where the changing things lie; what is being made -/
structure Gh where
  fz : Hp
  rho : List Addr
  tmp : Hp
/-- where the classes lie, and the world -/
structure GA where
  at_ : Nat → Addr
  w : World
  ok : Hp → Prop
  mono : ∀ {f f' : Hp}, Same f f' → ok f → ok f'
instance : CoeFun GA fun _ => Nat → Addr := ⟨GA.at_⟩
mutual
/-- a value as a key of a dict by tuples -/
def nkD : D → Option NestedKey
  | .non => some .none
  | .bl b => some (.num (if b = true then 1 else 0))
  | .int i => some (.num i)
  | .str x => some (.text x)
  | .tup ds => (nkL ds).map .tup
  | _ => none
def nkL : List D → Option (List NestedKey)
  | [] => some []
  | d :: ds => (nkD d).bind fun k => (nkL ds).map fun ks => k :: ks
end
def nk8 : D → Option NestedKey
  | .tup ds => (nkD (.tup ds)).bind fun k => if k.depth ≤ 8 then some k else none
  | _ => none
/-- a dict by tuples at a: its keys, where they lie, the values -/
def DkO (w : World) (a : Addr) (xs : List (NestedKey × Addr × V)) : HO := .ext fun h => xs.length ≤ sizeLine ∧ (a == sysModules) = false ∧ (xs.map (·.1)).Nodup ∧
  ∃ us : List Value, Vals (xs.map (·.2.2)) us ∧ ∃ o es ep, h.get? a = some o ∧ o.ExactDict ∧ o.data = .dict es ep ∧ es.toList = (xs.zip us).map fun p => ⟨p.1.1.hash w, .ref p.1.2.1, p.2⟩
section
variable (K : PySem.W.Frag) (G : GA) (Z : Gh)
mutual
def Rep : D → V → Prop
  | .non, v => v = .non
  | .bl b, v => v = .bl b
  | .int i, v => v = .int i
  | .str x, v => v = .str x
  | .lst ds, v => ∃ a vs, v = .ref a ∧ Z.fz a = some (.lst vs) ∧ RepL ds vs
  | .rls ds, v => ∃ a vs, v = .ref a ∧ SqL K Z.fz a vs ∧ RepL ds vs
  | .tup ds, v => ∃ a vs, v = .ref a ∧ SqT K Z.fz a vs ∧ RepL ds vs
  | .dct ks ds, v => ∃ a vs, v = .ref a ∧ Rd Z.fz a (.dK (ks.zip vs)) ∧ ks.length = vs.length ∧ RepL ds vs
  | .ins c ns ds, v => ∃ a dx vs, v = .ref a ∧ Z.fz a = some (.ins (G c) dx (ns.zip vs)) ∧ ns.length = vs.length ∧ RepL ds vs
  | .ptr i, v => ∃ a, Z.rho[i]? = some a ∧ v = .ref a
  | .cls c, v => v = .ref (G c)
  | .dkd ks ds, v => ∃ a o xs, v = .ref a ∧ Z.fz a = some (.frz o (DkO G.w a xs)) ∧ ks.map nk8 = xs.map (fun x => some x.1) ∧ RepL ks (xs.map fun x => .ref x.2.1) ∧ RepL ds (xs.map (·.2.2))
  | .ptp ds, v => ∃ a o vs, v = .ref a ∧ Z.fz a = some (.frz o (.tup vs)) ∧ o.dict = none ∧ RepL ds vs
  | .fn a, v => v = .ref a
  | .exv c ns ds, v => ∃ a od vs, v = .ref a ∧ Z.fz a = some (exo a (G c) od) ∧ (∀ d, od = some d → Z.fz d = some (exd d (ns.zip vs))) ∧ (od = none → ns = []) ∧ ns.length = vs.length ∧ RepL ds vs
def RepL : List D → List V → Prop
  | [], vs => vs = []
  | d :: ds, vs => ∃ v r, vs = v :: r ∧ Rep d v ∧ RepL ds r
end
def RepE : Env → St → Prop
  | [], σ => σ = []
  | o :: r, σ => ∃ x τ, σ = x :: τ ∧ (match o with | some d => ∃ v, x = some v ∧ Rep K G Z d v | none => True) ∧ RepE r τ
def RepC (H : Hp) (a : Addr) : C → Prop
  | .lst ds => ∃ vs, H a = some (.lst vs) ∧ RepL K G Z ds vs
  | .dct ks ds => ∃ vs, H a = some (.dK (ks.zip vs)) ∧ ks.length = vs.length ∧ RepL K G Z ds vs
  | .dkd ks ds => ∃ xs, H a = some (DkO G.w a xs) ∧ ks.map nk8 = xs.map (fun x => some x.1) ∧ RepL K G Z ks (xs.map fun x => .ref x.2.1) ∧ RepL K G Z ds (xs.map (·.2.2))
  | .ins c ns ds => ∃ dx vs, H a = some (.ins (G c) dx (ns.zip vs)) ∧ ns.length = vs.length ∧ RepL K G Z ds vs
  | .tab q => a = G 999999 ∧ ∃ ps : Array Value, H a = some (.tbl ps) ∧ TriplesOk ps.toList ∧ ∀ (pos : Pos) (cv : Value), codeAmong pos ps.toList = some cv → ∃ c, cv = .ref c ∧ Z.fz c = some (LamX.CodeO c q)
  | .dead => True
def C.live : C → Bool
  | .dead => false
  | _ => true
structure RelH (H : Hp) (st : Sto) : Prop where
  fz : Same Z.fz H
  len : Z.rho.length = st.length
  cell : ∀ (i : Nat) (c : C) (a : Addr), st[i]? = some c → Z.rho[i]? = some a → RepC K G Z H a c
  off : ∀ (i : Nat) (c : C) (a : Addr), st[i]? = some c → c.live = true → Z.rho[i]? = some a → Z.fz a = none
  inj : ∀ (i j : Nat) (c c' : C) (a : Addr), st[i]? = some c → st[j]? = some c' → c.live = true → c'.live = true → Z.rho[i]? = some a → Z.rho[j]? = some a → i = j
  tmp : Same Z.tmp H
  tof : ∀ (a : Addr) (o : HO), Z.tmp a = some o → Z.fz a = none ∧ ∀ (i : Nat) (c : C), st[i]? = some c → c.live = true → Z.rho[i]? ≠ some a
  lk : G.ok Z.fz
end
structure Gh.le (Z Z' : Gh) : Prop where
  fz : Same Z.fz Z'.fz
  rho : ∃ r, Z'.rho = Z.rho ++ r
  tmp : Z'.tmp = Z.tmp
theorem Gh.le.refl (Z : Gh) : Z.le Z := ⟨Same.refl _, ⟨[], by simp⟩, rfl⟩
theorem Gh.le.trans {Z Z1 Z2 : Gh} (a : Z.le Z1) (b : Z1.le Z2) : Z.le Z2 := by
  obtain ⟨a1, ⟨r, e⟩, t⟩ := a
  obtain ⟨b1, ⟨r', e'⟩, t'⟩ := b
  exact ⟨a1.trans b1, ⟨r ++ r', by rw [e', e, List.append_assoc]⟩, t'.trans t⟩
/-- as far as values stand -/
structure Gh.ex (Z Z' : Gh) : Prop where
  fz : Same Z.fz Z'.fz
  rho : ∃ r, Z'.rho = Z.rho ++ r
theorem Gh.le.ex {Z Z' : Gh} (l : Z.le Z') : Z.ex Z' := ⟨l.fz, l.rho⟩
theorem Gh.ex.refl (Z : Gh) : Z.ex Z := (Gh.le.refl Z).ex
theorem Gh.ex.trans {Z Z1 Z2 : Gh} (a : Z.ex Z1) (b : Z1.ex Z2) : Z.ex Z2 := by
  obtain ⟨a1, ⟨r, e⟩⟩ := a
  obtain ⟨b1, ⟨r', e'⟩⟩ := b
  exact ⟨a1.trans b1, ⟨r ++ r', by rw [e', e, List.append_assoc]⟩⟩
theorem Same.rd {H H' : Hp} {a : Addr} {u : HO} (e : Same H H') (h : Rd H a u) : Rd H' a u := by
  rcases h with h | ⟨o, h⟩
  · exact .inl (e _ _ h)
  · exact .inr ⟨o, e _ _ h⟩
theorem Same.sqt' {K : PySem.W.Frag} {H H' : Hp} {a : Addr} {xs : List V} (e : Same H H') (h : SqT K H a xs) : SqT K H' a xs := by
  rcases h with (h | ⟨o, h⟩) | h
  · exact .inl (.inl (e _ _ h))
  · exact .inl (.inr ⟨o, e _ _ h⟩)
  · exact .inr h
section
variable {K : PySem.W.Frag} {G : GA} {Z Z' : Gh}
theorem Gh.ex.at (l : Z.ex Z') {i : Nat} {a : Addr} (h : Z.rho[i]? = some a) : Z'.rho[i]? = some a := by
  obtain ⟨_, ⟨r, e⟩⟩ := l
  rw [e, List.getElem?_append_left (List.getElem?_eq_some_iff.mp h).1]
  exact h
theorem Gh.le.at (l : Z.le Z') {i : Nat} {a : Addr} (h : Z.rho[i]? = some a) : Z'.rho[i]? = some a := l.ex.at h
mutual
theorem Rep.ux (l : Z.ex Z') : ∀ (d : D) (v : V), Rep K G Z d v → Rep K G Z' d v
  | .non, _, h => h
  | .bl _, _, h => h
  | .int _, _, h => h
  | .str _, _, h => h
  | .lst ds, _, ⟨a, vs, e, q, r⟩ => ⟨a, vs, e, l.fz _ _ q, RepL.ux l ds vs r⟩
  | .rls ds, _, ⟨a, vs, e, q, r⟩ => ⟨a, vs, e, l.fz.seq q, RepL.ux l ds vs r⟩
  | .tup ds, _, ⟨a, vs, e, q, r⟩ => ⟨a, vs, e, Same.sqt' l.fz q, RepL.ux l ds vs r⟩
  | .dct ks ds, _, ⟨a, vs, e, q, n, r⟩ => ⟨a, vs, e, Same.rd l.fz q, n, RepL.ux l ds vs r⟩
  | .ins c ns ds, _, ⟨a, dx, vs, e, q, n, r⟩ => ⟨a, dx, vs, e, l.fz _ _ q, n, RepL.ux l ds vs r⟩
  | .ptr i, _, ⟨a, q, e⟩ => ⟨a, l.at q, e⟩
  | .cls _, _, h => h
  | .dkd ks ds, _, ⟨a, o, xs, e, q, n, r, t⟩ => ⟨a, o, xs, e, l.fz _ _ q, n, RepL.ux l ks _ r, RepL.ux l ds _ t⟩
  | .ptp ds, _, ⟨a, o, vs, e, q, n, r⟩ => ⟨a, o, vs, e, l.fz _ _ q, n, RepL.ux l ds vs r⟩
  | .fn _, _, h => h
  | .exv c ns ds, _, ⟨a, od, vs, e, q, q2, q3, n, r⟩ => ⟨a, od, vs, e, l.fz _ _ q, fun d h => l.fz _ _ (q2 d h), q3, n, RepL.ux l ds vs r⟩
theorem RepL.ux (l : Z.ex Z') : ∀ (ds : List D) (vs : List V), RepL K G Z ds vs → RepL K G Z' ds vs
  | [], _, h => h
  | d :: ds, _, ⟨v, r, e, h, t⟩ => ⟨v, r, e, Rep.ux l d v h, RepL.ux l ds r t⟩
end
theorem RepE.ux (l : Z.ex Z') : ∀ (env : Env) (σ : St), RepE K G Z env σ → RepE K G Z' env σ
  | [], _, h => h
  | o :: r, _, ⟨x, τ, e, h, t⟩ => ⟨x, τ, e, by
      cases o with
      | none => trivial
      | some d => obtain ⟨v, e', q⟩ := h; exact ⟨v, e', q.ux l⟩, RepE.ux l r τ t⟩
theorem Rep.up (l : Z.le Z') (d : D) (v : V) (h : Rep K G Z d v) : Rep K G Z' d v := Rep.ux l.ex d v h
theorem RepL.up (l : Z.le Z') (ds : List D) (vs : List V) (h : RepL K G Z ds vs) : RepL K G Z' ds vs := RepL.ux l.ex ds vs h
theorem RepE.up (l : Z.le Z') (env : Env) (σ : St) (h : RepE K G Z env σ) : RepE K G Z' env σ := RepE.ux l.ex env σ h
theorem RepL.length : ∀ {ds : List D} {vs : List V}, RepL K G Z ds vs → ds.length = vs.length
  | [], _, h => by cases h; rfl
  | d :: ds, _, ⟨v, r, e, h, t⟩ => by cases e; simp [RepL.length t]
theorem RepE.length : ∀ {env : Env} {σ : St}, RepE K G Z env σ → env.length = σ.length
  | [], _, h => by cases h; rfl
  | d :: ds, _, ⟨v, r, e, h, t⟩ => by cases e; simp [RepE.length t]
theorem RepL.get : ∀ {ds : List D} {vs : List V} {i : Nat} {d : D}, RepL K G Z ds vs → ds[i]? = some d → ∃ v, vs[i]? = some v ∧ Rep K G Z d v
  | [], _, i, d, _, e => by simp at e
  | _ :: _, _, 0, _, ⟨v, r, e, h, t⟩, q => by cases e; simp at q; subst q; exact ⟨v, by simp, h⟩
  | _ :: ds, _, i + 1, d, ⟨v, r, e, h, t⟩, q => by
    cases e
    obtain ⟨u, h1, h2⟩ := RepL.get (i := i) (d := d) t (by simpa using q)
    exact ⟨u, by simpa using h1, h2⟩
theorem RepE.get : ∀ {env : Env} {σ : St} {i : Nat} {d : D}, RepE K G Z env σ → env[i]? = some (some d) → ∃ v, σ[i]? = some (some v) ∧ Rep K G Z d v
  | [], _, i, d, _, e => by simp at e
  | _ :: _, _, 0, d, ⟨v, r, e, h, t⟩, q => by
    cases e
    simp at q; subst q
    obtain ⟨v, rfl, q⟩ := h
    exact ⟨v, by simp, q⟩
  | _ :: ds, _, i + 1, d, ⟨v, r, e, h, t⟩, q => by
    cases e
    obtain ⟨u, h1, h2⟩ := RepE.get (i := i) (d := d) t (by simpa using q)
    exact ⟨u, by simpa using h1, h2⟩
theorem RepE.set {d : D} {v : V} (q : Rep K G Z d v) : ∀ {env : Env} {σ : St} (i : Nat), RepE K G Z env σ → RepE K G Z (env.set i (some d)) (σ.set i (some v))
  | [], _, _, h => by cases h; exact rfl
  | _ :: _, _, 0, ⟨x, r, e, h, t⟩ => by cases e; exact ⟨some v, r, rfl, ⟨v, rfl, q⟩, t⟩
  | _ :: _, _, i + 1, ⟨x, r, e, h, t⟩ => by cases e; exact ⟨x, _, rfl, h, RepE.set q i t⟩
theorem RepL.append : ∀ {ds es : List D} {vs us : List V}, RepL K G Z ds vs → RepL K G Z es us → RepL K G Z (ds ++ es) (vs ++ us)
  | [], _, _, _, h, q => by cases h; exact q
  | d :: ds, _, _, _, ⟨v, r, e, h, t⟩, q => by cases e; exact ⟨v, _, rfl, h, RepL.append t q⟩
theorem RepL.set {d : D} {v : V} (q : Rep K G Z d v) : ∀ {ds : List D} {vs : List V} (i : Nat), RepL K G Z ds vs → RepL K G Z (ds.set i d) (vs.set i v)
  | [], _, _, h => by cases h; exact rfl
  | _ :: _, _, 0, ⟨x, r, e, h, t⟩ => by cases e; exact ⟨v, r, rfl, q, t⟩
  | _ :: _, _, i + 1, ⟨x, r, e, h, t⟩ => by cases e; exact ⟨x, _, rfl, h, RepL.set q i t⟩
theorem RepL.take : ∀ {ds : List D} {vs : List V} (n : Nat), RepL K G Z ds vs → RepL K G Z (ds.take n) (vs.take n)
  | _, _, 0, _ => by simp [RepL]
  | [], _, _ + 1, h => by cases h; exact rfl
  | _ :: _, _, n + 1, ⟨v, r, e, h, t⟩ => by cases e; exact ⟨v, _, rfl, h, RepL.take n t⟩
theorem RepL.drop : ∀ {ds : List D} {vs : List V} (n : Nat), RepL K G Z ds vs → RepL K G Z (ds.drop n) (vs.drop n)
  | _, _, 0, h => h
  | [], _, _ + 1, h => by cases h; exact rfl
  | _ :: _, _, n + 1, ⟨v, r, e, h, t⟩ => by cases e; exact RepL.drop n t
theorem RepC.up (l : Z.le Z') {H : Hp} {a : Addr} : ∀ {c : C}, RepC K G Z H a c → RepC K G Z' H a c
  | .dkd ks ds, ⟨xs, e, n, r, t⟩ => ⟨xs, e, n, r.up l, t.up l⟩
  | .lst ds, ⟨vs, e, r⟩ => ⟨vs, e, r.up l⟩
  | .dct ks ds, ⟨vs, e, n, r⟩ => ⟨vs, e, n, r.up l⟩
  | .ins c ns ds, ⟨dx, vs, e, n, r⟩ => ⟨dx, vs, e, n, r.up l⟩
  | .tab q, ⟨e0, ps, e, n, k⟩ => ⟨e0, ps, e, n, fun pos cv z => by obtain ⟨c, e1, e2⟩ := k pos cv z; exact ⟨c, e1, l.fz _ _ e2⟩⟩
  | .dead, _ => trivial
theorem RepC.some_ {H : Hp} {a : Addr} : ∀ {c : C}, RepC K G Z H a c → c.live = true → ∃ o, H a = some o
  | .dkd ks ds, ⟨xs, e, _⟩, _ => ⟨_, e⟩
  | .lst ds, ⟨vs, e, r⟩, _ => ⟨_, e⟩
  | .dct ks ds, ⟨vs, e, n, r⟩, _ => ⟨_, e⟩
  | .ins c ns ds, ⟨dx, vs, e, n, r⟩, _ => ⟨_, e⟩
  | .tab q, ⟨_, _, e, _⟩, _ => ⟨_, e⟩
theorem RepC.congr {H H' : Hp} {a : Addr} (q : H' a = H a) : ∀ {c : C}, RepC K G Z H a c → RepC K G Z H' a c
  | .dkd ks ds, ⟨xs, e, r⟩ => ⟨xs, q.trans e, r⟩
  | .lst ds, ⟨vs, e, r⟩ => ⟨vs, q.trans e, r⟩
  | .dct ks ds, ⟨vs, e, n, r⟩ => ⟨vs, q.trans e, n, r⟩
  | .ins c ns ds, ⟨dx, vs, e, n, r⟩ => ⟨dx, vs, q.trans e, n, r⟩
  | .tab _, ⟨e0, ps, e, r⟩ => ⟨e0, ps, q.trans e, r⟩
  | .dead, _ => trivial
/-- a thing is laid that will never change -/
theorem RelH.lay {H : Hp} {st : Sto} {p : Addr} {o : HO} (R : RelH K G Z H st) (hp : H p = none) : Z.le ⟨upd Z.fz p o, Z.rho, Z.tmp⟩ ∧ RelH K G ⟨upd Z.fz p o, Z.rho, Z.tmp⟩ (upd H p o) st := by
  have zp : Z.fz p = none := R.fz.free hp
  have l : Z.le ⟨upd Z.fz p o, Z.rho, Z.tmp⟩ := ⟨fun b u e => by
    show upd Z.fz p o b = some u
    rw [upd_ne (ne_of_none e zp)]; exact e, ⟨[], by simp⟩, rfl⟩
  refine ⟨l, ⟨fun b u e => ?_, R.len, fun i c a e1 e2 => ?_, fun i c a e1 e2 e3 => ?_, R.inj, fun b u e => ?_, fun a u e => ?_, G.mono l.fz R.lk⟩⟩
  · have e' : upd Z.fz p o b = some u := e
    by_cases hb : b = p
    · subst hb; rw [upd_same] at e' ⊢; exact e'
    · rw [upd_ne hb] at e' ⊢; exact R.fz _ _ e'
  · have q := R.cell i c a e1 e2
    cases hc : c.live with
    | false => cases c <;> first | trivial | cases hc
    | true =>
      obtain ⟨u, hu⟩ := q.some_ hc
      exact (q.congr (upd_ne (ne_of_none hu hp))).up l
  · show upd Z.fz p o a = none
    obtain ⟨u, hu⟩ := (R.cell i c a e1 e3).some_ e2
    rw [upd_ne (ne_of_none hu hp)]; exact R.off i c a e1 e2 e3
  · rw [upd_ne (ne_of_none (R.tmp _ _ e) hp)]; exact R.tmp _ _ e
  · refine ⟨?_, (R.tof a u e).2⟩
    show upd Z.fz p o a = none
    rw [upd_ne (ne_of_none (R.tmp _ _ e) hp)]; exact (R.tof a u e).1
/-- what is new may lie ahead too -/
theorem RelH.more {H : Hp} {st : Sto} {p : Addr} {o : HO} (R : RelH K G Z H st) (hp : H p = none) : RelH K G Z (upd H p o) st := by
  refine ⟨fun b u e => ?_, R.len, fun i c a e1 e2 => ?_, R.off, R.inj, fun b u e => ?_, R.tof, R.lk⟩
  · rw [upd_ne (ne_of_none (R.fz _ _ e) hp)]; exact R.fz _ _ e
  · have q := R.cell i c a e1 e2
    cases hc : c.live with
    | false => cases c <;> first | trivial | cases hc
    | true =>
      obtain ⟨u, hu⟩ := q.some_ hc
      exact q.congr (upd_ne (ne_of_none hu hp))
  · rw [upd_ne (ne_of_none (R.tmp _ _ e) hp)]; exact R.tmp _ _ e
/-- a new thing that may change -/
theorem RelH.add {H : Hp} {st : Sto} {p : Addr} {o : HO} {c : C} (R : RelH K G Z H st) (hp : H p = none) (hc : ∀ Z', Z.le Z' → RepC K G Z' (upd H p o) p c) :
    Z.le ⟨Z.fz, Z.rho ++ [p], Z.tmp⟩ ∧ RelH K G ⟨Z.fz, Z.rho ++ [p], Z.tmp⟩ (upd H p o) (st ++ [c]) := by
  have l : Z.le ⟨Z.fz, Z.rho ++ [p], Z.tmp⟩ := ⟨Same.refl _, ⟨[p], rfl⟩, rfl⟩
  have R2 := R.more (o := o) hp
  have old : ∀ {i : Nat} {u : C}, (st ++ [c])[i]? = some u → st[i]? = some u ∧ (Z.rho ++ [p])[i]? = Z.rho[i]? ∨ i = st.length ∧ u = c := fun {i u} e => by
    by_cases hi : i < st.length
    · rw [List.getElem?_append_left hi] at e
      exact .inl ⟨e, List.getElem?_append_left (by rw [R.len]; exact hi)⟩
    · rw [List.getElem?_append_right (by omega)] at e
      have : i - st.length = 0 := by
        cases q : i - st.length with
        | zero => rfl
        | succ n => rw [q] at e; simp at e
      rw [this] at e
      simp at e
      exact .inr ⟨by omega, e.symm⟩
  have lastR : (Z.rho ++ [p])[st.length]? = some p := by rw [← R.len]; simp
  refine ⟨l, ⟨R2.fz, by simp [R.len], fun i u a e1 e2 => ?_, fun i u a e1 hu e2 => ?_, fun i j u u' a e1 e2 h1 h2 r1 r2 => ?_, R2.tmp, fun a u e => ⟨(R.tof a u e).1, fun i c' e1 hu => ?_⟩, R.lk⟩⟩
  · rcases old e1 with ⟨e, q⟩ | ⟨rfl, rfl⟩
    · exact (R2.cell i u a e (q ▸ e2)).up l
    · have : some p = some a := lastR.symm.trans e2
      cases this
      exact hc _ l
  · rcases old e1 with ⟨e, q⟩ | ⟨rfl, rfl⟩
    · exact R.off i u a e hu (q ▸ e2)
    · have : some p = some a := lastR.symm.trans e2
      cases this
      exact R.fz.free hp
  · have apart : ∀ {i : Nat} {u : C} {a : Addr}, st[i]? = some u → u.live = true → Z.rho[i]? = some a → a ≠ p := fun e h q z => by
      subst z
      obtain ⟨o', ho⟩ := (R.cell _ _ _ e q).some_ h
      rw [hp] at ho; cases ho
    rcases old e1 with ⟨e, q⟩ | ⟨rfl, rfl⟩
    · rcases old e2 with ⟨e', q'⟩ | ⟨rfl, rfl⟩
      · exact R.inj i j u u' a e e' h1 h2 (q ▸ r1) (q' ▸ r2)
      · have : some p = some a := lastR.symm.trans r2
        cases this
        exact (apart e h1 (q ▸ r1) rfl).elim
    · have : some p = some a := lastR.symm.trans r1
      cases this
      rcases old e2 with ⟨e', q'⟩ | ⟨rfl, rfl⟩
      · exact (apart e' h2 (q' ▸ r2) rfl).elim
      · rfl
  · rcases old e1 with ⟨e', q⟩ | ⟨rfl, rfl⟩
    · show (Z.rho ++ [p])[i]? ≠ some a
      rw [q]; exact (R.tof a u e).2 i c' e' hu
    · show (Z.rho ++ [p])[st.length]? ≠ some a
      rw [lastR]
      intro z
      cases z
      rw [R.tmp _ _ e] at hp; cases hp
/-- a changing thing is changed -/
theorem RelH.put {H : Hp} {st : Sto} {i : Nat} {p : Addr} {o : HO} {c c' : C} (R : RelH K G Z H st) (hi : st[i]? = some c) (hl : c.live = true) (hp : Z.rho[i]? = some p) (hc : RepC K G Z (upd H p o) p c') :
    RelH K G Z (upd H p o) (st.set i c') := by
  have lt : i < st.length := (List.getElem?_eq_some_iff.mp hi).1
  have zp := R.off i c p hi hl hp
  have alt : ∀ {j : Nat} {u : C}, (st.set i c')[j]? = some u → (j = i ∧ u = c') ∨ (j ≠ i ∧ st[j]? = some u) := fun {j u} e => by
    by_cases hj : j = i
    · subst hj
      rw [List.getElem?_set_self lt] at e
      cases e
      exact .inl ⟨rfl, rfl⟩
    · rw [List.getElem?_set_ne (Ne.symm hj)] at e
      exact .inr ⟨hj, e⟩
  have tne : ∀ {a : Addr} {u : HO}, Z.tmp a = some u → a ≠ p := fun {a u} e z => (R.tof a u e).2 i c hi hl (z ▸ hp)
  refine ⟨fun b u e => ?_, by rw [R.len]; simp, fun j u a e1 e2 => ?_, fun j u a e1 hu e2 => ?_, fun j k u u' a e1 e2 h1 h2 r1 r2 => ?_, fun b u e => ?_, fun a u e => ⟨(R.tof a u e).1, fun j u' e1 hu => ?_⟩, R.lk⟩
  · rw [upd_ne (ne_of_none e zp)]; exact R.fz _ _ e
  · rcases alt e1 with ⟨rfl, rfl⟩ | ⟨hj, e⟩
    · rw [hp] at e2; cases e2; exact hc
    · have q := R.cell j u a e e2
      cases hu : u.live with
      | false => cases u <;> first | trivial | cases hu
      | true =>
        refine q.congr (upd_ne ?_)
        rintro rfl
        exact hj (R.inj j i u c _ e hi hu hl e2 hp)
  · rcases alt e1 with ⟨rfl, rfl⟩ | ⟨hj, e⟩
    · rw [hp] at e2; cases e2; exact zp
    · exact R.off j u a e hu e2
  · rcases alt e1 with ⟨rfl, rfl⟩ | ⟨hj, e⟩
    · rcases alt e2 with ⟨rfl, rfl⟩ | ⟨hk, e'⟩
      · rfl
      · exact R.inj _ k c u' a hi e' hl h2 r1 r2
    · rcases alt e2 with ⟨rfl, rfl⟩ | ⟨hk, e'⟩
      · exact R.inj j _ u c a e hi h1 hl r1 r2
      · exact R.inj j k u u' a e e' h1 h2 r1 r2
  · rw [upd_ne (tne e)]; exact R.tmp _ _ e
  · rcases alt e1 with ⟨rfl, rfl⟩ | ⟨hj, e'⟩
    · exact (R.tof a u e).2 _ c hi hl
    · exact (R.tof a u e).2 j u' e' hu
end
/-! ### what is being made -/
section
variable {K : PySem.W.Frag} {G : GA} {Z : Gh} {H : Hp} {st : Sto} {p : Addr} {o o' : HO}
theorem RepC.fz {K : PySem.W.Frag} {G : GA} {fz : Hp} {rho : List Addr} {t t' : Hp} {H : Hp} {a : Addr} {c : C} (h : RepC K G ⟨fz, rho, t⟩ H a c) : RepC K G ⟨fz, rho, t'⟩ H a c := by
  have e : Gh.ex ⟨fz, rho, t⟩ ⟨fz, rho, t'⟩ := ⟨Same.refl _, ⟨[], by simp⟩⟩
  cases c with
  | lst ds => obtain ⟨vs, h1, r⟩ := h; exact ⟨vs, h1, RepL.ux e _ _ r⟩
  | dct ks ds => obtain ⟨vs, h1, n, r⟩ := h; exact ⟨vs, h1, n, RepL.ux e _ _ r⟩
  | dkd ks ds => obtain ⟨xs, h1, n, r, t⟩ := h; exact ⟨xs, h1, n, RepL.ux e _ _ r, RepL.ux e _ _ t⟩
  | ins c ns ds => obtain ⟨dx, vs, h1, n, r⟩ := h; exact ⟨dx, vs, h1, n, RepL.ux e _ _ r⟩
  | tab q => exact h
  | dead => trivial
theorem RelH.addTmp (R : RelH K G Z H st) (hp : H p = none) : RelH K G ⟨Z.fz, Z.rho, upd Z.tmp p o⟩ (upd H p o) st := by
  have R2 := R.more (o := o) hp
  refine ⟨R2.fz, R2.len, fun i c a e1 e2 => RepC.fz (R2.cell i c a e1 e2), R2.off, R2.inj, fun b u e => ?_, fun a u e => ?_, R.lk⟩
  · have e' : upd Z.tmp p o b = some u := e
    by_cases hb : b = p
    · subst hb; rw [upd_same] at e' ⊢; exact e'
    · rw [upd_ne hb] at e' ⊢; exact R.tmp _ _ e'
  · have e' : upd Z.tmp p o a = some u := e
    by_cases hb : a = p
    · subst hb
      refine ⟨R.fz.free hp, fun i c e1 hl q => ?_⟩
      obtain ⟨o', ho⟩ := (R.cell i c a e1 q).some_ hl
      rw [hp] at ho; cases ho
    · rw [upd_ne hb] at e'; exact R.tof a u e'
theorem RelH.setTmp (R : RelH K G Z H st) (hp : Z.tmp p = some o) : RelH K G ⟨Z.fz, Z.rho, upd Z.tmp p o'⟩ (upd H p o') st := by
  have off := R.tof p o hp
  refine ⟨fun b u e => ?_, R.len, fun i c a e1 e2 => ?_, R.off, R.inj, fun b u e => ?_, fun a u e => ?_, R.lk⟩
  · rw [upd_ne (ne_of_none e off.1)]; exact R.fz _ _ e
  · have q := R.cell i c a e1 e2
    cases hc : c.live with
    | false => cases c <;> first | trivial | cases hc
    | true =>
      refine RepC.fz (q.congr (upd_ne ?_))
      rintro rfl
      exact off.2 i c e1 hc e2
  · have e' : upd Z.tmp p o' b = some u := e
    by_cases hb : b = p
    · subst hb; rw [upd_same] at e' ⊢; exact e'
    · rw [upd_ne hb] at e' ⊢; exact R.tmp _ _ e'
  · have e' : upd Z.tmp p o' a = some u := e
    by_cases hb : a = p
    · subst hb; exact off
    · rw [upd_ne hb] at e'; exact R.tof a u e'
/-- it is made, and will not change -/
theorem RelH.tmpFz {t : Hp} (R : RelH K G Z H st) (ht : Z.tmp = upd t p o) (hn : t p = none) : RelH K G ⟨upd Z.fz p o, Z.rho, t⟩ H st ∧ Z.ex ⟨upd Z.fz p o, Z.rho, t⟩ := by
  have hp : Z.tmp p = some o := by rw [ht, upd_same]
  have off := R.tof p o hp
  have l : Z.ex ⟨upd Z.fz p o, Z.rho, t⟩ := ⟨fun b u e => by
    show upd Z.fz p o b = some u
    rw [upd_ne (ne_of_none e off.1)]; exact e, ⟨[], by simp⟩⟩
  have tt : ∀ {b : Addr} {u : HO}, t b = some u → Z.tmp b = some u ∧ b ≠ p := fun {b u} e => by
    have ne : b ≠ p := ne_of_none e hn
    exact ⟨by rw [ht, upd_ne ne]; exact e, ne⟩
  refine ⟨⟨fun b u e => ?_, R.len, fun i c a e1 e2 => ?_, fun i c a e1 hl e2 => ?_, R.inj, fun b u e => R.tmp _ _ (tt e).1, fun a u e => ⟨?_, (R.tof a u (tt e).1).2⟩, G.mono l.fz R.lk⟩, l⟩
  · have e' : upd Z.fz p o b = some u := e
    by_cases hb : b = p
    · subst hb; rw [upd_same] at e'; cases e'; exact R.tmp _ _ hp
    · rw [upd_ne hb] at e'; exact R.fz _ _ e'
  · have q := R.cell i c a e1 e2
    cases c with
    | lst ds => obtain ⟨vs, h1, r⟩ := q; exact ⟨vs, h1, RepL.ux l _ _ r⟩
    | dct ks ds => obtain ⟨vs, h1, n, r⟩ := q; exact ⟨vs, h1, n, RepL.ux l _ _ r⟩
    | dkd ks ds => obtain ⟨xs, h1, n, r, t⟩ := q; exact ⟨xs, h1, n, RepL.ux l _ _ r, RepL.ux l _ _ t⟩
    | ins c ns ds => obtain ⟨dx, vs, h1, n, r⟩ := q; exact ⟨dx, vs, h1, n, RepL.ux l _ _ r⟩
    | tab z => obtain ⟨e0, ps, h1, n, k⟩ := q; exact ⟨e0, ps, h1, n, fun pos cv y => by obtain ⟨c, q1, q2⟩ := k pos cv y; exact ⟨c, q1, l.fz _ _ q2⟩⟩
    | dead => trivial
  · show upd Z.fz p o a = none
    have ne : a ≠ p := fun z => off.2 i c e1 hl (by rw [← z]; exact e2)
    rw [upd_ne ne]; exact R.off i c a e1 hl e2
  · show upd Z.fz p o a = none
    rw [upd_ne (tt e).2]; exact (R.tof a u (tt e).1).1
/-- it is made, and may change on -/
theorem RelH.tmpC {t : Hp} {c : C} (R : RelH K G Z H st) (ht : Z.tmp = upd t p o) (hn : t p = none) (hc : ∀ Z', Z.ex Z' → RepC K G Z' H p c) : RelH K G ⟨Z.fz, Z.rho ++ [p], t⟩ H (st ++ [c]) ∧ Z.ex ⟨Z.fz, Z.rho ++ [p], t⟩ := by
  have hp : Z.tmp p = some o := by rw [ht, upd_same]
  have off := R.tof p o hp
  have l : Z.ex ⟨Z.fz, Z.rho ++ [p], t⟩ := ⟨Same.refl _, ⟨[p], rfl⟩⟩
  have tt : ∀ {b : Addr} {u : HO}, t b = some u → Z.tmp b = some u ∧ b ≠ p := fun {b u} e => by
    have ne : b ≠ p := ne_of_none e hn
    exact ⟨by rw [ht, upd_ne ne]; exact e, ne⟩
  have lastR : (Z.rho ++ [p])[st.length]? = some p := by rw [← R.len]; simp
  have old : ∀ {i : Nat} {u : C}, (st ++ [c])[i]? = some u → st[i]? = some u ∧ (Z.rho ++ [p])[i]? = Z.rho[i]? ∨ i = st.length ∧ u = c := fun {i u} e => by
    by_cases hi : i < st.length
    · rw [List.getElem?_append_left hi] at e
      exact .inl ⟨e, List.getElem?_append_left (by rw [R.len]; exact hi)⟩
    · rw [List.getElem?_append_right (by omega)] at e
      have : i - st.length = 0 := by
        cases q : i - st.length with
        | zero => rfl
        | succ n => rw [q] at e; simp at e
      rw [this] at e
      simp at e
      exact .inr ⟨by omega, e.symm⟩
  refine ⟨⟨R.fz, by simp [R.len], fun i u a e1 e2 => ?_, fun i u a e1 hu e2 => ?_, fun i j u u' a e1 e2 h1 h2 r1 r2 => ?_, fun b u e => R.tmp _ _ (tt e).1, fun a u e => ⟨(R.tof a u (tt e).1).1, fun i c' e1 hu => ?_⟩, R.lk⟩, l⟩
  · rcases old e1 with ⟨e, q⟩ | ⟨rfl, rfl⟩
    · have z := R.cell i u a e (q ▸ e2)
      cases u with
      | lst ds => obtain ⟨vs, h1, r⟩ := z; exact ⟨vs, h1, RepL.ux l _ _ r⟩
      | dct ks ds => obtain ⟨vs, h1, n, r⟩ := z; exact ⟨vs, h1, n, RepL.ux l _ _ r⟩
      | dkd ks ds => obtain ⟨xs, h1, n, r, t⟩ := z; exact ⟨xs, h1, n, RepL.ux l _ _ r, RepL.ux l _ _ t⟩
      | ins c ns ds => obtain ⟨dx, vs, h1, n, r⟩ := z; exact ⟨dx, vs, h1, n, RepL.ux l _ _ r⟩
      | tab y => exact z
      | dead => trivial
    · have : some p = some a := lastR.symm.trans e2
      cases this
      exact hc _ l
  · rcases old e1 with ⟨e, q⟩ | ⟨rfl, rfl⟩
    · exact R.off i u a e hu (q ▸ e2)
    · have : some p = some a := lastR.symm.trans e2
      cases this
      exact off.1
  · rcases old e1 with ⟨e, q⟩ | ⟨rfl, rfl⟩
    · rcases old e2 with ⟨e', q'⟩ | ⟨rfl, rfl⟩
      · exact R.inj i j u u' a e e' h1 h2 (q ▸ r1) (q' ▸ r2)
      · have : some p = some a := lastR.symm.trans r2
        cases this
        exact (off.2 i u e h1 (q ▸ r1)).elim
    · have : some p = some a := lastR.symm.trans r1
      cases this
      rcases old e2 with ⟨e', q'⟩ | ⟨rfl, rfl⟩
      · exact (off.2 j u' e' h2 (q' ▸ r2)).elim
      · rfl
  · rcases old e1 with ⟨e', q⟩ | ⟨rfl, rfl⟩
    · show (Z.rho ++ [p])[i]? ≠ some a
      rw [q]; exact (R.tof a u (tt e).1).2 i c' e' hu
    · show (Z.rho ++ [p])[st.length]? ≠ some a
      rw [lastR]
      intro z
      cases z
      exact (tt e).2 rfl
end
/-! ### what is no more reached may be forgotten -/
mutual
def below (n : Nat) : D → Bool
  | .lst xs => belowL n xs
  | .rls xs => belowL n xs
  | .tup xs => belowL n xs
  | .ptp xs => belowL n xs
  | .dct _ xs => belowL n xs
  | .dkd ks xs => belowL n ks && belowL n xs
  | .ins _ _ xs => belowL n xs
  | .ptr i => decide (i < n)
  | .exv _ _ xs => belowL n xs
  | _ => true
def belowL (n : Nat) : List D → Bool
  | [] => true
  | d :: ds => below n d && belowL n ds
end
def belowC (n : Nat) : C → Bool
  | .lst xs => belowL n xs
  | .dkd ks xs => belowL n ks && belowL n xs
  | .dct _ xs => belowL n xs
  | .ins _ _ xs => belowL n xs
  | .tab _ => true
  | .dead => true
section
variable {K : PySem.W.Frag} {G : GA} {Z Z' : Gh}
mutual
theorem Rep.cut {n : Nat} (hf : Same Z.fz Z'.fz) (hr : ∀ i : Nat, i < n → Z'.rho[i]? = Z.rho[i]?) : ∀ (d : D) (v : V), below n d = true → Rep K G Z d v → Rep K G Z' d v
  | .non, _, _, h => h
  | .bl _, _, _, h => h
  | .int _, _, _, h => h
  | .str _, _, _, h => h
  | .lst ds, _, b, ⟨a, vs, e, q, r⟩ => ⟨a, vs, e, hf _ _ q, RepL.cut hf hr ds vs b r⟩
  | .rls ds, _, b, ⟨a, vs, e, q, r⟩ => ⟨a, vs, e, hf.seq q, RepL.cut hf hr ds vs b r⟩
  | .tup ds, _, b, ⟨a, vs, e, q, r⟩ => ⟨a, vs, e, Same.sqt' hf q, RepL.cut hf hr ds vs b r⟩
  | .dct ks ds, _, b, ⟨a, vs, e, q, m, r⟩ => ⟨a, vs, e, Same.rd hf q, m, RepL.cut hf hr ds vs b r⟩
  | .ins c ns ds, _, b, ⟨a, dx, vs, e, q, m, r⟩ => ⟨a, dx, vs, e, hf _ _ q, m, RepL.cut hf hr ds vs b r⟩
  | .ptr i, _, b, ⟨a, q, e⟩ => ⟨a, by rw [hr i (by unfold below at b; exact of_decide_eq_true b)]; exact q, e⟩
  | .cls _, _, _, h => h
  | .dkd ks ds, _, b, ⟨a, o, xs, e, q, m, r, t⟩ => by
    unfold below at b
    rw [Bool.and_eq_true] at b
    exact ⟨a, o, xs, e, hf _ _ q, m, RepL.cut hf hr ks _ b.1 r, RepL.cut hf hr ds _ b.2 t⟩
  | .ptp ds, _, b, ⟨a, o, vs, e, q, n, r⟩ => ⟨a, o, vs, e, hf _ _ q, n, RepL.cut hf hr ds vs b r⟩
  | .fn _, _, _, h => h
  | .exv c ns ds, _, b, ⟨a, od, vs, e, q, q2, q3, m, r⟩ => ⟨a, od, vs, e, hf _ _ q, fun d h => hf _ _ (q2 d h), q3, m, RepL.cut hf hr ds vs b r⟩
theorem RepL.cut {n : Nat} (hf : Same Z.fz Z'.fz) (hr : ∀ i : Nat, i < n → Z'.rho[i]? = Z.rho[i]?) : ∀ (ds : List D) (vs : List V), belowL n ds = true → RepL K G Z ds vs → RepL K G Z' ds vs
  | [], _, _, h => h
  | d :: ds, _, b, ⟨v, r, e, h, t⟩ => by
    unfold belowL at b
    rw [Bool.and_eq_true] at b
    exact ⟨v, r, e, Rep.cut hf hr d v b.1 h, RepL.cut hf hr ds r b.2 t⟩
end
theorem RepC.cut {n : Nat} (hf : Same Z.fz Z'.fz) (hr : ∀ i : Nat, i < n → Z'.rho[i]? = Z.rho[i]?) {H : Hp} {a : Addr} : ∀ {c : C}, belowC n c = true → RepC K G Z H a c → RepC K G Z' H a c
  | .dkd ks ds, b, ⟨xs, e, m, r, t⟩ => by
    unfold belowC at b
    rw [Bool.and_eq_true] at b
    exact ⟨xs, e, m, RepL.cut hf hr ks _ b.1 r, RepL.cut hf hr ds _ b.2 t⟩
  | .lst ds, b, ⟨vs, e, r⟩ => ⟨vs, e, RepL.cut hf hr ds vs b r⟩
  | .dct ks ds, b, ⟨vs, e, m, r⟩ => ⟨vs, e, m, RepL.cut hf hr ds vs b r⟩
  | .ins c ns ds, b, ⟨dx, vs, e, m, r⟩ => ⟨dx, vs, e, m, RepL.cut hf hr ds vs b r⟩
  | .tab q, _, ⟨e0, ps, e, m, k⟩ => ⟨e0, ps, e, m, fun pos cv z => by obtain ⟨c, e1, e2⟩ := k pos cv z; exact ⟨c, e1, hf _ _ e2⟩⟩
  | .dead, _, _ => trivial
/-- the changing things from n on are let go -/
theorem RelH.drop {H : Hp} {st : Sto} (R : RelH K G Z H st) (n : Nat) (hb : (st.take n).all (belowC n) = true) : RelH K G ⟨Z.fz, Z.rho.take n, Z.tmp⟩ H (st.take n) := by
  have g : ∀ {i : Nat} {c : C}, (st.take n)[i]? = some c → i < n ∧ st[i]? = some c := fun {i c} e => by
    have hi : i < (st.take n).length := (List.getElem?_eq_some_iff.mp e).1
    have hi' : i < n := by rw [List.length_take] at hi; omega
    rw [List.getElem?_take_of_lt hi'] at e
    exact ⟨hi', e⟩
  have r : ∀ {i : Nat} {a : Addr}, (Z.rho.take n)[i]? = some a → Z.rho[i]? = some a := fun {i a} e => by
    have hi : i < (Z.rho.take n).length := (List.getElem?_eq_some_iff.mp e).1
    have hi' : i < n := by rw [List.length_take] at hi; omega
    rw [List.getElem?_take_of_lt hi'] at e
    exact e
  refine ⟨R.fz, by rw [List.length_take, List.length_take, R.len], fun i c a e1 e2 => ?_, fun i c a e1 hu e2 => R.off i c a (g e1).2 hu (r e2), fun i j c c' a e1 e2 h1 h2 r1 r2 => R.inj i j c c' a (g e1).2 (g e2).2 h1 h2 (r r1) (r r2), R.tmp, fun a o e => ⟨(R.tof a o e).1, fun i c e1 hu q => (R.tof a o e).2 i c (g e1).2 hu (r q)⟩, R.lk⟩
  refine RepC.cut (Z := Z) (Z' := ⟨Z.fz, Z.rho.take n, Z.tmp⟩) (Same.refl _) (fun i hi => List.getElem?_take_of_lt hi) (n := n) ?_ (R.cell i c a (g e1).2 (r e2))
  exact List.all_eq_true.mp hb c (List.mem_of_getElem? e1)
end
end S
/-! what is reckoned with such values, and how readings follow from it -/
namespace S
open PySem L2
inductive R (α : Type) where
  | ok (a : α) (st : Sto)
  | exc (c : Nat) (ns : List Str) (ds : List D) (st : Sto)
  | stuck
def R.bind {α β : Type} (r : R α) (f : α → Sto → R β) : R β := match r with
  | .ok a st => f a st
  | .exc c ns ds st => .exc c ns ds st
  | .stuck => .stuck
inductive RS where
  | nx (env : Env) (st : Sto)
  | rt (d : D) (st : Sto)
  | bk (env : Env) (st : Sto)
  | ct (env : Env) (st : Sto)
  | exc (env : Env) (c : Nat) (ns : List Str) (ds : List D) (st : Sto)
  | stuck
abbrev M := Env → Sto → R D
abbrev MA := Env → Sto → R (List D)
abbrev MB := Env → Sto → R Bool
abbrev MS := Env → Sto → RS
section
variable (K : PySem.W.Frag) (G : GA)
def XOk (Z : Gh) (ns : List Str) (ds : List D) (x : Option Addr) : Prop :=
  (ns = [] ∧ ds = [] ∧ x = none) ∨ ∃ a vs, x = some a ∧ Z.fz a = some (.xd (ns.zip vs)) ∧ ns.length = vs.length ∧ RepL K G Z ds vs
def Post {α β : Type} (P : Gh → α → β → Prop) (E : XK) (Z : Gh) (r : R α) (Q : β → Hp → Prop) : Prop := match r with
  | .ok a st => ∀ Z' b H', Z.le Z' → RelH K G Z' H' st → P Z' a b → Q b H'
  | .exc c ns ds st => ∀ Z' H' x, Z.le Z' → RelH K G Z' H' st → XOk K G Z' ns ds x → E (.ref (G c)) x H'
  | .stuck => False
def tG {α β : Type} (P : Gh → α → β → Prop) (W : WX) (m : Env → Sto → R α) : St → Hp → (β → Hp → Prop) → Prop := fun σ H Q =>
  ∃ Z env st, RelH K G Z H st ∧ RepE K G Z env σ ∧ Post K G P (WE W σ) Z (m env st) Q
def rD : Gh → D → V → Prop := fun Z => Rep K G Z
def rL : Gh → List D → List V → Prop := fun Z => RepL K G Z
def rB : Gh → Bool → Bool → Prop := fun _ a b => a = b
abbrev tS (W : WX) (m : M) : TE := tG K G (rD K G) W m
abbrev tSA (W : WX) (m : MA) : TA := tG K G (rL K G) W m
abbrev tSB (W : WX) (m : MB) : TT := tG K G rB W m
def PostS (W : WX) (Z : Gh) (r : RS) (Dn : Ends) : Prop := match r with
  | .nx env st => ∀ Z' σ H, Z.le Z' → RelH K G Z' H st → RepE K G Z' env σ → Dn.nx σ H
  | .rt d st => ∀ Z' v H, Z.le Z' → RelH K G Z' H st → Rep K G Z' d v → Dn.rt v H
  | .bk env st => ∀ Z' σ H, Z.le Z' → RelH K G Z' H st → RepE K G Z' env σ → Dn.bk σ H
  | .ct env st => ∀ Z' σ H, Z.le Z' → RelH K G Z' H st → RepE K G Z' env σ → Dn.ct σ H
  | .exc env c ns ds st => ∀ Z' σ H x, Z.le Z' → RelH K G Z' H st → RepE K G Z' env σ → XOk K G Z' ns ds x → W (.ref (G c)) x σ H
  | .stuck => False
def tSS (W : WX) (m : MS) : TS := fun Dn σ H => ∃ Z env st, RelH K G Z H st ∧ RepE K G Z env σ ∧ PostS K G W Z (m env st) Dn
end
section
variable {K : PySem.W.Frag} {G : GA} {α β γ δ : Type} {P : Gh → α → β → Prop} {P' : Gh → γ → δ → Prop} {E : XK} {Z Z' : Gh} {W : WX}
theorem Post.up {r : R α} {Q : β → Hp → Prop} (l : Z.le Z') (h : Post K G P E Z r Q) : Post K G P E Z' r Q := by
  cases r with
  | ok a st => exact fun Z2 b H l2 => h Z2 b H (l.trans l2)
  | exc c ns ds st => exact fun Z2 H x l2 => h Z2 H x (l.trans l2)
  | stuck => exact h
theorem PostS.up {r : RS} {Dn : Ends} (l : Z.le Z') (h : PostS K G W Z r Dn) : PostS K G W Z' r Dn := by
  cases r with
  | nx env st => exact fun Z2 b H l2 => h Z2 b H (l.trans l2)
  | rt d st => exact fun Z2 b H l2 => h Z2 b H (l.trans l2)
  | bk env st => exact fun Z2 b H l2 => h Z2 b H (l.trans l2)
  | ct env st => exact fun Z2 b H l2 => h Z2 b H (l.trans l2)
  | exc env c ns ds st => exact fun Z2 σ H x l2 => h Z2 σ H x (l.trans l2)
  | stuck => exact h
/-- one thing behind another -/
theorem Post.bind {r : R α} {f : α → Sto → R γ} {Q : δ → Hp → Prop} {Q1 : β → Hp → Prop} (h : Post K G P' E Z (r.bind f) Q)
    (k : ∀ a st Z' b H', Z.le Z' → RelH K G Z' H' st → P Z' a b → Post K G P' E Z' (f a st) Q → Q1 b H') : Post K G P E Z r Q1 := by
  cases r with
  | ok a st => exact fun Z2 b H l R p => k a st Z2 b H l R p (Post.up l h)
  | exc c ns ds st => exact h
  | stuck => exact h
/-- the thing itself is wanted -/
theorem Post.now {a : α} {st : Sto} {Q : β → Hp → Prop} {b : β} {H : Hp} (h : Post K G P E Z (.ok a st) Q) (R : RelH K G Z H st) (p : P Z a b) : Q b H := h Z b H (Gh.le.refl Z) R p
theorem Post.imp {r : R α} {Q Q1 : β → Hp → Prop} (h : Post K G P E Z r Q) (k : ∀ b H, Q b H → Q1 b H) : Post K G P E Z r Q1 := by
  cases r with
  | ok a st => exact fun Z2 b H l R p => k _ _ (h Z2 b H l R p)
  | exc c ns ds st => exact h
  | stuck => exact h
end
/-! ### readings may be made narrower -/
section
variable {X : Cx} {e : Expr} {es : List Expr}
theorem pe_of {t t' : TE} (h : PE X e t) (k : ∀ σ H Q, t' σ H Q → t σ H Q) : PE X e t' := ⟨fun pins s σ H Q I q => h.run pins s σ H Q I (k σ H Q q)⟩
theorem pt_of {t t' : TT} (h : PT X e t) (k : ∀ σ H Q, t' σ H Q → t σ H Q) : PT X e t' := ⟨fun pins s σ H Q I q => h.run pins s σ H Q I (k σ H Q q)⟩
theorem pw_of {t t' : TT} (h : PW X e t) (k : ∀ σ H Q, t' σ H Q → t σ H Q) : PW X e t' := ⟨fun wh pins s σ H Q I q => h.run wh pins s σ H Q I (k σ H Q q)⟩
theorem pa_of {t t' : TA} (h : PA X es t) (k : ∀ σ H Q, t' σ H Q → t σ H Q) : PA X es t' := ⟨fun pos pins s σ H Q I q => h.run pos pins s σ H Q I (k σ H Q q)⟩
theorem ps_of {st : Stmt} {t t' : TS} (h : PS X st t) (k : ∀ Dn σ H, t' Dn σ H → t Dn σ H) : PS X st t' := ⟨fun pins s σ H Dn I q => h.run pins s σ H Dn I (k Dn σ H q)⟩
theorem pss_of {st : List Stmt} {t t' : TS} (h : PSs X st t) (k : ∀ Dn σ H, t' Dn σ H → t Dn σ H) : PSs X st t' := ⟨fun pins s σ H Dn I q => h.run pins s σ H Dn I (k Dn σ H q)⟩
theorem OpR.or {f : Value → Value → Sem Value} {r r' : R2} (h : OpR X f r) (h' : OpR X f r') : OpR X f (fun x y H Q => r x y H Q ∨ r' x y H Q) := fun pins s σ H x y v u Q I a b q => q.elim (h pins s σ H x y v u Q I a b) (h' pins s σ H x y v u Q I a b)
theorem CallR.or {f : Value} {r r' : List V → Hp → VK → Prop} (h : CallR X f r) (h' : CallR X f r') : CallR X f (fun xs H Q => r xs H Q ∨ r' xs H Q) := fun pins s σ H xs us Q I a q => q.elim (h pins s σ H xs us Q I a) (h' pins s σ H xs us Q I a)
theorem IxR.or' {r r' : R2} (h : IxR X r) (h' : IxR X r') : IxR X (fun x y H Q => r x y H Q ∨ r' x y H Q) := fun a b pins s σ H x y v u Q I p q z => z.elim (h a b pins s σ H x y v u Q I p q) (h' a b pins s σ H x y v u Q I p q)
end
/-! ### names, constants, arguments -/
def mVar (i : Nat) : M := fun env st => match env[i]? with
  | some (some d) => .ok d st
  | _ => .stuck
def mC (d : D) : M := fun _ st => .ok d st
def mNil : MA := fun _ st => .ok [] st
def mCons (m : M) (n : MA) : MA := fun env st => (m env st).bind fun a st1 => (n env st1).bind fun r st2 => .ok (a :: r) st2
section
variable {K : PySem.W.Frag} {G : GA} {W : WX} {σ : St} {H : Hp}
theorem rs_var {i : Nat} {Q : VK} (h : tS K G W (mVar i) σ H Q) : tVar i σ H Q := by
  obtain ⟨Z, env, st, R, S, h⟩ := h
  unfold mVar at h
  split at h
  · rename_i d e
    obtain ⟨v, e1, r⟩ := S.get e
    exact ⟨v, e1, h.now R r⟩
  · exact h.elim
theorem rs_c {d : D} {v : V} {Q : VK} (hv : ∀ Z, Rep K G Z d v) (h : tS K G W (mC d) σ H Q) : tC v σ H Q := by
  obtain ⟨Z, env, st, R, S, h⟩ := h
  exact Post.now (P := rD K G) h R (hv Z)
/-- one behind another, in a reading -/
theorem rs_bind {α β γ δ : Type} {P : Gh → α → β → Prop} {P' : Gh → γ → δ → Prop} {m : Env → Sto → R α} {f : α → Env → Sto → R γ} {Q : δ → Hp → Prop} {Q1 : β → Hp → Prop} (h : tG K G P' W (fun env st => (m env st).bind fun a st1 => f a env st1) σ H Q)
    (k : ∀ a b H1 Z env st, RelH K G Z H1 st → RepE K G Z env σ → P Z a b → Post K G P' (WE W σ) Z (f a env st) Q → Q1 b H1) : tG K G P W m σ H Q1 := by
  obtain ⟨Z, env, st, R, S, h⟩ := h
  exact ⟨Z, env, st, R, S, h.bind fun a st' Z' b H' l R' p q => k a b H' Z' env st' R' (S.up l) p q⟩
theorem rs_nil {Q : List V → Hp → Prop} (h : tSA K G W mNil σ H Q) : tNil σ H Q := by
  obtain ⟨Z, env, st, R, S, h⟩ := h
  exact Post.now (P := rL K G) h R (show RepL K G Z [] [] from rfl)
theorem rs_cons {m : M} {n : MA} {Q : List V → Hp → Prop} (h : tSA K G W (mCons m n) σ H Q) : tCons (tS K G W m) (tSA K G W n) σ H Q := by
  refine rs_bind (f := fun a env st1 => (n env st1).bind fun r st2 => .ok (a :: r) st2) h fun a x H1 Z env st R S p q => ?_
  refine ⟨Z, env, st, R, S, q.bind fun r st' Z' xs H' l R' p' q' => ?_⟩
  exact q'.now R' ⟨x, xs, rfl, Rep.up l a x p, p'⟩
variable {X : Cx} {e : Expr} {es : List Expr}
theorem pS_var (i : Nat) {x : Str} {pos : Pos} (h : PE X (.Name x pos) (tVar i)) : PE X (.Name x pos) (tS K G W (mVar i)) := pe_of h fun _ _ _ => rs_var
theorem pS_int {i j pos} : PE X (.Constant (.int i) j pos) (tS K G W (mC (.int i))) := pe_of pe_int fun _ _ _ => rs_c fun _ => rfl
theorem pS_bl {b j pos} : PE X (.Constant (.bool b) j pos) (tS K G W (mC (.bl b))) := pe_of pe_bl fun _ _ _ => rs_c fun _ => rfl
theorem pS_non {j pos} : PE X (.Constant .none j pos) (tS K G W (mC .non)) := pe_of pe_non fun _ _ _ => rs_c fun _ => rfl
theorem pS_str {x j pos} : PE X (.Constant (.str x) j pos) (tS K G W (mC (.str x))) := pe_of pe_str fun _ _ _ => rs_c fun _ => rfl
theorem pSA_nil : PA X [] (tSA K G W mNil) := pa_of pa_nil fun _ _ _ => rs_nil
theorem pSA_cons {m : M} {n : MA} (h : PE X e (tS K G W m)) (h' : PA X es (tSA K G W n)) (hs : starEach (e :: es) X.env = (false, eval e X.env) :: starEach es X.env := by rfl) : PA X (e :: es) (tSA K G W (mCons m n)) := pa_of (pa_cons h h' hs) fun _ _ _ => rs_cons
end
/-! ### statements -/
def mNext : MS := fun env st => .nx env st
def mSeq (a b : MS) : MS := fun env st => match a env st with
  | .nx env' st' => b env' st'
  | r => r
def mDo (m : M) : MS := fun env st => match m env st with
  | .ok _ st' => .nx env st'
  | .exc c ns ds st' => .exc env c ns ds st'
  | .stuck => .stuck
def mRet (m : M) : MS := fun env st => match m env st with
  | .ok d st' => .rt d st'
  | .exc c ns ds st' => .exc env c ns ds st'
  | .stuck => .stuck
def mIfS (c : MB) (a b : MS) : MS := fun env st => match c env st with
  | .ok k st' => if k = true then a env st' else b env st'
  | .exc c ns ds st' => .exc env c ns ds st'
  | .stuck => .stuck
def mSet (i : Nat) (m : M) : MS := fun env st => match m env st with
  | .ok d st' => .nx (env.set i (some d)) st'
  | .exc c ns ds st' => .exc env c ns ds st'
  | .stuck => .stuck
section
variable {K : PySem.W.Frag} {G : GA} {W : WX} {X : Cx} {e : Expr} {st : Stmt} {rest : List Stmt} {Dn : Ends} {σ : St} {H : Hp}
theorem rs_seq {a b : MS} (h : tSS K G W (mSeq a b) Dn σ H) : tSeq (tSS K G W a) (tSS K G W b) Dn σ H := by
  obtain ⟨Z, env, st, R, S, h⟩ := h
  refine ⟨Z, env, st, R, S, ?_⟩
  unfold mSeq at h
  cases q : a env st with
  | nx env' st' => rw [q] at h; exact fun Z' σ' H' l R' S' => ⟨Z', env', st', R', S', PostS.up l h⟩
  | rt d st' => rw [q] at h; exact h
  | bk env' st' => rw [q] at h; exact h
  | ct env' st' => rw [q] at h; exact h
  | exc env' c ns ds st' => rw [q] at h; exact h
  | stuck => rw [q] at h; exact h
theorem pSs_nil : PSs X [] (tSS K G W mNext) := pss_of pss_nil fun Dn σ H ⟨Z, env, st, R, S, h⟩ => h Z σ H (Gh.le.refl Z) R S
theorem pSs_cons {a b : MS} (h : PS X st (tSS K G W a)) (h' : PSs X rest (tSS K G W b)) : PSs X (st :: rest) (tSS K G W (mSeq a b)) := pss_of (pss_cons h h') fun _ _ _ => rs_seq
theorem pSs_one {a : MS} (h : PS X st (tSS K G W a)) : PSs X [st] (tSS K G W a) := pss_one h
/-- from an expression to what follows it -/
theorem post_stm {m : M} {Q : VK} {f : D → Sto → RS} {env : Env} {st : Sto} {Z : Gh} (S : RepE K G Z env σ) (h : PostS K G W Z (match m env st with
  | .ok d st' => f d st'
  | .exc c ns ds st' => .exc env c ns ds st'
  | .stuck => .stuck) Dn) (k : ∀ d st' Z' v H', Z.le Z' → RelH K G Z' H' st' → Rep K G Z' d v → PostS K G W Z' (f d st') Dn → Q v H') : Post K G (rD K G) (WE W σ) Z (m env st) Q := by
  cases q : m env st with
  | ok d st' => rw [q] at h; exact fun Z' v H' l R' r => k d st' Z' v H' l R' r (PostS.up l h)
  | exc c ns ds st' => rw [q] at h; exact fun Z' H' x l R' r => h Z' σ H' x l R' (S.up l) r
  | stuck => rw [q] at h; exact h
theorem pS_do {m : M} {pos : Pos} (h : PE X e (tS K G W m)) (hs : swapsWith e none pos.line X.env = pure false := by rfl) : PS X (.Expr e pos) (tSS K G W (mDo m)) :=
  ps_of (ps_expr h hs) fun Dn σ H ⟨Z, env, st, R, S, h⟩ => ⟨Z, env, st, R, S, post_stm (f := fun _ st' => .nx env st') S h fun d st' Z' v H' l R' r q => q Z' σ H' (Gh.le.refl _) R' (S.up l)⟩
theorem pS_ret {m : M} {pos : Pos} (h : PE X e (tS K G W m)) : PS X (.Return (some e) pos) (tSS K G W (mRet m)) :=
  ps_of (ps_ret h) fun Dn σ H ⟨Z, env, st, R, S, h⟩ => ⟨Z, env, st, R, S, post_stm (f := fun d st' => .rt d st') S h fun d st' Z' v H' l R' r q => q Z' v H' (Gh.le.refl _) R' r⟩
theorem pS_set {m : M} {i : Nat} {x : Str} {pos pos' : Pos} (hN : X.N.Nodup) (hi : X.N[i]? = some x) (hx : Loc X.env.scope x) (he : PE X e (tS K G W m)) (hs : swapsWith e (some (.Name x pos')) pos.line X.env = pure false := by rfl)
    (hf : X.fn x = true ∨ X.env.scope.names.lookup x = some .local := by first | exact .inl rfl | exact .inr rfl | assumption) : PS X (.Assign [.Name x pos'] e pos) (tSS K G W (mSet i m)) :=
  ps_of (ps_set (i := i) hN hi hx he hs hf) fun Dn σ H ⟨Z, env, st, R, S, h⟩ => ⟨Z, env, st, R, S, post_stm (f := fun d st' => .nx (env.set i (some d)) st') S h fun d st' Z' v H' l R' r q => q Z' _ H' (Gh.le.refl _) R' ((S.up l).set r i)⟩
theorem pS_if {c : Expr} {a b : List Stmt} {mc : MB} {ma mb : MS} {pos : Pos} (hc : PT X c (tSB K G W mc)) (ha : PSs X a (tSS K G W ma)) (hb : PSs X b (tSS K G W mb)) : PS X (.If c a b pos) (tSS K G W (mIfS mc ma mb)) :=
  ps_of (ps_if hc ha hb) fun Dn σ H ⟨Z, env, st, R, S, h⟩ => by
    refine ⟨Z, env, st, R, S, ?_⟩
    unfold mIfS at h
    cases q : mc env st with
    | ok k st' =>
      rw [q] at h
      intro Z' b' H' l R' e
      cases (show k = b' from e)
      cases k with
      | true => exact iteT ⟨Z', env, st', R', S.up l, PostS.up l h⟩
      | false => exact iteF ⟨Z', env, st', R', S.up l, PostS.up l h⟩
    | exc c ns ds st' => rw [q] at h; exact fun Z' H' x l R' r => h Z' σ H' x l R' (S.up l) r
    | stuck => rw [q] at h; exact h
end
/-! ### tests -/
def mTest (m : M) : MB := fun env st => (m env st).bind fun d st' => match d with
  | .bl b => .ok b st'
  | _ => .stuck
def mNotB (m : MB) : MB := fun env st => (m env st).bind fun b st' => .ok (!b) st'
def mAndB (m n : MB) : MB := fun env st => (m env st).bind fun b st' => if b = true then n env st' else .ok false st'
def mOrB (m n : MB) : MB := fun env st => (m env st).bind fun b st' => if b = true then .ok true st' else n env st'
def mIf (c : MB) (a b : M) : M := fun env st => (c env st).bind fun k st' => if k = true then a env st' else b env st'
/-- what a changing thing is now -/
def rd (st : Sto) : D → D
  | .ptr i => match st[i]? with
    | some (.lst xs) => .lst xs
    | some (.dct ks ds) => .dct ks ds
    | some (.dkd ks ds) => .dkd ks ds
    | some (.ins c ns ds) => .ins c ns ds
    | _ => .ptr i
  | d => d
def truthD (st : Sto) (d : D) : Option Bool := match rd st d with
  | .non => some false
  | .bl b => some b
  | .int i => some (i != 0)
  | .str x => if x.length ≤ sizeLine then some ((x.length : Int) != 0) else none
  | .lst xs => some (!xs.isEmpty)
  | .rls xs => some (!xs.isEmpty)
  | .tup xs => some (!xs.isEmpty)
  | _ => none
def mTru (m : M) : MB := fun env st => (m env st).bind fun d st' => match truthD st' d with
  | some b => .ok b st'
  | none => .stuck
section
variable {K : PySem.W.Frag} {G : GA} {W : WX} {Z : Gh} {H : Hp} {st : Sto} {d : D} {v : V}
theorem RelH.lst {xs : List D} (R : RelH K G Z H st) (r : Rep K G Z d v) (e : rd st d = .lst xs) : ∃ p vs, v = .ref p ∧ H p = some (.lst vs) ∧ RepL K G Z xs vs := by
  cases d with
  | ptr i =>
    obtain ⟨a, ha, rfl⟩ := r
    unfold rd at e
    dsimp only at e
    split at e <;> first | cases e | skip
    rename_i q
    obtain ⟨vs, h1, h2⟩ := R.cell _ _ _ q ha
    exact ⟨a, vs, rfl, h1, h2⟩
  | lst ys =>
    cases (show D.lst ys = .lst xs from e)
    obtain ⟨a, vs, rfl, h, q⟩ := r
    exact ⟨a, vs, rfl, R.fz _ _ h, q⟩
  | _ => cases e
theorem RelH.ins {c : Nat} {ns : List Str} {ds : List D} (R : RelH K G Z H st) (r : Rep K G Z d v) (e : rd st d = .ins c ns ds) : ∃ p dx vs, v = .ref p ∧ H p = some (.ins (G c) dx (ns.zip vs)) ∧ ns.length = vs.length ∧ RepL K G Z ds vs := by
  cases d with
  | ptr i =>
    obtain ⟨a, ha, rfl⟩ := r
    unfold rd at e
    dsimp only at e
    split at e <;> first | cases e | skip
    rename_i q
    obtain ⟨dx, vs, h1, h2, h3⟩ := R.cell _ _ _ q ha
    exact ⟨a, dx, vs, rfl, h1, h2, h3⟩
  | ins c' ns' ds' =>
    cases (show D.ins c' ns' ds' = .ins c ns ds from e)
    obtain ⟨a, dx, vs, rfl, h, q, r⟩ := r
    exact ⟨a, dx, vs, rfl, R.fz _ _ h, q, r⟩
  | _ => cases e
theorem RelH.dct {ks : List Key} {ds : List D} (R : RelH K G Z H st) (r : Rep K G Z d v) (e : rd st d = .dct ks ds) : ∃ p vs, v = .ref p ∧ Rd H p (.dK (ks.zip vs)) ∧ ks.length = vs.length ∧ RepL K G Z ds vs := by
  cases d with
  | ptr i =>
    obtain ⟨a, ha, rfl⟩ := r
    unfold rd at e
    dsimp only at e
    split at e <;> first | cases e | skip
    rename_i q
    obtain ⟨vs, h1, h2, h3⟩ := R.cell _ _ _ q ha
    exact ⟨a, vs, rfl, .inl h1, h2, h3⟩
  | dct ks' ds' =>
    cases (show D.dct ks' ds' = .dct ks ds from e)
    obtain ⟨a, vs, rfl, h, q, r⟩ := r
    exact ⟨a, vs, rfl, Same.rd R.fz h, q, r⟩
  | _ => cases e
theorem RelH.dkd {ks ds : List D} (R : RelH K G Z H st) (r : Rep K G Z d v) (e : rd st d = .dkd ks ds) : ∃ p xs, v = .ref p ∧ Rd H p (DkO G.w p xs) ∧ ks.map nk8 = xs.map (fun x => some x.1) ∧ RepL K G Z ks (xs.map fun x => .ref x.2.1) ∧ RepL K G Z ds (xs.map (·.2.2)) := by
  cases d with
  | ptr i =>
    obtain ⟨a, ha, rfl⟩ := r
    unfold rd at e
    dsimp only at e
    split at e <;> first | cases e | skip
    rename_i q
    obtain ⟨xs, h1, h2⟩ := R.cell _ _ _ q ha
    exact ⟨a, xs, rfl, .inl h1, h2⟩
  | dkd ks' ds' =>
    cases (show D.dkd ks' ds' = .dkd ks ds from e)
    obtain ⟨a, o, xs, rfl, h, q⟩ := r
    exact ⟨a, xs, rfl, .inr ⟨o, R.fz _ _ h⟩, q⟩
  | _ => cases e
theorem rd_flat (e : rd st d = d') : (∃ i, d = .ptr i) ∨ d = d' := by
  cases d with
  | ptr i => exact .inl ⟨i, rfl⟩
  | _ => exact .inr e
theorem rd_ptr (i : Nat) : (∃ xs, rd st (.ptr i) = .lst xs) ∨ (∃ ks ds, rd st (.ptr i) = .dct ks ds) ∨ (∃ ks ds, rd st (.ptr i) = .dkd ks ds) ∨ (∃ c ns ds, rd st (.ptr i) = .ins c ns ds) ∨ rd st (.ptr i) = .ptr i := by
  unfold rd
  dsimp only
  split
  · exact .inl ⟨_, rfl⟩
  · exact .inr (.inl ⟨_, _, rfl⟩)
  · exact .inr (.inr (.inl ⟨_, _, rfl⟩))
  · exact .inr (.inr (.inr (.inl ⟨_, _, _, rfl⟩)))
  · exact .inr (.inr (.inr (.inr rfl)))
/-- what does not change is told by itself -/
theorem rd_self {d' : D} (e : rd st d = d') (h : (match d' with | .lst _ => false | .dct .. => false | .dkd .. => false | .ins .. => false | .ptr _ => false | _ => true) = true) : d = d' := by
  rcases rd_flat e with ⟨i, rfl⟩ | q
  · rcases rd_ptr (st := st) i with ⟨_, q⟩ | ⟨_, _, q⟩ | ⟨_, _, q⟩ | ⟨_, _, _, q⟩ | q <;> (rw [q] at e; subst e; cases h)
  · exact q
theorem RelH.rls {xs : List D} (R : RelH K G Z H st) (r : Rep K G Z d v) (e : rd st d = .rls xs) : ∃ p vs, v = .ref p ∧ SqL K H p vs ∧ RepL K G Z xs vs := by
  cases rd_self e rfl
  obtain ⟨a, vs, rfl, h, q⟩ := r
  exact ⟨a, vs, rfl, R.fz.seq h, q⟩
theorem RelH.tup {xs : List D} (R : RelH K G Z H st) (r : Rep K G Z d v) (e : rd st d = .tup xs) : ∃ p vs, v = .ref p ∧ SqT K H p vs ∧ RepL K G Z xs vs := by
  cases rd_self e rfl
  obtain ⟨a, vs, rfl, h, q⟩ := r
  exact ⟨a, vs, rfl, Same.sqt' R.fz h, q⟩
theorem RelH.non (r : Rep K G Z d v) (e : rd st d = .non) : v = .non := by cases rd_self e rfl; exact r
theorem RelH.bl {b : Bool} (r : Rep K G Z d v) (e : rd st d = .bl b) : v = .bl b := by cases rd_self e rfl; exact r
theorem RelH.int {i : Int} (r : Rep K G Z d v) (e : rd st d = .int i) : v = .int i := by cases rd_self e rfl; exact r
theorem RelH.str {x : Str} (r : Rep K G Z d v) (e : rd st d = .str x) : v = .str x := by cases rd_self e rfl; exact r
theorem RepL.emp {ds : List D} {vs : List V} (r : RepL K G Z ds vs) : ds.isEmpty = vs.isEmpty := by
  have := r.length
  cases ds <;> cases vs <;> first | rfl | cases this
theorem tru_of {b : Bool} (R : RelH K G Z H st) (r : Rep K G Z d v) (e : truthD st d = some b) : TruV K v H b := by
  unfold truthD at e
  split at e
  · rename_i q; cases e; cases RelH.non r q; rfl
  · rename_i q; cases e; cases RelH.bl r q; rfl
  · rename_i q; cases e; cases RelH.int r q; rfl
  · rename_i q
    split at e <;> cases e
    rename_i hz
    cases RelH.str r q
    exact ⟨hz, rfl⟩
  · rename_i q; cases e
    obtain ⟨p, vs, rfl, h, rl⟩ := R.lst r q
    exact .inl ⟨vs, SqL.of h, by rw [rl.emp]⟩
  · rename_i q; cases e
    obtain ⟨p, vs, rfl, h, rl⟩ := R.rls r q
    exact .inl ⟨vs, h, by rw [rl.emp]⟩
  · rename_i q; cases e
    obtain ⟨p, vs, rfl, h, rl⟩ := R.tup r q
    exact .inr (.inl ⟨vs, h, by rw [rl.emp]⟩)
  · cases e
variable {X : Cx} {e : Expr}
theorem pS_tru {m : M} (h : PE X e (tS X.K G W m)) (hw : ∀ whole : Sem Value, PySem.isTrue e X.env whole = (do
      let z ← whole
      standAt e.pos
      holding [z] (truthy z)) := by intro _; rfl) : PT X e (tSB X.K G W (mTru m)) :=
  pt_of (pt_truth h hw) fun σ H Q h => rs_bind (f := fun d _ st' => match truthD st' d with | some b => .ok b st' | none => .stuck) h fun d v H1 Z env st R S p q => by
    cases t : truthD st d with
    | none => rw [t] at q; exact q.elim
    | some b => rw [t] at q; exact ⟨b, tru_of R p t, Post.now (P := rB) q R rfl⟩
/-- from a value's reading to a bool's -/
theorem rs_test {m : M} {σ : St} {Q : Bool → Hp → Prop} (h : tSB K G W (mTest m) σ H Q) : tS K G W m σ H fun x H1 => ∃ k, x = .bl k ∧ Q k H1 :=
  rs_bind (f := fun d _ st' => match d with | .bl b => .ok b st' | _ => .stuck) h fun d v H1 Z env st R S p q => by
    cases d with
    | bl b => exact ⟨b, p, Post.now (P := rB) q R rfl⟩
    | _ => exact q.elim
theorem pS_not {m : MB} {pos : Pos} (h : PT X e (tSB K G W m)) : PT X (.UnaryOp .Not e pos) (tSB K G W (mNotB m)) :=
  pt_of (pt_not h) fun σ H Q h => rs_bind (f := fun b _ st' => .ok (!b) st') h fun b b' H1 Z env st R S p q => by
    cases (show b = b' from p)
    exact Post.now (P := rB) q R rfl
theorem pS_and {b : Expr} {rest : List Expr} {m n : MB} {pos : Pos} (h : PT X e (tSB K G W m)) (h' : PW X (.BoolOp .And (b :: rest) pos) (tSB K G W n)) : PW X (.BoolOp .And (e :: b :: rest) pos) (tSB K G W (mAndB m n)) :=
  pw_of (pw_and h h') fun σ H Q h => rs_bind (f := fun b env st' => if b = true then n env st' else .ok false st') h fun b b' H1 Z env st R S p q => by
    cases (show b = b' from p)
    cases b with
    | true => exact iteT ⟨Z, env, st, R, S, q⟩
    | false => exact iteF (Post.now (P := rB) q R rfl)
theorem pS_and1 {m : MB} {pos : Pos} (h : PT X e (tSB K G W m)) : PW X (.BoolOp .And [e] pos) (tSB K G W m) := pw_and1 h
theorem pS_or {b : Expr} {rest : List Expr} {m n : MB} {pos : Pos} (h : PT X e (tSB K G W m)) (h' : PW X (.BoolOp .Or (b :: rest) pos) (tSB K G W n)) : PW X (.BoolOp .Or (e :: b :: rest) pos) (tSB K G W (mOrB m n)) :=
  pw_of (pw_or h h') fun σ H Q h => rs_bind (f := fun b env st' => if b = true then .ok true st' else n env st') h fun b b' H1 Z env st R S p q => by
    cases (show b = b' from p)
    cases b with
    | true => exact iteT (Post.now (P := rB) q R rfl)
    | false => exact iteF ⟨Z, env, st, R, S, q⟩
theorem pS_or1 {m : MB} {pos : Pos} (h : PT X e (tSB K G W m)) : PW X (.BoolOp .Or [e] pos) (tSB K G W m) := pw_or1 h
theorem pS_ifE {c b : Expr} {mc : MB} {m n : M} {pos : Pos} (hc : PT X c (tSB K G W mc)) (h : PE X e (tS K G W m)) (h' : PE X b (tS K G W n)) : PE X (.IfExp c e b pos) (tS K G W (mIf mc m n)) :=
  pe_of (pe_ifExp hc h h') fun σ H Q h => rs_bind (f := fun k env st' => if k = true then m env st' else n env st') h fun b b' H1 Z env st R S p q => by
    cases (show b = b' from p)
    cases b with
    | true => exact iteT ⟨Z, env, st, R, S, q⟩
    | false => exact iteF ⟨Z, env, st, R, S, q⟩
end
end S
/-! operators -/
namespace S
open PySem L2
section
variable (K : PySem.W.Frag) (G : GA)
def Ad2 (f : D → D → Sto → R D) (r : R2) : Prop := ∀ (E : XK) (Z : Gh) (H : Hp) (st : Sto) (a b : D) (x y : V) (Q : VK), RelH K G Z H st → Rep K G Z a x → Rep K G Z b y → Post K G (rD K G) E Z (f a b st) Q → r x y H Q
def AdL (f : List D → Sto → R D) (r : List V → Hp → VK → Prop) : Prop := ∀ (E : XK) (Z : Gh) (H : Hp) (st : Sto) (as : List D) (xs : List V) (Q : VK), RelH K G Z H st → RepL K G Z as xs → Post K G (rD K G) E Z (f as st) Q → r xs H Q
end
def mBin (f : D → D → Sto → R D) (m n : M) : M := fun env st => (m env st).bind fun a st1 => (n env st1).bind fun b st2 => f a b st2
def mApp (f : List D → Sto → R D) (m : MA) : M := fun env st => (m env st).bind fun as st1 => f as st1
section
variable {K : PySem.W.Frag} {G : GA} {W : WX} {X : Cx} {a b c : Expr} {m n o : M} {pos : Pos} {σ : St} {H : Hp}
theorem rs_bin {f : D → D → Sto → R D} {r : R2} {Q : VK} (hf : Ad2 K G f r) (h : tS K G W (mBin f m n) σ H Q) : tOp r (tS K G W m) (tS K G W n) σ H Q := by
  refine rs_bind (f := fun a env st1 => (n env st1).bind fun b st2 => f a b st2) h fun a x H1 Z env st R S p q => ?_
  exact ⟨Z, env, st, R, S, q.bind fun b st' Z' y H' l R' p' q' => hf _ Z' H' st' a b x y Q R' (Rep.up l a x p) p' q'⟩
theorem pS_op {f : D → D → Sto → R D} {r : R2} {op : Operator} (ho : OpR X (binaryOp op) r) (hf : Ad2 X.K G f r) (ha : PE X a (tS X.K G W m)) (hb : PE X b (tS X.K G W n)) : PE X (.BinOp a op b pos) (tS X.K G W (mBin f m n)) :=
  pe_of (pe_op ho ha hb) fun _ _ _ => rs_bin hf
theorem pS_cmp {f : D → D → Sto → R D} {r : R2} {op : CmpOp} (ho : OpR X (compareOp op) r) (hf : Ad2 X.K G f r) (ha : PE X a (tS X.K G W m)) (hb : PE X b (tS X.K G W n)) (hm : behindInMarks op b = false) : PE X (.Compare a [op] [b] pos) (tS X.K G W (mBin f m n)) :=
  pe_of (pe_cmpR ho ha hb hm) fun _ _ _ => rs_bin hf
theorem pS_cmpT {f : D → D → Sto → R D} {r : R2} {op : CmpOp} (ho : OpR X (compareOp op) r) (hf : Ad2 X.K G f r) (ha : PE X a (tS X.K G W m)) (hb : PE X b (tS X.K G W n)) (hm : behindInMarks op b = false) : PT X (.Compare a [op] [b] pos) (tSB X.K G W (mTest (mBin f m n))) :=
  pt_of (pt_cmpR ho ha hb hm) fun σ H Q h => rs_bin hf (rs_test h)
theorem pS_ix {f : D → D → Sto → R D} {r : R2} (ho : IxR X r) (hf : Ad2 X.K G f r) (ha : PE X a (tS X.K G W m)) (hb : PE X b (tS X.K G W n)) (hp : PlainIx b) : PE X (.Subscript a b pos) (tS X.K G W (mBin f m n)) :=
  pe_of (pe_ix ho ha hb hp) fun _ _ _ => rs_bin hf
theorem rs_app {f : List D → Sto → R D} {r : List V → Hp → VK → Prop} {k : MA} {Q : VK} (hf : AdL K G f r) (h : tS K G W (mApp f k) σ H Q) : tCB r (tSA K G W k) σ H Q :=
  rs_bind (f := fun as _ st1 => f as st1) h fun as xs H1 Z env st R S p q => hf _ Z H1 st as xs Q R p q
end
/-! ### new things -/
section
variable {K : PySem.W.Frag} {G : GA} {Z : Gh} {H : Hp} {st : Sto} {E : XK} {ds : List D} {vs : List V} {Q : VK}
theorem Post.newL (h : Post K G (rD K G) E Z (.ok (.lst ds) st) Q) (R : RelH K G Z H st) (r : RepL K G Z ds vs) {p : Addr} (hp : H p = none) : Q (.ref p) (upd H p (.lst vs)) := by
  obtain ⟨l, R'⟩ := R.lay (o := .lst vs) hp
  exact h _ _ _ l R' ⟨p, vs, rfl, upd_same, RepL.up l ds vs r⟩
theorem Post.newT (h : Post K G (rD K G) E Z (.ok (.tup ds) st) Q) (R : RelH K G Z H st) (r : RepL K G Z ds vs) {p : Addr} (hp : H p = none) : Q (.ref p) (upd H p (.tup vs)) := by
  obtain ⟨l, R'⟩ := R.lay (o := .tup vs) hp
  exact h _ _ _ l R' ⟨p, vs, rfl, .inl (.inl upd_same), RepL.up l ds vs r⟩
theorem Post.newC (h : Post K G (rD K G) E Z (.ok (.ptr st.length) (st ++ [.lst ds])) Q) (R : RelH K G Z H st) (r : RepL K G Z ds vs) {p : Addr} (hp : H p = none) : Q (.ref p) (upd H p (.lst vs)) := by
  obtain ⟨l, R'⟩ := R.add (o := .lst vs) (c := .lst ds) hp fun Z' l => ⟨vs, upd_same, RepL.up l ds vs r⟩
  exact h _ _ _ l R' ⟨p, by show (Z.rho ++ [p])[st.length]? = some p; rw [← R.len]; simp, rfl⟩
end
/-! ### arithmetic and order -/
def dI (f : Int → Int → D) (a b : D) (st : Sto) : R D := match a, b with
  | .int i, .int j => .ok (f i j) st
  | _, _ => .stuck
def dAdd (a b : D) (st : Sto) : R D := match rd st a, rd st b with
  | .int i, .int j => .ok (.int (i + j)) st
  | .str s, .str t => if s.length + t.length ≤ sizeLine then .ok (.str (s ++ t)) st else .stuck
  | .lst xs, .lst ys => if xs.length + ys.length ≤ sizeLine then .ok (.lst (xs ++ ys)) st else .stuck
  | .tup xs, .tup ys => if xs.length + ys.length ≤ sizeLine then .ok (.tup (xs ++ ys)) st else .stuck
  | _, _ => .stuck
def dSub : D → D → Sto → R D := dI fun i j => .int (i - j)
def dMul (a b : D) (st : Sto) : R D := match a, b with
  | .int i, .int j => if (-(2 ^ 64) < i ∧ i < 2 ^ 64) ∨ (-(2 ^ 64) < j ∧ j < 2 ^ 64) then .ok (.int (i * j)) st else .stuck
  | _, _ => .stuck
def dMod (a b : D) (st : Sto) : R D := match a, b with
  | .int i, .int j => if j ≠ 0 then .ok (.int (i.fmod j)) st else .stuck
  | _, _ => .stuck
def dDiv (a b : D) (st : Sto) : R D := match a, b with
  | .int i, .int j => if j ≠ 0 ∧ j.natAbs < 1073741824 then .ok (.int (i.fdiv j)) st else .stuck
  | _, _ => .stuck
def dPow (a b : D) (st : Sto) : R D := match a, b with
  | .int i, .int j => if 0 ≤ j ∧ j ≤ 1000000 ∧ i.natAbs < 2 ^ 64 then .ok (.int (i ^ j.toNat)) st else .stuck
  | _, _ => .stuck
def dLt (a b : D) (st : Sto) : R D := match a, b with
  | .int i, .int j => .ok (.bl (decide (i < j))) st
  | .str s, .str t => .ok (.bl (decide (s.cps.toList < t.cps.toList))) st
  | _, _ => .stuck
def dGt : D → D → Sto → R D := dI fun i j => .bl (decide (j < i))
def dGe : D → D → Sto → R D := dI fun i j => .bl (decide (j ≤ i))
section
variable {K : PySem.W.Frag} {G : GA}
theorem ad_I {f : Int → Int → D} {g : Int → Int → V} (hfg : ∀ Z i j, Rep K G Z (f i j) (g i j)) : Ad2 K G (dI f) (rI0 g) := by
  intro E Z H st a b x y Q R p q h
  unfold dI at h
  split at h
  · cases (show x = _ from p); cases (show y = _ from q)
    exact ⟨_, _, rfl, rfl, Post.now (P := rD K G) h R (hfg Z _ _)⟩
  · exact h.elim
theorem ad_sub : Ad2 K G dSub (rI0 fun i j => .int (i - j)) := ad_I fun _ _ _ => rfl
theorem ad_gt : Ad2 K G dGt (rI0 fun i j => .bl (decide (j < i))) := ad_I fun _ _ _ => rfl
theorem ad_ge : Ad2 K G dGe (rI0 fun i j => .bl (decide (j ≤ i))) := ad_I fun _ _ _ => rfl
theorem ad_mul : Ad2 K G dMul (rI CMul fun i j => .int (i * j)) := by
  intro E Z H st a b x y Q R p q h
  unfold dMul at h
  split at h
  · cases (show x = _ from p); cases (show y = _ from q)
    split at h
    · rename_i hc; exact ⟨_, _, rfl, rfl, hc, Post.now (P := rD K G) h R rfl⟩
    · exact h.elim
  · exact h.elim
theorem ad_mod : Ad2 K G dMod (rI (fun _ j => j ≠ 0) fun i j => .int (i.fmod j)) := by
  intro E Z H st a b x y Q R p q h
  unfold dMod at h
  split at h
  · cases (show x = _ from p); cases (show y = _ from q)
    split at h
    · rename_i hc; exact ⟨_, _, rfl, rfl, hc, Post.now (P := rD K G) h R rfl⟩
    · exact h.elim
  · exact h.elim
theorem ad_div : Ad2 K G dDiv (rI CDivN fun i j => .int (i.fdiv j)) := by
  intro E Z H st a b x y Q R p q h
  unfold dDiv at h
  split at h
  · cases (show x = _ from p); cases (show y = _ from q)
    split at h
    · rename_i hc; exact ⟨_, _, rfl, rfl, hc, Post.now (P := rD K G) h R rfl⟩
    · exact h.elim
  · exact h.elim
theorem ad_pow : Ad2 K G dPow (rI CPow fun i j => .int (i ^ j.toNat)) := by
  intro E Z H st a b x y Q R p q h
  unfold dPow at h
  split at h
  · cases (show x = _ from p); cases (show y = _ from q)
    split at h
    · rename_i hc; exact ⟨_, _, rfl, rfl, hc, Post.now (P := rD K G) h R rfl⟩
    · exact h.elim
  · exact h.elim
abbrev rLt : R2 := fun x y H Q => rI0 (fun i j => .bl (decide (i < j))) x y H Q ∨ ∃ i j, x = V.str i ∧ y = V.str j ∧ Q (V.bl (decide (i.cps.toList < j.cps.toList))) H
theorem op_ltS {X : Cx} : OpR X (compareOp .Lt) rLt := OpR.or op_lt op_lt_str
theorem ad_lt : Ad2 K G dLt rLt := by
  intro E Z H st a b x y Q R p q h
  unfold dLt at h
  split at h
  · cases (show x = _ from p); cases (show y = _ from q)
    exact .inl ⟨_, _, rfl, rfl, Post.now (P := rD K G) h R rfl⟩
  · cases (show x = _ from p); cases (show y = _ from q)
    exact .inr ⟨_, _, rfl, rfl, Post.now (P := rD K G) h R rfl⟩
  · exact h.elim
abbrev rAdd (K : PySem.W.Frag) : R2 := fun x y H Q => (rI0 (fun i j => .int (i + j)) x y H Q ∨ ∃ i j, x = V.str i ∧ y = V.str j ∧ i.length + j.length ≤ sizeLine ∧ Q (V.str (i ++ j)) H) ∨ (rCat x y H Q ∨ rCatA K x y H Q)
theorem op_addS {X : Cx} : OpR X (binaryOp .Add) (rAdd X.K) := OpR.or (OpR.or op_add op_add_str) (OpR.or op_cat op_catA)
theorem ad_add : Ad2 K G dAdd (rAdd K) := by
  intro E Z H st a b x y Q R p q h
  unfold dAdd at h
  split at h
  · rename_i e1 e2
    cases RelH.int p e1; cases RelH.int q e2
    exact .inl (.inl ⟨_, _, rfl, rfl, Post.now (P := rD K G) h R rfl⟩)
  · rename_i e1 e2
    cases RelH.str p e1; cases RelH.str q e2
    split at h
    · rename_i hz; exact .inl (.inr ⟨_, _, rfl, rfl, hz, Post.now (P := rD K G) h R rfl⟩)
    · exact h.elim
  · rename_i e1 e2
    obtain ⟨l, xs, rfl, h1, r1⟩ := R.lst p e1
    obtain ⟨l', ys, rfl, h2, r2⟩ := R.lst q e2
    split at h
    · rename_i hz
      refine .inr (.inl ⟨l, l', xs, ys, rfl, rfl, h1, h2, by rw [← r1.length, ← r2.length]; exact hz, fun p hp => h.newL R (r1.append r2) hp⟩)
    · exact h.elim
  · rename_i e1 e2
    obtain ⟨l, xs, rfl, h1, r1⟩ := R.tup p e1
    obtain ⟨l', ys, rfl, h2, r2⟩ := R.tup q e2
    split at h
    · rename_i hz
      cases rd_self e1 rfl
      cases rd_self e2 rfl
      refine .inr (.inr ⟨l, l', xs, ys, rfl, rfl, h1, h2, by rw [← r1.length, ← r2.length]; exact hz, fun e => ?_, fun _ e => ?_, fun _ _ p hp => h.newT R (r1.append r2) hp⟩)
      · subst e
        have := r1.length
        cases List.length_eq_zero_iff.mp (by simpa using this)
        exact Post.now (P := rD K G) h R q
      · subst e
        have := r2.length
        cases List.length_eq_zero_iff.mp (by simpa using this)
        rw [List.append_nil] at h
        exact Post.now (P := rD K G) h R p
    · exact h.elim
  · exact h.elim
end
/-! ### items, lengths, slices -/
def dIx (a b : D) (st : Sto) : R D := match rd st a, b with
  | .lst xs, .int i => match atI xs i with | some d => .ok d st | none => .stuck
  | .rls xs, .int i => match atI xs i with | some d => .ok d st | none => .stuck
  | .tup xs, .int i => match atI xs i with | some d => .ok d st | none => .stuck
  | .str z, .int i => if z.length ≤ sizeLine then (match atI z.cps.toList i with | some c => .ok (.str ⟨#[c]⟩) st | none => .stuck) else .stuck
  | _, _ => .stuck
def dLen (as : List D) (st : Sto) : R D := match as with
  | [a] => match rd st a with
    | .lst xs => .ok (.int xs.length) st
    | .rls xs => .ok (.int xs.length) st
    | .tup xs => .ok (.int xs.length) st
    | .str z => if z.length ≤ sizeLine then .ok (.int z.length) st else .stuck
    | .dct ks _ => .ok (.int ks.length) st
    | _ => .stuck
  | _ => .stuck
section
variable {K : PySem.W.Frag} {G : GA} {X : Cx}
theorem RepL.atI {Z : Gh} {ds : List D} {vs : List V} {i : Int} {d : D} (r : RepL K G Z ds vs) (e : atI ds i = some d) : ∃ v, atI vs i = some v ∧ Rep K G Z d v := by
  unfold L2.atI at e ⊢
  rw [← r.length]
  cases q : ixN ds.length i with
  | none => rw [q] at e; cases e
  | some j =>
    rw [q] at e
    exact r.get e
abbrev rIx (K : PySem.W.Frag) : R2 := fun x y H Q => (rIxL K x y H Q ∨ rIxT K x y H Q) ∨ rIxS x y H Q
theorem ix_S : IxR X (rIx X.K) := IxR.or' (IxR.or' ix_list ix_tup) ix_str
theorem ad_ix : Ad2 K G dIx (rIx K) := by
  intro E Z H st a b x y Q R p q h
  unfold dIx at h
  split at h
  · rename_i e1
    obtain ⟨l, xs, rfl, h1, r1⟩ := R.lst p e1
    cases (show y = _ from q)
    split at h
    · rename_i e2
      obtain ⟨v, e3, rv⟩ := r1.atI e2
      exact .inl (.inl ⟨l, xs, _, v, rfl, rfl, SqL.of h1, e3, Post.now (P := rD K G) h R rv⟩)
    · exact h.elim
  · rename_i e1
    obtain ⟨l, xs, rfl, h1, r1⟩ := R.rls p e1
    cases (show y = _ from q)
    split at h
    · rename_i e2
      obtain ⟨v, e3, rv⟩ := r1.atI e2
      exact .inl (.inl ⟨l, xs, _, v, rfl, rfl, h1, e3, Post.now (P := rD K G) h R rv⟩)
    · exact h.elim
  · rename_i e1
    obtain ⟨l, xs, rfl, h1, r1⟩ := R.tup p e1
    cases (show y = _ from q)
    split at h
    · rename_i e2
      obtain ⟨v, e3, rv⟩ := r1.atI e2
      exact .inl (.inr ⟨l, xs, _, v, rfl, rfl, h1, e3, Post.now (P := rD K G) h R rv⟩)
    · exact h.elim
  · rename_i e1
    cases RelH.str p e1
    cases (show y = _ from q)
    split at h
    · rename_i hz
      split at h
      · rename_i c e2
        exact .inr ⟨_, _, c, rfl, rfl, hz, e2, Post.now (P := rD K G) h R rfl⟩
      · exact h.elim
    · exact h.elim
  · exact h.elim
abbrev rLen (K : PySem.W.Frag) : List V → Hp → VK → Prop := fun xs H Q => (∃ p ys, xs = [V.ref p] ∧ (SqL K H p ys ∨ SqT K H p ys) ∧ Q (V.int ↑ys.length) H) ∨ ((∃ z, xs = [V.str z] ∧ z.length ≤ sizeLine ∧ Q (V.int ↑z.length) H) ∨ (∃ a kvs, xs = [V.ref a] ∧ Rd H a (HO.dK kvs) ∧ Q (V.int ↑kvs.length) H))
theorem len_rdD : CallR X (.builtin "len") (fun xs H Q => ∃ a kvs, xs = [V.ref a] ∧ Rd H a (HO.dK kvs) ∧ Q (.int kvs.length) H) := fun pins s σ H xs us Q I r h => by
  obtain ⟨a, kvs, rfl, ha, q⟩ := h
  obtain ⟨u, rfl, ru⟩ := vals1 r
  cases ru
  exact d_len I ha fun t s' I' => ⟨.int kvs.length, H, I', ⟨t, rfl⟩, q⟩
theorem cr_lenS : CallR X (.builtin "len") (rLen X.K) := CallR.or call_len_seq (CallR.or call_len_str len_rdD)
theorem RepL.one {Z : Gh} {a : D} {xs : List V} (r : RepL K G Z [a] xs) : ∃ x, xs = [x] ∧ Rep K G Z a x := by
  obtain ⟨x, t, rfl, p, q⟩ := r
  cases (show t = [] from q)
  exact ⟨x, rfl, p⟩
theorem RepL.two {Z : Gh} {a b : D} {xs : List V} (r : RepL K G Z [a, b] xs) : ∃ x y, xs = [x, y] ∧ Rep K G Z a x ∧ Rep K G Z b y := by
  obtain ⟨x, t, rfl, p, q⟩ := r
  obtain ⟨y, rfl, q2⟩ := RepL.one q
  exact ⟨x, y, rfl, p, q2⟩
theorem ad_len : AdL K G dLen (rLen K) := by
  intro E Z H st as xs Q R r h
  unfold dLen at h
  split at h
  · rename_i a
    obtain ⟨x, rfl, p⟩ := RepL.one r
    split at h
    · rename_i e1
      obtain ⟨l, xs, rfl, h1, r1⟩ := R.lst p e1
      exact .inl ⟨l, xs, rfl, .inl (SqL.of h1), Post.now (P := rD K G) h R (by rw [r1.length]; rfl)⟩
    · rename_i e1
      obtain ⟨l, xs, rfl, h1, r1⟩ := R.rls p e1
      exact .inl ⟨l, xs, rfl, .inl h1, Post.now (P := rD K G) h R (by rw [r1.length]; rfl)⟩
    · rename_i e1
      obtain ⟨l, xs, rfl, h1, r1⟩ := R.tup p e1
      exact .inl ⟨l, xs, rfl, .inr h1, Post.now (P := rD K G) h R (by rw [r1.length]; rfl)⟩
    · rename_i e1
      cases RelH.str p e1
      split at h
      · rename_i hz; exact .inr (.inl ⟨_, rfl, hz, Post.now (P := rD K G) h R rfl⟩)
      · exact h.elim
    · rename_i e1
      obtain ⟨l, vs, rfl, h1, hn, r1⟩ := R.dct p e1
      exact .inr (.inr ⟨l, _, rfl, h1, Post.now (P := rD K G) h R (by rw [List.length_zip, ← hn, Nat.min_self]; rfl)⟩)
    · exact h.elim
  · exact h.elim
end
end S
/-! data: ==, in, displays, slices, built-in calls -/
namespace S
open PySem L2
/-! ### flat things -/
def isFl : D → Bool
  | .non | .bl _ | .int _ | .str _ => true
  | _ => false
def fl : D → V
  | .bl b => .bl b
  | .int i => .int i
  | .str x => .str x
  | _ => .non
/-- the items of a list or a tuple -/
def items (st : Sto) (d : D) : Option (List D) := match rd st d with
  | .lst xs => some xs
  | .rls xs => some xs
  | .tup xs => some xs
  | _ => none
section
variable {K : PySem.W.Frag} {G : GA} {Z : Gh} {H : Hp} {st : Sto}
theorem rep_fl {d : D} {v : V} (h : isFl d = true) (r : Rep K G Z d v) : v = fl d := by
  cases d <;> first | exact r | cases h
theorem rep_fls : ∀ {ds : List D} {vs : List V}, ds.all isFl = true → RepL K G Z ds vs → vs = ds.map fl
  | [], _, _, r => r
  | d :: ds, _, h, ⟨v, t, e, p, q⟩ => by
    subst e
    rw [List.all_cons, Bool.and_eq_true] at h
    rw [List.map_cons, ← rep_fl h.1 p, ← rep_fls h.2 q]
theorem flat_fl {d : D} (h : isFl d = true) : flatV (fl d) = true := by cases d <;> first | rfl | cases h
theorem flat_fls : ∀ {ds : List D}, ds.all isFl = true → (ds.map fl).all flatV = true
  | [], _ => rfl
  | d :: ds, h => by
    rw [List.all_cons, Bool.and_eq_true] at h
    rw [List.map_cons, List.all_cons, flat_fl h.1, flat_fls h.2]; rfl
theorem RelH.items {d : D} {v : V} {xs : List D} (R : RelH K G Z H st) (r : Rep K G Z d v) (e : items st d = some xs) : ∃ p vs, v = .ref p ∧ (SqL K H p vs ∨ SqT K H p vs) ∧ RepL K G Z xs vs := by
  unfold S.items at e
  split at e <;> cases e
  · rename_i q; obtain ⟨p, vs, h1, h2, h3⟩ := R.lst r q; exact ⟨p, vs, h1, .inl (SqL.of h2), h3⟩
  · rename_i q; obtain ⟨p, vs, h1, h2, h3⟩ := R.rls r q; exact ⟨p, vs, h1, .inl h2, h3⟩
  · rename_i q; obtain ⟨p, vs, h1, h2, h3⟩ := R.tup r q; exact ⟨p, vs, h1, .inr h2, h3⟩
end
/-! ### data -/
mutual
def toPy : D → Option PyData
  | .non => some .none
  | .bl b => some (.bool b)
  | .int i => some (.int i)
  | .str x => some (.str x)
  | .lst xs => (toPyL xs).map .list
  | .rls xs => (toPyL xs).map .list
  | .tup xs => (toPyL xs).map .tuple
  | _ => none
def toPyL : List D → Option (List PyData)
  | [] => some []
  | d :: ds => (toPy d).bind fun p => (toPyL ds).map fun r => p :: r
end
section
variable {K : PySem.W.Frag} {G : GA} {Z : Gh} {H : Hp}
mutual
theorem dp_of (e : Same Z.fz H) : ∀ (d : D) (v : V) (p : PyData), Rep K G Z d v → toPy d = some p → Dp K H v p
  | .non, _, _, r, h => by cases (show _ = _ from r); cases h; exact .non
  | .bl _, _, _, r, h => by cases (show _ = _ from r); cases h; exact .bl _
  | .int _, _, _, r, h => by cases (show _ = _ from r); cases h; exact .int _
  | .str _, _, _, r, h => by cases (show _ = _ from r); cases h; exact .str _
  | .lst xs, _, _, ⟨a, vs, q, s, r⟩, h => by
    subst q
    unfold toPy at h
    cases t : toPyL xs with
    | none => rw [t] at h; cases h
    | some ps => rw [t] at h; cases h; exact .lst (SqL.of (e _ _ s)) (dps_of e xs vs ps r t)
  | .rls xs, _, _, ⟨a, vs, q, s, r⟩, h => by
    subst q
    unfold toPy at h
    cases t : toPyL xs with
    | none => rw [t] at h; cases h
    | some ps => rw [t] at h; cases h; exact .lst (e.seq s) (dps_of e xs vs ps r t)
  | .tup xs, _, _, ⟨a, vs, q, s, r⟩, h => by
    subst q
    unfold toPy at h
    cases t : toPyL xs with
    | none => rw [t] at h; cases h
    | some ps => rw [t] at h; cases h; exact .tup (Same.sqt' e s) (dps_of e xs vs ps r t)
  | .dct _ _, _, _, _, h => by unfold toPy at h; cases h
  | .ins _ _ _, _, _, _, h => by unfold toPy at h; cases h
  | .ptr _, _, _, _, h => by unfold toPy at h; cases h
  | .cls _, _, _, _, h => by unfold toPy at h; cases h
  | .dkd _ _, _, _, _, h => by unfold toPy at h; cases h
  | .ptp _, _, _, _, h => by unfold toPy at h; cases h
  | .fn _, _, _, _, h => by unfold toPy at h; cases h
  | .exv _ _ _, _, _, _, h => by unfold toPy at h; cases h
theorem dps_of (e : Same Z.fz H) : ∀ (ds : List D) (vs : List V) (ps : List PyData), RepL K G Z ds vs → toPyL ds = some ps → DpAll K H vs ps
  | [], _, _, r, h => by cases (show _ = _ from r); unfold toPyL at h; cases h; exact .nil
  | d :: ds, _, _, ⟨v, t, q, p, r⟩, h => by
    subst q
    unfold toPyL at h
    cases h1 : toPy d with
    | none => rw [h1] at h; cases h
    | some y =>
      cases h2 : toPyL ds with
      | none => rw [h1, h2] at h; cases h
      | some ys => rw [h1, h2] at h; cases h; exact .cons (dp_of e d v y p h1) (dps_of e ds t ys r h2)
end
theorem dp_rd {st : Sto} {d : D} {v : V} {p : PyData} (R : RelH K G Z H st) (r : Rep K G Z d v) (h : toPy (rd st d) = some p) : Dp K H v p := by
  rcases rd_flat (st := st) (d := d) rfl with ⟨i, rfl⟩ | q
  · rcases rd_ptr (st := st) i with ⟨xs, q⟩ | ⟨_, _, q⟩ | ⟨_, _, q⟩ | ⟨_, _, _, q⟩ | q
    · obtain ⟨l, vs, rfl, h1, h2⟩ := R.lst r q
      rw [q] at h
      unfold toPy at h
      cases t : toPyL xs with
      | none => rw [t] at h; cases h
      | some ps => rw [t] at h; cases h; exact .lst (SqL.of h1) (dps_of R.fz xs vs ps h2 t)
    · rw [q] at h; unfold toPy at h; cases h
    · rw [q] at h; unfold toPy at h; cases h
    · rw [q] at h; unfold toPy at h; cases h
    · rw [q] at h; unfold toPy at h; cases h
  · rw [← q] at h; exact dp_of R.fz d v p r h
end
/-- whether two things are equal, as far as they are data -/
def eqD (st : Sto) (a b : D) : Option Bool :=
  if isFl a && isFl b && scal (fl a) (fl b) then some (decide (fl a = fl b)) else
  match toPy (rd st a), toPy (rd st b) with
  | some p, some q => if SeqAt.shaped p && SeqAt.shaped q then some (PyData.eqv p q) else none
  | _, _ => none
def dEq (a b : D) (st : Sto) : R D := match eqD st a b with
  | some k => .ok (.bl k) st
  | none => .stuck
def dNe (a b : D) (st : Sto) : R D := match eqD st a b with
  | some k => .ok (.bl (!k)) st
  | none => .stuck
def dIn (a b : D) (st : Sto) : R D := match items st b with
  | some ys => if isFl a && ys.all isFl then .ok (.bl (inV (fl a) (ys.map fl))) st else .stuck
  | none => match a, b with
    | .str s, .str z => if s.cps.size = 1 then .ok (.bl (decide (s.cps.toList.headD 0 ∈ z.cps.toList))) st else .ok (.bl (!(Builtin.Str.occurrences z s 0 z.length 1).isEmpty)) st
    | _, _ => .stuck
def dNotIn (a b : D) (st : Sto) : R D := match items st b with
  | some ys => if isFl a && ys.all isFl then .ok (.bl (!inV (fl a) (ys.map fl))) st else .stuck
  | none => match a, b with
    | .str s, .str z => if s.cps.size = 1 then .ok (.bl (!decide (s.cps.toList.headD 0 ∈ z.cps.toList))) st else .stuck
    | _, _ => .stuck
section
variable {K : PySem.W.Frag} {G : GA} {X : Cx}
abbrev rEqS (K : PySem.W.Frag) : R2 := fun x y H Q => rEq x y H Q ∨ rEqD K x y H Q
abbrev rNeS (K : PySem.W.Frag) : R2 := fun x y H Q => rNe x y H Q ∨ rNeD K x y H Q
theorem op_eqS (hu : X.A.units + 64 < cLine) : OpR X (compareOp .Eq) (rEqS X.K) := OpR.or op_eq (op_eqD hu)
theorem op_neS (hu : X.A.units + 64 < cLine) : OpR X (compareOp .NotEq) (rNeS X.K) := OpR.or op_ne (op_neD hu)
theorem eqD_of {Z : Gh} {H : Hp} {st : Sto} {a b : D} {x y : V} {k : Bool} (R : RelH K G Z H st) (p : Rep K G Z a x) (q : Rep K G Z b y) (h : eqD st a b = some k) :
    (scal x y = true ∧ k = decide (x = y)) ∨ ∃ d e, Dp K H x d ∧ Dp K H y e ∧ SeqAt.shaped d = true ∧ SeqAt.shaped e = true ∧ k = PyData.eqv d e := by
  unfold eqD at h
  split at h
  · rename_i hc
    rw [Bool.and_eq_true, Bool.and_eq_true] at hc
    cases h
    rw [rep_fl hc.1.1 p, rep_fl hc.1.2 q]
    exact .inl ⟨hc.2, rfl⟩
  · split at h
    · rename_i d e h1 h2
      split at h <;> cases h
      rename_i hs
      rw [Bool.and_eq_true] at hs
      exact .inr ⟨d, e, dp_rd R p h1, dp_rd R q h2, hs.1, hs.2, rfl⟩
    · cases h
theorem ad_eq : Ad2 K G dEq (rEqS K) := by
  intro E Z H st a b x y Q R p q h
  unfold dEq at h
  split at h
  · rename_i k e
    rcases eqD_of R p q e with ⟨h1, rfl⟩ | ⟨d, e', h1, h2, h3, h4, rfl⟩
    · exact .inl ⟨h1, Post.now (P := rD K G) h R rfl⟩
    · exact .inr ⟨d, e', h1, h2, h3, h4, Post.now (P := rD K G) h R rfl⟩
  · exact h.elim
theorem ad_ne : Ad2 K G dNe (rNeS K) := by
  intro E Z H st a b x y Q R p q h
  unfold dNe at h
  split at h
  · rename_i k e
    rcases eqD_of R p q e with ⟨h1, rfl⟩ | ⟨d, e', h1, h2, h3, h4, rfl⟩
    · exact .inl ⟨h1, Post.now (P := rD K G) h R rfl⟩
    · exact .inr ⟨d, e', h1, h2, h3, h4, Post.now (P := rD K G) h R rfl⟩
  · exact h.elim
abbrev rSign : R2 := fun x y H Q => ∃ c z, x = V.str { cps := #[c] } ∧ y = V.str z ∧ Q (V.bl (decide (c ∈ z.cps.toList))) H
abbrev rSubs : R2 := fun x y H Q => ∃ i j, x = V.str i ∧ y = V.str j ∧ Q (V.bl !(Builtin.Str.occurrences j i 0 j.length 1).isEmpty) H
abbrev rInS (K : PySem.W.Frag) : R2 := fun x y H Q => rIn K false x y H Q ∨ (rSign x y H Q ∨ rSubs x y H Q)
abbrev rNotSign : R2 := fun x y H Q => ∃ c z, x = V.str { cps := #[c] } ∧ y = V.str z ∧ Q (V.bl (!decide (c ∈ z.cps.toList))) H
abbrev rNotInS (K : PySem.W.Frag) : R2 := fun x y H Q => rIn K true x y H Q ∨ rNotSign x y H Q
theorem op_inS : OpR X (compareOp .In) (rInS X.K) := OpR.or op_in_seq (OpR.or op_in_sign op_in_str)
theorem op_notInS : OpR X (compareOp .NotIn) (rNotInS X.K) := OpR.or op_notIn_seq op_notIn_sign
theorem one_sign {s : Str} (h : s.cps.size = 1) : s = ⟨#[s.cps.toList.headD 0]⟩ := by
  obtain ⟨⟨l⟩⟩ := s
  match l, h with
  | [c], _ => rfl
theorem ad_in : Ad2 K G dIn (rInS K) := by
  intro E Z H st a b x y Q R p q h
  unfold dIn at h
  split at h
  · rename_i ys e
    split at h
    · rename_i hc
      rw [Bool.and_eq_true] at hc
      obtain ⟨l, vs, rfl, hs, r⟩ := R.items q e
      rw [rep_fl hc.1 p]
      refine .inl ⟨l, vs, rfl, hs, flat_fl hc.1, by rw [rep_fls hc.2 r]; exact flat_fls hc.2, ?_⟩
      rw [if_neg Bool.false_ne_true, rep_fls hc.2 r]
      exact Post.now (P := rD K G) h R rfl
    · exact h.elim
  · split at h
    · rename_i s z _
      cases (show x = _ from p); cases (show y = _ from q)
      split at h
      · rename_i h1
        exact .inr (.inl ⟨_, z, by rw [← one_sign h1], rfl, Post.now (P := rD K G) h R rfl⟩)
      · exact .inr (.inr ⟨_, _, rfl, rfl, Post.now (P := rD K G) h R rfl⟩)
    · exact h.elim
theorem ad_notIn : Ad2 K G dNotIn (rNotInS K) := by
  intro E Z H st a b x y Q R p q h
  unfold dNotIn at h
  split at h
  · rename_i ys e
    split at h
    · rename_i hc
      rw [Bool.and_eq_true] at hc
      obtain ⟨l, vs, rfl, hs, r⟩ := R.items q e
      rw [rep_fl hc.1 p]
      refine .inl ⟨l, vs, rfl, hs, flat_fl hc.1, by rw [rep_fls hc.2 r]; exact flat_fls hc.2, ?_⟩
      rw [if_pos rfl, rep_fls hc.2 r]
      exact Post.now (P := rD K G) h R rfl
    · exact h.elim
  · split at h
    · rename_i s z _
      cases (show x = _ from p); cases (show y = _ from q)
      split at h
      · rename_i h1
        exact .inr ⟨_, z, by rw [← one_sign h1], rfl, Post.now (P := rD K G) h R rfl⟩
      · exact h.elim
    · exact h.elim
end
/-! ### displays -/
def mTup (m : MA) : M := fun env st => (m env st).bind fun ds st1 => if ds.length ≤ sizeLine then .ok (.tup ds) st1 else .stuck
def mLst (m : MA) : M := fun env st => (m env st).bind fun ds st1 => if ds.length ≤ sizeLine then .ok (.lst ds) st1 else .stuck
def mLstC (m : MA) : M := fun env st => (m env st).bind fun ds st1 => if ds.length ≤ sizeLine then .ok (.ptr st1.length) (st1 ++ [.lst ds]) else .stuck
section
variable {K : PySem.W.Frag} {G : GA} {W : WX} {X : Cx} {e : Expr} {es : List Expr} {m : MA} {pos : Pos}
theorem pS_tup {k} (h : PA X es (tSA K G W m)) : PE X (.Tuple es k pos) (tS K G W (mTup m)) :=
  pe_of (pe_tup h) fun σ H Q h => rs_bind (f := fun ds _ st1 => if ds.length ≤ sizeLine then R.ok (D.tup ds) st1 else .stuck) h fun ds vs H1 Z env st R S p q => by
    split at q
    · rename_i hz; exact ⟨by rw [← RepL.length p]; exact hz, fun l hl => q.newT R p hl⟩
    · exact q.elim
theorem pS_lst (h : PA X es (tSA K G W m)) : PE X (.List es pos) (tS K G W (mLst m)) :=
  pe_of (pe_lst h) fun σ H Q h => rs_bind (f := fun ds _ st1 => if ds.length ≤ sizeLine then R.ok (D.lst ds) st1 else .stuck) h fun ds vs H1 Z env st R S p q => by
    split at q
    · rename_i hz; exact ⟨by rw [← RepL.length p]; exact hz, fun l hl => q.newL R p hl⟩
    · exact q.elim
theorem pS_lstC (h : PA X es (tSA K G W m)) : PE X (.List es pos) (tS K G W (mLstC m)) :=
  pe_of (pe_lst h) fun σ H Q h => rs_bind (f := fun ds _ st1 => if ds.length ≤ sizeLine then R.ok (D.ptr st1.length) (st1 ++ [.lst ds]) else .stuck) h fun ds vs H1 Z env st R S p q => by
    split at q
    · rename_i hz; exact ⟨by rw [← RepL.length p]; exact hz, fun l hl => q.newC R p hl⟩
    · exact q.elim
end
/-! ### slices -/
section
variable {K : PySem.W.Frag} {G : GA} {W : WX} {X : Cx} {e : Expr} {pos : Pos}
theorem SlR.or {r r' : V → Option Int → Option Int → Hp → VK → Prop} (h : SlR X r) (h' : SlR X r') : SlR X (fun x l u H Q => r x l u H Q ∨ r' x l u H Q) := by
  intro pins s σ H x v vl vu lo hi sl Q I rv c1 c2 c3 q
  exact q.elim (h pins s σ H x v vl vu lo hi sl Q I rv c1 c2 c3) (h' pins s σ H x v vl vu lo hi sl Q I rv c1 c2 c3)
end
end S
/-! calls of built-in things, methods, fields, texts -/
namespace S
open PySem PySem.Spec L2
section
variable {K : PySem.W.Frag} {G : GA} {Z : Gh}
end
/-! ### f(..), f a built-in -/
section
variable {G : GA} {W : WX} {X : Cx} {x : Str} {p pos : Pos} {e : Expr} {es : List Expr} {id T : String} {r : List V → Hp → VK → Prop} {f : List D → Sto → R D} {m : MA}
theorem pS_callB (hc : CallR X (.builtin id) r) (hf : AdL X.K G f r) (hg : Gl X x) (hm : X.mg x = none) (hv : bootBuiltins x = some (.builtin id)) (ha : PA X (e :: es) (tSA X.K G W m)) (hn : x ≠ "__name__" := by decide) (hdb : (x == ("__debug__" : Str)) = false := by decide)
    (he : starEach (e :: es) X.env = (false, eval e X.env) :: starEach es X.env := by rfl) (hpl : (backTo pos (starEach es X.env)).any (·.1) = false := by rfl) : PE X (.Call (.Name x p) (e :: es) [] pos) (tS X.K G W (mApp f m)) :=
  pe_of (pe_callB hc hg hm hv ha hn hdb he hpl) fun _ _ _ => rs_app hf
theorem pS_callTy (hc : CallR X (.type T) r) (hf : AdL X.K G f r) (hg : Gl X x) (hm : X.mg x = none) (hv : bootBuiltins x = some (.type T)) (ha : PA X (e :: es) (tSA X.K G W m)) (hn : x ≠ "__name__" := by decide) (hdb : (x == ("__debug__" : Str)) = false := by decide)
    (he : starEach (e :: es) X.env = (false, eval e X.env) :: starEach es X.env := by rfl) (hpl : (backTo pos (starEach es X.env)).any (·.1) = false := by rfl) : PE X (.Call (.Name x p) (e :: es) [] pos) (tS X.K G W (mApp f m)) :=
  pe_of (pe_callTy hc hg hm hv ha hn hdb he hpl) fun _ _ _ => rs_app hf
end
def dTuple (as : List D) (st : Sto) : R D := match as with
  | [a] => match items st a with
    | some xs => .ok (.tup xs) st
    | none => .stuck
  | _ => .stuck
def dInt (as : List D) (st : Sto) : R D := match as with
  | [.int i] => .ok (.int i) st
  | [.bl k] => .ok (.int (if k = true then 1 else 0)) st
  | _ => .stuck
def dAbs (as : List D) (st : Sto) : R D := match as with
  | [.int i] => .ok (.int (if i < 0 then -i else i)) st
  | _ => .stuck
def dMax (as : List D) (st : Sto) : R D := match as with
  | [.int i, .int j] => .ok (.int (if j > i then j else i)) st
  | _ => .stuck
def dMin (as : List D) (st : Sto) : R D := match as with
  | [.int i, .int j] => .ok (.int (if j < i then j else i)) st
  | _ => .stuck
section
variable {K : PySem.W.Frag} {G : GA} {X : Cx}
abbrev rTuple (K : PySem.W.Frag) : List V → Hp → VK → Prop := fun xs H Q => ∃ p ys, xs = [V.ref p] ∧ ((SqL K H p ys ∧ ∀ (l : Addr), H l = none → Q (V.ref l) (upd H l (HO.tup ys))) ∨ SqT K H p ys ∧ Q (V.ref p) H)
theorem ad_tuple : AdL K G dTuple (rTuple K) := by
  intro E Z H st as xs Q R r h
  unfold dTuple at h
  split at h
  · obtain ⟨x, rfl, p⟩ := RepL.one r
    split at h
    · rename_i e1
      unfold items at e1
      split at e1 <;> cases e1
      · rename_i q; obtain ⟨l, vs, rfl, h2, h3⟩ := R.lst p q; exact ⟨l, vs, rfl, .inl ⟨SqL.of h2, fun l hl => h.newT R h3 hl⟩⟩
      · rename_i q; obtain ⟨l, vs, rfl, h2, h3⟩ := R.rls p q; exact ⟨l, vs, rfl, .inl ⟨h2, fun l hl => h.newT R h3 hl⟩⟩
      · rename_i q
        obtain ⟨l, vs, rfl, h2, h3⟩ := R.tup p q
        cases rd_self q rfl
        exact ⟨l, vs, rfl, .inr ⟨h2, Post.now (P := rD K G) h R p⟩⟩
    · exact h.elim
  · exact h.elim
abbrev rInt : List V → Hp → VK → Prop := fun xs H Q => (∃ i, xs = [V.int i] ∧ Q (V.int i) H) ∨ ∃ k, xs = [V.bl k] ∧ Q (V.int (if k = true then 1 else 0)) H
theorem ad_int : AdL K G dInt rInt := by
  intro E Z H st as xs Q R r h
  unfold dInt at h
  split at h
  · obtain ⟨x, rfl, p⟩ := RepL.one r
    cases (show x = _ from p)
    exact .inl ⟨_, rfl, Post.now (P := rD K G) h R rfl⟩
  · obtain ⟨x, rfl, p⟩ := RepL.one r
    cases (show x = _ from p)
    exact .inr ⟨_, rfl, Post.now (P := rD K G) h R rfl⟩
  · exact h.elim
theorem ad_abs : AdL K G dAbs (fun xs H Q => ∃ i, xs = [V.int i] ∧ Q (V.int (if i < 0 then -i else i)) H) := by
  intro E Z H st as xs Q R r h
  unfold dAbs at h
  split at h
  · obtain ⟨x, rfl, p⟩ := RepL.one r
    cases (show x = _ from p)
    exact ⟨_, rfl, Post.now (P := rD K G) h R rfl⟩
  · exact h.elim
theorem ad_max : AdL K G dMax (fun xs H Q => ∃ i j, xs = [V.int i, V.int j] ∧ Q (V.int (if j > i then j else i)) H) := by
  intro E Z H st as xs Q R r h
  unfold dMax at h
  split at h
  · obtain ⟨x, y, rfl, p, q⟩ := RepL.two r
    cases (show x = _ from p); cases (show y = _ from q)
    exact ⟨_, _, rfl, Post.now (P := rD K G) h R rfl⟩
  · exact h.elim
theorem ad_min : AdL K G dMin (fun xs H Q => ∃ i j, xs = [V.int i, V.int j] ∧ Q (V.int (if j < i then j else i)) H) := by
  intro E Z H st as xs Q R r h
  unfold dMin at h
  split at h
  · obtain ⟨x, y, rfl, p, q⟩ := RepL.two r
    cases (show x = _ from p); cases (show y = _ from q)
    exact ⟨_, _, rfl, Post.now (P := rD K G) h R rfl⟩
  · exact h.elim
/-! sorting -/
theorem ltCps_iff (a b : List Nat) : PySem.Spec.ltCps a b = true ↔ a < b := by rw [PyProof.Rows.ltCps_eq, decide_eq_true_iff]
abbrev LeS (a b : Str) : Prop := PySem.Spec.ltCps b.cps.toList a.cps.toList = false
theorem LeS.trans {a b c : Str} (h : LeS a b) (h' : LeS b c) : LeS a c := by
  cases q : PySem.Spec.ltCps c.cps.toList a.cps.toList with
  | false => exact q
  | true =>
    have h1 : ¬ b.cps.toList < a.cps.toList := fun z => by rw [LeS, (ltCps_iff _ _).mpr z] at h; cases h
    have h2 : ¬ c.cps.toList < b.cps.toList := fun z => by rw [LeS, (ltCps_iff _ _).mpr z] at h'; cases h'
    exact absurd ((ltCps_iff _ _).mp q) (List.not_lt.mpr (List.le_trans (List.not_lt.mp h1) (List.not_lt.mp h2)))
end
/-! ### texts -/
section
variable {K : PySem.W.Frag} {G : GA} {W : WX} {X : Cx} {o e : Expr} {m n : M} {pos apos : Pos} {σ : St} {H : Hp}
end
/-! ### fields -/
section
variable {K : PySem.W.Frag} {G : GA} {W : WX} {X : Cx} {Z : Gh} {o e : Expr} {m n : M} {pos pos' : Pos} {σ : St} {H : Hp}
end
end S
/-! calls of own defs, of methods, of classes; what changes; loops -/
namespace S
open PySem L2
/-! ### what does not change any more -/
section
variable {K : PySem.W.Frag} {G : GA} {Z : Gh} {H : Hp} {st : Sto}
theorem RelH.frz {i : Nat} {c : C} {p : Addr} {o : HO} (R : RelH K G Z H st) (hi : st[i]? = some c) (hl : c.live = true) (hp : Z.rho[i]? = some p) (ho : H p = some o) :
    Z.le ⟨upd Z.fz p o, Z.rho, Z.tmp⟩ ∧ RelH K G ⟨upd Z.fz p o, Z.rho, Z.tmp⟩ H (st.set i .dead) := by
  have zp := R.off i c p hi hl hp
  have lt : i < st.length := (List.getElem?_eq_some_iff.mp hi).1
  have l : Z.le ⟨upd Z.fz p o, Z.rho, Z.tmp⟩ := ⟨fun b u e => by
    show upd Z.fz p o b = some u
    rw [upd_ne (ne_of_none e zp)]; exact e, ⟨[], by simp⟩, rfl⟩
  have alt : ∀ {j : Nat} {u : C}, (st.set i .dead)[j]? = some u → u.live = true → j ≠ i ∧ st[j]? = some u := fun {j u} e hu => by
    by_cases hj : j = i
    · subst hj
      rw [List.getElem?_set_self lt] at e
      cases e; cases hu
    · rw [List.getElem?_set_ne (Ne.symm hj)] at e
      exact ⟨hj, e⟩
  refine ⟨l, ⟨fun b u e => ?_, by rw [List.length_set]; exact R.len, fun j u a e1 e2 => ?_, fun j u a e1 hu e2 => ?_, fun j k u u' a e1 e2 h1 h2 r1 r2 => ?_, R.tmp, fun a u e => ⟨?_, fun j u' e1 hu => (R.tof a u e).2 j u' (alt e1 hu).2 hu⟩, G.mono l.fz R.lk⟩⟩
  · have e' : upd Z.fz p o b = some u := e
    by_cases hb : b = p
    · subst hb; rw [upd_same] at e'; cases e'; exact ho
    · rw [upd_ne hb] at e'; exact R.fz _ _ e'
  · cases hu : u.live with
    | false => cases u <;> first | trivial | cases hu
    | true => exact (R.cell j u a (alt e1 hu).2 e2).up l
  · obtain ⟨hj, e⟩ := alt e1 hu
    show upd Z.fz p o a = none
    have ne : a ≠ p := fun z => hj (R.inj j i u c p e hi hu hl (by rw [e2, z]) hp)
    rw [upd_ne ne]
    exact R.off j u a e hu e2
  · obtain ⟨_, e⟩ := alt e1 h1
    obtain ⟨_, e'⟩ := alt e2 h2
    exact R.inj j k u u' a e e' h1 h2 r1 r2
  · show upd Z.fz p o a = none
    have ne : a ≠ p := fun z => (R.tof a u e).2 i c hi hl (by rw [z]; exact hp)
    rw [upd_ne ne]; exact (R.tof a u e).1
end
def dFrz (d : D) (st : Sto) : R D := match d with
  | .ptr i => (match st[i]? with
    | some (.lst xs) => .ok (.lst xs) (st.set i .dead)
    | some (.dct ks ds) => .ok (.dct ks ds) (st.set i .dead)
    | some (.ins c ns ds) => .ok (.ins c ns ds) (st.set i .dead)
    | _ => .stuck)
  | d => .ok d st
section
variable {K : PySem.W.Frag} {G : GA} {W : WX} {X : Cx} {e : Expr} {m : M} {E : XK} {Z : Gh} {H : Hp} {st : Sto} {d : D} {v : V} {Q : VK}
theorem Post.frz (h : Post K G (rD K G) E Z (dFrz d st) Q) (R : RelH K G Z H st) (r : Rep K G Z d v) : Q v H := by
  unfold dFrz at h
  split at h
  · rename_i i
    obtain ⟨p, hp, rfl⟩ := r
    split at h
    · rename_i xs e1
      obtain ⟨vs, h1, h2⟩ := R.cell _ _ _ e1 hp
      obtain ⟨l, R'⟩ := R.frz e1 rfl hp h1
      exact h _ _ _ l R' ⟨p, vs, rfl, upd_same, RepL.up l _ _ h2⟩
    · rename_i ks ds e1
      obtain ⟨vs, h1, hn, h2⟩ := R.cell _ _ _ e1 hp
      obtain ⟨l, R'⟩ := R.frz e1 rfl hp h1
      exact h _ _ _ l R' ⟨p, vs, rfl, (.inl upd_same), hn, RepL.up l _ _ h2⟩
    · rename_i c ns ds e1
      obtain ⟨dx, vs, h1, hn, h2⟩ := R.cell _ _ _ e1 hp
      obtain ⟨l, R'⟩ := R.frz e1 rfl hp h1
      exact h _ _ _ l R' ⟨p, dx, vs, rfl, upd_same, hn, RepL.up l _ _ h2⟩
    · exact h.elim
  · exact Post.now (P := rD K G) h R r
end
/-! ### lists that change -/
def dAppend (a : D) (as : List D) (st : Sto) : R D := match a, as with
  | .ptr i, [d] => (match st[i]? with
    | some (.lst xs) => if xs.length < sizeLine then .ok .non (st.set i (.lst (xs ++ [d]))) else .stuck
    | _ => .stuck)
  | _, _ => .stuck
/-- the thing is a list of whatever sort -/
def isLst (st : Sto) (d : D) : Bool := match rd st d with
  | .lst _ => true
  | .rls _ => true
  | _ => false
def mLm (f : D → List D → Sto → R D) (m : M) (n : MA) : M := fun env st => (m env st).bind fun a st1 => if isLst st1 a = true then (n env st1).bind fun as st2 => f a as st2 else .stuck
def dSetIx (v o i : D) (st : Sto) : R D := match o, i with
  | .ptr j, .int k => (match st[j]? with
    | some (.lst xs) => (match ixN xs.length k with
      | some n => .ok .non (st.set j (.lst (xs.set n v)))
      | none => .stuck)
    | _ => .stuck)
  | _, _ => .stuck
def mSetIx (mo mi mv : M) : MS := mDo fun env st => (mv env st).bind fun v st1 => (mo env st1).bind fun o st2 => (mi env st2).bind fun i st3 => dSetIx v o i st3
section
variable {K : PySem.W.Frag} {G : GA} {W : WX} {X : Cx} {o e i : Expr} {es : List Expr} {m n k : M} {pos apos : Pos} {σ : St} {H : Hp}
def AdM (K : PySem.W.Frag) (G : GA) (f : D → List D → Sto → R D) (r : V → List V → Hp → VK → Prop) : Prop := ∀ (E : XK) (Z : Gh) (H : Hp) (st : Sto) (a : D) (as : List D) (x : V) (xs : List V) (Q : VK), RelH K G Z H st → Rep K G Z a x → RepL K G Z as xs → Post K G (rD K G) E Z (f a as st) Q → r x xs H Q
theorem ad_append : AdM K G dAppend rAppend := by
  intro E Z H st a as x xs Q R p r h
  unfold dAppend at h
  split at h
  · obtain ⟨l, hl, rfl⟩ := p
    obtain ⟨y, rfl, q⟩ := RepL.one r
    split at h
    · rename_i ys e1
      split at h
      · rename_i hz
        obtain ⟨vs, h1, h2⟩ := R.cell _ _ _ e1 hl
        refine ⟨l, vs, y, rfl, rfl, h1, by rw [← h2.length]; exact hz, ?_⟩
        exact Post.now (P := rD K G) (b := .non) h (R.put e1 rfl hl ⟨_, upd_same, h2.append ⟨y, [], rfl, q, rfl⟩⟩) rfl
      · exact h.elim
    · exact h.elim
  · exact h.elim
theorem RelH.isLst {Z : Gh} {st : Sto} {d : D} {v : V} (R : RelH K G Z H st) (r : Rep K G Z d v) (e : isLst st d = true) : tyV K "list" v H := by
  unfold S.isLst at e
  split at e
  · rename_i q; obtain ⟨p, vs, rfl, h2, h3⟩ := R.lst r q; exact .inl ⟨rfl, vs, SqL.of h2⟩
  · rename_i q; obtain ⟨p, vs, rfl, h2, h3⟩ := R.rls r q; exact .inl ⟨rfl, vs, h2⟩
  · cases e
theorem rs_lm {f : D → List D → Sto → R D} {r : V → List V → Hp → VK → Prop} {n : MA} {Q : VK} (hf : AdM K G f r) (h : tS K G W (mLm f m n) σ H Q) : tBM K "list" r (tS K G W m) (tSA K G W n) σ H Q :=
  rs_bind (f := fun a env st1 => if isLst st1 a = true then (n env st1).bind fun as st2 => f a as st2 else .stuck) h fun a x H1 Z env st R S p q => by
    split at q
    · rename_i hc
      exact ⟨R.isLst p hc, Z, env, st, R, S, q.bind fun as st' Z' xs H' l R' p' q' => hf _ Z' H' st' a as x xs Q R' (Rep.up l a x p) p' q'⟩
    · exact q.elim
theorem pS_lm {f : D → List D → Sto → R D} {r : V → List V → Hp → VK → Prop} {n : MA} {t : TE} (hf : AdM X.K G f r) (h : PE X e (tBM X.K "list" r (tS X.K G W m) (tSA X.K G W n))) : PE X e (tS X.K G W (mLm f m n)) := pe_of h fun _ _ _ => rs_lm hf
theorem pS_setIx {p1 : Pos} (ho : PE X o (tS K G W m)) (hi : PE X i (tS K G W n)) (hv : PE X e (tS K G W k))
    (hp : ∀ v : Value, assign (o.Subscript i p1) X.env v = (do
                let ov ← holding [v] (eval o X.env)
                let iv ← holding [v, ov] (eval i X.env)
                standAt p1
                holding [v, ov, iv] (setItem ov iv v)
                release [v, ov, iv] []) := by intro _; rfl)
    (h1 : swapsWithSole [o.Subscript i p1] e pos.line X.env = pure false := by rfl) (h2 : swappedStores [o.Subscript i p1] e X.env = pure none := by rfl)
    (h3 : List.map (fun x => x.snd) (assignEach [o.Subscript i p1] X.env) = [assign (o.Subscript i p1) X.env] := by rfl) :
    PS X (.Assign [o.Subscript i p1] e pos) (tSS K G W (mSetIx m n k)) :=
  ps_of (ps_asg hv (pg_sub ho hi set_list hp) h1 h2 h3) fun Dn σ H ⟨Z, env, st, R, S, h⟩ => by
    have h' : Post K G (rD K G) (WE W σ) Z ((k env st).bind fun v st1 => (m env st1).bind fun o st2 => (n env st2).bind fun i st3 => dSetIx v o i st3) fun _ H' => Dn.nx σ H' :=
      post_stm (m := fun env st => (k env st).bind fun v st1 => (m env st1).bind fun o st2 => (n env st2).bind fun i st3 => dSetIx v o i st3) (f := fun _ st' => .nx env st') S h fun d st' Z' v H' l R' r q => q Z' σ H' (Gh.le.refl _) R' (S.up l)
    refine ⟨Z, env, st, R, S, h'.bind fun d st1 Z1 y H1 l1 R1 p1 q1 => ?_⟩
    refine ⟨Z1, env, st1, R1, S.up l1, q1.bind fun a st2 Z2 x H2 l2 R2 p2 q2 => ?_⟩
    refine ⟨Z2, env, st2, R2, S.up (l1.trans l2), q2.bind fun b st3 Z3 z H3 l3 R3 p3 q3 => ?_⟩
    unfold dSetIx at q3
    split at q3
    · obtain ⟨l, hl, rfl⟩ := p2
      cases (show z = _ from p3)
      split at q3
      · rename_i xs e1
        split at q3
        · rename_i j e2
          obtain ⟨vs, h1, h2⟩ := R3.cell _ _ _ e1 (l3.at hl)
          refine ⟨l, vs, _, j, rfl, rfl, h1, by rw [← h2.length]; exact e2, ?_⟩
          exact Post.now (P := rD K G) (b := .non) q3 (R3.put e1 rfl (l3.at hl) ⟨_, upd_same, h2.set (Rep.up (l2.trans l3) d y p1) j⟩) rfl
        · exact q3.elim
      · exact q3.elim
    · exact q3.elim
end
/-- what was made within and is not reached any more is forgotten -/
def gc (n : Nat) (d : D) (st : Sto) : R D := if below n d && (st.take n).all (belowC n) then .ok d (st.take n) else .ok d st
section
variable {K : PySem.W.Frag} {G : GA} {Z : Gh}
theorem gc_le {Z' : Gh} (l : Z.le Z') : Z.le ⟨Z'.fz, Z'.rho.take Z.rho.length, Z'.tmp⟩ := by
  obtain ⟨h1, ⟨r, e⟩, h2⟩ := l
  refine ⟨h1, ⟨[], ?_⟩, h2⟩
  show Z'.rho.take Z.rho.length = Z.rho ++ []
  rw [e, List.take_left, List.append_nil]
theorem gc_cut {Z' : Gh} {n : Nat} {d : D} {v : V} (b : below n d = true) (r : Rep K G Z' d v) : Rep K G ⟨Z'.fz, Z'.rho.take n, Z'.tmp⟩ d v := Rep.cut (Z := Z') (Z' := ⟨Z'.fz, Z'.rho.take n, Z'.tmp⟩) (Same.refl _) (fun i hi => List.getElem?_take_of_lt hi) d v b r
theorem gc_cutL {Z' : Gh} {n : Nat} {ds : List D} {vs : List V} (b : belowL n ds = true) (r : RepL K G Z' ds vs) : RepL K G ⟨Z'.fz, Z'.rho.take n, Z'.tmp⟩ ds vs := RepL.cut (Z := Z') (Z' := ⟨Z'.fz, Z'.rho.take n, Z'.tmp⟩) (Same.refl _) (fun i hi => List.getElem?_take_of_lt hi) ds vs b r
theorem gc_post {E : XK} {n : Nat} {d : D} {v : V} {st : Sto} {Q : VK} {Z' : Gh} {H : Hp} (hn : n = Z.rho.length) (h : Post K G (rD K G) E Z (gc n d st) Q) (l : Z.le Z') (R : RelH K G Z' H st) (r : Rep K G Z' d v) : Q v H := by
  subst hn
  unfold gc at h
  split at h
  · rename_i hb
    rw [Bool.and_eq_true] at hb
    exact h _ _ _ (gc_le l) (R.drop _ hb.2) (gc_cut hb.1 r)
  · exact h _ _ _ l R r
theorem frz_gc {E : XK} {n : Nat} {d : D} {v : V} {st : Sto} {Q : VK} {Z' : Gh} {H : Hp} (hn : n = Z.rho.length) (h : Post K G (rD K G) E Z ((dFrz d st).bind fun d' st2 => gc n d' st2) Q) (l : Z.le Z') (R : RelH K G Z' H st) (r : Rep K G Z' d v) : Q v H := by
  have h2 : Post K G (rD K G) E Z' (dFrz d st) fun v H => Q v H := by
    cases e : dFrz d st with
    | ok d' st2 => rw [e] at h; exact fun Z2 v2 H2 l2 R2 r2 => gc_post hn h (l.trans l2) R2 r2
    | exc c ns ds st2 =>
      unfold dFrz at e
      split at e
      · split at e <;> cases e
      · cases e
    | stuck => rw [e] at h; exact h
  exact h2.frz R r
end
/-! ### what no changing thing takes part in -/
/-- run with no changing thing in sight, where none is handed in and none comes out -/
def pur (f : List D → Sto → R D) (ds : List D) (st : Sto) : R D := if belowL 0 ds = true then (match f ds [] with
  | .ok d _ => if below 0 d = true then .ok d st else f ds st
  | .exc c ns es _ => if belowL 0 es = true then .exc c ns es st else f ds st
  | .stuck => .stuck) else f ds st
section
variable {K : PySem.W.Frag} {G : GA} {Z : Gh}
open Classical in
/-- the changing things, set aside -/
noncomputable def aside (Z : Gh) (H : Hp) (st : Sto) : Hp := fun a => if ∃ (i : Nat) (c : C), st[i]? = some c ∧ c.live = true ∧ Z.rho[i]? = some a then H a else Z.tmp a
theorem aside_in {H : Hp} {st : Sto} {i : Nat} {c : C} {a : Addr} (h1 : st[i]? = some c) (h2 : c.live = true) (h3 : Z.rho[i]? = some a) : aside Z H st a = H a := if_pos ⟨i, c, h1, h2, h3⟩
theorem aside_tmp {H : Hp} {st : Sto} (R : RelH K G Z H st) {a : Addr} {o : HO} (h : Z.tmp a = some o) : aside Z H st a = some o := by
  unfold aside
  rw [if_neg]
  · exact h
  · rintro ⟨i, c, h1, h2, h3⟩
    exact (R.tof a o h).2 i c h1 h2 h3
theorem aside_go {H : Hp} {st : Sto} (R : RelH K G Z H st) : RelH K G ⟨Z.fz, [], aside Z H st⟩ H [] := by
  refine ⟨R.fz, rfl, fun i c a e _ => by simp at e, fun i c a e _ _ => by simp at e, fun i j c c' a e _ _ _ _ _ => by simp at e, fun a o e => ?_, fun a o e => ⟨?_, fun i c e _ => by simp at e⟩, R.lk⟩
  · have e' : aside Z H st a = some o := e
    unfold aside at e'
    split at e'
    · exact e'
    · exact R.tmp _ _ e'
  · have e' : aside Z H st a = some o := e
    unfold aside at e'
    split at e'
    · rename_i h
      obtain ⟨i, c, h1, h2, h3⟩ := h
      exact R.off i c a h1 h2 h3
    · exact (R.tof a o e').1
theorem aside_back {H H1 : Hp} {st st1 : Sto} {Z1 : Gh} (R : RelH K G Z H st) (l : Gh.le ⟨Z.fz, [], aside Z H st⟩ Z1) (R1 : RelH K G Z1 H1 st1) : Z.le ⟨Z1.fz, Z.rho, Z.tmp⟩ ∧ RelH K G ⟨Z1.fz, Z.rho, Z.tmp⟩ H1 st := by
  have le : Z.le ⟨Z1.fz, Z.rho, Z.tmp⟩ := ⟨l.fz, ⟨[], (List.append_nil _).symm⟩, rfl⟩
  have tm : ∀ {a : Addr} {o : HO}, aside Z H st a = some o → Z1.tmp a = some o := fun {a o} e => by rw [l.tmp]; exact e
  have cellv : ∀ {i : Nat} {c : C} {a : Addr} {o : HO}, st[i]? = some c → c.live = true → Z.rho[i]? = some a → H a = some o → H1 a = some o ∧ Z1.fz a = none := fun {i c a o} h1 h2 h3 h4 => by
    have e := tm ((aside_in h1 h2 h3).trans h4)
    exact ⟨R1.tmp _ _ e, (R1.tof _ _ e).1⟩
  have some_of : ∀ {i : Nat} {c : C} {a : Addr}, st[i]? = some c → c.live = true → Z.rho[i]? = some a → ∃ o, H a = some o := fun {i c a} h1 h2 h3 => by
    have q := R.cell i c a h1 h3
    cases c with
    | lst xs => obtain ⟨vs, e, _⟩ := q; exact ⟨_, e⟩
    | dct ks ds => obtain ⟨vs, e, _⟩ := q; exact ⟨_, e⟩
    | dkd ks ds => obtain ⟨vs, e, _⟩ := q; exact ⟨_, e⟩
    | ins c ns ds => obtain ⟨dx, vs, e, _⟩ := q; exact ⟨_, e⟩
    | tab z => obtain ⟨_, ps, e, _⟩ := q; exact ⟨_, e⟩
    | dead => cases h2
  refine ⟨le, ⟨R1.fz, R.len, fun i c a h1 h3 => ?_, fun i c a h1 h2 h3 => ?_, R.inj, fun a o e => R1.tmp _ _ (tm (aside_tmp R e)), fun a o e => ⟨(R1.tof _ _ (tm (aside_tmp R e))).1, (R.tof a o e).2⟩, R1.lk⟩⟩
  · have q := R.cell i c a h1 h3
    cases c with
    | lst xs => obtain ⟨vs, e, r⟩ := q; exact ⟨vs, (cellv h1 rfl h3 e).1, RepL.up le _ _ r⟩
    | dct ks ds => obtain ⟨vs, e, n, r⟩ := q; exact ⟨vs, (cellv h1 rfl h3 e).1, n, RepL.up le _ _ r⟩
    | dkd ks ds => obtain ⟨xs, e, n, r, t⟩ := q; exact ⟨xs, (cellv h1 rfl h3 e).1, n, RepL.up le _ _ r, RepL.up le _ _ t⟩
    | ins c ns ds => obtain ⟨dx, vs, e, n, r⟩ := q; exact ⟨dx, vs, (cellv h1 rfl h3 e).1, n, RepL.up le _ _ r⟩
    | tab z => obtain ⟨e0, ps, e, n, k⟩ := q; exact ⟨e0, ps, (cellv h1 rfl h3 e).1, n, fun pos cv y => by obtain ⟨c, q1, q2⟩ := k pos cv y; exact ⟨c, q1, le.fz _ _ q2⟩⟩
    | dead => trivial
  · obtain ⟨o, e⟩ := some_of h1 h2 h3
    exact (cellv h1 h2 h3 e).2
theorem pur_post {f : List D → Sto → R D} {E : XK} {H : Hp} {st : Sto} {ds : List D} {vs : List V} {Q : VK} (R : RelH K G Z H st) (r : RepL K G Z ds vs) (h : Post K G (rD K G) E Z (pur f ds st) Q) : ∃ Z' st', RelH K G Z' H st' ∧ RepL K G Z' ds vs ∧ Post K G (rD K G) E Z' (f ds st') Q := by
  unfold pur at h
  split at h
  · rename_i hb
    have r0 : RepL K G ⟨Z.fz, [], aside Z H st⟩ ds vs := RepL.cut (Z := Z) (Z' := ⟨Z.fz, [], aside Z H st⟩) (n := 0) (Same.refl _) (fun i hi => absurd hi (Nat.not_lt_zero _)) ds vs hb r
    cases e1 : f ds [] with
    | ok d st1 =>
      rw [e1] at h
      dsimp only at h
      split at h
      · rename_i hd
        refine ⟨_, [], aside_go R, r0, ?_⟩
        rw [e1]
        intro Z1 v H1 l R1 p
        obtain ⟨l2, R2⟩ := aside_back R l R1
        exact h _ v H1 l2 R2 (Rep.cut (Z := Z1) (Z' := ⟨Z1.fz, Z.rho, Z.tmp⟩) (n := 0) (Same.refl _) (fun i hi => absurd hi (Nat.not_lt_zero _)) d v hd p)
      · exact ⟨Z, st, R, r, h⟩
    | exc c ns es st1 =>
      rw [e1] at h
      dsimp only at h
      split at h
      · rename_i hd
        refine ⟨_, [], aside_go R, r0, ?_⟩
        rw [e1]
        intro Z1 H1 x l R1 p
        obtain ⟨l2, R2⟩ := aside_back R l R1
        refine h _ H1 x l2 R2 ?_
        rcases p with p | ⟨a, us, p1, p2, p3, p4⟩
        · exact .inl p
        · exact .inr ⟨a, us, p1, p2, p3, RepL.cut (Z := Z1) (Z' := ⟨Z1.fz, Z.rho, Z.tmp⟩) (n := 0) (Same.refl _) (fun i hi => absurd hi (Nat.not_lt_zero _)) es us hd p4⟩
      · exact ⟨Z, st, R, r, h⟩
    | stuck => rw [e1] at h; exact h.elim
  · exact ⟨Z, st, R, r, h⟩
end
/-! ### promises -/
section
variable (K : PySem.W.Frag) (G : GA)
def spS (n : Nat) (F : List D → Sto → R D) : Sp := fun vs H Q E => vs.length = n ∧ ∃ Z ds st, RelH K G Z H st ∧ RepL K G Z ds vs ∧ Post K G (rD K G) E Z (F ds st) Q
end
theorem spS_pur {K : PySem.W.Frag} {G : GA} {n : Nat} {F : List D → Sto → R D} {vs : List V} {H : Hp} {Q : VK} {E : XK} (h : spS K G n (pur F) vs H Q E) : spS K G n F vs H Q E := by
  obtain ⟨hn, Z, ds, st, R, r, q⟩ := h
  obtain ⟨Z', st', R', r', q'⟩ := pur_post R r q
  exact ⟨hn, Z', ds, st', R', r', q'⟩
theorem okPur {P : Program} {w : World} {K : PySem.W.Frag} {mg : Str → Option Value} {base : Heap} {CX : CXT} {k n : Nat} {f : Addr} {fd : FuncData} {ps : List Str} {G : GA} {F : List D → Sto → R D} (h : FnOk P w K mg base CX k f fd ps (spS K G n F)) : FnOk P w K mg base CX k f fd ps (spS K G n (pur F)) := h.imp fun _ _ _ _ q => spS_pur q
abbrev wE (E : XK) : WX := fun cls d _ H => E cls d H
def mCall (n : Nat) (F : List D → Sto → R D) (dds : List D) (m : MA) : M := fun env st => (m env st).bind fun ds st1 => if (ds ++ dds).length = n then F (ds ++ dds) st1 else .stuck
section
variable {G : GA} {W : WX} {X : Cx} {k n : Nat} {f C : Addr} {fd : FuncData} {ps : List Str} {F : List D → Sto → R D} {dds : List D} {dvs : List V} {ds : List Value} {E : XK} {x : Str} {p pos apos : Pos} {e o : Expr} {es : List Expr} {m : MA} {mo : M}
theorem pS_call (Fk : FnOk X.prog X.w X.K X.mg X.base (L2.CX X.prog X.w) k f fd ps (spS X.K G n F)) (hr : Room k X.A) (hg : Gl X x) (hm : X.mg x = some (.ref f)) (hk : PySem.W.keepIn X.K (.ref f) = true) (hb : Binds X.K fd ps ds) (hd : Vals dvs ds) (hdv : ∀ Z, RepL X.K G Z dds dvs) (tk : Takes X W)
    (ha : PA X (e :: es) (tSA X.K G W m)) (hdb : (x == ("__debug__" : Str)) = false := by decide) (he : starEach (e :: es) X.env = (false, eval e X.env) :: starEach es X.env := by rfl) (hpl : (backTo pos (starEach es X.env)).any (·.1) = false := by rfl) :
    PE X (.Call (.Name x p) (e :: es) [] pos) (tS X.K G W (mCall n F dds m)) :=
  pe_of (pe_callSD (E := WE W) Fk hr hg hm hk hb hd (fun σ => passAt tk σ) ha hdb he hpl) fun σ H Q h => rs_bind (f := fun ds _ st1 => if (ds ++ dds).length = n then F (ds ++ dds) st1 else .stuck) h fun ds vs H1 Z env st R S p q => by
    split at q
    · rename_i hl
      have r : RepL X.K G Z (ds ++ dds) (vs ++ dvs) := RepL.append p (hdv Z)
      exact ⟨r.length ▸ hl, Z, _, st, R, r, q⟩
    · exact q.elim
end
/-! ### a def -/
def gcX (n : Nat) (c : Nat) (ns : List Str) (ds : List D) (st : Sto) : R D := if belowL n ds && (st.take n).all (belowC n) then .exc c ns ds (st.take n) else .exc c ns ds st
def mFun (fz : Bool) (n : Nat) (ms : MS) : List D → Sto → R D := fun ds st => match ms (ds.map some ++ List.replicate (n - ds.length) none) st with
  | .nx _ st' => gc st.length .non st'
  | .rt d st' => if fz = true then (dFrz d st').bind fun d' st2 => gc st.length d' st2 else gc st.length d st'
  | .exc _ c ns ds st' => gcX st.length c ns ds st'
  | _ => .stuck
section
variable {K : PySem.W.Frag} {G : GA} {Z : Gh}
theorem repE_none : ∀ n : Nat, RepE K G Z (List.replicate n none) (List.replicate n none)
  | 0 => rfl
  | n + 1 => ⟨none, _, rfl, trivial, repE_none n⟩
theorem repE_start {k : Nat} : ∀ {ds : List D} {vs : List V}, RepL K G Z ds vs → RepE K G Z (ds.map some ++ List.replicate k none) (vs.map some ++ List.replicate k none)
  | [], _, r => by cases (show _ = _ from r); exact repE_none k
  | d :: ds, _, ⟨v, t, e, p, q⟩ => by subst e; exact ⟨some v, _, rfl, ⟨v, rfl, p⟩, repE_start q⟩
theorem gcX_post {E : XK} {n c : Nat} {ns : List Str} {ds : List D} {x : Option Addr} {st : Sto} {Q : VK} {Z' : Gh} {H : Hp} (hn : n = Z.rho.length) (h : Post K G (rD K G) E Z (gcX n c ns ds st) Q) (l : Z.le Z') (R : RelH K G Z' H st) (r : XOk K G Z' ns ds x) : E (.ref (G c)) x H := by
  subst hn
  unfold gcX at h
  split at h
  · rename_i hb
    rw [Bool.and_eq_true] at hb
    refine h _ _ _ (gc_le l) (R.drop _ hb.2) ?_
    rcases r with r | ⟨a, vs, h1, h2, h3, h4⟩
    · exact .inl r
    · exact .inr ⟨a, vs, h1, h2, h3, gc_cutL hb.1 h4⟩
  · exact h _ _ _ l R r
theorem fun_post {fz : Bool} {E : XK} {n : Nat} {ms : MS} {ds : List D} {st : Sto} {Q : VK} (hz : Z.rho.length = st.length) (h : Post K G (rD K G) E Z (mFun fz n ms ds st) Q) :
    PostS K G (wE E) Z (ms (ds.map some ++ List.replicate (n - ds.length) none) st) { nx := fun _ H' => Q .non H', rt := Q } := by
  unfold mFun at h
  cases q : ms (ds.map some ++ List.replicate (n - ds.length) none) st with
  | nx env st' => rw [q] at h; exact fun Z' σ H l R S => gc_post hz.symm h l R rfl
  | rt d st' =>
    rw [q] at h
    cases fz with
    | true => exact fun Z' v H l R r => frz_gc hz.symm h l R r
    | false => exact fun Z' v H l R r => gc_post hz.symm h l R r
  | bk env st' => rw [q] at h; exact h.elim
  | ct env st' => rw [q] at h; exact h.elim
  | exc env c ns ds st' => rw [q] at h; exact fun Z' σ H x l R S r => gcX_post hz.symm h l R r
  | stuck => rw [q] at h; exact h
theorem sp_body {fz : Bool} {N : List Str} {n : Nat} {ms : MS} {vs : List V} {H : Hp} {Q : VK} {E : XK} (h : spS K G n (mFun fz N.length ms) vs H Q E) : tSS K G (wE E) ms { nx := fun _ H' => Q .non H', rt := Q } (L2.start N vs) H := by
  obtain ⟨_, Z, ds, st, R, r, h⟩ := h
  refine ⟨Z, _, st, R, ?_, fun_post R.len h⟩
  unfold L2.start
  rw [r.length]
  exact repE_start r
end
section
variable {P : Program} {w : World} {K : PySem.W.Frag} {mg : Str → Option Value} {base : Heap} {G : GA}
end
end S
/-! targets, loops, comprehensions -/
namespace S
open PySem L2
/-! ### targets -/
inductive Tg where
  | nm (i : Nat)
  | tp (ts : List Tg)
mutual
def Tg.at (t : Tg) (d : D) (env : Env) (st : Sto) : Option Env := match t with
  | .nm i => some (env.set i (some d))
  | .tp ts => match items st d with
    | some ds => if ds.length = ts.length then Tg.ats ts ds env st else none
    | none => none
def Tg.ats (ts : List Tg) (ds : List D) (env : Env) (st : Sto) : Option Env := match ts, ds with
  | [], [] => some env
  | t :: r, d :: ds => match Tg.at t d env st with
    | some env1 => Tg.ats r ds env1 st
    | none => none
  | _, _ => none
end
mutual
def Tg.slots : Tg → List Nat
  | .nm i => [i]
  | .tp ts => Tg.slotss ts
def Tg.slotss : List Tg → List Nat
  | [] => []
  | t :: r => Tg.slots t ++ Tg.slotss r
end
abbrev gSq (K : PySem.W.Frag) (n : Nat) (t : TGs) : TG := fun v σ H Q => gTup K n t v σ H Q ∨ gUnl K n t v σ H Q
mutual
def gOf (K : PySem.W.Frag) : Tg → TG
  | .nm i => gName i
  | .tp ts => gSq K ts.length (gsOf K ts)
def gsOf (K : PySem.W.Frag) : List Tg → TGs
  | [] => gNil
  | t :: r => gCons (gOf K t) (gsOf K r)
end
/-- the same but for some slots -/
def Off (vs : List Nat) (σ σ' : St) : Prop := σ.length = σ'.length ∧ ∀ j : Nat, j ∉ vs → σ[j]? = σ'[j]?
theorem Off.refl (vs : List Nat) (σ : St) : Off vs σ σ := ⟨rfl, fun _ _ => rfl⟩
theorem Off.trans {vs : List Nat} {a b c : St} (h : Off vs a b) (h' : Off vs b c) : Off vs a c := ⟨h.1.trans h'.1, fun j hj => (h.2 j hj).trans (h'.2 j hj)⟩
theorem Off.set {vs : List Nat} {σ : St} {i : Nat} {x : Option V} (h : i ∈ vs) : Off vs (σ.set i x) σ := ⟨by simp, fun j hj => List.getElem?_set_ne (fun e => hj (by rw [← e]; exact h))⟩
theorem wipe_in {σ : St} {i : Nat} : ∀ {vs : List Nat}, i ∈ vs → i < σ.length → (wipe σ vs)[i]? = some none
  | v :: vs, h, hl => by
    unfold wipe
    by_cases e : v = i
    · subst e; rw [List.getElem?_set_self (by rw [wipe_length]; exact hl)]
    · rw [List.getElem?_set_ne e]
      exact wipe_in ((List.mem_cons.mp h).resolve_left fun z => e z.symm) hl
theorem Off.wipe {vs : List Nat} {a b : St} (h : Off vs a b) : L2.wipe a vs = L2.wipe b vs := by
  apply List.ext_getElem?
  intro j
  by_cases hj : j ∈ vs
  · by_cases hl : j < a.length
    · rw [wipe_in hj hl, wipe_in hj (h.1 ▸ hl)]
    · rw [List.getElem?_eq_none (by rw [wipe_length]; omega), List.getElem?_eq_none (by rw [wipe_length, ← h.1]; omega)]
  · rw [wipe_out hj, wipe_out hj]; exact h.2 j hj
theorem off_wipe (vs : List Nat) (σ : St) : Off vs (L2.wipe σ vs) σ := ⟨wipe_length σ vs, fun _ hj => wipe_out hj⟩
section
variable {K : PySem.W.Frag} {G : GA} {Z : Gh} {H : Hp} {st : Sto}
mutual
theorem Tg.run (R : RelH K G Z H st) : ∀ (t : Tg) (d : D) (v : V) (env env' : Env) (σ : St) (Q : St → Hp → Prop), RepE K G Z env σ → Rep K G Z d v → t.at d env st = some env' → (∀ σ', RepE K G Z env' σ' → Off t.slots σ' σ → Q σ' H) → gOf K t v σ H Q
  | .nm i, d, v, env, env', σ, Q, S, p, e, k => by
    unfold Tg.at at e
    cases e
    unfold gOf
    exact k _ (S.set p i) (Off.set (by simp [Tg.slots]))
  | .tp ts, d, v, env, env', σ, Q, S, p, e, k => by
    unfold Tg.at at e
    split at e
    · rename_i ds e1
      split at e
      · rename_i hl
        obtain ⟨l, vs, rfl, hs, r⟩ := R.items p e1
        have z := Tg.runs R ts ds vs env env' σ Q S r e (fun σ' S' o => k σ' S' (by unfold Tg.slots; exact o))
        unfold gOf
        rcases hs with hs | hs
        · exact .inr ⟨l, vs, rfl, hs, by rw [← r.length]; exact hl, z⟩
        · exact .inl ⟨l, vs, rfl, hs, by rw [← r.length]; exact hl, z⟩
      · cases e
    · cases e
theorem Tg.runs (R : RelH K G Z H st) : ∀ (ts : List Tg) (ds : List D) (vs : List V) (env env' : Env) (σ : St) (Q : St → Hp → Prop), RepE K G Z env σ → RepL K G Z ds vs → Tg.ats ts ds env st = some env' → (∀ σ', RepE K G Z env' σ' → Off (Tg.slotss ts) σ' σ → Q σ' H) → gsOf K ts vs σ H Q
  | [], [], _, env, env', σ, Q, S, p, e, k => by
    unfold Tg.ats at e
    cases e
    cases (show _ = _ from p)
    unfold gsOf
    exact ⟨rfl, k σ S (Off.refl _ _)⟩
  | [], _ :: _, _, env, env', σ, Q, S, p, e, k => by unfold Tg.ats at e; cases e
  | _ :: _, [], _, env, env', σ, Q, S, p, e, k => by unfold Tg.ats at e; cases e
  | t :: r, d :: ds, _, env, env', σ, Q, S, ⟨v, us, q, p, pr⟩, e, k => by
    subst q
    unfold Tg.ats at e
    split at e
    · rename_i env1 e1
      unfold gsOf
      refine ⟨v, us, rfl, Tg.run R t d v env env1 σ _ S p e1 fun σ1 S1 o1 => ?_⟩
      refine Tg.runs R r ds us env1 env' σ1 Q S1 pr e fun σ2 S2 o2 => k σ2 S2 ?_
      unfold Tg.slotss
      exact Off.trans ⟨o2.1, fun j hj => o2.2 j fun z => hj (List.mem_append_right _ z)⟩ ⟨o1.1, fun j hj => o1.2 j fun z => hj (List.mem_append_left _ z)⟩
    · cases e
end
variable {X : Cx} {pos : Pos}
theorem pG_nm {i : Nat} {x : Str} (hN : X.N.Nodup) (hi : X.N[i]? = some x) (hx : Loc X.env.scope x) (hf : X.fn x = true ∨ X.env.scope.names.lookup x = some .local := by first | exact .inl rfl | exact .inr rfl | assumption) : PG X (.Name x pos) (gOf K (.nm i)) := by
  unfold gOf
  exact pg_name hN hi hx hf
theorem pG_tp {es : List Expr} {k : Nat} {ts : List Tg} (hc : X.calm = true) (h : PGs X es (gsOf X.K ts)) (hn : (assignEach es X.env).length = ts.length := by rfl) (hst : (assignEach es X.env).findIdx? (·.1) = none := by rfl) : PG X (.Tuple es k pos) (gOf X.K (.tp ts)) := by
  unfold gOf
  refine ⟨fun pins s σ H v u Q I r q => ?_⟩
  rcases q with q | q
  · exact (pg_tup hc h hn hst).run pins s σ H v u Q I r q
  · exact (pg_unl hc h hn hst).run pins s σ H v u Q I r q
theorem pGs_nil : PGs X [] (gsOf K []) := by unfold gsOf; exact pgs_nil
theorem pGs_cons {e : Expr} {es : List Expr} {t : Tg} {ts : List Tg} (h1 : PG X e (gOf K t)) (h2 : PGs X es (gsOf K ts)) (hs : (assignEach (e :: es) X.env).map (·.2) = assign e X.env :: (assignEach es X.env).map (·.2) := by rfl) : PGs X (e :: es) (gsOf K (t :: ts)) := by unfold gsOf; exact pgs_cons h1 h2 hs
end
/-! ### what is walked -/
section
variable (K : PySem.W.Frag) (G : GA)
def rI : Gh → List D → It → Prop := fun Z ds J => ∃ (Gd : Hp → Prop) (Y : Nat → Hp → V → Hp → Prop), Walk J ds.length Gd Y ∧ (∀ Z' H st, Z.ex Z' → RelH K G Z' H st → Gd H) ∧
  ∀ (i : Nat) x H H' Z' st, Z.ex Z' → RelH K G Z' H st → i < ds.length → Y i H x H' → ∃ Z'' d, Z'.le Z'' ∧ RelH K G Z'' H' st ∧ ds[i]? = some d ∧ Rep K G Z'' d x
abbrev tSI (W : WX) (m : MA) : TI := tG K G (rI K G) W m
end
theorem pi_of {X : Cx} {tg e : Expr} {t t' : TI} (h : PI X tg e t) (k : ∀ σ H Q, t' σ H Q → t σ H Q) : PI X tg e t' := ⟨fun pins s σ H R I q => h.run pins s σ H R I (k σ H R q)⟩
/-- the items of a list or tuple that will not change -/
def itemsF : D → Option (List D)
  | .lst xs => some xs
  | .rls xs => some xs
  | .tup xs => some xs
  | _ => none
def rangeD (lo : Int) (n : Nat) : List D := (List.range n).map fun (i : Nat) => D.int (lo + i)
def mItRange (m : MA) : MA := fun env st => (m env st).bind fun ds st1 => match ds with
  | [.int j] => if -(2 ^ 62) ≤ j ∧ j < 2 ^ 62 then .ok (rangeD 0 j.toNat) st1 else .stuck
  | _ => .stuck
def enumD (xs : List D) : List D := xs.zipIdx.map fun p => .tup [.int (p.2 : Nat), p.1]
section
variable {K : PySem.W.Frag} {G : GA} {W : WX} {X : Cx} {tg e : Expr} {m : M} {pos p : Pos}
theorem walkR {Z : Gh} {lo : Int} {n : Nat} : rI K G Z (rangeD lo n) (Itr lo n) := by
  have hl : (rangeD lo n).length = n := by simp [rangeD]
  refine ⟨_, _, (by rw [hl]; exact walk_range : Walk (Itr lo n) (rangeD lo n).length (fun _ => True) (YFn fun i => V.int (lo + (i : Nat)))), fun _ _ _ _ _ => trivial, fun i x H H' Z' st l R hi y => ?_⟩
  obtain ⟨rfl, rfl⟩ := y
  refine ⟨Z', .int (lo + i), Gh.le.refl _, R, ?_, rfl⟩
  unfold rangeD
  rw [List.getElem?_map, List.getElem?_range (hl ▸ hi)]
  rfl
theorem RepL.n1 {Z : Gh} {vs : List V} {j : Int} (r : RepL K G Z [.int j] vs) : vs = [.int j] := by
  obtain ⟨x, rfl, p⟩ := RepL.one r
  cases (show x = _ from p); rfl
theorem pI_range1 {a : Expr} {m : MA} (hg : Gl X "range") (hm : X.mg "range" = none) (ha : PA X [a] (tSA K G W m)) (hs : starEach [a] X.env = [(false, eval a X.env)] := by rfl) : PI X tg (.Call (.Name "range" p) [a] [] pos) (tSI K G W (mItRange m)) :=
  pi_of (pi_range1 hg hm ha hs) fun σ H Q h => rs_bind (f := fun ds _ st1 => match ds with
    | [.int j] => if -(2 ^ 62) ≤ j ∧ j < 2 ^ 62 then .ok (rangeD 0 j.toNat) st1 else .stuck
    | _ => .stuck) h fun ds vs H1 Z env st R S r q => by
    split at q
    · cases r.n1
      split at q
      · rename_i hc; exact ⟨_, rfl, hc.1, hc.2, Post.now (P := rI K G) q R walkR⟩
      · exact q.elim
    · exact q.elim
end
end S
/-! for, comprehensions -/
namespace S
open PySem L2
/-! ### for -/
def mForGo (t : Tg) (body : MS) : List D → Env → Sto → RS
  | [], env, st => .nx env st
  | d :: ds, env, st => match t.at d env st with
    | none => .stuck
    | some env1 => match body env1 st with
      | .nx env2 st2 => mForGo t body ds env2 st2
      | .ct env2 st2 => mForGo t body ds env2 st2
      | .bk env2 st2 => .nx env2 st2
      | r => r
def mFor (t : Tg) (mi : MA) (body : MS) : MS := fun env st => match mi env st with
  | .ok ds st1 => mForGo t body ds env st1
  | .exc c ns ds st1 => .exc env c ns ds st1
  | .stuck => .stuck
section
variable {K : PySem.W.Frag} {G : GA} {W : WX} {X : Cx} {tg iter : Expr} {body : List Stmt} {pos : Pos} {t : Tg} {mi : MA} {mb : MS}
theorem for_run {Dn : Ends} {σ : St} {H : Hp} {Z : Gh} {env : Env} {st : Sto} {ds : List D} {J : It} (R : RelH K G Z H st) (S : RepE K G Z env σ) (w : rI K G Z ds J) (h : PostS K G W Z (mForGo t mb ds env st) Dn) :
    ∃ W' : Nat → Nat → St → Hp → Prop, (∃ m, W' 0 m σ H) ∧ ∀ i m σ H, W' i m σ H →
      (J.stop i H ∧ Dn.nx σ H) ∨ (J.go i H ∧ ∃ N : St → Hp → Prop, (∀ σ' H', N σ' H' → ∃ m', m' < m ∧ W' (i + 1) m' σ' H') ∧ ∀ x H', J.yld i H x H' → gOf K t x σ H' fun σ2 H2 => tSS K G W mb { Dn with nx := N, ct := N, bk := Dn.nx } σ2 H2) := by
  obtain ⟨Gd, Y, wk, hG, hY⟩ := w
  refine for_it wk (fun i σ H => ∃ Z1 env st, Z.le Z1 ∧ RelH K G Z1 H st ∧ RepE K G Z1 env σ ∧ PostS K G W Z1 (mForGo t mb (ds.drop i) env st) Dn) ⟨Z, env, st, Gh.le.refl _, R, S, h⟩ (fun i σ H _ ⟨Z1, _, _, l, R1, _⟩ => hG Z1 H _ l.ex R1) (fun i x σ H H' hi ⟨Z1, env1, st1, l, R1, S1, h1⟩ y => ?_) fun σ H ⟨Z1, env1, st1, l, R1, S1, h1⟩ => ?_
  · obtain ⟨Z2, d, l2, R2, hd, rd⟩ := hY i x H H' Z1 st1 l.ex R1 hi y
    have e : ds.drop i = d :: ds.drop (i + 1) := by
      rw [List.getElem?_eq_getElem hi] at hd
      cases hd
      exact List.drop_eq_getElem_cons hi
    rw [e] at h1
    unfold mForGo at h1
    cases e1 : t.at d env1 st1 with
    | none => rw [e1] at h1; exact h1.elim
    | some env2 =>
      rw [e1] at h1
      refine Tg.run R2 t d x env1 env2 σ _ (S1.up l2) rd e1 fun σ2 S2 _ => ⟨Z2, env2, st1, R2, S2, ?_⟩
      dsimp only at h1
      cases e2 : mb env2 st1 with
      | nx env3 st3 => rw [e2] at h1; exact fun Z3 σ3 H3 l3 R3 S3 => ⟨Z3, env3, st3, l.trans (l2.trans l3), R3, S3, PostS.up (l2.trans l3) h1⟩
      | ct env3 st3 => rw [e2] at h1; exact fun Z3 σ3 H3 l3 R3 S3 => ⟨Z3, env3, st3, l.trans (l2.trans l3), R3, S3, PostS.up (l2.trans l3) h1⟩
      | bk env3 st3 => rw [e2] at h1; exact fun Z3 σ3 H3 l3 R3 S3 => h1 Z3 σ3 H3 (l2.trans l3) R3 S3
      | rt d' st3 => rw [e2] at h1; exact fun Z3 v H3 l3 R3 S3 => h1 Z3 v H3 (l2.trans l3) R3 S3
      | exc env3 c ns ds' st3 => rw [e2] at h1; exact fun Z3 σ3 H3 x l3 R3 S3 => h1 Z3 σ3 H3 x (l2.trans l3) R3 S3
      | stuck => rw [e2] at h1; exact h1
  · rw [List.drop_length] at h1
    exact h1 Z1 σ H (Gh.le.refl _) R1 S1
theorem pS_for (hp : PassesOwn (model X.prog X.w) X.A X.env X.xe) (hc : X.calm = true) (hi : PI X tg iter (tSI K G W mi)) (hg : PG X tg (gOf K t)) (hb : PSs X body (tSS K G W mb)) (hf : ∀ x : Value, foldedSetIterable iter X.env x = pure x := by intro _; rfl) :
    PS X (.For tg iter body [] pos) (tSS K G W (mFor t mi mb)) :=
  ps_of (ps_for hp hc hi hg hb hf) fun Dn σ H ⟨Z, env, st, R, S, h⟩ => by
    refine ⟨Z, env, st, R, S, ?_⟩
    unfold mFor at h
    cases q : mi env st with
    | ok ds st1 =>
      rw [q] at h
      exact fun Z1 J H1 l R1 w => for_run R1 (S.up l) w (PostS.up l h)
    | exc c ns ds st1 => rw [q] at h; exact fun Z1 H1 x l R1 r => h Z1 σ H1 x l R1 (S.up l) r
    | stuck => rw [q] at h; exact h
end
/-! ### list comprehensions -/
def wipeE (env : Env) : List Nat → Env
  | [] => env
  | v :: vs => (wipeE env vs).set v none
/-- nothing may be raised within -/
def R.only {α β : Type} (r : R α) (f : α → Sto → R β) : R β := match r with
  | .ok a st => f a st
  | _ => .stuck
def mLcGo (t : Tg) (vs : List Nat) (mt : MB) (me : M) : List D → Env → Sto → List D → R (List D)
  | [], _, st, acc => .ok acc st
  | d :: ds, env, st, acc => match t.at d (wipeE env vs) st with
    | none => .stuck
    | some env1 => (mt env1 st).only fun b st1 => if b = true then (me env1 st1).only fun y st2 => (if acc.length < sizeLine then mLcGo t vs mt me ds env st2 (acc ++ [y]) else .stuck) else mLcGo t vs mt me ds env st1 acc
def mLc (t : Tg) (vs : List Nat) (mi : MA) (mt : MB) (me : M) : M := fun env st => (mi env st).bind fun ds st1 => (mLcGo t vs mt me ds env st1 []).bind fun acc st2 => .ok (.lst acc) st2
def mLcC (t : Tg) (vs : List Nat) (mi : MA) (mt : MB) (me : M) : M := fun env st => (mi env st).bind fun ds st1 => (mLcGo t vs mt me ds env st1 []).bind fun acc st2 => .ok (.ptr st2.length) (st2 ++ [.lst acc])
def mYes : MB := fun _ st => .ok true st
abbrev W0 : WX := wE E0
section
variable {K : PySem.W.Frag} {G : GA} {Z : Gh}
theorem RepE.setN : ∀ {env : Env} {σ : St} (i : Nat) (x : Option V), RepE K G Z env σ → RepE K G Z (env.set i none) (σ.set i x)
  | [], _, _, _, h => by cases (show _ = _ from h); exact rfl
  | _ :: _, _, 0, x, ⟨y, r, e, h, t⟩ => by cases e; exact ⟨x, r, rfl, trivial, t⟩
  | _ :: _, _, i + 1, x, ⟨y, r, e, h, t⟩ => by cases e; exact ⟨y, _, rfl, h, RepE.setN i x t⟩
theorem RepE.wipe {env : Env} {σ : St} (h : RepE K G Z env σ) : ∀ vs : List Nat, RepE K G Z (wipeE env vs) (L2.wipe σ vs)
  | [] => h
  | v :: vs => (RepE.wipe h vs).setN v none
end
/-- how far a comprehension has come: D is being made -/
structure LcAt (K : PySem.W.Frag) (G : GA) (Z0 : Gh) (Dd : Addr) (acc : List D) (Z : Gh) (st : Sto) (H : Hp) : Prop where
  ex : Z0.ex Z
  rel : RelH K G Z H st
  at_ : ∃ vs, Z.tmp = upd Z0.tmp Dd (.lst vs) ∧ RepL K G Z acc vs
section
variable {K : PySem.W.Frag} {G : GA} {W : WX} {X : Cx} {tg iter elt : Expr} {ifs : List Expr} {pos : Pos} {t : Tg} {vs : List Nat} {mi : MA} {mt : MB} {me : M} {Z0 Z : Gh} {Dd : Addr} {acc : List D} {st : Sto} {H : Hp} {σ : St}
theorem LcAt.le {Z' : Gh} {st' : Sto} {H' : Hp} (L : LcAt K G Z0 Dd acc Z st H) (l : Z.le Z') (R : RelH K G Z' H' st') : LcAt K G Z0 Dd acc Z' st' H' := by
  obtain ⟨e, _, vs, h1, h2⟩ := L
  exact ⟨e.trans l.ex, R, vs, l.tmp.trans h1, RepL.up l _ _ h2⟩
theorem LcAt.add {y : D} {v : V} (L : LcAt K G Z0 Dd acc Z st H) (hz : acc.length < sizeLine) (r : Rep K G Z y v) : ∃ vs, H Dd = some (.lst vs) ∧ vs.length < sizeLine ∧ ∃ Z', LcAt K G Z0 Dd (acc ++ [y]) Z' st (upd H Dd (.lst (vs ++ [v]))) ∧ Z.ex Z' := by
  obtain ⟨e, R, vs, h1, h2⟩ := L
  have hp : Z.tmp Dd = some (.lst vs) := by rw [h1, upd_same]
  have ex : Z.ex ⟨Z.fz, Z.rho, upd Z.tmp Dd (.lst (vs ++ [v]))⟩ := ⟨Same.refl _, ⟨[], by simp⟩⟩
  refine ⟨vs, R.tmp _ _ hp, by rw [← h2.length]; exact hz, ⟨Z.fz, Z.rho, upd Z.tmp Dd (.lst (vs ++ [v]))⟩, ⟨e.trans ex, R.setTmp hp, vs ++ [v], ?_, ?_⟩, ex⟩
  · show upd Z.tmp Dd _ = upd Z0.tmp Dd _
    rw [h1, upd_upd]
  · exact (RepL.ux ex _ _ h2).append ⟨v, [], rfl, Rep.ux ex _ _ r, rfl⟩
theorem LcAt.start (R : RelH K G Z0 H st) (hn : H Dd = none) : ∃ Z, LcAt K G Z0 Dd [] Z st (upd H Dd (.lst [])) ∧ Z0.ex Z :=
  ⟨⟨Z0.fz, Z0.rho, upd Z0.tmp Dd (.lst [])⟩, ⟨⟨Same.refl _, ⟨[], by simp⟩⟩, R.addTmp hn, [], rfl, rfl⟩, ⟨Same.refl _, ⟨[], by simp⟩⟩⟩
theorem LcAt.fin {E : XK} {Q : VK} (L : LcAt K G Z0 Dd acc Z st H) (hn : Z0.tmp Dd = none) (h : Post K G (rD K G) E Z0 (.ok (.lst acc) st) Q) : Q (.ref Dd) H := by
  obtain ⟨e, R, vs, h1, h2⟩ := L
  obtain ⟨R', ex⟩ := R.tmpFz h1 hn
  have e2 := e.trans ex
  exact h _ _ _ ⟨e2.fz, e2.rho, rfl⟩ R' ⟨Dd, vs, rfl, upd_same, RepL.ux ex _ _ h2⟩
theorem LcAt.finC {E : XK} {Q : VK} (L : LcAt K G Z0 Dd acc Z st H) (hn : Z0.tmp Dd = none) (h : Post K G (rD K G) E Z0 (.ok (.ptr st.length) (st ++ [.lst acc])) Q) : Q (.ref Dd) H := by
  obtain ⟨e, R, vs, h1, h2⟩ := L
  have hp : Z.tmp Dd = some (.lst vs) := by rw [h1, upd_same]
  obtain ⟨R', ex⟩ := R.tmpC (c := .lst acc) h1 hn fun Z' l => ⟨vs, R.tmp _ _ hp, RepL.ux l _ _ h2⟩
  have e2 := e.trans ex
  exact h _ _ _ ⟨e2.fz, e2.rho, rfl⟩ R' ⟨Dd, by show (Z.rho ++ [Dd])[st.length]? = some Dd; rw [← R.len]; simp, rfl⟩
/-- one turn: the target, the tests, the element -/
theorem lc_turn {Fin : Sto → List D → Prop} {Nx : Hp → Prop} {env : Env} {env1 : Env} {σ2 : St} {k : R (List D)} (L : LcAt K G Z0 Dd acc Z st H) (S : RepE K G Z env1 σ2)
    (hk : ∀ st2 acc2, Fin st2 acc2 → ∀ Z2 H2, LcAt K G Z0 Dd acc2 Z2 st2 H2 → Nx H2)
    (h : ∀ b st1, mt env1 st = .ok b st1 → if b = true then ∀ y st2, me env1 st1 = .ok y st2 → acc.length < sizeLine ∧ Fin st2 (acc ++ [y]) else Fin st1 acc)
    (hm : ∃ b st1, mt env1 st = .ok b st1 ∧ (b = true → ∃ y st2, me env1 st1 = .ok y st2)) :
    tSB K G W0 mt σ2 H fun b H3 => if b = true then tS K G W0 me σ2 H3 fun y H4 => ∃ acc, H4 Dd = some (.lst acc) ∧ acc.length < sizeLine ∧ Nx (upd H4 Dd (.lst (acc ++ [y]))) else Nx H3 := by
  obtain ⟨b, st1, e1, hm⟩ := hm
  have h1 := h b st1 e1
  refine ⟨Z, env1, st, L.rel, S, ?_⟩
  rw [e1]
  intro Z1 b' H1 l1 R1 eb
  cases (show b = b' from eb)
  cases b with
  | false => exact iteF (hk _ _ h1 Z1 H1 (L.le l1 R1))
  | true =>
    obtain ⟨y, st2, e2⟩ := hm rfl
    have h2 := h1 y st2 e2
    refine iteT ⟨Z1, env1, st1, R1, S.up l1, ?_⟩
    rw [e2]
    intro Z2 v H2 l2 R2 r
    obtain ⟨vs, hd, hl, Z3, L3, _⟩ := ((L.le l1 R1).le l2 R2).add h2.1 r
    exact ⟨vs, hd, hl, hk _ _ h2.2 Z3 _ L3⟩
end
end S
/-! comprehensions, put together -/
namespace S
open PySem L2
section
variable {K : PySem.W.Frag} {G : GA} {W : WX} {X : Cx} {tg iter elt : Expr} {ifs : List Expr} {pos : Pos} {t : Tg} {vs : List Nat} {mi : MA} {mt : MB} {me : M} {Z : Gh} {Dd : Addr} {σ : St}
theorem drop_cons {α : Type} {ds : List α} {i : Nat} {d : α} (hi : i < ds.length) (hd : ds[i]? = some d) : ds.drop i = d :: ds.drop (i + 1) := by
  rw [List.getElem?_eq_getElem hi] at hd
  cases hd
  exact List.drop_eq_getElem_cons hi
theorem Off.sub {us vs : List Nat} {a b : St} (h : Off us a b) (hs : ∀ i ∈ us, i ∈ vs) : Off vs a b := ⟨h.1, fun j hj => h.2 j fun z => hj (hs j z)⟩
/-- what a turn asks, from what is wanted at the end -/
theorem turn_of {γ δ : Type} {P' : Gh → γ → δ → Prop} {E : XK} {Q : δ → Hp → Prop} {env1 : Env} {st : Sto} {acc : List D} {go : Sto → List D → R (List D)} {f : List D → Sto → R γ}
    (h : Post K G P' E Z (((mt env1 st).only fun b st1 => if b = true then (me env1 st1).only fun y st2 => (if acc.length < sizeLine then go st2 (acc ++ [y]) else .stuck) else go st1 acc).bind f) Q) :
    (∀ b st1, mt env1 st = .ok b st1 → if b = true then ∀ y st2, me env1 st1 = .ok y st2 → acc.length < sizeLine ∧ Post K G P' E Z ((go st2 (acc ++ [y])).bind f) Q else Post K G P' E Z ((go st1 acc).bind f) Q) ∧
    ∃ b st1, mt env1 st = .ok b st1 ∧ (b = true → ∃ y st2, me env1 st1 = .ok y st2) := by
  cases e1 : mt env1 st with
  | ok b st1 =>
    rw [e1] at h
    cases b with
    | false => exact ⟨fun b' st' e => by cases e; exact iteF h, false, st1, rfl, fun z => by cases z⟩
    | true =>
      replace h : Post K G P' E Z (((me env1 st1).only fun y st2 => (if acc.length < sizeLine then go st2 (acc ++ [y]) else .stuck)).bind f) Q := h
      cases e2 : me env1 st1 with
      | ok y st2 =>
        rw [e2] at h
        replace h : Post K G P' E Z ((if acc.length < sizeLine then go st2 (acc ++ [y]) else .stuck).bind f) Q := h
        split at h
        · rename_i hz
          refine ⟨fun b' st' e => ?_, true, st1, rfl, fun _ => ⟨y, st2, e2⟩⟩
          cases e
          refine iteT fun y' st3 e3 => ?_
          rw [e2] at e3; cases e3
          exact ⟨hz, h⟩
        · exact h.elim
      | exc c ns ds st2 => rw [e2] at h; exact h.elim
      | stuck => rw [e2] at h; exact h.elim
  | exc c ns ds st1 => rw [e1] at h; exact h.elim
  | stuck => rw [e1] at h; exact h.elim
theorem lc_run {H : Hp} {env : Env} {st : Sto} {ds : List D} {J : It} {E : XK} {Q : VK} {f : List D → Sto → R D} (R : RelH K G Z H st) (S : RepE K G Z env σ) (w : rI K G Z ds J) (hsl : ∀ i ∈ t.slots, i ∈ vs) (hD : H Dd = none)
    (hf : ∀ acc Z1 st1 H1, LcAt K G Z Dd acc Z1 st1 H1 → Post K G (rD K G) E Z (f acc st1) Q → Q (.ref Dd) H1)
    (h : Post K G (rD K G) E Z ((mLcGo t vs mt me ds env st []).bind f) Q) :
    ∃ W' : Nat → Nat → Hp → Prop, (∃ m, W' 0 m (upd H Dd (.lst []))) ∧ ∀ i m H, W' i m H →
      (J.stop i H ∧ Q (.ref Dd) H) ∨ (J.go i H ∧ ∃ Nx : Hp → Prop, (∀ H', Nx H' → ∃ m', m' < m ∧ W' (i + 1) m' H') ∧ ∀ x H', J.yld i H x H' → gOf K t x (wipe σ vs) H' fun σ2 H2 => wipe σ2 vs = wipe σ vs ∧ tSB K G W0 mt σ2 H2 fun b H3 =>
        if b = true then tS K G W0 me σ2 H3 fun y H4 => ∃ acc, H4 Dd = some (.lst acc) ∧ acc.length < sizeLine ∧ Nx (upd H4 Dd (.lst (acc ++ [y]))) else Nx H3) := by
  obtain ⟨Gd, Y, wk, hG, hY⟩ := w
  obtain ⟨Z1, L0, _⟩ := LcAt.start (Dd := Dd) R hD
  refine lc_it wk (fun i H => ∃ Z1 st1 acc, LcAt K G Z Dd acc Z1 st1 H ∧ Post K G (rD K G) E Z ((mLcGo t vs mt me (ds.drop i) env st1 acc).bind f) Q) ⟨Z1, st, [], L0, h⟩ (fun i H _ ⟨Z1, _, _, L, _⟩ => hG Z1 H _ L.ex L.rel) (fun i x H H' hi ⟨Z1, st1, acc, L, h1⟩ y => ?_) fun H ⟨Z1, st1, acc, L, h1⟩ => ?_
  · obtain ⟨Z2, d, l2, R2, hd, rd⟩ := hY i x H H' Z1 st1 L.ex L.rel hi y
    have L2 := L.le l2 R2
    rw [drop_cons hi hd] at h1
    unfold mLcGo at h1
    cases e1 : t.at d (wipeE env vs) st1 with
    | none => rw [e1] at h1; exact h1.elim
    | some env2 =>
      rw [e1] at h1
      refine Tg.run R2 t d x (wipeE env vs) env2 (wipe σ vs) _ ((RepE.ux L2.ex _ _ S).wipe vs) rd e1 fun σ2 S2 off => ⟨(Off.trans (off.sub hsl) (off_wipe vs σ)).wipe, ?_⟩
      obtain ⟨ha, hb⟩ := turn_of (go := fun st acc => mLcGo t vs mt me (ds.drop (i + 1)) env st acc) h1
      exact lc_turn (env := env) (k := .stuck) L2 S2 (Fin := fun st2 acc2 => Post K G (rD K G) E Z ((mLcGo t vs mt me (ds.drop (i + 1)) env st2 acc2).bind f) Q) (fun st2 acc2 F Z3 H3 L3 => ⟨Z3, st2, acc2, L3, F⟩) ha hb
  · rw [List.drop_length] at h1
    exact hf acc Z1 st1 H L h1
theorem rs_lc {H : Hp} {Q : VK} (hsl : ∀ i ∈ t.slots, i ∈ vs) (h : tS K G W (mLc t vs mi mt me) σ H Q) : tLc (tSI K G W mi) (gOf K t) (tSB K G W0 mt) (tS K G W0 me) vs σ H Q :=
  rs_bind (f := fun ds env st1 => (mLcGo t vs mt me ds env st1 []).bind fun acc st2 => .ok (D.lst acc) st2) h fun ds J H1 Z env st R S w q => fun Dd hD => lc_run R S w hsl hD (fun acc Z1 st1 H1 L h => L.fin (R.tmp.free hD) h) q
theorem rs_lcC {H : Hp} {Q : VK} (hsl : ∀ i ∈ t.slots, i ∈ vs) (h : tS K G W (mLcC t vs mi mt me) σ H Q) : tLc (tSI K G W mi) (gOf K t) (tSB K G W0 mt) (tS K G W0 me) vs σ H Q :=
  rs_bind (f := fun ds env st1 => (mLcGo t vs mt me ds env st1 []).bind fun acc st2 => .ok (D.ptr st2.length) (st2 ++ [.lst acc])) h fun ds J H1 Z env st R S w q => fun Dd hD => lc_run R S w hsl hD (fun acc Z1 st1 H1 L h => L.finC (R.tmp.free hD) h) q
theorem pTs_nil : PTs X [] (tSB K G W mYes) := ⟨fun pins s σ H Q I ⟨Z, env, st, R, S, h⟩ => pts_nil.run pins s σ H Q I (Post.now (P := rB) h R rfl)⟩
theorem pTs_one {c : Expr} (h : PT X c (tSB K G W mt)) : PTs X [c] (tSB K G W mt) := pts_one h
variable {scope : Scope} {own : List (Str × Nat)}
theorem pS_lcC (hc : X.calm = true) (hN : X.N.Nodup) (hi : PI X tg iter (tSI X.K G W mi)) (ok : BlkOk X.N X.env.scope scope own)
    (hg : ∀ (s : Shared) (H : Hp) (C : Addr) (cl : List (Str × Addr)) (fp : List Addr), PG (X.blk s H scope (compEnvC scope cl C X.env) fp) tg (gOf X.K t))
    (ht : ∀ (s : Shared) (H : Hp) (C : Addr) (cl : List (Str × Addr)) (fp : List Addr), PTs (X.blk s H scope (compEnvC scope cl C X.env) fp) ifs (tSB X.K G W0 mt))
    (he : ∀ (s : Shared) (H : Hp) (C : Addr) (cl : List (Str × Addr)) (fp : List Addr), PE (X.blk s H scope (compEnvC scope cl C X.env) fp) elt (tS X.K G W0 me))
    (hvs : own.map (·.2) = vs := by rfl) (hsl : ∀ i ∈ t.slots, i ∈ vs := by decide) (hf : ∀ x : Value, foldedSetIterable iter X.env x = pure x := by intro _; rfl) :
    PE X (.ListComp elt [⟨tg, iter, ifs, 0⟩] scope pos) (tS X.K G W (mLcC t vs mi mt me)) :=
  by subst hvs; exact pe_of (pe_lc hc hN hi ok hg ht he hf) fun σ H Q h => rs_lcC hsl h
/-- y = [..] -/
theorem pS_setLc {i : Nat} {y : Str} {py spos : Pos} (hc : X.calm = true) (hN : X.N.Nodup) (hy : X.N[i]? = some y) (hl : X.env.scope.names.lookup y = some .local)
    (hw : swapsWith (.ListComp elt [⟨tg, iter, ifs, 0⟩] scope pos) (some (.Name y py)) spos.line X.env = pure true) (hi : PI X tg iter (tSI X.K G W mi)) (ok : BlkOk X.N X.env.scope scope own)
    (hg : ∀ (s : Shared) (H : Hp) (C : Addr) (cl : List (Str × Addr)) (fp : List Addr), PG (X.blk s H scope (compEnvC scope cl C X.env) fp) tg (gOf X.K t))
    (ht : ∀ (s : Shared) (H : Hp) (C : Addr) (cl : List (Str × Addr)) (fp : List Addr), PTs (X.blk s H scope (compEnvC scope cl C X.env) fp) ifs (tSB X.K G W0 mt))
    (he : ∀ (s : Shared) (H : Hp) (C : Addr) (cl : List (Str × Addr)) (fp : List Addr), PE (X.blk s H scope (compEnvC scope cl C X.env) fp) elt (tS X.K G W0 me))
    (hvs : own.map (·.2) = vs := by rfl) (hsl : ∀ i ∈ t.slots, i ∈ vs := by decide) (hf : ∀ x : Value, foldedSetIterable iter X.env x = pure x := by intro _; rfl) :
    PS X (.Assign [.Name y py] (.ListComp elt [⟨tg, iter, ifs, 0⟩] scope pos) spos) (tSS X.K G W (mSet i (mLc t vs mi mt me))) :=
  by subst hvs; exact ps_of (ps_setLc (i := i) hc hN hy hl hw hi ok hg ht he hf) fun Dn σ H ⟨Z, env, st, R, S, h⟩ => rs_lc hsl ⟨Z, env, st, R, S, post_stm (f := fun d st' => .nx (env.set i (some d)) st') S h fun d st' Z' v H' l R' r q => q Z' _ H' (Gh.le.refl _) R' ((S.up l).set r i)⟩
end
end S
/-! comprehensions of two clauses; of dicts; dicts -/
namespace S
open PySem L2
/-! ### two clauses -/
section
variable {K : PySem.W.Frag} {G : GA} {W : WX} {X : Cx} {tg iter tg1 iter1 elt : Expr} {ifs ifs1 : List Expr} {pos : Pos} {t t1 : Tg} {vs vs1 : List Nat} {mi mi1 : MA} {mt mt1 : MB} {me : M} {Z0 Z : Gh} {Dd : Addr} {σ : St}
theorem Post.only {α β γ δ : Type} {P : Gh → α → β → Prop} {P' : Gh → γ → δ → Prop} {E : XK} {r : R α} {f : α → Sto → R γ} {Q : δ → Hp → Prop} (h : Post K G P' E Z (r.only f) Q) : ∃ a st, r = .ok a st ∧ Post K G P' E Z (f a st) Q := by
  cases r with
  | ok a st => exact ⟨a, st, rfl, h⟩
  | exc c ns ds st => exact h.elim
  | stuck => exact h.elim
variable {scope : Scope} {own : List (Str × Nat)}
end
end S
/-! comprehensions of dicts -/
namespace S
open PySem L2
def putKs (k : Key) (ks : List Key) : List Key := if ks.any (fun x => decide (x = k)) = true then ks else ks ++ [k]
def repl {α : Type} (k : Key) (x : α) : List Key → List α → List α
  | k' :: r, y :: ys => (if k' = k then x else y) :: repl k x r ys
  | _, _ => []
def putKd {α : Type} (k : Key) (x : α) (ks : List Key) (ds : List α) : List α := if ks.any (fun x => decide (x = k)) = true then repl k x ks ds else ds ++ [x]
section
variable {K : PySem.W.Frag} {G : GA} {Z : Gh}
theorem any_zip {k : Key} : ∀ {ks : List Key} {vs : List V}, ks.length = vs.length → ((ks.zip vs).any fun kv => decide (kv.1 = k)) = ks.any fun x => decide (x = k)
  | [], _, _ => rfl
  | _ :: _, [], h => by cases h
  | k' :: r, v :: vs, h => by
    rw [List.zip_cons_cons, List.any_cons, List.any_cons, any_zip (by simpa using h)]
theorem repl_zip {k : Key} {v : V} : ∀ {ks : List Key} {vs : List V}, ks.length = vs.length → (ks.zip vs).map (fun kv => if kv.1 = k then (kv.1, v) else kv) = ks.zip (repl k v ks vs) ∧ (repl k v ks vs).length = vs.length
  | [], [], _ => ⟨rfl, rfl⟩
  | [], _ :: _, h => by cases h
  | _ :: _, [], h => by cases h
  | k' :: r, u :: us, h => by
    have ih := repl_zip (k := k) (v := v) (ks := r) (vs := us) (by simpa using h)
    unfold repl
    rw [List.zip_cons_cons, List.map_cons, List.zip_cons_cons, ih.1]
    refine ⟨?_, by simp [ih.2]⟩
    split <;> rfl
theorem putK_zip {k : Key} {v : V} {ks : List Key} {vs : List V} (h : ks.length = vs.length) : putK (ks.zip vs) k v = (putKs k ks).zip (putKd k v ks vs) ∧ (putKs k ks).length = (putKd k v ks vs).length := by
  unfold putK putKs putKd
  rw [any_zip h]
  split
  · have z := repl_zip (k := k) (v := v) h
    exact ⟨z.1, h.trans z.2.symm⟩
  · refine ⟨?_, by simp [h]⟩
    rw [List.zip_append h]
    rfl
theorem RepL.repl {k : Key} {d : D} {v : V} (p : Rep K G Z d v) : ∀ {ks : List Key} {ds : List D} {vs : List V}, RepL K G Z ds vs → RepL K G Z (S.repl k d ks ds) (S.repl k v ks vs)
  | [], ds, vs, r => by cases ds <;> cases vs <;> exact rfl
  | _ :: _, [], _, r => by cases (show _ = _ from r); exact rfl
  | k' :: r, x :: ds, _, ⟨u, t, e, q, s⟩ => by
    subst e
    unfold S.repl
    refine ⟨_, _, rfl, ?_, RepL.repl p s⟩
    split
    · exact p
    · exact q
theorem RepL.putKd {k : Key} {d : D} {v : V} (p : Rep K G Z d v) {ks : List Key} {ds : List D} {vs : List V} (r : RepL K G Z ds vs) : RepL K G Z (S.putKd k d ks ds) (S.putKd k v ks vs) := by
  unfold S.putKd
  split
  · exact RepL.repl p r
  · exact r.append ⟨v, [], rfl, p, rfl⟩
end
structure DcAt (K : PySem.W.Frag) (G : GA) (Z0 : Gh) (Dd : Addr) (ks : List Key) (ds : List D) (Z : Gh) (st : Sto) (H : Hp) : Prop where
  ex : Z0.ex Z
  rel : RelH K G Z H st
  at_ : ∃ vs, Z.tmp = upd Z0.tmp Dd (.dK (ks.zip vs)) ∧ ks.length = vs.length ∧ RepL K G Z ds vs
section
variable {K : PySem.W.Frag} {G : GA} {W : WX} {X : Cx} {tg iter kx vx : Expr} {ifs : List Expr} {pos : Pos} {t : Tg} {vs : List Nat} {mi : MA} {mt : MB} {mk mv : M} {Z0 Z : Gh} {Dd : Addr} {st : Sto} {H : Hp} {σ : St} {ks : List Key} {ds : List D}
theorem DcAt.le {Z' : Gh} {st' : Sto} {H' : Hp} (L : DcAt K G Z0 Dd ks ds Z st H) (l : Z.le Z') (R : RelH K G Z' H' st') : DcAt K G Z0 Dd ks ds Z' st' H' := by
  obtain ⟨e, _, vs, h1, hn, h2⟩ := L
  exact ⟨e.trans l.ex, R, vs, l.tmp.trans h1, hn, RepL.up l _ _ h2⟩
theorem DcAt.add {k : Key} {z : D} {v : V} (L : DcAt K G Z0 Dd ks ds Z st H) (hz : ks.length < sizeLine) (r : Rep K G Z z v) : ∃ kvs, H Dd = some (.dK kvs) ∧ kvs.length < sizeLine ∧ ∃ Z', DcAt K G Z0 Dd (putKs k ks) (putKd k z ks ds) Z' st (upd H Dd (.dK (putK kvs k v))) := by
  obtain ⟨e, R, vs, h1, hn, h2⟩ := L
  have hp : Z.tmp Dd = some (.dK (ks.zip vs)) := by rw [h1, upd_same]
  have pz := putK_zip (k := k) (v := v) hn
  have ex : Z.ex ⟨Z.fz, Z.rho, upd Z.tmp Dd (.dK (putK (ks.zip vs) k v))⟩ := ⟨Same.refl _, ⟨[], by simp⟩⟩
  refine ⟨_, R.tmp _ _ hp, by rw [List.length_zip, ← hn, Nat.min_self]; exact hz, ⟨Z.fz, Z.rho, upd Z.tmp Dd (.dK (putK (ks.zip vs) k v))⟩, ⟨e.trans ex, R.setTmp hp, _, ?_, pz.2, ?_⟩⟩
  · show upd Z.tmp Dd _ = upd Z0.tmp Dd _
    rw [h1, upd_upd, pz.1]
  · exact RepL.putKd (Rep.ux ex _ _ r) (RepL.ux ex _ _ h2)
theorem DcAt.start (R : RelH K G Z0 H st) (hn : H Dd = none) : ∃ Z, DcAt K G Z0 Dd [] [] Z st (upd H Dd (.dK [])) :=
  ⟨⟨Z0.fz, Z0.rho, upd Z0.tmp Dd (.dK [])⟩, ⟨⟨Same.refl _, ⟨[], by simp⟩⟩, R.addTmp hn, [], rfl, rfl, rfl⟩⟩
variable {scope : Scope} {own : List (Str × Nat)}
end
end S
/-! sorts of things: isinstance, own ==, own str -/
namespace S
open PySem L2
inductive Ty where
  | non | bl | int | str | lst | tup | dct | cls (c : Nat) | bad
  deriving DecidableEq
section
variable {K : PySem.W.Frag} {G : GA} {Z : Gh} {H : Hp} {st : Sto} {d : D} {v : V}
end
section
variable {G : GA} {W : WX} {X : Cx} {e : Expr} {m : M} {p pos : Pos} {ki : Ty → Option Bool}
end
/-! ### own == -/
def Ad2E (K : PySem.W.Frag) (G : GA) (E : XK) (f : D → D → Sto → R D) (r : R2) : Prop := ∀ (Z : Gh) (H : Hp) (st : Sto) (a b : D) (x y : V) (Q : VK), RelH K G Z H st → Rep K G Z a x → Rep K G Z b y → Post K G (rD K G) E Z (f a b st) Q → r x y H Q
theorem Ad2.e {K : PySem.W.Frag} {G : GA} {E : XK} {f : D → D → Sto → R D} {r : R2} (h : Ad2 K G f r) : Ad2E K G E f r := fun Z H st a b x y Q => h E Z H st a b x y Q
section
variable {K : PySem.W.Frag} {G : GA} {E : XK} {X : Cx} {cs : List Nat} {nf : Nat → Ty → Bool} {F : List D → Sto → R D} {f : D → D → Sto → R D} {g : Addr} {r : R2}
variable {a b : Expr} {m n : M} {pos : Pos} {σ : St} {H : Hp}
/-! ### str(o) by the own __str__ -/
def AdLE (K : PySem.W.Frag) (G : GA) (E : XK) (f : List D → Sto → R D) (r : List V → Hp → VK → Prop) : Prop := ∀ (Z : Gh) (H : Hp) (st : Sto) (as : List D) (xs : List V) (Q : VK), RelH K G Z H st → RepL K G Z as xs → Post K G (rD K G) E Z (f as st) Q → r xs H Q
theorem AdL.e {f : List D → Sto → R D} {r : List V → Hp → VK → Prop} (h : AdL K G f r) : AdLE K G E f r := fun Z H st as xs Q => h E Z H st as xs Q
end
/-! ### bodies that say super() -/
section
variable {K : PySem.W.Frag} {G : GA} {W : WX} {X : Cx} {st : Stmt} {rest : List Stmt} {c : Code}
end
section
variable {G : GA} {X : Cx} {Dd g : Addr} {y nm : Str} {k n : Nat} {fd : FuncData} {ps : List Str} {F : List D → Sto → R D} {E : XK} {e : Expr} {es : List Expr} {m : MA} {p0 p1 p2 pos pos' : Pos} {i : Nat} {pl : Sem Bool} {body : List Stmt} {cs : List Nat}
end
section
variable {P : Program} {w : World} {K : PySem.W.Frag} {mg : Str → Option Value} {base : Heap} {G : GA}
end
end S
/-! zip of two things, each a list or a tuple -/
namespace S
open PySem L2
/-- a list (true) or a tuple (false) -/
def SqA (b : Bool) (K : PySem.W.Frag) (H : Hp) (a : Addr) (xs : List V) : Prop := match b with
  | true => SqL K H a xs
  | false => SqT K H a xs
def ItA (b : Bool) (h : Heap) (it a : Addr) (i : Nat) : Prop := match b with
  | true => h.IsListIter it a i
  | false => h.IsTupleIter it a i
def SeA (b : Bool) (h : Heap) (a : Addr) (its : Array Value) : Prop := match b with
  | true => h.IsList a its
  | false => h.IsTuple a its
def itO (b : Bool) (a : Addr) : Obj := match b with
  | true => { cls := .type "list_iterator", data := .fields #[.ref a, .int 0 0] }
  | false => { cls := .type "tuple_iterator", data := .fields #[.ref a, .int 0 0] }
section
variable {prog : Program} {w : World} {A : Around} {b : Bool}
theorem draws_a (hh : A.handled = none) (it l : Addr) (hne : l ≠ it) (items : Array Value) : Draws prog w A it [it, l] items.size (fun i v => items[i]? = some v) (fun i h => ItA b h it l i ∧ SeA b h l items) := by
  cases b with
  | true => exact Draws.list hh it l hne items
  | false => exact Draws.tuple hh it l hne items
theorem begins_a (l : Addr) (items : Array Value) : Begins (.ref l) (itO b l) fun h => SeA b h l items := by
  cases b with
  | true => exact begins_list l items
  | false => exact begins_tuple l items
theorem ItA.some_ {h : Heap} {it a : Addr} {i : Nat} (x : ItA b h it a i) : ∃ o, h.get? it = some o ∧ ∀ v, o.data ≠ .cell v := by
  cases b with
  | true => obtain ⟨o, e, _, d⟩ := x; exact ⟨o, e, fun v q => by rw [d] at q; cases q⟩
  | false => obtain ⟨o, e, _, d⟩ := x; exact ⟨o, e, fun v q => by rw [d] at q; cases q⟩
theorem ItA.at_ {h h' : Heap} {it a : Addr} {i : Nat} (x : ItA b h it a i) (k : ∀ o, h.get? it = some o → h'.get? it = some o) : ItA b h' it a i := by
  cases b with
  | true => exact Heap.IsListIter.at x k
  | false => exact Heap.IsTupleIter.at x k
theorem ItA.new {h : Heap} {it a : Addr} (e : h.get? it = some (itO b a)) : ItA b h it a 0 := by
  cases b with
  | true => exact ⟨_, e, rfl, rfl⟩
  | false => exact ⟨_, e, rfl, rfl⟩
variable {X : Cx} {pins : List (Addr × Obj)} {σ : St} {H : Hp} {s : Shared} {a : Addr} {xs ys : List V}
theorem sqa_read (I : Inv X pins σ H s) (q : SqA b X.K H a xs) : ∃ its : List Value, Vals xs its ∧ SeA b s.heap a its.toArray ∧ a < s.heap.objs.size := by
  cases b with
  | true =>
    obtain ⟨its, rv, p, _⟩ := I.list q
    exact ⟨its, rv, p.isList, p.lt⟩
  | false =>
    obtain ⟨its, rv, p, _⟩ := I.tuple q
    obtain ⟨o, ho, _⟩ := id p
    exact ⟨its, rv, p, Heap.lt_size ho⟩
theorem sqa_inj (I : Inv X pins σ H s) (q : SqA b X.K H a xs) (q' : SqA b X.K H a ys) : xs = ys := by
  cases b with
  | true => exact I.list_inj q q'
  | false => exact I.tuple_inj q q'
end
end S
namespace S
open PySem L2
section
variable {K : PySem.W.Frag} {G : GA} {W : WX} {X : Cx} {Z : Gh}
theorem itemsF_sq {d : D} {v : V} {xs : List D} (r : Rep K G Z d v) (e : itemsF d = some xs) : ∃ b a vs, v = .ref a ∧ SqA b K Z.fz a vs ∧ RepL K G Z xs vs := by
  cases d with
  | lst ys => cases e; obtain ⟨a, vs, h1, h2, h3⟩ := r; exact ⟨true, a, vs, h1, SqL.of h2, h3⟩
  | rls ys => cases e; obtain ⟨a, vs, h1, h2, h3⟩ := r; exact ⟨true, a, vs, h1, h2, h3⟩
  | tup ys => cases e; obtain ⟨a, vs, h1, h2, h3⟩ := r; exact ⟨false, a, vs, h1, h2, h3⟩
  | _ => cases e
theorem SqA.same {b : Bool} {H H' : Hp} {a : Addr} {xs : List V} (e : Same H H') (h : SqA b K H a xs) : SqA b K H' a xs := by
  cases b with
  | true => exact e.seq h
  | false => exact Same.sqt' e h
end
end S
/-! calls by keywords and with defaults -/
namespace S
open PySem L2
section
variable {K : PySem.W.Frag} {x qual : Str} {params : Arguments} {body : List Stmt} {scope : Scope} {dvs : List V} {f : Addr} {fd : FuncData} {ps : List Str}
end
section
variable {G : GA} {X : Cx} {k n l1 l2 : Nat} {f : Addr} {fd : FuncData} {ps ks : List Str} {F : List D → Sto → R D} {arr : List Nat} {dds : List D} {dvs : List V} {E : XK} {x : Str} {p pos apos : Pos} {e o : Expr} {es : List Expr} {kws : List Keyword} {m mk : MA} {mo : M} {σ : St} {H : Hp}
end
section
variable {P : Program} {w : World} {K : PySem.W.Frag} {mg : Str → Option Value} {base : Heap} {G : GA}
theorem fnSD {fz : Bool} {x qual : Str} {params : Arguments} {body : List Stmt} {scope : Scope} {dvs : List V} {f : Addr} {fd : FuncData} {N ps : List Str} {k n : Nat} {ms : MS} (F : FunD K x qual params body scope dvs [] f fd) (S : FnScope N ps scope) (hn : n = ps.length)
    (hb : ∀ (cdv : Value) (A : Around) (outer : List PySem.Env) (s : Shared) (H : Hp) (E : XK), Room k (A.deeper (PyProof.Rows.envOfC qual scope s.heap.objs.size f cdv)) → PSs (cxOf (L2.CX P w) P w K mg base N qual scope f cdv A outer s H E) body (tSS K G (wE E) ms)) :
    FnOk P w K mg base (L2.CX P w) (k + 1) f fd ps (spS K G n (mFun fz N.length ms)) :=
  F.ok S (fun vs H Q E h => by rw [h.1, hn]) fun cdv A outer s H vs Q E hr h => ⟨_, hb cdv A outer s H E hr, sp_body h⟩
end
end S
/-! what is walked, of whatever sort; the text's facts -/
namespace S
open PySem L2
theorem kit_ownF2 {K : PySem.W.Frag} {t : Value} {C : Addr} {cd : ClassData} (hne : (t == .ref C) = false) (h : PySem.W.clsIn K C = some cd) (ht : PySem.W.typeIn K (.ref C) = some (.type "type")) (hs : PySem.W.subIn K t (.ref C) = some false) : PySem.W.kitOne K t (.ref C) = some false := by
  unfold PySem.W.kitOne
  rw [hne]
  show (if ((PySem.W.clsIn K C).isSome && PySem.W.typeIn K (.ref C) == some (.type "type")) = true then PySem.W.subIn K t (.ref C) else none) = some false
  rw [h, ht]
  exact (if_pos rfl).trans hs
/-- a def of the module, found by the name g -/
structure Dv (K : PySem.W.Frag) (mg : Str → Option Value) (g x qual : Str) (st : Stmt) (ps : List Str) (dvs : List V) (f : Addr) (fd : FuncData) : Prop where
  F : FunD K x qual (defArgs st) (defBody st) (defScope st) dvs [] f fd
  g : mg g = some (.ref f)
/-- a method -/
structure Mv (K : PySem.W.Frag) (x qual : Str) (st : Stmt) (ps : List Str) (dvs : List V) (f : Addr) (fd : FuncData) : Prop where
  F : FunD K x qual (defArgs st) (defBody st) (defScope st) dvs [] f fd
  fn : PySem.W.isFn K (.ref f) = true
theorem funD_mk {K : PySem.W.Frag} {x qual : Str} {st : Stmt} {f : Addr} {oc : Value} {od an : Option Addr} {osl : Array (Option Value)} {kV doc pm cdv ct : Value} (l : K.lookup f = some ⟨oc, od, .func (PySem.W.fnOf x qual (defArgs st) (defBody st) (defScope st) .none kV doc pm an cdv ct), osl⟩)
    (c : PySem.W.codeIn K cdv qual = true) (k : PySem.W.keepIn K (.ref f) = true) : FunD K x qual (defArgs st) (defBody st) (defScope st) [] [] f (PySem.W.fnOf x qual (defArgs st) (defBody st) (defScope st) .none kV doc pm an cdv ct) := ⟨⟨oc, od, .none, kV, doc, pm, an, cdv, ct, osl, rfl, l, c, .inl ⟨rfl, rfl⟩, .inl rfl⟩, k⟩
end S
/-! the law as a whole -/
namespace S
open PySem L2
def spAll (K : PySem.W.Frag) (n : Nat) (F : List D → Sto → R D) : Sp := fun vs H Q E => ∀ G : GA, (∀ f, G.ok f) → spS K G n F vs H Q E
theorem repInts {K : PySem.W.Frag} {G : GA} {Z : Gh} : ∀ ns : List Int, RepL K G Z (ns.map D.int) (ns.map V.int)
  | [] => rfl
  | n :: r => ⟨_, _, rfl, rfl, repInts r⟩
theorem sp_script {K : PySem.W.Frag} {H : Hp} {a : Addr} {ns : List Int} {F : List D → Sto → R D} {st : Sto} {E : XK} (h : SqL K H a (ns.map V.int)) (hF : F [.rls (ns.map D.int)] [] = .ok (.bl true) st) : spAll K 1 F [.ref a] H (fun v _ => v = .bl true) E := fun G hG => by
  refine ⟨rfl, ⟨H, [], fun _ => none⟩, [.rls (ns.map D.int)], [], ⟨Same.refl _, rfl, fun i c b e _ => by simp at e, fun i c b e _ _ => by simp at e, fun i j c c' b e _ _ _ _ _ => by simp at e, fun b o e => (by cases e), fun b o e => (by cases e), hG _⟩, ⟨_, _, rfl, ⟨a, _, rfl, h, repInts ns⟩, rfl⟩, ?_⟩
  rw [hF]
  exact fun Z' v H' _ _ r => r
end S
/-! dicts by ints and texts -/
namespace S
open PySem L2
section
variable {K : PySem.W.Frag} {G : GA} {Z : Gh}
end
section
variable {K : PySem.W.Frag} {G : GA} {W : WX} {X : Cx} {o i e : Expr} {m n k : M} {pos pos' : Pos} {σ : St} {H : Hp}
end
/-! ### displays -/
section
variable {K : PySem.W.Frag} {G : GA} {W : WX} {X : Cx} {pos : Pos} {σ : St} {H : Hp}
end
end S
/-! freezing all that is reached; lists compared with the empty one; augmented assignment -/
namespace S
open PySem L2
mutual
def frzD : Nat → D → Sto → Option (D × Sto)
  | 0, _, _ => none
  | n + 1, d, st => match d with
    | .ptr i => (match st[i]? with
      | some (.lst xs) => (frzL n xs (st.set i .dead)).map fun p => (.lst p.1, p.2)
      | some (.dct ks xs) => (frzL n xs (st.set i .dead)).map fun p => (.dct ks p.1, p.2)
      | some (.ins c ns xs) => (frzL n xs (st.set i .dead)).map fun p => (.ins c ns p.1, p.2)
      | _ => none)
    | .lst xs => (frzL n xs st).map fun p => (.lst p.1, p.2)
    | .tup xs => (frzL n xs st).map fun p => (.tup p.1, p.2)
    | .dct ks xs => (frzL n xs st).map fun p => (.dct ks p.1, p.2)
    | .dkd ks xs => (frzL n xs st).map fun p => (.dkd ks p.1, p.2)
    | .ins c ns xs => (frzL n xs st).map fun p => (.ins c ns p.1, p.2)
    | d => some (d, st)
def frzL : Nat → List D → Sto → Option (List D × Sto)
  | 0, _, _ => none
  | n + 1, ds, st => match ds with
    | [] => some ([], st)
    | d :: r => match frzD n d st with
      | some (d', st1) => (frzL n r st1).map fun p => (d' :: p.1, p.2)
      | none => none
end
section
variable {K : PySem.W.Frag} {G : GA} {W : WX} {X : Cx} {e : Expr} {m : M} {Z : Gh} {H : Hp} {st st' : Sto}
end
/-! ### name op= e -/
end S
/-! match; name op= e -/
namespace S
open PySem L2
inductive PtS where
  | val (z : Str)
  | cap (i : Nat)
inductive Pt where
  | one (p : PtS)
  | seq (ps : List PtS)
/-- none: not known; some none: no match; some (some bs): what is bound -/
def PtS.at (p : PtS) (d : D) : Option (Option (List (Nat × D))) := match p, d with
  | .val z, .str x => some (if x = z then some [] else none)
  | .cap i, d => some (some [(i, d)])
  | _, _ => none
def atS : List PtS → List D → Option (Option (List (Nat × D)))
  | [], [] => some (some [])
  | p :: ps, d :: ds => match p.at d with
    | none => none
    | some none => some none
    | some (some bs) => match atS ps ds with
      | none => none
      | some none => some none
      | some (some more) => some (some (bs ++ more))
  | _, _ => none
def Pt.at (p : Pt) (d : D) (st : Sto) : Option (Option (List (Nat × D))) := match p with
  | .one p => p.at d
  | .seq ps => match rd st d with
    | .lst xs => if xs.length = ps.length then atS ps xs else some none
    | _ => none
def setAll (env : S.Env) (bs : List (Nat × D)) : S.Env := bs.foldl (fun e p => e.set p.1 (some p.2)) env
def mMatchGo (d : D) : List (Pt × MS) → MS
  | [], env, st => .nx env st
  | (p, ms) :: r, env, st => match p.at d st with
    | none => .stuck
    | some none => mMatchGo d r env st
    | some (some bs) => ms (setAll env bs) st
section
variable {G : GA} {X : Cx} {W : WX}
/-- the slots and values that a match binds, as names and values -/
def BindsR (X : Cx) (G : GA) (Z : Gh) : List (Nat × D) → List (Str × Value) → Prop := Paired fun b n => (X.N[b.1]? = some n.1 ∧ Loc X.env.scope n.1 ∧ (X.fn n.1 = true ∨ X.env.scope.names.lookup n.1 = some .local)) ∧ ∃ v, Rep X.K G Z b.2 v ∧ RelV v n.2
def PatQ (X : Cx) (G : GA) (Z : Gh) (r : Option (List (Nat × D))) (Q : Option (List (Str × Value)) → Shared → Prop) (s : Shared) : Prop := match r with
  | none => Q none s
  | some bs => ∀ nvs, BindsR X G Z bs nvs → Q (some nvs) s
structure PatS (X : Cx) (G : GA) (p : Pattern) (q : PtS) : Prop where
  ns : p.isStar = false
  run : ∀ (pins : List (Addr × Obj)) (s : Shared) (σ : St) (H : Hp) (Z : Gh) (d : D) (v : V) (u : Value) (Q : Option (List (Str × Value)) → Shared → Prop) (r : Option (List (Nat × D))), Inv X pins σ H s → Rep X.K G Z d v → RelV v u → q.at d = some r →
    (∀ s', Inv X pins σ H s' → PatQ X G Z r Q s') → wpAny (model X.prog X.w) X.A (matchPattern p X.env u) Q X.xe s
structure PatX (X : Cx) (G : GA) (p : Pattern) (q : Pt) : Prop where
  run : ∀ (pins : List (Addr × Obj)) (s : Shared) (σ : St) (H : Hp) (Z : Gh) (st : Sto) (d : D) (v : V) (u : Value) (Q : Option (List (Str × Value)) → Shared → Prop) (r : Option (List (Nat × D))), Inv X pins σ H s → RelH X.K G Z H st → Rep X.K G Z d v → RelV v u → q.at d st = some r →
    (∀ s', Inv X pins σ H s' → PatQ X G Z r Q s') → wpAny (model X.prog X.w) X.A (matchPattern p X.env u) Q X.xe s
structure PCs (X : Cx) (G : GA) (W : WX) (cases : List MatchCase) (cs : List (Pt × MS)) : Prop where
  run : ∀ (pins : List (Addr × Obj)) (s : Shared) (σ : St) (H : Hp) (Z : Gh) (env : S.Env) (st : Sto) (d : D) (v : V) (u : Value) (first : Bool) (Dn : Ends), Inv X pins σ H s → RelH X.K G Z H st → RepE X.K G Z env σ → Rep X.K G Z d v → RelV v u → PostS X.K G W Z (mMatchGo d cs env st) Dn →
    wpAny (model X.prog X.w) X.A (matchCases cases X.env u first) (SP X pins Dn) X.xe s
end
end S
/-! try that nothing leaves; classes as values; classmethods -/
namespace S
open PySem L2
section
variable {G : GA} {X : Cx} {k n : Nat} {f g p : Addr} {fd : FuncData} {ps ks : List Str} {F : List D → Sto → R D} {dds : List D} {dvs : List V} {ds : List Value} {E : XK} {x nm : Str} {pos apos np : Pos} {e o : Expr} {es : List Expr} {kws : List Keyword} {m mk : MA} {mo : M} {mc : Value} {arr : List Nat} {l2 : Nat}
end
end S
/-! lists of unlike lengths compared -/
namespace S
open PySem L2
section
variable {K : PySem.W.Frag} {G : GA} {X : Cx}
end
end S
/-! small things: -e, C(), instances that change on -/
namespace S
open PySem L2
section
variable {G : GA} {W : WX} {X : Cx} {k n : Nat} {f : Addr} {fd : FuncData} {ps : List Str} {F : List D → Sto → R D} {dds : List D} {dvs : List V} {ds : List Value} {E : XK} {x : Str} {p pos : Pos} {e : Expr} {m : M}
end
end S
/-! plain laws: loops with an invariant, the law's end -/
namespace S
open PySem L2
theorem for_inv {t : Tg} {body : MS} (I : S.Env → Sto → Prop) : ∀ {ds : List D} {env : S.Env} {st : Sto}, I env st → (∀ d ∈ ds, ∀ env st, I env st → ∃ env1 env2 st2, t.at d env st = some env1 ∧ body env1 st = .nx env2 st2 ∧ I env2 st2) → ∃ env' st', mForGo t body ds env st = .nx env' st' ∧ I env' st'
  | [], env, st, h0, _ => ⟨env, st, rfl, h0⟩
  | d :: ds, env, st, h0, hs => by
    obtain ⟨env1, env2, st2, e1, e2, h2⟩ := hs d (.head _) env st h0
    obtain ⟨env', st', e3, h3⟩ := for_inv I h2 fun d' m => hs d' (.tail _ m)
    refine ⟨env', st', ?_, h3⟩
    rw [← e3]
    unfold mForGo
    rw [e1]
    dsimp only
    rw [e2]
    cases ds <;> rfl
theorem range_nat {n : Nat} {d : D} (h : d ∈ rangeD 0 n) : ∃ k : Nat, k < n ∧ d = .int k := by
  obtain ⟨i, hi, rfl⟩ := List.mem_map.mp h
  exact ⟨i, List.mem_range.mp hi, by simp⟩
/-- how many cells the law asks -/
theorem cells_of (ns : List Int) (c : Int) (hc : 1 ≤ c) (hc' : c < 1000) (r : S.Env) (st : Sto) : ∃ n : Nat, mItRange (mCons (mApp dMax (mCons (mC (.int 1)) (mCons (mApp dMin (mCons (mC (.int c)) (mCons (mApp dLen (mCons (mVar 0) mNil)) mNil))) mNil))) mNil) (some (.rls (ns.map D.int)) :: r) st = .ok (rangeD 0 n) st := by
  by_cases h : (ns.length : Int) < c
  · by_cases h' : (ns.length : Int) > 1
    · exact ⟨ns.length, by simp [mItRange, mCons, mNil, mApp, mC, mVar, dMax, dMin, dLen, rd, R.bind, h, h']; omega⟩
    · exact ⟨1, by simp [mItRange, mCons, mNil, mApp, mC, mVar, dMax, dMin, dLen, rd, R.bind, h, h']⟩
  · by_cases h' : c > 1
    · refine ⟨c.toNat, ?_⟩
      have a1 : -4611686018427387904 ≤ c ∧ c < 4611686018427387904 := by omega
      simp [mItRange, mCons, mNil, mApp, mC, mVar, dMax, dMin, dLen, rd, R.bind, h, h', a1]
    · obtain rfl : c = 1 := by omega
      exact ⟨1, by simp [mItRange, mCons, mNil, mApp, mC, mVar, dMax, dMin, dLen, rd, R.bind, h]⟩
theorem below_ints : ∀ ns : List Int, belowL 0 (ns.map D.int) = true
  | [] => rfl
  | _ :: r => below_ints r
theorem law_end {n : Nat} {ms : MS} {ns : List Int} {st' : Sto} (h : ms (some (.rls (ns.map D.int)) :: List.replicate (n - 1) none) [] = .rt (.bl true) st') : ∃ st, pur (mFun true n ms) [.rls (ns.map D.int)] [] = .ok (.bl true) st := by
  have b : belowL 0 [D.rls (ns.map D.int)] = true := by
    show (belowL 0 (ns.map D.int) && true) = true
    rw [below_ints]; rfl
  have e2 : mFun true n ms [.rls (ns.map D.int)] [] = gc 0 (.bl true) st' := by
    show (match ms (some (.rls (ns.map D.int)) :: List.replicate (n - 1) none) [] with
      | .nx _ st' => gc 0 .non st'
      | .rt d st' => if true = true then (dFrz d st').bind fun d' st2 => gc 0 d' st2 else gc 0 d st'
      | .exc _ c ns ds st' => gcX 0 c ns ds st'
      | _ => .stuck) = _
    rw [h]
    rfl
  have e3 : ∃ st2, gc 0 (.bl true) st' = .ok (.bl true) st2 := by
    unfold gc
    split
    · exact ⟨_, rfl⟩
    · exact ⟨_, rfl⟩
  obtain ⟨st2, e3⟩ := e3
  refine ⟨[], ?_⟩
  unfold pur
  rw [if_pos b, e2, e3]
  rfl
end S
namespace L2
open PySem PySem.Spec PyProof.Rows
section
variable {X : Cx} {pins : List (Addr × Obj)} {σ : St} {H : Hp} {s : Shared} {a C u : Addr} {A : Around} {E : Value → Shared → Prop}
theorem upd_back {H : Hp} {a : Addr} {o : HO} (e : H a = some o) : upd H a o = H := funext fun b => by
  by_cases hb : b = a
  · rw [hb, upd_same, e]
  · exact upd_ne hb
/-- the library's bound __init__ of an exception is called: it leaves the exception as it was told -/
theorem bound_ok {us : List Value} {Q : Value → Shared → Prop} (T : OexC X.K C) (I : Inv X pins σ H s) (e : H a = some (exo a C none)) (hu : PySem.W.KxsAt "ValueError.__init__" u a s.heap) (hl : us.length ≤ sizeLine) (h : ∀ s', Inv X pins σ H s' → Q .none s') :
    wpAny (model X.prog X.w) A (call (.ref u) us) Q E s := by
  have back : ∀ (t : Nat) (h' : Heap) (t2 : Addr), (∀ b o, b ≠ a → s.heap.get? b = some o → h'.get? b = some o) → h'.get? a = some (PySem.HandSPX.excO C t2) → Q .none { s with heap := h', toks := t } := fun t h' t2 k hx => by
    have J := I.write (t' := t) (x := a) (e := a) (o := exo a C none) (by rw [e]; exact True.intro) (.inl rfl) k ⟨_, hx⟩ (exo_ok hx)
    rw [upd_back e] at J
    exact h _ J
  obtain ⟨_, _, _, _, _, _, _, _, _, _, _, _, _, _, _, hC, _⟩ := T.cls
  obtain ⟨t1, ho⟩ := exo_at I.hok e
  replace hC := I.kIn _ _ hC
  replace hu : s.heap.get? u = some (PySem.W.kxs_mw "ValueError.__init__" a) := hu
  obtain ⟨hp, g, d, t, os⟩ := s
  refine wpAny_call (codeAny_of_tree (show wpAny _ A.in1 (callAny (.ref u) ⟨us, []⟩) _ _ _ from ?_))
  simp only [callAny]
  refine wpAny_bind (wpAny_load hu ?_)
  dsimp only [PySem.W.kxs_mw]
  rw [if_pos (by decide +kernel)]
  show wpAny _ _ (if (Value.type "method-wrapper" != Value.type "method") = true then (checkBoundCall "ValueError.__init__" ⟨.ref a :: us, []⟩ >>= fun _ => again (Code.builtin "ValueError.__init__" ⟨.ref a :: us, []⟩)) else _) _ _ _
  rw [if_pos (by decide +kernel)]
  refine wpAny_bind (PySem.W.check_bound_init F.excBase_ValueError.toExcCallFacts hC ho rfl (wpAny_bind (wpAny_pure (wpAny_pure ⟨PySem.plainId_quiet F.excBase_ValueError.init.plain _, codeAny_builtin F.excBase_ValueError.initEntry ?_⟩))))
  exact PySem.W.exc_init_tree ho hl fun h' k hx _ => back _ h' _ k hx
end
/-- C's next __init__ behind D is ValueError's -/
structure SupE (K : PySem.W.Frag) (C D : Addr) : Prop where
  sub : PySem.W.mroIn K C (.ref D) = some true
  at_ : PySem.W.ks_superIn K C D "__init__" = some (some (.builtin "ValueError.__init__"))
  ve : PySem.W.mroIn K C (.type "ValueError") = some true
/-- super().__init__(e, ..) of an exception, the first parameter in slot i -/
def tSupE (K : PySem.W.Frag) (D : Addr) (i : Nat) (ta : TA) : TS := fun Dn σ H => ∃ (a C : Addr), σ[i]? = some (some (.ref a)) ∧ H a = some (exo a C none) ∧ OexC K C ∧ SupE K C D ∧
  ta σ H fun vs H1 => vs.length ≤ 1000 ∧ H1 a = some (exo a C none) ∧ Dn.nx σ H1
section
variable {X : Cx} {D : Addr} {y : Str} {e : Expr} {es : List Expr} {ta : TA} {p0 p1 p2 pos pos' : Pos} {i : Nat} {pl : Sem Bool} {body : List Stmt}
theorem psa_superE (S : SupX X D y) (ha : PA X (e :: es) ta) (hN : X.N[i]? = some y := by rfl)
    (hi : interactive X.env = false := by rfl) (hs : swapsWith (.Call (.Attribute (.Call (.Name "super" p0) [] [] p1) "__init__" p2) (e :: es) [] pos) none pos'.line X.env = pure false := by rfl)
    (hst : starEach (e :: es) X.env = (false, eval e X.env) :: starEach es X.env := by rfl) (hpl : (backTo pos (starEach es X.env)).any (·.1) = false := by rfl)
    (he : eval (.Call (.Attribute (.Call (.Name "super" p0) [] [] p1) "__init__" p2) (e :: es) [] pos) X.env = (do
      let ov ← attributeBase (.Call (.Name "super" p0) [] [] p1) "__init__" X.env (eval (.Call (.Name "super" p0) [] [] p1) X.env)
      standAt p2.atName
      let (f, first) ← holding [ov] (getMethod ov "__init__" pl)
      callWith pos f first (backTo pos (starEach (e :: es) X.env)) []) := by rfl) :
    PSA X (.func body X.env) (.Expr (.Call (.Attribute (.Call (.Name "super" p0) [] [] p1) "__init__" p2) (e :: es) [] pos) pos') (tSupE X.K D i ta) := by
  refine ⟨fun pins s σ H Dn I h => ?_⟩
  obtain ⟨a, C, hv, ea, T, SM, q⟩ := h
  refine ks_wpAt_Expr_any ?_ hi hs
  refine ks_wpAt_MethodCall ?_ he
  obtain ⟨t1, ho⟩ := exo_at I.hok ea
  refine sup_base S I hN hv (J := ⟨ho, rfl, rfl, trivial⟩) (odx := none) SM.sub (by decide) fun so s1 I1 k1 => ?_
  obtain ⟨t2, ho1⟩ := exo_at I1.hok ea
  have J1 : PySem.W.InstAt s1.heap a _ C none := ⟨ho1, rfl, rfl, trivial⟩
  have hat := SM.at_
  cases hc : PySem.W.clsIn X.K C with
  | none =>
    unfold PySem.W.ks_superIn at hat
    rw [hc] at hat
    cases hat
  | some cd =>
    unfold PySem.W.ks_superIn at hat
    rw [hc] at hat
    obtain ⟨hh, gg, d, t, os⟩ := s1
    refine PySem.W.kxs_getMethod PySem.W.kxs_ValueError (ClX.pin_at I1) (PySem.W.looks_opaque I1.kIn S.opq) (l₀ := cd.mro) ?_ rfl I1.kIn hat (J1.type.andThen (PySem.W.looks_mroIn I1.kIn SM.ve)) (PySem.W.ks_ne I1.kIn J1 hc) (by decide) ?_
    · exact fun A Q E s k q => wpAny_bind ((PySem.W.looks_clsIn I1.kIn hc) A _ E s k (wpAny_pure q))
    · have I2 := ClX.pin_new (t' := t + 1) (o := PySem.W.kxs_mw "ValueError.__init__" a) I1 (fun _ _ z => Heap.get?_push_of_some _ z) (Nat.le_refl _) (Heap.get?_push_size hh rfl) (fun v z => nomatch z)
      have go : wpAny (model X.prog X.w) X.A (spliced (backTo pos (starEach (e :: es) X.env))) (fun us s3 => PySem.W.KxsAt "ValueError.__init__" hh.objs.size a s3.heap ∧ wpAny (model X.prog X.w) X.A (call (.ref hh.objs.size) ([] ++ us)) (fun v s' => SP X pins Dn .next s') X.xe s3) X.xe ⟨hh.push (PySem.W.kxs_mw "ValueError.__init__" a), gg, d, t + 1, os⟩ :=
        thn (ha.run pos _ _ σ H _ I2 q) fun us s3 ⟨vs, H2, I3, rv, hl, ea2, q2⟩ => ⟨ClX.pin_at I3, bound_ok T I3 ea2 (ClX.pin_at I3) (by rw [List.nil_append, ← Paired.length rv, sizeLine_eq]; omega) fun s' J => ⟨σ, H2, ClX.unpin (ClX.unpin J), q2⟩⟩
      rw [hst] at go ⊢
      exact PySem.W.kxs_callWith (by show (false || (backTo pos (starEach es X.env)).any (·.1)) = false; rw [hpl]; rfl) (PySem.Calls.evalArgs_plain go)
end
/-! ### isinstance(e, C), e a caught exception that has a dict -/
/-- an own exception over ValueError with an __init__ that says super() and keeps one field -/
structure Xn (P : Program) (K : PySem.W.Frag) (mg : Str → Option Value) (x : Str) (C fI : Addr) (fld : Str) : Prop where
  g : mg x = some (.ref C)
  o : OexC K C
  iC : PySem.W.findIn K (.ref C) "__init__" = some (some (.ref fI))
  tI : PySem.W.typeIn K (.ref fI) = some (.type "function")
  na : PySem.W.findIn K (.ref C) fld = some none
  su : SupE K C C
  ec : ExcC K C
  cd : ∃ cd, PySem.W.clsIn K C = some cd
theorem Xn.xf {P : Program} {K : PySem.W.Frag} {mg : Str → Option Value} {x : Str} {C fI : Addr} {fld : Str} (T : Xn P K mg x C fI fld) : XfC K C := ⟨T.ec.hg, T.ec.hk, T.ec.hs, T.ec.hd⟩
/-- what __init__(self, w) of such an exception does -/
def spExc (C : Addr) (f : Str) : Sp := fun vs H Q _ => ∃ (a : Addr) (y : V), vs = [.ref a, y] ∧ H a = some (exo a C none) ∧ ∀ dx, H dx = none → dx ≠ a → Q .non (upd (upd H dx (exd dx [(f, y)])) a (exo a C (some dx)))
end L2
/-! own exceptions over ValueError: made and raised -/
namespace S
open PySem L2
section
variable {P : Program} {w : World} {K : PySem.W.Frag} {mg : Str → Option Value} {base : Heap}
/-- __init__(self, p): super().__init__(p); self.fld = p -/
theorem fnX {qual p fld x : Str} {st : Stmt} {f C : Addr} {fd : FuncData} {k : Nat} {ar : Arg} (F : Sn P K "__init__" qual st ["self", p] f fd C) (T : SupT P K mg) (S : FnScopeS ["self", p] ["self", p] (defScope st)) (Xc : Xn P K mg x C f fld)
    (hp : ((defArgs st).posonlyargs ++ (defArgs st).args).head? = some ar) (hy : ar.arg = "self") (hl : (defScope st).names.lookup ("self" : Str) = some .local)
    (hb : ∀ (cdv : Value) (cc : Addr) (A : Around) (outer : List PySem.Env) (s : Shared) (H : Hp) (E : XK), Room k (A.deeper (PySem.W.ksEnv qual (defScope st) s.heap.objs.size f cdv cc)) → SupX (cxS (L2.CX P w) P w K mg base ["self", p] qual (defScope st) f cdv cc A outer s H E) C "self" →
      PSsA (cxS (L2.CX P w) P w K mg base ["self", p] qual (defScope st) f cdv cc A outer s H E) (.func (defBody st) (PySem.W.ksEnv qual (defScope st) s.heap.objs.size f cdv cc)) (defBody st) (tSeq (tSupE K C 0 (tCons (tVar 1) tNil)) (tOst K fld (tVar 0) (tVar 1)))) :
    FnOk P w K mg base (L2.CX P w) (k + 1) f fd ["self", p] (spExc C fld) := by
  obtain ⟨cdD, hD⟩ := Xc.cd
  refine F.okX T S hD hp hy hl (fun vs H Q E h => ?_) fun cdv cc A outer s H vs Q E hr hs h => ⟨_, hb cdv cc A outer s H E hr hs, ?_⟩
  · obtain ⟨a, y, rfl, _⟩ := h
    rfl
  · obtain ⟨a, y, rfl, ho, q⟩ := h
    refine ⟨a, C, rfl, ho, Xc.o, Xc.su, y, rfl, ?_⟩
    exact ⟨by simp, ho, y, rfl, .ref a, rfl, a, C, rfl, Xc.o, Xc.na, .inl ⟨ho, q⟩⟩
end
section
variable {K : PySem.W.Frag} {G : GA} {Z : Gh}
end
section
variable {G : GA} {W : WX} {X : Cx} {k : Nat} {fI : Addr} {fd : FuncData} {ps : List Str} {x fld : Str} {p pos pos' : Pos} {e : Expr} {m : M}
end
end S
/-! instances and methods where exceptions may go anywhere (any W) -/
namespace S
open PySem L2
section
variable {X : Cx} {k : Nat} {f C : Addr} {fd : FuncData} {ps : List Str} {sp : Sp} {E : XK} {pins : List (Addr × Obj)} {σ : St} {H : Hp} {s : Shared} {Q : VK}
end
section
variable {G : GA} {W : WX} {X : Cx} {k n l1 l2 : Nat} {f : Addr} {fd : FuncData} {ps ks : List Str} {F : List D → Sto → R D} {dds : List D} {dvs : List V} {ds : List Value} {x : Str} {p pos apos : Pos} {e o : Expr} {es : List Expr} {kws : List Keyword} {m mk : MA} {mo : M} {arr : List Nat}
end
end S
/-! methods where exceptions may go anywhere (any W) -/
namespace S
open PySem L2
section
variable {G : GA} {W : WX} {X : Cx} {k n l2 : Nat} {f : Addr} {fd : FuncData} {ps ks : List Str} {F : List D → Sto → R D} {dds : List D} {dvs : List V} {ds : List Value} {pos apos : Pos} {e o : Expr} {es : List Expr} {kws : List Keyword} {m mk : MA} {mo : M} {arr : List Nat} {c : Nat} {nm : Str} {pl : Sem Bool} {σ : St} {H : Hp} {Q : VK}
end
end S
/-! try / except -/
namespace S
open PySem L2
/-- which of the raised classes the clause takes -/
abbrev Ki := Nat → Option Bool
section
variable {G : GA} {W : WX} {X : Cx} {x : Str} {cv : Value} {body suite : List Stmt} {b₀ : Stmt} {np pos pos' : Pos} {m hm : MS} {ki : Ki}
end
end S
/-! while, list.pop() -/
namespace S
open PySem L2
section
variable {K : PySem.W.Frag} {G : GA} {Z : Gh}
theorem RepL.at {d : D} : ∀ {ds : List D} {vs : List V}, RepL K G Z ds vs → ∀ {i : Nat}, ds[i]? = some d → ∃ v, vs[i]? = some v ∧ Rep K G Z d v
  | [], _, _, i, h => by simp at h
  | x :: ds, _, ⟨v, t, e, p, q⟩, 0, h => by subst e; cases h; exact ⟨v, rfl, p⟩
  | x :: ds, _, ⟨v, t, e, p, q⟩, i + 1, h => by
    subst e
    obtain ⟨u, h1, h2⟩ := RepL.at q (i := i) (by simpa using h)
    exact ⟨u, by simpa using h1, h2⟩
end
end S
/-! l[::-1] -/
namespace S
open PySem L2
section
variable {G : GA} {W : WX} {X : Cx} {e : Expr} {m : M} {k : Nat} {p1 p2 p3 pos : Pos} {K : PySem.W.Frag} {Z : Gh}
end
end S
/-! try .. except C as e: y = (something of e) -/
namespace S
open PySem L2
/-- an expression of a handler, by the class and the fields of what was caught -/
abbrev MX := Nat → List Str → List D → M
def tXG {α β : Type} (K : PySem.W.Frag) (G : GA) (P : Gh → α → β → Prop) (i : Nat) (a : Addr) (cls : Value) (d : Option Addr) (q : Nat → List Str → List D → Env → Sto → R α) : St → Hp → (β → Hp → Prop) → Prop := fun σ H Q =>
  σ[i]? = some (some (.ref a)) ∧ ∃ c ns ds Z env st, cls = .ref (G c) ∧ RelH K G Z H st ∧ XOk K G Z ns ds d ∧ RepE K G Z env σ ∧ Post K G P E0 Z (q c ns ds env st) Q
abbrev tX (K : PySem.W.Frag) (G : GA) (i : Nat) (a : Addr) (cls : Value) (d : Option Addr) (q : MX) : TE := tXG K G (rD K G) i a cls d q
theorem XOk.up {K : PySem.W.Frag} {G : GA} {Z Z' : Gh} {ns : List Str} {ds : List D} {d : Option Addr} (l : Z.le Z') (h : XOk K G Z ns ds d) : XOk K G Z' ns ds d := by
  rcases h with h | ⟨a, vs, h1, h2, h3, h4⟩
  · exact .inl h
  · exact .inr ⟨a, vs, h1, l.fz _ _ h2, h3, RepL.up l _ _ h4⟩
section
variable {G : GA} {X : Cx} {a : Addr} {oe : Obj} {cls : Value} {d : Option Addr} {pn : List (Addr × Obj)} {i : Nat} {e : Expr}
end
section
variable {G : GA} {W : WX} {X : Cx} {x n y : Str} {cv : Value} {i j : Nat} {body : List Stmt} {np pos pos' py ps : Pos} {m : MS} {q : MX} {ki : Ki} {e : Expr}
end
end S
/-! a tuple beside the empty one; which class a clause takes -/
namespace S
open PySem L2
section
variable {K : PySem.W.Frag} {G : GA} {X : Cx}
theorem kit_bltF {C : Addr} {T : String} (hm : PySem.W.kitMeta T = true) (hs : PySem.W.subIn K (.ref C) (.type T) = some false) : PySem.W.kitOne K (.ref C) (.type T) = some false := by
  show (if PySem.W.kitMeta T = true then PySem.W.subIn K (.ref C) (.type T) else none) = some false
  rw [if_pos hm]
  exact hs
end
end S
/-! a, b = x, y -/
namespace S
open PySem L2
section
variable {K : PySem.W.Frag} {G : GA} {W : WX} {X : Cx} {m : MA} {a b c : Expr} {pos : Pos}
end
end S
/-! plain laws of comprehensions -/
namespace S
open PySem L2
inductive All2 {α β : Type} (P : α → β → Prop) : List α → List β → Prop
  | nil : All2 P [] []
  | cons {a b as bs} : P a b → All2 P as bs → All2 P (a :: as) (b :: bs)
theorem All2.length {α β : Type} {P : α → β → Prop} {as : List α} {bs : List β} (h : All2 P as bs) : as.length = bs.length := by
  induction h with
  | nil => rfl
  | cons _ _ ih => simp [ih]
/-- one thing for each, with an invariant of the store -/
theorem lc_inv {t : Tg} {vs : List Nat} {mt : MB} {me : M} (I : Sto → Prop) (P : D → D → Prop) {env : Env} : ∀ {ds acc : List D} {st : Sto}, acc.length + ds.length ≤ sizeLine → I st →
    (∀ d ∈ ds, ∀ st, I st → ∃ env1 y st2, t.at d (wipeE env vs) st = some env1 ∧ mt env1 st = .ok true st ∧ me env1 st = .ok y st2 ∧ I st2 ∧ P d y) →
    ∃ ys st', mLcGo t vs mt me ds env st acc = .ok (acc ++ ys) st' ∧ I st' ∧ All2 P ds ys
  | [], acc, st, _, h0, _ => ⟨[], st, by simp [mLcGo], h0, .nil⟩
  | d :: ds, acc, st, hl, h0, h => by
    obtain ⟨env1, y, st2, e1, e2, e3, h2, p⟩ := h d (.head _) st h0
    have hl' : acc.length < sizeLine := by simp at hl; omega
    obtain ⟨ys, st', e4, h4, q⟩ := lc_inv (t := t) (vs := vs) (mt := mt) (me := me) I P (env := env) (ds := ds) (acc := acc ++ [y]) (st := st2) (by simp at hl ⊢; omega) h2 fun d' m => h d' (.tail _ m)
    refine ⟨y :: ys, st', ?_, h4, .cons p q⟩
    unfold mLcGo
    simp [e1, e2, R.only, e3, hl', e4]
end S
/-! plain laws of calls -/
namespace S
open PySem L2
theorem frz_np {d : D} {st : Sto} (h : ∀ i, d ≠ .ptr i) : dFrz d st = .ok d st := by
  cases d with
  | ptr i => exact absurd rfl (h i)
  | _ => rfl
/-- a call in which something takes part that may change -/
theorem call_at {n : Nat} {ms : MS} {ds : List D} {st st' : Sto} {d : D} (hb : belowL 0 ds = false) (h : ms (ds.map some ++ List.replicate (n - ds.length) none) st = .rt d st') (hd : ∀ i, d ≠ .ptr i) : pur (mFun true n ms) ds st = gc st.length d st' := by
  unfold pur
  rw [hb, if_neg (by decide)]
  unfold mFun
  rw [h]
  dsimp only
  rw [if_pos rfl, frz_np hd]
  rfl
/-- nothing is promised -/
theorem fn_stuck {P : Program} {w : World} {K : PySem.W.Frag} {mg : Str → Option Value} {base : Heap} {CX : CXT} {k n : Nat} {f : Addr} {fd : FuncData} {ps : List Str} {G : GA} : FnOk P w K mg base CX k f fd ps (spS K G n fun _ _ => .stuck) :=
  ⟨fun _ _ _ _ ⟨_, _, _, _, _, _, h⟩ => h.elim, fun _ _ _ _ _ _ _ _ _ _ _ _ _ ⟨_, _, _, _, _, _, h⟩ => h.elim⟩
end S
namespace L2
open PySem PySem.Spec PyProof.Rows
/-! ### texts: repetition -/
def repS (z : Str) (n : Nat) : Str := ⟨(List.replicate n z.cps).foldl (· ++ ·) #[]⟩
def rRepS : R2 := fun x y H Q => ∃ (z : Str) (k : Int), x = .str z ∧ y = .int k ∧ 0 ≤ k ∧ k ≤ 1000 ∧ 1 ≤ z.length ∧ z.length ≤ 1000 ∧ Q (.str (repS z k.toNat)) H
section
variable {X : Cx}
theorem op_repS : OpR X (binaryOp .Mult) rRepS := by
  intro pins s σ H x y v u Q I rx ry h
  obtain ⟨z, k, rfl, rfl, h0, h1, h2, h3, q⟩ := h
  obtain ⟨t, rfl⟩ := rx
  obtain ⟨t2, rfl⟩ := ry
  have hm : z.length * k.toNat ≤ 1000 * 1000 := Nat.mul_le_mul h3 (by omega)
  refine P.mul_str ?_ (fun a b => ?_) (fun a b => ?_) ?_
  · rw [decide_eq_false (by omega), decide_eq_false (by omega)]
    rfl
  · intro c
    have : (1000 : Int) ≤ (2 ^ 63 - 1) / k := by
      rw [Int.le_ediv_iff_mul_le (by omega)]
      omega
    omega
  · unfold Builtin.Str.tooLong
    have e : (1000 * 1000 : Nat) ≤ sizeLine := by decide
    first | exact decide_eq_false (by omega) | (simp; omega)
  · by_cases c : k < 1
    · have e : k = 0 := by omega
      subst e
      rw [if_pos (by decide)]
      exact ⟨by decide, .str _, H, I.tok _, ⟨_, rfl⟩, q⟩
    · rw [if_neg c]
      by_cases c2 : (k == 1 || z.length == 0) = true
      · have e : k = 1 := by
          simp only [Bool.or_eq_true, beq_iff_eq] at c2
          omega
        subst e
        rw [if_pos c2]
        have ez : repS z (1 : Int).toNat = z := by
          show (⟨#[] ++ z.cps⟩ : Str) = z
          rw [Array.empty_append]
        rw [ez] at q
        exact ⟨.str z, H, I, ⟨t, rfl⟩, q⟩
      · rw [if_neg c2]
        refine ⟨?_, .str _, H, I.tok _, ⟨_, rfl⟩, q⟩
        have len : ∀ (n : Nat) (acc : Array Nat), ((List.replicate n z.cps).foldl (· ++ ·) acc).size = acc.size + n * z.cps.size := by
          intro n
          induction n with
          | zero => intro acc; simp
          | succ n ih =>
            intro acc
            rw [List.replicate_succ, List.foldl_cons, ih, Array.size_append, Nat.add_mul]
            omega
        show ((List.replicate k.toNat z.cps).foldl (· ++ ·) #[]).size ≤ sizeLine
        rw [len]
        have e : (1000 * 1000 : Nat) ≤ sizeLine := by decide
        have e2 : k.toNat * z.cps.size = z.length * k.toNat := Nat.mul_comm ..
        simp
        omega
end
/-! ### data of texts -/
end L2
/-! list.pop(i), texts repeated, dict(pairs) -/
namespace S
open PySem L2
/-- texts are repeated, numbers multiplied -/
def dMulX (a b : D) (st : Sto) : R D := match a, b with
  | .str z, .int k => if 0 ≤ k ∧ k ≤ 1000 ∧ 1 ≤ z.length ∧ z.length ≤ 1000 then .ok (.str (repS z k.toNat)) st else .stuck
  | a, b => dMul a b st
section
variable {K : PySem.W.Frag} {G : GA} {Z : Gh} {X : Cx}
theorem RepL.erase : ∀ {ds : List D} {vs : List V} (k : Nat), RepL K G Z ds vs → RepL K G Z (ds.eraseIdx k) (vs.eraseIdx k)
  | [], _, _, h => by cases (show _ = _ from h); exact rfl
  | d :: ds, _, 0, ⟨v, t, e, p, q⟩ => by subst e; exact q
  | d :: ds, _, k + 1, ⟨v, t, e, p, q⟩ => by subst e; exact ⟨v, _, rfl, p, RepL.erase k q⟩
theorem op_mulX : OpR X (binaryOp .Mult) (fun x y H Q => L2.rI CMul (fun i j => V.int (i * j)) x y H Q ∨ rRepS x y H Q) := S.OpR.or op_mul op_repS
theorem ad_mulX : Ad2 K G dMulX (fun x y H Q => L2.rI CMul (fun i j => V.int (i * j)) x y H Q ∨ rRepS x y H Q) := fun E Z H st a b x y Q R p q h => by
  unfold dMulX at h
  split at h
  · rename_i z k
    split at h
    · rename_i hk
      cases (show x = .str z from p)
      cases (show y = .int k from q)
      exact .inr ⟨z, k, rfl, rfl, hk.1, hk.2.1, hk.2.2.1, hk.2.2.2, Post.now (P := rD K G) h R rfl⟩
    · exact h.elim
  · exact .inl (ad_mul E Z H st _ _ x y Q R p q h)
end
end S
/-! plain laws of instances that are made -/
namespace S
open PySem L2
section
variable {c n N : Nat} {ms : MS} {ds es : List D} {ns : List Str} {st : Sto} {env : Env}
end
/-! statements, step by step -/
section
variable {c : MB} {a b r : MS} {m : M} {d : D} {env env' : Env} {st st' : Sto} {i : Nat}
theorem if_t (h : c env st = .ok true st') : mIfS c a b env st = a env st' := by unfold mIfS; rw [h]; rfl
theorem if_f (h : c env st = .ok false st') : mIfS c a b env st = b env st' := by unfold mIfS; rw [h]; rfl
theorem seq_nx (h : a env st = .nx env' st') : mSeq a r env st = r env' st' := by unfold mSeq; rw [h]
theorem seq_rt (h : a env st = .rt d st') : mSeq a r env st = .rt d st' := by unfold mSeq; rw [h]
theorem ret_ok (h : m env st = .ok d st') : mRet m env st = .rt d st' := by unfold mRet; rw [h]
theorem set_ok (h : m env st = .ok d st') : mSet i m env st = .nx (env.set i (some d)) st' := by unfold mSet; rw [h]
end
section
variable {m n : M} {ma mb : MA} {d e : D} {ds : List D} {env : Env} {st st1 st2 : Sto} {k : Nat} {F f2 : List D → Sto → R D} {f : D → D → Sto → R D} {r : R D}
theorem cons_ok (h : m env st = .ok d st1) (h' : ma env st1 = .ok ds st2) : mCons m ma env st = .ok (d :: ds) st2 := by
  unfold mCons; rw [h]; show R.bind (ma env st1) _ = _; rw [h']; rfl
theorem nil_ok : mNil env st = .ok [] st := rfl
theorem call_ok (h : ma env st = .ok ds st1) (hl : ds.length = k) (hf : F ds st1 = r) : mCall k F [] ma env st = r := by
  unfold mCall; rw [h]; show (if (ds ++ []).length = k then F (ds ++ []) st1 else .stuck) = r
  rw [List.append_nil, if_pos hl, hf]
theorem bin_ok (h : m env st = .ok d st1) (h' : n env st1 = .ok e st2) : mBin f m n env st = f d e st2 := by
  unfold mBin; rw [h]; show R.bind (n env st1) _ = _; rw [h']; rfl
theorem app_ok (h : ma env st = .ok ds st1) : mApp F ma env st = F ds st1 := by
  unfold mApp; rw [h]; rfl
end
end S
/-! o[i], y = e (a pair) -/
namespace S
open PySem L2
end S
/-! d.update(e), two dicts -/
namespace S
open PySem L2
section
variable {X : Cx}
end
section
variable {K : PySem.W.Frag} {G : GA} {W : WX} {X : Cx} {Z : Gh} {e : Expr} {m : M}
end
end S
/-! len(obj) by a class's own __len__ -/
namespace S
open PySem L2
section
variable {K : PySem.W.Frag} {G : GA} {E : XK} {X : Cx} {cs : List Nat} {F : List D → Sto → R D} {g : Addr}
end
end S
/-! plain laws: comprehensions over lists of anything, instances by keywords, texts -/
namespace S
open PySem L2
section
variable {α : Type} {t : Tg} {vs : List Nat} {mt : MB} {me : M} {env : Env} {st : Sto}
variable {β : Type} {t1 : Tg} {vs1 : List Nat} {mi1 : MA} {mt1 : MB}
end
/-! instances, arguments picked -/
section
variable {c n N : Nat} {ms : MS} {ds es fs : List D} {ns : List Str} {arr : List Nat} {st : Sto} {env : Env}
end
/-! texts -/
end S
/-! try .. except (A, B): .. -/
namespace S
open PySem L2 PySem.Spec PyProof.Rows
section
variable {X : Cx} {pins : List (Addr × Obj)} {D : Ends}
end
section
variable {G : GA} {W : WX} {X : Cx} {m hm : MS} {ki : Ki}
end
end S
/-! a list times an int -/
namespace S
open PySem L2
section
variable {K : PySem.W.Frag} {G : GA} {Z : Gh} {X : Cx}
theorem RepL.times {xs : List D} {vs : List V} (h : RepL K G Z xs vs) : ∀ n : Nat, RepL K G Z (List.replicate n xs).flatten (List.replicate n vs).flatten
  | 0 => rfl
  | n + 1 => by
    rw [List.replicate_succ, List.replicate_succ, List.flatten_cons, List.flatten_cons]
    exact h.append (RepL.times h n)
end
end S
/-! list(text) -/
namespace S
open PySem L2
section
variable {K : PySem.W.Frag} {G : GA} {Z : Gh} {X : Cx}
end
end S
/-! enumerate of a list or a tuple -/
namespace S
open PySem L2
def enumO (it : Addr) : Obj := { cls := .type "enumerate", data := .fields #[.none, .bool false, .ref it, rawInt 0, .none, .none] }
theorem meets_enumA {v : Value} {o : Obj} {P : Heap → Prop} (B : Begins v o P) : Meets (Builtin.«enumerate.__new__» ⟨[.type "enumerate", v], []⟩) (fun _ R s => P s.heap ∧ R (.ok (.ret (.ref (s.heap.push o).objs.size))) { s with heap := (s.heap.push o).push (enumO s.heap.objs.size) }) :=
  .of_wp fun prog w A R s q => by
    obtain ⟨hp, g, d, tk, os⟩ := s
    obtain ⟨q0, q⟩ := q
    have sb := sub_enumerate
    have begun : ∀ {A' : Around} {E : Value → Shared → Prop} {Q : Value → Shared → Prop}, Q (.ref hp.objs.size) ⟨hp.push o, g, d, tk, os⟩ → wpAny (model prog w) A' (pyIter v) Q E ⟨hp, g, d, tk, os⟩ := fun z => B.iter prog w _ _ ⟨hp, g, d, tk, os⟩ _ q0 z
    wp_walk using begun
    refine wpAny_stack_any fun st => wpAny_pure ?_
    split
    · rename_i c _ _ _ _ _
      cases (c == Value.type "enumerate") <;> (wp_walk using begun; exact ⟨_, rfl, q⟩)
    · wp_walk using begun
      exact ⟨_, rfl, q⟩
theorem call_enumA {prog : Program} {w : World} {A : Around} {E : Value → Shared → Prop} {s : Shared} {v : Value} {o : Obj} {P : Heap → Prop} {Q : Value → Shared → Prop} (B : Begins v o P) (q0 : P s.heap)
    (k : ∀ h', IsEnum h' (s.heap.objs.size + 1) s.heap.objs.size 0 .none → h'.get? s.heap.objs.size = some o → (∀ c oc, s.heap.get? c = some oc → h'.get? c = some oc) → Q (.ref (s.heap.objs.size + 1)) { s with heap := h' }) :
    wpAny (model prog w) A (call (.type "enumerate") [v]) Q E s := by
  refine callType_new F.called_enumerate (by decide) (F.typeCall_enumerate_1 v) (F.newCall_enumerate_1 v) (fun x => F.args_object_init_2 x v) F.entry_enumerate_new (meets_enumA B) ⟨q0, ?_⟩
  have z : (s.heap.push o).objs.size = s.heap.objs.size + 1 := Heap.size_push ..
  have e : ((s.heap.push o).push (enumO s.heap.objs.size)).get? (s.heap.push o).objs.size = some (enumO s.heap.objs.size) := Heap.get?_push_size _ rfl
  show _ ∧ _
  rw [z] at e ⊢
  exact ⟨⟨_, e, rfl⟩, k _ e (Heap.get?_push_of_some _ (Heap.get?_push_size _ B.free)) fun c oc x => Heap.get?_push_of_some _ (Heap.get?_push_of_some _ x)⟩
/-- the thing at a as it stands at each turn, each item in a new pair behind its number -/
def IteA (p : Bool) (K : PySem.W.Frag) (a : Addr) : It where
  go := fun i H => ∃ xs : List V, SqA p K H a xs ∧ i < xs.length
  yld := fun i H v H' => ∃ T x, v = .ref T ∧ H T = none ∧ H' = upd H T (.tup [.int (i : Nat), x]) ∧ ∀ xs, SqA p K H a xs → xs[i]? = some x
  stop := fun i H => ∃ xs : List V, SqA p K H a xs ∧ i = xs.length
theorem turn_enumA {P : Program} {w : World} {K : PySem.W.Frag} {elts : List Expr} {kk : Nat} {tpos : Pos} {p : Bool} {a e it : Addr} (hei : e ≠ it) (hea : e ≠ a) (hai : a ≠ it) :
    Turn P w K (.Tuple elts kk tpos) (IteA p K a) [e, it] e (fun i h => (∃ old, IsEnum h e it ((i : Nat) : Int) old) ∧ ItA p h it a i) where
  mem := List.mem_cons_self
  obj := fun i h ⟨⟨old, he⟩, h1⟩ c hc => by
    simp only [List.mem_cons, List.not_mem_nil, or_false] at hc
    rcases hc with rfl | rfl
    · exact ⟨_, he, fun _ z => by cases z⟩
    · exact h1.some_
  keep := fun i h h' ⟨⟨old, he⟩, h1⟩ k => ⟨⟨old, k _ (by simp) _ he⟩, h1.at_ (k _ (by simp))⟩
  item := fun X hP hw hK hc i pins s σ H E I hf ⟨⟨old, he⟩, h1⟩ ⟨xs, qx, lx⟩ => by
    subst hP hw hK
    obtain ⟨its, rv, se, _⟩ := sqa_read I qx
    have n1 : i < its.toArray.size := by rw [List.size_toArray, ← rv.length]; exact lx
    have hef : e ∉ [it, a] := fun z => by
      simp only [List.mem_cons, List.not_mem_nil, or_false] at z
      exact z.elim hei hea
    refine wpAny_pyNext_enum_itemD (draws_a (A := X.A.in1) (b := p) (I.ok.hd hc) it a hai its.toArray) he ⟨h1, se⟩ n1 hei hef fun u h' tk y1 ho s1' hT hsz hk => ?_
    refine ⟨_, rfl, wpAny_letOwnedTupleGo_enum (s := { s with heap := h', toks := tk + 1 }) ho fun h2' z2 sb => ?_⟩
    obtain ⟨x, hx⟩ : ∃ x, xs[i]? = some x := ⟨_, List.getElem?_eq_getElem lx⟩
    obtain ⟨u', hu, ru⟩ := rv.get hx
    have eu : u' = u := by
      have q : its[i]? = some u := by simpa using y1
      rw [hu] at q; exact Option.some.inj q
    subst eu
    have le : e < s.heap.objs.size := Heap.lt_size he
    have li : it < s.heap.objs.size := by obtain ⟨_, q, _⟩ := h1.some_; exact Heap.lt_size q
    have far : ∀ c ∈ [e, it], c < s.heap.objs.size := fun c hcm => by
      simp only [List.mem_cons, List.not_mem_nil, or_false] at hcm
      rcases hcm with rfl | rfl
      · exact le
      · exact li
    have kept : ∀ c o, c ∉ [e, it] → s.heap.get? c = some o → h2'.get? c = some o := fun c o hcm q => by
      simp only [List.mem_cons, List.not_mem_nil, or_false, not_or] at hcm
      exact (sb.2 c hcm.1).trans (hk c o hcm.1 hcm.2 q)
    have I1 : Inv X pins σ (upd H s.heap.objs.size (.tup [.int (i : Nat), x])) { s with heap := h2', toks := tk + 1 } := I.turnedNew kept hf (Nat.le_refl _)
      ⟨by show 2 ≤ sizeLine; decide, [.int i tk, u'], .cons ⟨_, rfl⟩ (.cons ru .nil), ⟨_, (sb.2 _ (Nat.ne_of_gt le)).trans hT, rfl, _, rfl⟩⟩
    refine ⟨.ref s.heap.objs.size, _, I1, rfl, ⟨_, x, rfl, I.hok.fresh (Nat.le_refl _), rfl, fun l hl => by rw [sqa_inj I hl qx]; exact hx⟩, ⟨⟨u', ?_⟩, s1'.1.at_ fun o q => (sb.2 _ (Ne.symm hei)).trans q⟩, fun c hcm => ?_⟩
    · have q : ((i + 1 : Nat) : Int) = (i : Int) + 1 := by omega
      rw [q]; exact z2
    · rw [upd_ne (Nat.ne_of_lt (far c hcm))]; exact (hf c hcm).1
  done := fun X hP hw hK hc i pins s σ H E I hf ⟨⟨old, he⟩, h1⟩ ⟨xs, qx, lx⟩ => by
    subst hP hw hK
    obtain ⟨its, rv, se, _⟩ := sqa_read I qx
    have e1 : its.toArray.size = xs.length := by rw [List.size_toArray, rv.length]
    have ei : i = its.toArray.size := by omega
    subst ei
    refine wpAny_pyNext_enum_endD (draws_a (A := X.A.in1) (b := p) (I.ok.hd hc) it a hai its.toArray) he ⟨h1, se⟩ fun h' hk => ⟨rfl, I.turnedL (ch := [e, it]) (t' := s.toks) (fun c o hcm q => ?_) hf⟩
    simp only [List.mem_cons, List.not_mem_nil, or_false, not_or] at hcm
    exact hk c o hcm.2 q
  self := fun A i s Q E st h => wpAny_pyIter_enum st.1.choose_spec h
def iEnumS (K : PySem.W.Frag) (ta : TA) : TI := fun σ H R => ta σ H fun vs H1 => ∃ (p : Bool) (a : Addr) (xs : List V), vs = [.ref a] ∧ SqA p K H1 a xs ∧ R (IteA p K a) H1
theorem pi_enumS {X : Cx} {e : Expr} {ta : TA} {p pos tpos : Pos} {elts : List Expr} {kk : Nat} (hg : Gl X "enumerate") (hm : X.mg "enumerate" = none) (ha : PA X [e] ta) (hs : starEach [e] X.env = [(false, eval e X.env)] := by rfl) :
    PI X (.Tuple elts kk tpos) (.Call (.Name "enumerate" p) [e] [] pos) (iEnumS X.K ta) := by
  refine ⟨fun pins s σ H R I h => ?_⟩
  refine PyProof.Rows.Call_ (ld_blt I hg hm PyProof.Rows.boot_enumerate (PyProof.Rows.callWith_type1 (thn (ha.run pos pins s σ H _ I h) fun us s1 ⟨vs, H1, I1, rv, q1⟩ => ?_) hs rfl))
  obtain ⟨b, a, xs, ev, qx, hr⟩ := q1
  subst ev
  cases rv with
  | cons r rn =>
    cases rn
    cases (show _ = Value.ref a from r)
    obtain ⟨its, _, se, la⟩ := sqa_read I1 qx
    refine call_enumA (begins_a (b := b) a its.toArray) se fun h' he g1 hk => wpAny_pyIter_enum he ?_
    have I2 : Inv X pins σ H1 { s1 with heap := h' } := I1.kept (t' := s1.toks) hk
    refine ⟨s1.heap.objs.size + 1, [s1.heap.objs.size + 1, s1.heap.objs.size], _, _, H1, rfl, I2, turn_enumA (Nat.succ_ne_self _) (Nat.ne_of_gt (Nat.lt_succ_of_lt la)) (Nat.ne_of_lt la), ⟨⟨.none, he⟩, ItA.new g1⟩, fun c hcm => ?_, hr⟩
    have hle : s1.heap.objs.size ≤ c := by
      simp only [List.mem_cons, List.not_mem_nil, or_false] at hcm
      rcases hcm with rfl | rfl
      · exact Nat.le_add_right _ _
      · exact Nat.le_refl _
    exact I1.fpOk hle (I1.hok.fresh hle)
theorem walk_enumA {p : Bool} {K : PySem.W.Frag} {a : Addr} {xs : List V} : Walk (IteA p K a) xs.length (fun H => SqA p K H a xs) (YPair (fun i => some (V.int (i : Nat))) (fun i => xs[i]?)) where
  goes := fun i H hi h => ⟨xs, h, hi⟩
  stops := fun H h => ⟨xs, h, rfl⟩
  yields := fun i H x H' hi h ⟨T, v, e1, e2, e3, e4⟩ => ⟨T, _, v, e1, e2, e3, rfl, e4 xs h⟩
def mItEnumA (m : MA) : MA := fun env st => (m env st).bind fun ds st1 => match ds with
  | [d] => (match itemsF d with
    | some xs => .ok (enumD xs) st1
    | none => .stuck)
  | _ => .stuck
section
variable {K : PySem.W.Frag} {G : GA} {W : WX} {X : Cx} {Z : Gh}
theorem walkEA {p : Bool} {a : Addr} {vs : List V} {ds : List D} (hs : SqA p K Z.fz a vs) (r : RepL K G Z ds vs) : rI K G Z (enumD ds) (IteA p K a) := by
  have hl : (enumD ds).length = vs.length := by simp [enumD, r.length]
  refine ⟨_, _, hl ▸ walk_enumA (xs := vs), fun Z' H st l R => (hs.same l.fz).same R.fz, fun i x H H' Z' st l R hi y => ?_⟩
  obtain ⟨T, x1, x2, rfl, hT, rfl, e1, e2⟩ := y
  have hi' : i < ds.length := by simpa [enumD] using hi
  obtain ⟨d, hd⟩ : ∃ d, ds[i]? = some d := ⟨_, List.getElem?_eq_getElem hi'⟩
  obtain ⟨v, h1, h2⟩ := (RepL.ux l _ _ r).get hd
  have e2 : vs[i]? = some x2 := e2
  have e1 : some (V.int (i : Nat)) = some x1 := e1
  rw [e2] at h1; cases h1; cases e1
  obtain ⟨l', R'⟩ := R.lay (o := .tup [.int (i : Nat), x2]) hT
  refine ⟨_, .tup [.int (i : Nat), d], l', R', ?_, T, _, rfl, .inl (.inl upd_same), _, _, rfl, rfl, _, _, rfl, Rep.up l' _ _ h2, rfl⟩
  unfold enumD
  rw [List.getElem?_map, List.getElem?_zipIdx, hd]
  simp
theorem pI_enumA {a : Expr} {m : MA} {p pos tpos : Pos} {elts : List Expr} {kk : Nat} (hg : Gl X "enumerate") (hm : X.mg "enumerate" = none) (ha : PA X [a] (tSA X.K G W m)) (hs : starEach [a] X.env = [(false, eval a X.env)] := by rfl) : PI X (.Tuple elts kk tpos) (.Call (.Name "enumerate" p) [a] [] pos) (tSI X.K G W (mItEnumA m)) :=
  pi_of (pi_enumS hg hm ha hs) fun σ H Q h => rs_bind (f := fun ds _ st1 => match ds with
    | [d] => (match itemsF d with
      | some xs => .ok (enumD xs) st1
      | none => .stuck)
    | _ => .stuck) h fun ds vs H1 Z env st R S r q => by
    split at q
    · obtain ⟨x, rfl, p1⟩ := RepL.one r
      split at q
      · rename_i e1
        obtain ⟨b1, a1, us, rfl, q1, r1⟩ := itemsF_sq p1 e1
        exact ⟨b1, a1, us, rfl, q1.same R.fz, Post.now (P := rI X.K G) q R (walkEA q1 r1)⟩
      · exact q.elim
    · exact q.elim
end
end S
namespace L2
open PySem PySem.Spec PyProof.Rows
/-! ### promises under no repr -/
/-- as FnOk, at a frame that is under no repr -/
structure FnG (P : Program) (w : World) (K : PySem.W.Frag) (mg : Str → Option Value) (base : Heap) (CX : CXT) (k : Nat) (f : Addr) (fd : FuncData) (ps : List Str) (sp : Sp) : Prop where
  len : ∀ vs H Q E, sp vs H Q E → vs.length = ps.length
  run : ∀ (A : Around) (outer : List Env) (s : Shared) (H : Hp) (args : Args) (us : List Value) (vs : List V) (Q : VK) (E : XK), A.guards = some [] → Room k A → Env0 P w K mg base A outer s H → BindsTo s fd args (ps.zip us) → Vals vs us → sp vs H Q E →
    codeAny (model P w) A (.call (.ref f) args) (CR CX outer P w H s Q E) s
section
variable {P : Program} {w : World} {K : PySem.W.Frag} {mg : Str → Option Value} {base : Heap}
/-- one body, at a frame that is given -/
theorem run_at {CX : CXT} {A : Around} {outer : List Env} {k : Nat} {f : Addr} {name qual : Str} {params : Arguments} {body : List Stmt} {scope : Scope} {dV kV doc pm cdv ct oc : Value} {an od : Option Addr} {osl : Array (Option Value)} {N ps : List Str} {s : Shared} {H : Hp} {args : Args} {us : List Value} {vs : List V} {Q : VK} {E : XK} {t : TS}
    (lk : K.lookup f = some ⟨oc, od, .func (PySem.W.fnOf name qual params body scope dV kV doc pm an cdv ct), osl⟩) (hcd : PySem.W.codeIn K cdv qual = true) (S : FnScope N ps scope) (hl : vs.length = ps.length) (hr : Room (k + 1) A)
    (e0 : Env0 P w K mg base A outer s H) (hb : BindsTo s (PySem.W.fnOf name qual params body scope dV kV doc pm an cdv ct) args (ps.zip us)) (r : Vals vs us)
    (ht : PSs (cxOf CX P w K mg base N qual scope f cdv A outer s H E) body t) (hq : t { nx := fun _ H' => Q .non H', rt := Q } (start N vs) H) : codeAny (model P w) A (.call (.ref f) args) (CR CX outer P w H s Q E) s := by
  have kx : K.In s.heap := e0.mod.kin.keeps fun b o e => (e0.bs b o e).1
  have nl : s.heap.NoLimit := e0.mod.nolimit.keeps fun b o e => (e0.bs b o e).1
  refine codeAny_call_function hr.depth (kx _ _ lk) rfl S.co S.gen rfl (PySem.W.codeRec_of kx hcd) (hb _ _ _ _ ?_)
  refine wpAny_newFunctionEnv_cells S.kind ?_ fun env he s1 x => ?_
  · rintro ⟨n, v⟩ hy
    exact (S.par n (List.of_mem_zip hy).1).imp _root_.id fun q => ⟨q, PySem.W.cellsFrom_some _ _ _ (.inl q)⟩
  · subst he
    refine ⟨nl.keeps x.toInCall.keep, codeAny_func (wpAny_mono (ht.run [] s1 (start N vs) H _ (inv_start S hr.hd e0 hl r x) hq) ?_ fun _ _ z => z)⟩
    rintro (_ | _ | _ | u) s' hs
    · obtain ⟨σ', H', J, q⟩ := hs
      exact ⟨V.non, H', J.os, J.bare, J.base, J.hok, rfl, q⟩
    · exact hs.elim fun _ z => z.elim fun _ z => (show False from z.2).elim
    · exact hs.elim fun _ z => z.elim fun _ z => (show False from z.2).elim
    · obtain ⟨v, σ', H', J, rv, q⟩ := hs
      exact ⟨v, H', J.os, J.bare, J.base, J.hok, rv, q⟩
/-! ### the head, at the caller's own frame -/
section
variable {mb : Str → Option Value} {CX : CXT} {fa a : Addr} {s₁ : Shared} {vs : List Value} {ns : List Int}
/-- from a heap in which nothing but the script is tracked -/
theorem head_core (KX : K.In s₁.heap) (hns : s₁.heap.Ns mainGlobals mg) (hb : s₁.heap.Ns builtinsNs mb) (hbb : ∀ x : Str, x ≠ "__name__" → mb x = bootBuiltins x) (hlim : s₁.heap.NoLimit) (hg : s₁.gens = #[])
    (ha : s₁.heap.get? a = some { cls := .type "list", data := .seq vs.toArray }) {H : Hp} (hO : Only H) (hok : HOk P w H s₁.heap) (hA : ∀ b, H b ≠ none → b = a) (hK : H a ≠ none → K.lookup a = none)
    (run : ∀ base : Heap, Env0 P w K mg base callerA [] s₁ H → codeAny (model P w) callerA (.call (.ref fa) ⟨[.ref a], []⟩) (CR CX [] P w H s₁ (fun v _ => v = .bl true) fun _ _ _ => False) s₁)
    (hCX : ∀ e s', CX [] H s₁ (fun _ _ _ => False) e s' → False) :
    codeAny (model P w) callerA (.call (.ref fa) ⟨[.ref a], []⟩) (fun r s' => r = .ok (.ret (.bool true)) ∧ OldK s₁.heap s'.heap ∧ s'.os = s₁.os ∧ AllBare s'.gens) s₁ := by
  have free : ∀ {b : Addr}, b ≠ a → H b = none := fun {b} n => Classical.byContradiction fun q => n (hA b q)
  have dict : ∀ {b : Addr} {m : Str → Option Value}, s₁.heap.Ns b m → (hidT s₁.heap H).Ns b m := fun {b m} ⟨o, es, ep, e, d, r⟩ => ⟨o, es, ep, hidT_get e (free fun q => by
    rw [q, ha] at e
    cases e
    cases (show Data.seq vs.toArray _ = Data.dict es ep from d)), d, r⟩
  have kin : K.In (hidT s₁.heap H) := fun b o e => hidT_get (KX b o e) (by
    by_cases q : b = a
    · subst q
      exact Classical.byContradiction fun z => by rw [hK z] at e; cases e
    · exact free q)
  refine codeAny_mono (run (hidT s₁.heap H) ⟨rfl, ⟨kin, dict hns, ⟨mb, dict hb, hbb⟩, hlim.elim fun mc z => ⟨mc, dict z.1, z.2⟩⟩, fun b o e => of_hidT e, Nat.le_of_eq (hidT_size _ _), trivial, fun b z => absurd (show b ∈ ([] : List Addr) from z) (by simp), hok, .of_eq hg⟩) ?_
  rintro (e | _ | _ | _ | u) s' h
  · exact (hCX e s' h).elim
  · exact False.elim h
  · exact False.elim h
  · exact False.elim h
  · obtain ⟨v, H', os, bare, un, hok', r', q⟩ := h
    cases (show v = V.bl true from q)
    cases (show u = Value.bool true from r')
    refine ⟨rfl, OldK.of_keep fun b o e => ?_, os, bare⟩
    rcases hO b with z | ⟨ob, xs, z⟩
    · exact un.keep b o e z (fun y => absurd (show b ∈ ([] : List Addr) from y) (by simp)) (by simp)
    · have e1 := (hok b _ z).1
      rw [e] at e1
      cases e1
      exact (hok' b _ (un.frzs b _ _ z)).1
theorem head_call (KX : K.In s₁.heap) (hns : s₁.heap.Ns mainGlobals mg) (hb : s₁.heap.Ns builtinsNs mb) (hbb : ∀ x : Str, x ≠ "__name__" → mb x = bootBuiltins x) (hlim : s₁.heap.NoLimit) (hg : s₁.gens = #[])
    (ha : s₁.heap.get? a = some { cls := .type "list", data := .seq vs.toArray }) (hi : IntsAre vs ns) (hl : ns.length ≤ sizeLine)
    (run : ∀ (H : Hp) (base : Heap), Only H → SqL K H a (ns.map V.int) → Env0 P w K mg base callerA [] s₁ H → codeAny (model P w) callerA (.call (.ref fa) ⟨[.ref a], []⟩) (CR CX [] P w H s₁ (fun v _ => v = .bl true) fun _ _ _ => False) s₁)
    (hCX : ∀ H e s', CX [] H s₁ (fun _ _ _ => False) e s' → False) :
    codeAny (model P w) callerA (.call (.ref fa) ⟨[.ref a], []⟩) (fun r s' => r = .ok (.ret (.bool true)) ∧ OldK s₁.heap s'.heap ∧ s'.os = s₁.os ∧ AllBare s'.gens) s₁ := by
  have rv := vals_ints hi
  cases hk : K.lookup a with
  | some o =>
    have e := KX a o hk
    rw [ha] at e
    cases e
    have hO : Only (fun _ => none) := fun _ => .inl rfl
    exact head_core KX hns hb hbb hlim hg ha hO (fun _ _ z => by cases z) (fun _ z => absurd rfl z) (fun z => absurd rfl z)
      (fun base e0 => run _ base hO (.inr ⟨_, vs.toArray, _, hk, rfl, rfl, rfl, by rw [List.size_toArray, hi.length]; exact hl, by simpa using rv⟩) e0) fun e s' => hCX _ e s'
  | none =>
    have hO : Only (fun b => if b = a then some (.frz { cls := .type "list", data := .seq vs.toArray } (.lst (ns.map V.int))) else none) := fun b => by
      by_cases q : b = a
      · exact .inr ⟨_, _, if_pos q⟩
      · exact .inl (if_neg q)
    refine head_core KX hns hb hbb hlim hg ha hO (fun b u z => ?_) (fun b z => ?_) (fun _ => hk) (fun base e0 => run _ base hO (.inl (.inr ⟨_, if_pos rfl⟩)) e0) fun e s' => hCX _ e s'
    · by_cases q : b = a
      · cases (if_pos q).symm.trans z
        subst q
        exact ⟨ha, by rw [List.length_map]; exact hl, vs, _, rv, ha⟩
      · cases (if_neg q).symm.trans z
    · exact Classical.byContradiction fun q => z (if_neg q)
end
/-- the goal that k_head leaves, from a promise under no repr -/
theorem walk_ofG {l : PySem.W.OpenLaw} {n k : Nat} {q : Program} {loose : List Str} {XP : (Str → Option Value) → Heap → Prop} {YP : World → Heap → Prop} {d : DefRec} {K : Params → PySem.W.Frag} {CX : World → CXT} {sp : PySem.W.Frag → Sp} {x : Str}
    (hn : l.most = some n) (hn2 : n ≤ sizeLine) (hdf : d.params.defaults = []) (hr : Room k callerA) (hY : ∀ (w : World) (h : Heap), YP w h → (K w.params).In h)
    (F : ∀ (w : World) (mg : Str → Option Value) (fa : Addr) (h : Heap), (K w.params).In h → h.Ns mainGlobals mg → mg d.name = some (.ref fa) →
      ∃ fd : FuncData, (∀ (s : Shared) (u : Value), BindsTo s fd ⟨[u], []⟩ [(x, u)]) ∧ ∀ base : Heap, FnG l.prog w (K w.params) mg base (CX w) k fa fd [x] (sp (K w.params)))
    (hsp : ∀ (K : PySem.W.Frag) (H : Hp) (a : Addr) (ns : List Int), ns.length ≤ n → Only H → SqL K H a (ns.map V.int) → sp K [.ref a] H (fun v _ => v = .bl true) fun _ _ _ => False)
    (hCX : ∀ (w : World) (H : Hp) (s : Shared) (e : Value) (s' : Shared), CX w [] H s (fun _ _ _ => False) e s' → False) :
    PySem.W.WalkO q loose XP YP l.row.toRowW d [] (fun f vs => PySem.call f vs) := by
  refine Att.attach_call hn hdf fun w s₀ s₁ mg mb fa o pm cd doc a vs ns G Y ho hd hcd hmg hobj hints hlen hg => ?_
  obtain ⟨fd, hb, hF⟩ := F w mg fa _ (hY w _ Y) G.T.g hmg
  refine head_call (hY w _ Y) G.T.g G.T.b G.T.builtins G.T.nolimit hg hobj hints (Nat.le_trans hlen hn2) (fun H base hO hS e0 => ?_) fun H e s' => hCX w H s₁ e s'
  exact (hF base).run callerA [] s₁ H ⟨[.ref a], []⟩ [.ref a] [.ref a] _ _ rfl hr e0 (hb s₁ (.ref a)) (.cons rfl .nil) (hsp _ H a ns hlen hO hS)
end
end L2
namespace S
open PySem L2
section
variable {P : Program} {w : World} {K : PySem.W.Frag} {mg : Str → Option Value} {base : Heap} {G : GA}
theorem okPurG {CX : CXT} {k n : Nat} {f : Addr} {fd : FuncData} {ps : List Str} {F : List D → Sto → R D} (h : FnG P w K mg base CX k f fd ps (spS K G n F)) : FnG P w K mg base CX k f fd ps (spS K G n (pur F)) :=
  ⟨fun vs H Q E z => h.len vs H Q E (spS_pur z), fun A outer s H args us vs Q E hg hr e0 hb r z => h.run A outer s H args us vs Q E hg hr e0 hb r (spS_pur z)⟩
theorem fnSDG {fz : Bool} {x qual : Str} {params : Arguments} {body : List Stmt} {scope : Scope} {dvs : List V} {f : Addr} {fd : FuncData} {N ps : List Str} {k n : Nat} {ms : MS} (F : FunD K x qual params body scope dvs [] f fd) (S : FnScope N ps scope) (hn : n = ps.length)
    (hb : ∀ (cdv : Value) (A : Around) (outer : List PySem.Env) (s : Shared) (H : Hp) (E : XK), Room k (A.deeper (PyProof.Rows.envOfC qual scope s.heap.objs.size f cdv)) → (A.deeper (PyProof.Rows.envOfC qual scope s.heap.objs.size f cdv)).guards = some [] → PSs (cxOf (L2.CX P w) P w K mg base N qual scope f cdv A outer s H E) body (tSS K G (wE E) ms)) :
    FnG P w K mg base (L2.CX P w) (k + 1) f fd ps (spS K G n (mFun fz N.length ms)) := by
  obtain ⟨oc, od, dV, kV, doc, pm, an, cdv, ct, osl, rfl, lk, hcd, hD, hK⟩ := F.ex
  refine ⟨fun vs H Q E h => by rw [h.1, hn], fun A outer s H args us vs Q E hg hr e0 hb' r h => ?_⟩
  exact L2.run_at lk hcd S (by rw [h.1, hn]) hr e0 hb' r (hb cdv A outer s H E (hr.deeper _) hg) (sp_body h)
end
def dRepr (ds : List D) (st : Sto) : R D := match ds with
  | [.lst xs] => (match toPyL xs with
    | some ps => if (PyData.list ps).showable = true ∧ (PyData.list ps).hasDict = false ∧ (PyData.list ps).depth ≤ 50 ∧ (PyData.list ps).shown.length ≤ sizeLine then .ok (.str (PyData.list ps).shown) st else .stuck
    | none => .stuck)
  | [.tup xs] => (match toPyL xs with
    | some ps => if (PyData.tuple ps).showable = true ∧ (PyData.tuple ps).hasDict = false ∧ (PyData.tuple ps).depth ≤ 50 ∧ (PyData.tuple ps).shown.length ≤ sizeLine then .ok (.str (PyData.tuple ps).shown) st else .stuck
    | none => .stuck)
  | _ => .stuck
theorem ad_repr {K : PySem.W.Frag} {G : GA} : AdL K G dRepr (rRepr K) := by
  intro E Z H st as xs Q R r h
  have fin : ∀ {d : D} {p : PyData} {a : Addr}, Rep K G Z d (.ref a) → toPy d = some p → p.showable = true → p.hasDict = false → p.depth ≤ 50 → p.shown.length ≤ sizeLine → Post K G (rD K G) E Z (.ok (.str p.shown) st) Q → rRepr K [.ref a] H Q := fun {d p a} rp e h1 h2 h3 h4 q =>
    ⟨a, p, rfl, dp_of R.fz d _ p rp e, h1, h2, h3, h4, Post.now (P := rD K G) q R rfl⟩
  unfold dRepr at h
  split at h
  · rename_i ys
    obtain ⟨x, rfl, p⟩ := RepL.one r
    obtain ⟨a, vs, rfl, hs, rl⟩ := id p
    split at h
    · rename_i ps e
      split at h
      · rename_i c
        exact fin p (show toPy (.lst ys) = some (.list ps) by unfold toPy; rw [e]; rfl) c.1 c.2.1 c.2.2.1 c.2.2.2 h
      · exact h.elim
    · exact h.elim
  · rename_i ys
    obtain ⟨x, rfl, p⟩ := RepL.one r
    obtain ⟨a, vs, rfl, hs, rl⟩ := id p
    split at h
    · rename_i ps e
      split at h
      · rename_i c
        exact fin p (show toPy (.tup ys) = some (.tuple ps) by unfold toPy; rw [e]; rfl) c.1 c.2.1 c.2.2.1 c.2.2.2 h
      · exact h.elim
    · exact h.elim
  · exact h.elim
theorem lawSG {l : PySem.W.OpenLaw} {n k : Nat} {q : Program} {loose : List Str} {XP : (Str → Option Value) → Heap → Prop} {YP : World → Heap → Prop} {d : DefRec} {K : Params → PySem.W.Frag} {x : Str} {P : Program} {F : List D → Sto → R D}
    (hp : l.prog = P) (hn : l.most = some n) (hn2 : n ≤ sizeLine) (hdf : d.params.defaults = []) (hr : Room k callerA) (hY : ∀ (w : World) (h : Heap), YP w h → (K w.params).In h)
    (Fk : ∀ (w : World) (mg : Str → Option Value) (fa : Addr) (h : Heap), (K w.params).In h → h.Ns mainGlobals mg → mg d.name = some (.ref fa) →
      ∃ (fd : FuncData) (G : GA), (∀ f, G.ok f) ∧ (∀ (s : Shared) (u : Value), BindsTo s fd ⟨[u], []⟩ [(x, u)]) ∧ ∀ base : Heap, FnG P w (K w.params) mg base (L2.CX P w) k fa fd [x] (spS (K w.params) G 1 F))
    (hF : ∀ ns : List Int, ns.length ≤ n → ∃ st, F [.rls (ns.map D.int)] [] = .ok (.bl true) st) : PySem.W.WalkO q loose XP YP l.row.toRowW d [] (fun f vs => PySem.call f vs) := by
  subst hp
  refine L2.walk_ofG (n := n) (k := k) (x := x) (CX := fun w => L2.CX l.prog w) (sp := fun K => spAll K 1 F) (K := K) hn hn2 hdf hr hY (fun w mg fa h KX G hmg => ?_) (fun K H a ns hl hO hS => ?_) fun w H s e s' z => ?_
  · obtain ⟨fd, G', hG, hb, hk⟩ := Fk w mg fa h KX G hmg
    exact ⟨fd, hb, fun base => ⟨fun vs H Q E z => (hk base).len vs H Q E (z G' hG), fun A outer s H args us vs Q E hg hr e0 hb r z => (hk base).run A outer s H args us vs Q E hg hr e0 hb r (z G' hG)⟩⟩
  · obtain ⟨st, e⟩ := hF ns hl
    exact sp_script hS e
  · obtain ⟨_, _, _, _, _, _, _, _, _, _, _, _, h⟩ := z
    exact h
end S
/-! o[i] by a class's own __getitem__; dict(d); continue, break -/
namespace S
open PySem L2
section
variable {K : PySem.W.Frag} {G : GA} {E : XK} {X : Cx} {cs : List Nat} {F : List D → Sto → R D} {g : Addr} {W : WX}
/-! ### dict(d) -/
/-! ### continue, break -/
end
end S
/-! own exceptions over IndexError and KeyError -/
namespace L2
open PySem PySem.Spec PyProof.Rows
/-- how an own class above it is made: what lies behind the making, then the own __init__ -/
def MkOwn (n : String) (bmB : List Value) : Prop := ∀ {prog : Program} {w : World} {A : Around} {R : PySem.Result → Shared → Prop} {h : Heap} {g : Array GenState} {d : Drawn} {t : Nat} {os : OsState} {nm q : Str} {C N : Addr} {bs l : List Value} {hd : Bool} {sn : List Str} {sub : List Value} {ab : Bool} {col : Option Bool} {dd : Option Addr} {k0 k1 k2 k3 k5 : Option Value} {us : List Value} {fI : Addr},
  (∀ Y : String, l.contains (.type Y) = bmB.contains (.type Y)) → h.get? C = some (excClassObj nm q C N bs l hd sn sub ab col dd k0 k1 k2 k3 k5 n) →
    PySem.W.Looks (model prog w) h (typeLookup (.ref C) "__init__") (some (.ref fI)) → (∀ x, PySem.W.Looks (model prog w) h (bindSpecial (.ref fI) x) (.ref fI, [x])) → us.length ≤ sizeLine →
    codeAny (model prog w) (A.under (.builtin "type.__call__" ⟨.ref C :: us, []⟩)) (.call (.ref fI) ⟨.ref (h.objs.size + 1) :: us, []⟩) (PySem.W.InitBack (h.objs.size + 1) R) ⟨(h.push (PySem.W.kdv_tup us)).push (PySem.HandSPX.excO C h.objs.size), g, d, t, os⟩ →
    codeAny (model prog w) A (.call (.ref C) ⟨us, []⟩) R ⟨h, g, d, t, os⟩
/-- its bound __init__ takes what it is given -/
def BndI (n i : String) : Prop := ∀ {M : Model} {A : Around} {E : Value → Shared → Prop} {Q : Unit → Shared → Prop} {h : Heap} {g : Array GenState} {d : Drawn} {t : Nat} {os : OsState} {nm q : Str} {C N e : Addr} {oe : Obj} {bs l : List Value} {hd : Bool} {sn : List Str} {sub : List Value} {ab : Bool} {col : Option Bool} {dd : Option Addr} {k0 k1 k2 k3 k5 : Option Value} {us : List Value},
  h.get? C = some (excClassObj nm q C N bs l hd sn sub ab col dd k0 k1 k2 k3 k5 n) → h.get? e = some oe → oe.cls = .ref C → Q () ⟨h, g, d, t, os⟩ → wpAny M A (checkBoundCall i ⟨.ref e :: us, []⟩) Q E ⟨h, g, d, t, os⟩
/-- what is known of the built-in class B below: its making, its stores, its bound __init__ -/
structure XBase (B n i : String) (bm : List Value) : Prop where
  mkO : MkOwn n bm
  bi : BndI n i
  pl : PySem.plainId i = true
  en : entryFor table i = some Builtin.«BaseException.__init__»
  st : StoreFacts B bm "object.__setattr__" "object"
  kx : PySem.W.KxsFacts B i
  q1 : Manifest.canonical i ≠ "super.__init__"
theorem xb_index : XBase "IndexError" "IndexError.__new__" "IndexError.__init__" [.type "IndexError", .type "LookupError", .type "Exception", .type "BaseException", .type "object"] :=
  ⟨fun hT hC hi hb hl hq => PySem.HandSPX.call_own F.excBase_IndexError hT hC hi hb hl hq, fun hC he hc hq => PySem.W.check_bound_init F.excBase_IndexError.toExcCallFacts hC he hc hq, F.excBase_IndexError.init.plain, F.excBase_IndexError.initEntry, F.store_IndexError, PySem.W.kxs_IndexError, by decide +kernel⟩
/-- an own class over it -/
structure OexB (n : String) (bmB : List Value) (K : PySem.W.Frag) (C : Addr) : Prop where
  cls : ∃ nm q N bs l sn sub ab col dd k0 k1 k2 k3 k5, K.lookup C = some (excClassObj nm q C N bs l true sn sub ab col dd k0 k1 k2 k3 k5 n) ∧ PySem.W.excTail bmB l = true
  sa : PySem.W.findIn K (.ref C) "__setattr__" = some (some (.builtin "object.__setattr__"))
  exC : PySem.W.subIn K (.ref C) (.type "BaseException") = some true
  tyC : PySem.W.typeIn K (.ref C) = some (.type "type")
  kC : PySem.W.keepIn K (.ref C) = true
theorem OexB.over {n : String} {bmB : List Value} {K : PySem.W.Frag} {C : Addr} (T : OexB n bmB K C) : PySem.W.excOver K C bmB = true ∧ ∃ cd, PySem.W.clsIn K C = some cd ∧ cd.hasDict = true := by
  obtain ⟨nm, q, N, bs, l, sn, sub, ab, col, dd, k0, k1, k2, k3, k5, hC, ht⟩ := T.cls
  have e : PySem.W.clsIn K C = some { name := nm, bases := bs, mro := .ref C :: l, ns := N, qualname := q, hasDict := true, slotNames := sn, subclasses := sub, abstract := ab, collection := col, hasDel := false } := by
    unfold PySem.W.clsIn
    rw [hC] <;> rfl
  refine ⟨?_, _, e, rfl⟩
  unfold PySem.W.excOver
  rw [e]
  show (C == C && PySem.W.excTail bmB l) = true
  rw [ht, beq_self_eq_true]
  rfl
section
variable {X : Cx} {pins : List (Addr × Obj)} {σ : St} {H : Hp} {s : Shared} {a C : Addr} {f : Str} {y : V} {u : Value} {A : Around} {E : Value → Shared → Prop} {B n i : String} {bmB : List Value}
/-- the first field of such an exception: a dict is laid, hung in, filled -/
theorem ostB {Q : Unit → Shared → Prop} (XB : XBase B n i bmB) (T : OexB n bmB X.K C) (I : Inv X pins σ H s) (e : H a = some (exo a C none)) (hno : PySem.W.findIn X.K (.ref C) f = some none) (ry : RelV y u)
    (h : ∀ dx s', H dx = none → dx ≠ a → Inv X pins σ (upd (upd H dx (exd dx [(f, y)])) a (exo a C (some dx))) s' → Q () s') : wpAny (model X.prog X.w) A (setAttr (.ref a) f u) Q E s := by
  obtain ⟨ov, cd, hcl, hd⟩ := T.over
  obtain ⟨t1, ho⟩ := exo_at I.hok e
  obtain ⟨hp, g, d, t, os⟩ := s
  have J : PySem.W.InstAt hp a _ C none := ⟨ho, rfl, rfl, trivial⟩
  refine PySem.W.set_plain I.kIn J T.sa (PySem.W.osa_openX XB.st I.kIn J ov (r := none) (by unfold PySem.W.takerIn; rw [hno]; rfl) fun b => ?_)
  refine wpAny_bind (wpAny_pure (wpAny_bind (PySem.W.instanceDict_exc ho (PySem.W.looks_clsIn I.kIn hcl) hd ?_)))
  have dn : H hp.objs.size = none := I.hok.fresh (Nat.le_refl _)
  have na : hp.objs.size ≠ a := Nat.ne_of_gt (Heap.lt_size ho)
  have k1 : ∀ b o, hp.get? b = some o → (hp.push (PySem.W.dictOf [] 0)).get? b = some o := fun b o z => Heap.get?_push_of_some _ z
  have n1 : (hp.push (PySem.W.dictOf [] 0)).Ns1 hp.objs.size (fun _ => none) := Heap.Ns1.of_empty ⟨_, #[], _, Heap.get?_push_at rfl rfl, rfl, fun e he => absurd he (by simp), fun _ => rfl⟩
  have J1 : Inv X pins σ (upd H hp.objs.size (exd hp.objs.size [])) ⟨hp.push (PySem.W.dictOf [] 0), g, d, t + 1, os⟩ := I.laid (t' := t + 1) (a := hp.objs.size) k1 (Nat.le_refl _) (exd_ok n1 fun _ => True.intro)
  have k2 : ∀ b o, b ≠ a → (hp.push (PySem.W.dictOf [] 0)).get? b = some o → ((hp.push (PySem.W.dictOf [] 0)).update a fun o => { o with dict := some hp.objs.size }).get? b = some o := fun b o nb z => (Heap.get?_update_ne _ _ _ _ nb).trans z
  have x2 : ((hp.push (PySem.W.dictOf [] 0)).update a fun o => { o with dict := some hp.objs.size }).get? a = some { cls := .ref C, dict := some hp.objs.size, data := .fields #[.ref t1, .none, .none, .none, .bool false, .none] } := Heap.get?_update_self _ (k1 _ _ ho) rfl
  have J2 := J1.write (t' := t + 1) (x := a) (e := a) (o := exo a C (some hp.objs.size)) (by rw [upd_ne (Ne.symm na), e]; exact True.intro) (.inl rfl) k2 ⟨_, x2⟩ (exo_ok x2)
  have n2 : ((hp.push (PySem.W.dictOf [] 0)).update a fun o => { o with dict := some hp.objs.size }).Ns hp.objs.size (fun _ => none) := ⟨_, #[], _, (Heap.get?_update_ne _ _ _ _ na).trans (Heap.get?_push_at rfl rfl), rfl, fun e he => absurd he (by simp), fun _ => rfl⟩
  refine PySem.HandSPX.store_in_new n2 fun h' tk' hn hs => ?_
  have J3 := J2.write (t' := tk') (x := hp.objs.size) (e := hp.objs.size) (o := exd hp.objs.size [(f, y)]) (by rw [upd_ne na, upd_same]; exact True.intro) (.inl rfl) (fun b o nb z => (hs.2 b nb).trans z) (by obtain ⟨o, _, _, z, _⟩ := hn; exact ⟨o, z⟩) (exd_ok hn (relO_put (fs := []) ry fun g => True.intro))
  have eq : upd (upd (upd H hp.objs.size (exd hp.objs.size [])) a (exo a C (some hp.objs.size))) hp.objs.size (exd hp.objs.size [(f, y)]) = upd (upd H hp.objs.size (exd hp.objs.size [(f, y)])) a (exo a C (some hp.objs.size)) := funext fun b => by
    by_cases h1 : b = hp.objs.size
    · subst h1; rw [upd_same, upd_ne na, upd_same]
    · by_cases h2 : b = a
      · subst h2; rw [upd_ne h1, upd_same, upd_same]
      · rw [upd_ne h1, upd_ne h2, upd_ne h1, upd_ne h2, upd_ne h1]
  rw [eq] at J3
  exact h _ _ dn na J3
/-- the bound __init__ of the class below: it lays the arguments anew, nothing of that is told -/
theorem boundB {w : Addr} {us : List Value} {Q : Value → Shared → Prop} (XB : XBase B n i bmB) (T : OexB n bmB X.K C) (I : Inv X pins σ H s) (e : H a = some (exo a C none)) (hw : PySem.W.KxsAt i w a s.heap) (hl : us.length ≤ sizeLine) (h : ∀ s', Inv X pins σ H s' → Q .none s') :
    wpAny (model X.prog X.w) A (call (.ref w) us) Q E s := by
  obtain ⟨_, _, _, _, l, _, _, _, _, _, _, _, _, _, _, hC, _⟩ := T.cls
  obtain ⟨t1, ho⟩ := exo_at I.hok e
  have hC := I.kIn _ _ hC
  have hw : s.heap.get? w = some (PySem.W.kxs_mw i a) := hw
  have fin : ∀ (h' : Heap) (t2 : Addr), (∀ b o, b ≠ a → s.heap.get? b = some o → h'.get? b = some o) → h'.get? a = some (PySem.HandSPX.excO C t2) → Q .none { s with heap := h' } := fun h' t2 k hx => by
    have J := I.write (t' := s.toks) (x := a) (e := a) (o := exo a C none) (by rw [e]; exact True.intro) (.inl rfl) k ⟨_, hx⟩ (exo_ok hx)
    rw [upd_back e] at J
    exact h _ J
  obtain ⟨hp, g, d, t, os⟩ := s
  refine wpAny_call (codeAny_of_tree (show wpAny _ A.in1 (callAny (.ref w) ⟨us, []⟩) _ _ _ from ?_))
  simp only [callAny]
  refine wpAny_bind (wpAny_load hw ?_)
  dsimp only [PySem.W.kxs_mw]
  rw [if_pos (by decide +kernel)]
  show wpAny _ _ (if (Value.type "method-wrapper" != Value.type "method") = true then (checkBoundCall i ⟨.ref a :: us, []⟩ >>= fun _ => again (Code.builtin i ⟨.ref a :: us, []⟩)) else _) _ _ _
  rw [if_pos (by decide +kernel)]
  refine wpAny_bind (XB.bi hC ho rfl (wpAny_bind (wpAny_pure (wpAny_pure ⟨PySem.plainId_quiet XB.pl _, codeAny_builtin XB.en ?_⟩))))
  exact PySem.W.exc_init_tree ho hl fun h' k hx _ => fin h' _ k hx
end
/-- the next __init__ of C behind D is that of the class below -/
structure SupB (B i : String) (K : PySem.W.Frag) (C D : Addr) : Prop where
  sub : PySem.W.mroIn K C (.ref D) = some true
  at_ : PySem.W.ks_superIn K C D "__init__" = some (some (.builtin i))
  ve : PySem.W.mroIn K C (.type B) = some true
/-- super().__init__(..), self in slot j -/
def tSupB (B n i : String) (bmB : List Value) (K : PySem.W.Frag) (D : Addr) (j : Nat) (ta : TA) : TS := fun Dn σ H => ∃ (a C : Addr), σ[j]? = some (some (.ref a)) ∧ H a = some (exo a C none) ∧ OexB n bmB K C ∧ SupB B i K C D ∧ ta σ H fun vs H1 => vs.length ≤ 1000 ∧ H1 a = some (exo a C none) ∧ Dn.nx σ H1
/-- self.f = e, the first field -/
def tOstB (n : String) (bmB : List Value) (K : PySem.W.Frag) (f : Str) (to te : TE) : TS := fun Dn σ H => te σ H fun y H1 => to σ H1 fun x H2 => ∃ a C : Addr, x = .ref a ∧ OexB n bmB K C ∧ PySem.W.findIn K (.ref C) f = some none ∧ H2 a = some (exo a C none) ∧ ∀ dx, H2 dx = none → dx ≠ a → Dn.nx σ (upd (upd H2 dx (exd dx [(f, y)])) a (exo a C (some dx)))
section
variable {X : Cx} {D C fI : Addr} {x y f : Str} {o e : Expr} {es : List Expr} {ta : TA} {to te : TE} {p p0 p1 p2 pos pos' : Pos} {j k : Nat} {pl : Sem Bool} {body : List Stmt} {B n i : String} {bmB : List Value} {fd : FuncData} {ps : List Str} {sp : Sp} {ds : List Value} {dvs : List V} {CX : CXT}
theorem psa_superB (XB : XBase B n i bmB) (S : SupX X D y) (ha : PA X (e :: es) ta) (hN : X.N[j]? = some y := by rfl)
    (hi : interactive X.env = false := by rfl) (hs : swapsWith (.Call (.Attribute (.Call (.Name "super" p0) [] [] p1) "__init__" p2) (e :: es) [] pos) none pos'.line X.env = pure false := by rfl)
    (hst : starEach (e :: es) X.env = (false, eval e X.env) :: starEach es X.env := by rfl) (hpl : (backTo pos (starEach es X.env)).any (·.1) = false := by rfl)
    (he : eval (.Call (.Attribute (.Call (.Name "super" p0) [] [] p1) "__init__" p2) (e :: es) [] pos) X.env = (do
      let ov ← attributeBase (.Call (.Name "super" p0) [] [] p1) "__init__" X.env (eval (.Call (.Name "super" p0) [] [] p1) X.env)
      standAt p2.atName
      let (f, first) ← holding [ov] (getMethod ov "__init__" pl)
      callWith pos f first (backTo pos (starEach (e :: es) X.env)) []) := by rfl) :
    PSA X (.func body X.env) (.Expr (.Call (.Attribute (.Call (.Name "super" p0) [] [] p1) "__init__" p2) (e :: es) [] pos) pos') (tSupB B n i bmB X.K D j ta) := by
  refine ⟨fun pins s σ H Dn I h => ?_⟩
  obtain ⟨a, C, hv, ea, T, SM, q⟩ := h
  refine ks_wpAt_Expr_any ?_ hi hs
  refine ks_wpAt_MethodCall ?_ he
  obtain ⟨t1, ho⟩ := exo_at I.hok ea
  refine sup_base S I hN hv (J := ⟨ho, rfl, rfl, trivial⟩) (odx := none) SM.sub (by decide) fun so s1 I1 k1 => ?_
  obtain ⟨t2, ho1⟩ := exo_at I1.hok ea
  have J1 : PySem.W.InstAt s1.heap a _ C none := ⟨ho1, rfl, rfl, trivial⟩
  have hat := SM.at_
  cases hc : PySem.W.clsIn X.K C with
  | none =>
    unfold PySem.W.ks_superIn at hat
    rw [hc] at hat
    cases hat
  | some cd =>
    unfold PySem.W.ks_superIn at hat
    rw [hc] at hat
    obtain ⟨hh, gg, d, t, os⟩ := s1
    refine PySem.W.kxs_getMethod XB.kx (ClX.pin_at I1) (PySem.W.looks_opaque I1.kIn S.opq) (l₀ := cd.mro) ?_ rfl I1.kIn hat (J1.type.andThen (PySem.W.looks_mroIn I1.kIn SM.ve)) (PySem.W.ks_ne I1.kIn J1 hc) (by decide) ?_
    · exact fun A Q E s k q => wpAny_bind ((PySem.W.looks_clsIn I1.kIn hc) A _ E s k (wpAny_pure q))
    · have I2 := ClX.pin_new (t' := t + 1) (o := PySem.W.kxs_mw i a) I1 (fun _ _ z => Heap.get?_push_of_some _ z) (Nat.le_refl _) (Heap.get?_push_size hh rfl) (fun v z => nomatch z)
      have go : wpAny (model X.prog X.w) X.A (spliced (backTo pos (starEach (e :: es) X.env))) (fun us s3 => PySem.W.KxsAt i hh.objs.size a s3.heap ∧ wpAny (model X.prog X.w) X.A (call (.ref hh.objs.size) ([] ++ us)) (fun v s' => SP X pins Dn .next s') X.xe s3) X.xe ⟨hh.push (PySem.W.kxs_mw i a), gg, d, t + 1, os⟩ :=
        thn (ha.run pos _ _ σ H _ I2 q) fun us s3 ⟨vs, H2, I3, rv, hl, ea2, q2⟩ => ⟨ClX.pin_at I3, boundB XB T I3 ea2 (ClX.pin_at I3) (by rw [List.nil_append, ← Paired.length rv, sizeLine_eq]; omega) fun s' J => ⟨σ, H2, ClX.unpin (ClX.unpin J), q2⟩⟩
      rw [hst] at go ⊢
      exact PySem.W.kxs_callWith (by show (false || (backTo pos (starEach es X.env)).any (·.1)) = false; rw [hpl]; rfl) (PySem.Calls.evalArgs_plain go)
theorem ps_ostB (XB : XBase B n i bmB) (ho : PE X o to) (he : PE X e te) (hs : swapsWith e (some (.Attribute o f p)) pos.line X.env = pure false := by rfl) : PS X (.Assign [.Attribute o f p] e pos) (tOstB n bmB X.K f to te) := by
  refine ⟨fun pins s σ H Dn I h => plainObj_wpAny_Assign_Attribute (thn (he.run pins s σ H _ I h) fun v s1 ⟨y, H1, I1, ry, q1⟩ => thn (ho.run pins s1 σ H1 _ I1 q1) fun u s2 ⟨x, H2, I2, rx, a, C, ex, T, hno, ea, q⟩ => ?_) hs⟩
  subst ex
  cases (show u = Value.ref a from rx)
  exact ostB XB T I2 ea hno ry fun dx s' n ne J => ⟨σ, _, J, q dx n ne⟩
end
/-- an own exception over B, with an __init__ that says super() and keeps one field -/
structure XnB (B n i : String) (bmB : List Value) (P : Program) (K : PySem.W.Frag) (mg : Str → Option Value) (x : Str) (C fI : Addr) (fld : Str) : Prop where
  xb : XBase B n i bmB
  g : mg x = some (.ref C)
  o : OexB n bmB K C
  iC : PySem.W.findIn K (.ref C) "__init__" = some (some (.ref fI))
  tI : PySem.W.typeIn K (.ref fI) = some (.type "function")
  na : PySem.W.findIn K (.ref C) fld = some none
  su : SupB B i K C C
  ec : ExcC K C
  cd : ∃ cd, PySem.W.clsIn K C = some cd
theorem XnB.xf {B n i : String} {bmB : List Value} {P : Program} {K : PySem.W.Frag} {mg : Str → Option Value} {x : Str} {C fI : Addr} {fld : Str} (T : XnB B n i bmB P K mg x C fI fld) : XfC K C := ⟨T.ec.hg, T.ec.hk, T.ec.hs, T.ec.hd⟩
end L2
namespace S
open PySem L2
section
variable {P : Program} {w : World} {K : PySem.W.Frag} {mg : Str → Option Value} {base : Heap} {B n i : String} {bmB : List Value}
theorem fnXB {qual p fld x : Str} {st : Stmt} {f C : Addr} {fd : FuncData} {k : Nat} {ar : Arg} (F : Sn P K "__init__" qual st ["self", p] f fd C) (T : SupT P K mg) (S : FnScopeS ["self", p] ["self", p] (defScope st)) (Xc : XnB B n i bmB P K mg x C f fld)
    (hp : ((defArgs st).posonlyargs ++ (defArgs st).args).head? = some ar) (hy : ar.arg = "self") (hl : (defScope st).names.lookup ("self" : Str) = some .local)
    (hb : ∀ (cdv : Value) (cc : Addr) (A : Around) (outer : List PySem.Env) (s : Shared) (H : Hp) (E : XK), Room k (A.deeper (PySem.W.ksEnv qual (defScope st) s.heap.objs.size f cdv cc)) → SupX (cxS (L2.CX P w) P w K mg base ["self", p] qual (defScope st) f cdv cc A outer s H E) C "self" →
      PSsA (cxS (L2.CX P w) P w K mg base ["self", p] qual (defScope st) f cdv cc A outer s H E) (.func (defBody st) (PySem.W.ksEnv qual (defScope st) s.heap.objs.size f cdv cc)) (defBody st) (tSeq (tSupB B n i bmB K C 0 (tCons (tVar 1) tNil)) (tOstB n bmB K fld (tVar 0) (tVar 1)))) :
    FnOk P w K mg base (L2.CX P w) (k + 1) f fd ["self", p] (spExc C fld) := by
  obtain ⟨cdD, hD⟩ := Xc.cd
  refine F.okX T S hD hp hy hl (fun vs H Q E h => ?_) fun cdv cc A outer s H vs Q E hr hs h => ⟨_, hb cdv cc A outer s H E hr hs, ?_⟩
  · obtain ⟨a, y, rfl, _⟩ := h
    rfl
  · obtain ⟨a, y, rfl, ho, q⟩ := h
    refine ⟨a, C, rfl, ho, Xc.o, Xc.su, y, rfl, ?_⟩
    exact ⟨by simp, ho, y, rfl, .ref a, rfl, a, C, rfl, Xc.o, Xc.na, ho, q⟩
end
section
variable {G : GA} {W : WX} {X : Cx} {k : Nat} {fI : Addr} {fd : FuncData} {ps : List Str} {x fld : Str} {p pos pos' : Pos} {e : Expr} {m : M} {B n i : String} {bmB : List Value}
end
/-! values of handlers: and, not, a comparison -/
section
variable {G : GA} {X : Cx} {a : Addr} {oe : Obj} {cls : Value} {d : Option Addr} {pn : List (Addr × Obj)} {i : Nat} {e b : Expr} {rest : List Expr} {pos : Pos} {m n : MX}
end
theorem kit_bltT {K : PySem.W.Frag} {C : Addr} {T : String} (hm : PySem.W.kitMeta T = true) (hs : PySem.W.subIn K (.ref C) (.type T) = some true) : PySem.W.kitOne K (.ref C) (.type T) = some true := by
  show (if PySem.W.kitMeta T = true then PySem.W.subIn K (.ref C) (.type T) else none) = some true
  rw [if_pos hm]
  exact hs
end S
/-! methods and o[i] where exceptions may go anywhere (any W) -/
namespace S
open PySem L2
section
variable {G : GA} {W : WX} {X : Cx} {k n : Nat} {f g : Addr} {fd : FuncData} {ps : List Str} {F : List D → Sto → R D} {dds : List D} {dvs : List V} {ds : List Value} {pos apos : Pos} {e o : Expr} {es : List Expr} {m : MA} {mo : M}
end
end S
/-! extend by a tuple; a local's list is at rest from here on -/
namespace L2
open PySem PySem.Spec PyProof.Rows
section
variable {X : Cx}
theorem MtM.or {id : String} {r r' : V → List V → Hp → VK → Prop} (h : MtM X id r) (h' : MtM X id r') : MtM X id (fun x vs H Q => r x vs H Q ∨ r' x vs H Q) := fun pins s σ H x vs v us Q I a b q => q.elim (h pins s σ H x vs v us Q I a b) (h' pins s σ H x vs v us Q I a b)
end
end L2
namespace S
open PySem L2
section
variable {K : PySem.W.Frag} {G : GA} {W : WX} {X : Cx}
end
end S
/-! a comprehension within a comprehension -/
namespace L2
open PySem PySem.Spec PyProof.Rows
end L2
/-! list(range(n)) -/
namespace S
open PySem L2 PySem.Spec PyProof.Rows
section
variable {K : PySem.W.Frag} {G : GA} {W : WX} {X : Cx} {Z : Gh} {e : Expr} {m : M} {p0 p1 p2 p3 pos : Pos}
end
end S
/-! a + b that may still change -/
namespace S
open PySem L2
section
variable {K : PySem.W.Frag} {G : GA}
end
end S
/-! repr of a text -/
namespace L2
open PySem PySem.Spec PyProof.Rows
theorem call_repr_text {X : Cx} : CallR X (.builtin "repr") (fun xs H Q => ∃ a, xs = [.str a] ∧ (reprText a).length ≤ sizeLine ∧ Q (.str (reprText a)) H) := by
  intro pins s σ H xs us Q I r h
  obtain ⟨a, rfl, hz, q⟩ := h
  obtain ⟨u, rfl, t, rfl⟩ := vals1 r
  exact PySem.P.repr_of_str ⟨.str _, H, I.tok _, ⟨_, rfl⟩, q⟩ hz
end L2
namespace S
open PySem L2
def dReprX (ds : List D) (st : Sto) : R D := match ds with
  | [.str a] => if (reprText a).length ≤ sizeLine then .ok (.str (reprText a)) st else .stuck
  | _ => dRepr ds st
theorem ad_reprX {K : PySem.W.Frag} {G : GA} : AdL K G dReprX (fun xs H Q => rRepr K xs H Q ∨ ∃ a, xs = [.str a] ∧ (reprText a).length ≤ sizeLine ∧ Q (.str (reprText a)) H) := by
  intro E Z H st as xs Q R r h
  unfold dReprX at h
  split at h
  · obtain ⟨x, rfl, p⟩ := RepL.one r
    cases (show x = _ from p)
    split at h
    · rename_i hz
      exact .inr ⟨_, rfl, hz, Post.now (P := rD K G) h R rfl⟩
    · exact h.elim
  · exact .inl (ad_repr E Z H st as xs Q R r h)
end S
/-! enumerate over a text or a tuple; i >> j; repr of a truth value -/
namespace L2
open PySem PySem.Spec PyProof.Rows
section
variable {P : Program} {w : World} {K : PySem.W.Frag} {elts : List Expr} {kk : Nat} {tpos : Pos}
end
theorem call_repr_flat {X : Cx} : CallR X (.builtin "repr") (fun xs H Q => (∃ b, xs = [.bl b] ∧ Q (.str (if b = true then "True" else "False")) H) ∨ ∃ i, xs = [.int i] ∧ i.natAbs.log2 < 1920 ∧ Q (.str (toString i)) H) := by
  intro pins s σ H xs us Q I r h
  rcases h with ⟨b, rfl, q⟩ | ⟨i, rfl, hz, q⟩
  · obtain ⟨u, rfl, p⟩ := vals1 r
    cases (show u = Value.bool b from p)
    exact PySem.P.repr_of_bool ⟨.str _, H, I.tok _, ⟨_, rfl⟩, q⟩
  · obtain ⟨u, rfl, t, rfl⟩ := vals1 r
    exact PySem.P.repr_of_int hz ⟨.str _, H, I.tok _, ⟨_, rfl⟩, q⟩
end L2
namespace S
open PySem L2
section
variable {K : PySem.W.Frag} {G : GA} {W : WX} {X : Cx} {p pos : Pos}
def dReprY (ds : List D) (st : Sto) : R D := match ds with
  | [.bl b] => .ok (.str (if b = true then "True" else "False")) st
  | [.int i] => if i.natAbs.log2 < 1920 then .ok (.str (toString i)) st else .stuck
  | _ => dReprX ds st
theorem ad_reprY : AdL K G dReprY (fun xs H Q => (rRepr K xs H Q ∨ ∃ a, xs = [.str a] ∧ (reprText a).length ≤ sizeLine ∧ Q (.str (reprText a)) H) ∨ ((∃ b, xs = [.bl b] ∧ Q (.str (if b = true then "True" else "False")) H) ∨ ∃ i, xs = [.int i] ∧ i.natAbs.log2 < 1920 ∧ Q (.str (toString i)) H)) := by
  intro E Z H st as xs Q R r h
  unfold dReprY at h
  split at h
  · obtain ⟨x, rfl, p⟩ := RepL.one r
    cases (show x = _ from p)
    exact .inr (.inl ⟨_, rfl, Post.now (P := rD K G) h R rfl⟩)
  · obtain ⟨x, rfl, p⟩ := RepL.one r
    cases (show x = _ from p)
    split at h
    · rename_i hz
      exact .inr (.inr ⟨_, rfl, hz, Post.now (P := rD K G) h R rfl⟩)
    · exact h.elim
  · exact .inl (ad_reprX E Z H st as xs Q R r h)
end
end S
/-! what is reached from a local does not change any more, from a statement on -/
namespace S
open PySem L2
section
variable {X : Cx} {G : GA} {W : WX}
end
end S
/-! own exceptions over ValueError without an __init__ of their own: raised with no argument; isinstance of such a one -/
namespace L2
open PySem PySem.Spec PyProof.Rows
section
variable {X : Cx}
variable {a : Addr} {oe : Obj} {cls : Value} {d : Option Addr} {pn : List (Addr × Obj)}
end
end L2
namespace S
open PySem L2
/-- an own exception over ValueError with no __init__ of its own -/
structure Xn0 (K : PySem.W.Frag) (mg : Str → Option Value) (x : Str) (C : Addr) : Prop where
  g : mg x = some (.ref C)
  ex : PySem.W.excIn K C [.type "ValueError", .type "Exception", .type "BaseException", .type "object"] "ValueError.__new__" = true
  k : PySem.W.keepIn K (.ref C) = true
  ty : PySem.W.typeIn K (.ref C) = some (.type "type")
  ec : ExcC K C
section
variable {G : GA} {W : WX} {X : Cx} {x : Str} {p pos pos' : Pos}
end
section
variable {X : Cx} {G : GA} {i : Nat} {a : Addr} {oe : Obj} {cls : Value} {d : Option Addr} {pn : List (Addr × Obj)}
end
end S
/-! calls with defaults where exceptions may go anywhere (any W) -/
namespace S
open PySem L2 PyProof.Rows
section
variable {G : GA} {W : WX} {X : Cx} {k n l1 l2 : Nat} {f : Addr} {fd : FuncData} {ps ks : List Str} {F : List D → Sto → R D} {arr : List Nat} {dds : List D} {dvs : List V} {x : Str} {p pos : Pos} {e : Expr} {es : List Expr} {kws : List Keyword} {m mk : MA}
end
end S
/-! a list that changes behind a call: at rest during the call alone; calls of functions under no repr -/
namespace S
open PySem L2 PyProof.Rows
mutual
/-- no list within -/
def noL : D → Bool
  | .lst _ => false
  | .rls _ => false
  | .tup xs => noLL xs
  | .dct _ xs => noLL xs
  | .dkd ks xs => noLL ks && noLL xs
  | .ptp _ => false
  | .ins _ _ xs => noLL xs
  | .exv _ _ _ => false
  | _ => true
def noLL : List D → Bool
  | [] => true
  | d :: ds => noL d && noLL ds
end
def noLC : C → Bool
  | .lst xs => noLL xs
  | .dct _ xs => noLL xs
  | .dkd ks xs => noLL ks && noLL xs
  | .ins _ _ xs => noLL xs
  | .tab _ => true
  | .dead => true
section
variable {K : PySem.W.Frag} {G : GA}
/-- a is no more at rest -/
def Gh.thaw (Z : Gh) (a : Addr) : Gh := ⟨fun b => if b = a then none else Z.fz b, Z.rho, Z.tmp⟩
theorem thaw_ne {Z : Gh} {a b : Addr} (h : b ≠ a) : (Z.thaw a).fz b = Z.fz b := by
  show (if b = a then none else Z.fz b) = _
  rw [if_neg h]
mutual
theorem Rep.thaw {Z : Gh} {a : Addr} {us : List V} (ha : Z.fz a = some (.lst us)) : ∀ (d : D) (v : V), noL d = true → Rep K G Z d v → Rep K G (Z.thaw a) d v
  | .non, _, _, h => h
  | .bl _, _, _, h => h
  | .int _, _, _, h => h
  | .str _, _, _, h => h
  | .cls _, _, _, h => h
  | .ptr _, _, _, h => h
  | .lst _, _, n, _ => by unfold noL at n; cases n
  | .rls _, _, n, _ => by unfold noL at n; cases n
  | .tup ds, v, n, ⟨b, vs, e, q, r⟩ => by
    unfold noL at n
    refine ⟨b, vs, e, ?_, RepL.thaw ha ds vs n r⟩
    rcases q with q | q
    · refine .inl ?_
      by_cases hb : b = a
      · subst hb
        rcases q with q | ⟨o, q⟩
        · rw [ha] at q
          cases q
        · rw [ha] at q
          cases q
      · rcases q with q | ⟨o, q⟩
        · exact .inl (by rw [thaw_ne hb]; exact q)
        · exact .inr ⟨o, by rw [thaw_ne hb]; exact q⟩
    · exact .inr q
  | .dct ks ds, v, n, ⟨b, vs, e, q, hl, r⟩ => by
    unfold noL at n
    refine ⟨b, vs, e, ?_, hl, RepL.thaw ha ds vs n r⟩
    by_cases hb : b = a
    · subst hb
      rcases q with q | ⟨o, q⟩
      · rw [ha] at q
        cases q
      · rw [ha] at q
        cases q
    · rcases q with q | ⟨o, q⟩
      · exact .inl (by rw [thaw_ne hb]; exact q)
      · exact .inr ⟨o, by rw [thaw_ne hb]; exact q⟩
  | .dkd ks ds, v, n, ⟨b, o, xs, e, q, m, r, t⟩ => by
    unfold noL at n
    rw [Bool.and_eq_true] at n
    refine ⟨b, o, xs, e, ?_, m, RepL.thaw ha ks _ n.1 r, RepL.thaw ha ds _ n.2 t⟩
    by_cases hb : b = a
    · rw [hb, ha] at q
      cases q
    · rw [thaw_ne hb]
      exact q
  | .ptp _, _, n, _ => by unfold noL at n; cases n
  | .fn _, _, _, h => h
  | .exv _ _ _, _, n, _ => by unfold noL at n; cases n
  | .ins c ns ds, v, n, ⟨b, dx, vs, e, q, hl, r⟩ => by
    unfold noL at n
    refine ⟨b, dx, vs, e, ?_, hl, RepL.thaw ha ds vs n r⟩
    by_cases hb : b = a
    · rw [hb, ha] at q
      cases q
    · rw [thaw_ne hb]
      exact q
theorem RepL.thaw {Z : Gh} {a : Addr} {us : List V} (ha : Z.fz a = some (.lst us)) : ∀ (ds : List D) (vs : List V), noLL ds = true → RepL K G Z ds vs → RepL K G (Z.thaw a) ds vs
  | [], _, _, h => h
  | d :: ds, vs, n, ⟨v, t, e, p, q⟩ => by
    unfold noLL at n
    rw [Bool.and_eq_true] at n
    exact ⟨v, t, e, Rep.thaw ha d v n.1 p, RepL.thaw ha ds t n.2 q⟩
end
theorem RepC.thaw {Z : Gh} {a b : Addr} {us : List V} {H : Hp} (ha : Z.fz a = some (.lst us)) {c : C} (n : noLC c = true) (h : RepC K G Z H b c) : RepC K G (Z.thaw a) H b c := by
  cases c with
  | lst ds => obtain ⟨vs, h1, r⟩ := h; exact ⟨vs, h1, RepL.thaw ha ds vs n r⟩
  | dct ks ds => obtain ⟨vs, h1, h2, r⟩ := h; exact ⟨vs, h1, h2, RepL.thaw ha ds vs n r⟩
  | dkd ks ds =>
    obtain ⟨xs, h1, h2, h3, h4⟩ := h
    unfold noLC at n
    rw [Bool.and_eq_true] at n
    exact ⟨xs, h1, h2, RepL.thaw ha ks _ n.1 h3, RepL.thaw ha ds _ n.2 h4⟩
  | ins c ns ds => obtain ⟨dx, vs, h1, h2, r⟩ := h; exact ⟨dx, vs, h1, h2, RepL.thaw ha ds vs n r⟩
  | tab z =>
    obtain ⟨e0, ps, h1, h2, k⟩ := h
    refine ⟨e0, ps, h1, h2, fun pos cv y => ?_⟩
    obtain ⟨c, q1, q2⟩ := k pos cv y
    refine ⟨c, q1, ?_⟩
    rw [thaw_ne]
    · exact q2
    · rintro rfl
      rw [ha] at q2
      unfold LamX.CodeO at q2
      cases q2
  | dead => trivial
theorem RelH.thaw {Z Z2 : Gh} {H H2 : Hp} {st st' : Sto} {k : Nat} {a : Addr} {xs : List D} {us : List V} (R : RelH K G Z H st) (hk : st[k]? = some (.lst xs)) (hp : Z.rho[k]? = some a) (hu : RepL K G Z xs us) (l : Z.ex Z2) (tm : Z2.tmp = Z.tmp) (ha : Z2.fz a = some (.lst us)) (R2 : RelH K G Z2 H2 st') (hn : st'.all noLC = true) (hd : st'[k]? = some .dead) :
    Z.le (Z2.thaw a) ∧ RelH K G (Z2.thaw a) H2 (st'.set k (.lst xs)) := by
  have za : Z.fz a = none := R.off k _ a hk rfl hp
  have p2 : Z2.rho[k]? = some a := l.at hp
  have le : Z.le (Z2.thaw a) := ⟨fun b u e => by rw [thaw_ne (ne_of_none e za)]; exact l.fz _ _ e, l.rho, tm⟩
  have kl : k < st'.length := (List.getElem?_eq_some_iff.mp hd).1
  have alt : ∀ {i : Nat} {c : C}, (st'.set k (.lst xs))[i]? = some c → (i = k ∧ c = .lst xs) ∨ (i ≠ k ∧ st'[i]? = some c) := fun {i c} e => by
    by_cases hi : i = k
    · subst hi
      rw [List.getElem?_set_self kl] at e
      cases e
      exact .inl ⟨rfl, rfl⟩
    · rw [List.getElem?_set_ne (Ne.symm hi)] at e
      exact .inr ⟨hi, e⟩
  have no : ∀ {i : Nat} {c : C}, st'[i]? = some c → noLC c = true := fun {i c} e => List.all_eq_true.mp hn c (List.mem_of_getElem? e)
  have ha2 : ∀ {i : Nat} {c : C}, st'[i]? = some c → c.live = true → Z2.rho[i]? ≠ some a := fun {i c} e hl hi => by
    have := R2.off i c a e hl hi
    rw [ha] at this
    cases this
  refine ⟨le, ⟨fun b u e => ?_, by rw [List.length_set]; exact R2.len, fun i c b e hr => ?_, fun i c b e hl hr => ?_, fun i j c c' b e1 e2 h1 h2 r1 r2 => ?_, R2.tmp, fun b o e => ?_, G.mono le.fz R.lk⟩⟩
  · by_cases hb : b = a
    · subst hb
      have : (if b = b then none else Z2.fz b) = some u := e
      rw [if_pos rfl] at this
      cases this
    · rw [thaw_ne hb] at e
      exact R2.fz _ _ e
  · rcases alt e with ⟨rfl, rfl⟩ | ⟨hi, e⟩
    · have hr' : Z2.rho[i]? = some b := hr
      rw [p2] at hr'
      cases hr'
      exact ⟨us, R2.fz _ _ ha, RepL.up le _ _ hu⟩
    · exact RepC.thaw ha (no e) (R2.cell i c b e hr)
  · rcases alt e with ⟨rfl, rfl⟩ | ⟨hi, e⟩
    · have hr' : Z2.rho[i]? = some b := hr
      rw [p2] at hr'
      cases hr'
      show (if a = a then none else Z2.fz a) = none
      rw [if_pos rfl]
    · have z := R2.off i c b e hl hr
      show (if b = a then none else Z2.fz b) = none
      rw [z]
      split <;> rfl
  · rcases alt e1 with ⟨i1, c1⟩ | ⟨hi, f1⟩
    · rcases alt e2 with ⟨j1, c2⟩ | ⟨hj, f2⟩
      · rw [i1, j1]
      · have r1' : Z2.rho[i]? = some b := r1
        rw [i1, p2] at r1'
        cases r1'
        exact absurd r2 (ha2 f2 h2)
    · rcases alt e2 with ⟨j1, c2⟩ | ⟨hj, f2⟩
      · have r2' : Z2.rho[j]? = some b := r2
        rw [j1, p2] at r2'
        cases r2'
        exact absurd r1 (ha2 f1 h1)
      · exact R2.inj i j c c' b f1 f2 h1 h2 r1 r2
  · obtain ⟨t1, t2⟩ := R2.tof b o e
    refine ⟨?_, fun i c e1 hl hr => ?_⟩
    · show (if b = a then none else Z2.fz b) = none
      rw [t1]
      split <;> rfl
    · rcases alt e1 with ⟨rfl, rfl⟩ | ⟨hi, e1⟩
      · have hr' : Z2.rho[i]? = some b := hr
        rw [p2] at hr'
        cases hr'
        rw [ha] at t1
        cases t1
      · exact t2 i c e1 hl hr
end
section
variable {G : GA} {W : WX} {X : Cx} {e : Expr} {m : M}
end
/-! ### calls of functions under no repr -/
section
variable {P : Program} {w : World} {K : PySem.W.Frag} {mg : Str → Option Value} {base : Heap} {CX : CXT}
end
section
variable {G : GA} {W : WX} {X : Cx} {k n : Nat} {f : Addr} {fd : FuncData} {ps : List Str} {F : List D → Sto → R D} {x : Str} {p pos : Pos} {e : Expr} {es : List Expr} {m : MA}
end
end S
/-! y = [..], a list that changes afterwards -/
namespace S
open PySem L2
section
variable {G : GA} {W : WX} {X : Cx} {tg iter elt : Expr} {ifs : List Expr} {pos : Pos} {t : Tg} {vs : List Nat} {mi : MA} {mt : MB} {me : M} {scope : Scope} {own : List (Str × Nat)}
end
end S
/-! [.. for x in d ..] over the keys of a dict that changes elsewhere: it is at rest, locked, during the comprehension alone -/
namespace S
open PySem L2 PyProof.Rows
mutual
/-- no dict within -/
def noD : D → Bool
  | .dct _ _ => false
  | .dkd _ _ => false
  | .ptp _ => false
  | .lst xs => noDL xs
  | .rls xs => noDL xs
  | .tup xs => noDL xs
  | .ins _ _ xs => noDL xs
  | .exv _ _ _ => false
  | _ => true
def noDL : List D → Bool
  | [] => true
  | d :: ds => noD d && noDL ds
end
def noDC : C → Bool
  | .lst xs => noDL xs
  | .dct _ xs => noDL xs
  | .dkd _ _ => false
  | .ins _ _ xs => noDL xs
  | .tab _ => true
  | .dead => true
section
variable {K : PySem.W.Frag} {G : GA}
mutual
theorem Rep.thawD {Z : Gh} {a : Addr} {od : Obj} {u : HO} (hu : ∀ vs, u ≠ .lst vs ∧ u ≠ .tup vs) (ha : Z.fz a = some (.frz od u)) : ∀ (d : D) (v : V), noD d = true → Rep K G Z d v → Rep K G (Z.thaw a) d v
  | .non, _, _, h => h
  | .bl _, _, _, h => h
  | .int _, _, _, h => h
  | .str _, _, _, h => h
  | .cls _, _, _, h => h
  | .ptr _, _, _, h => h
  | .lst ds, v, n, ⟨b, vs, e, q, r⟩ => by
    unfold noD at n
    refine ⟨b, vs, e, ?_, RepL.thawD hu ha ds vs n r⟩
    by_cases hb : b = a
    · rw [hb, ha] at q
      cases q
    · rw [thaw_ne hb]
      exact q
  | .rls ds, v, n, ⟨b, vs, e, q, r⟩ => by
    unfold noD at n
    refine ⟨b, vs, e, ?_, RepL.thawD hu ha ds vs n r⟩
    rcases q with q | q
    · refine .inl ?_
      by_cases hb : b = a
      · subst hb
        rcases q with q | ⟨o, q⟩
        · rw [ha] at q
          cases q
        · rw [ha] at q
          cases q
          exact absurd rfl (hu _).1
      · rcases q with q | ⟨o, q⟩
        · exact .inl (by rw [thaw_ne hb]; exact q)
        · exact .inr ⟨o, by rw [thaw_ne hb]; exact q⟩
    · exact .inr q
  | .tup ds, v, n, ⟨b, vs, e, q, r⟩ => by
    unfold noD at n
    refine ⟨b, vs, e, ?_, RepL.thawD hu ha ds vs n r⟩
    rcases q with q | q
    · refine .inl ?_
      by_cases hb : b = a
      · subst hb
        rcases q with q | ⟨o, q⟩
        · rw [ha] at q
          cases q
        · rw [ha] at q
          cases q
          exact absurd rfl (hu _).2
      · rcases q with q | ⟨o, q⟩
        · exact .inl (by rw [thaw_ne hb]; exact q)
        · exact .inr ⟨o, by rw [thaw_ne hb]; exact q⟩
    · exact .inr q
  | .dct ks ds, v, n, _ => by unfold noD at n; cases n
  | .dkd ks ds, v, n, _ => by unfold noD at n; cases n
  | .ptp ds, v, n, _ => by unfold noD at n; cases n
  | .fn _, _, _, h => h
  | .exv _ _ _, _, n, _ => by unfold noD at n; cases n
  | .ins c ns ds, v, n, ⟨b, dx, vs, e, q, hl, r⟩ => by
    unfold noD at n
    refine ⟨b, dx, vs, e, ?_, hl, RepL.thawD hu ha ds vs n r⟩
    by_cases hb : b = a
    · rw [hb, ha] at q
      cases q
    · rw [thaw_ne hb]
      exact q
theorem RepL.thawD {Z : Gh} {a : Addr} {od : Obj} {u : HO} (hu : ∀ vs, u ≠ .lst vs ∧ u ≠ .tup vs) (ha : Z.fz a = some (.frz od u)) : ∀ (ds : List D) (vs : List V), noDL ds = true → RepL K G Z ds vs → RepL K G (Z.thaw a) ds vs
  | [], _, _, h => h
  | d :: ds, vs, n, ⟨v, t, e, p, q⟩ => by
    unfold noDL at n
    rw [Bool.and_eq_true] at n
    exact ⟨v, t, e, Rep.thawD hu ha d v n.1 p, RepL.thawD hu ha ds t n.2 q⟩
end
theorem RepC.thawD {Z : Gh} {a b : Addr} {od : Obj} {u : HO} {H : Hp} (hu : ∀ vs, u ≠ .lst vs ∧ u ≠ .tup vs) (ha : Z.fz a = some (.frz od u)) {c : C} (n : noDC c = true) (h : RepC K G Z H b c) : RepC K G (Z.thaw a) H b c := by
  cases c with
  | lst ds => obtain ⟨vs, h1, r⟩ := h; exact ⟨vs, h1, RepL.thawD hu ha ds vs n r⟩
  | dct ks ds => obtain ⟨vs, h1, h2, r⟩ := h; exact ⟨vs, h1, h2, RepL.thawD hu ha ds vs n r⟩
  | dkd ks ds => cases n
  | ins c ns ds => obtain ⟨dx, vs, h1, h2, r⟩ := h; exact ⟨dx, vs, h1, h2, RepL.thawD hu ha ds vs n r⟩
  | tab z =>
    obtain ⟨e0, ps, h1, h2, k⟩ := h
    refine ⟨e0, ps, h1, h2, fun pos cv y => ?_⟩
    obtain ⟨c, q1, q2⟩ := k pos cv y
    refine ⟨c, q1, ?_⟩
    rw [thaw_ne]
    · exact q2
    · rintro rfl
      rw [ha] at q2
      unfold LamX.CodeO at q2
      cases q2
  | dead => trivial
theorem RelH.thawD {Z Z2 : Gh} {H H2 : Hp} {st st' : Sto} {k : Nat} {a : Addr} {od : Obj} {c0 : C} {u : HO} (hu : ∀ vs, u ≠ .lst vs ∧ u ≠ .tup vs) (R : RelH K G Z H st) (hk : st[k]? = some c0) (hl0 : c0.live = true) (hp : Z.rho[k]? = some a) (hc0 : ∀ Z' H', Z.le Z' → H' a = some u → RepC K G Z' H' a c0) (l : Z.ex Z2) (tm : Z2.tmp = Z.tmp)
    (ha : Z2.fz a = some (.frz od u)) (R2 : RelH K G Z2 H2 st') (hn : st'.all noDC = true) (hd : st'[k]? = some .dead) :
    Z.le (Z2.thaw a) ∧ RelH K G (Z2.thaw a) (upd H2 a u) (st'.set k c0) := by
  have za : Z.fz a = none := R.off k _ a hk hl0 hp
  have p2 : Z2.rho[k]? = some a := l.at hp
  have le : Z.le (Z2.thaw a) := ⟨fun b u e => by rw [thaw_ne (ne_of_none e za)]; exact l.fz _ _ e, l.rho, tm⟩
  have kl : k < st'.length := (List.getElem?_eq_some_iff.mp hd).1
  have alt : ∀ {i : Nat} {c : C}, (st'.set k c0)[i]? = some c → (i = k ∧ c = c0) ∨ (i ≠ k ∧ st'[i]? = some c) := fun {i c} e => by
    by_cases hi : i = k
    · subst hi
      rw [List.getElem?_set_self kl] at e
      cases e
      exact .inl ⟨rfl, rfl⟩
    · rw [List.getElem?_set_ne (Ne.symm hi)] at e
      exact .inr ⟨hi, e⟩
  have no : ∀ {i : Nat} {c : C}, st'[i]? = some c → noDC c = true := fun {i c} e => List.all_eq_true.mp hn c (List.mem_of_getElem? e)
  have ha2 : ∀ {i : Nat} {c : C}, st'[i]? = some c → c.live = true → Z2.rho[i]? ≠ some a := fun {i c} e hl hi => by
    have := R2.off i c a e hl hi
    rw [ha] at this
    cases this
  refine ⟨le, ⟨fun b u e => ?_, by rw [List.length_set]; exact R2.len, fun i c b e hr => ?_, fun i c b e hl hr => ?_, fun i j c c' b e1 e2 h1 h2 r1 r2 => ?_, fun b u e => ?_, fun b o e => ?_, G.mono le.fz R.lk⟩⟩
  · by_cases hb : b = a
    · subst hb
      have : (if b = b then none else Z2.fz b) = some u := e
      rw [if_pos rfl] at this
      cases this
    · rw [thaw_ne hb] at e
      rw [upd_ne hb]
      exact R2.fz _ _ e
  · rcases alt e with ⟨rfl, rfl⟩ | ⟨hi, e⟩
    · have hr' : Z2.rho[i]? = some b := hr
      rw [p2] at hr'
      cases hr'
      exact hc0 _ _ le upd_same
    · cases hl : c.live with
      | false => cases c <;> first | trivial | cases hl
      | true =>
        have ne : b ≠ a := fun z => ha2 e hl (by rw [← z]; exact hr)
        exact RepC.thawD hu ha (no e) (RepC.congr (upd_ne ne) (R2.cell i c b e hr))
  · rcases alt e with ⟨rfl, rfl⟩ | ⟨hi, e⟩
    · have hr' : Z2.rho[i]? = some b := hr
      rw [p2] at hr'
      cases hr'
      show (if a = a then none else Z2.fz a) = none
      rw [if_pos rfl]
    · have z := R2.off i c b e hl hr
      show (if b = a then none else Z2.fz b) = none
      rw [z]
      split <;> rfl
  · rcases alt e1 with ⟨i1, c1⟩ | ⟨hi, f1⟩
    · rcases alt e2 with ⟨j1, c2⟩ | ⟨hj, f2⟩
      · rw [i1, j1]
      · have r1' : Z2.rho[i]? = some b := r1
        rw [i1, p2] at r1'
        cases r1'
        exact absurd r2 (ha2 f2 h2)
    · rcases alt e2 with ⟨j1, c2⟩ | ⟨hj, f2⟩
      · have r2' : Z2.rho[j]? = some b := r2
        rw [j1, p2] at r2'
        cases r2'
        exact absurd r1 (ha2 f1 h1)
      · exact R2.inj i j c c' b f1 f2 h1 h2 r1 r2
  · have ne : b ≠ a := fun z => by
      have := (R2.tof b u e).1
      rw [z, ha] at this
      cases this
    rw [upd_ne ne]
    exact R2.tmp _ _ e
  · obtain ⟨t1, t2⟩ := R2.tof b o e
    refine ⟨?_, fun i c e1 hl hr => ?_⟩
    · show (if b = a then none else Z2.fz b) = none
      rw [t1]
      split <;> rfl
    · rcases alt e1 with ⟨rfl, rfl⟩ | ⟨hi, e1⟩
      · have hr' : Z2.rho[i]? = some b := hr
        rw [p2] at hr'
        cases hr'
        rw [ha] at t1
        cases t1
      · exact t2 i c e1 hl hr
end
section
variable {G : GA} {W : WX} {X : Cx} {tg elt : Expr} {ifs : List Expr} {pos : Pos} {t : Tg} {vs : List Nat} {mt : MB} {me : M} {scope : Scope} {own : List (Str × Nat)}
end
end S
/-! whatever a local names comes to rest at a statement; repr of None -/
namespace S
open PySem L2 PyProof.Rows
section
variable {G : GA} {W : WX} {X : Cx}
end
theorem call_repr_non {X : Cx} : CallR X (.builtin "repr") (fun xs H Q => xs = [.non] ∧ Q (.str "None") H) := by
  intro pins s σ H xs us Q I r h
  obtain ⟨rfl, q⟩ := h
  obtain ⟨u, rfl, p⟩ := vals1 r
  cases (show u = Value.none from p)
  exact PySem.P.repr_of_none ⟨.str _, H, I.tok _, ⟨_, rfl⟩, q⟩
def dReprN (ds : List D) (st : Sto) : R D := match ds with
  | [.non] => .ok (.str "None") st
  | _ => dReprY ds st
theorem ad_reprN {K : PySem.W.Frag} {G : GA} : AdL K G dReprN (fun xs H Q => ((rRepr K xs H Q ∨ ∃ a, xs = [.str a] ∧ (reprText a).length ≤ sizeLine ∧ Q (.str (reprText a)) H) ∨ ((∃ b, xs = [.bl b] ∧ Q (.str (if b = true then "True" else "False")) H) ∨ ∃ i, xs = [.int i] ∧ i.natAbs.log2 < 1920 ∧ Q (.str (toString i)) H)) ∨ (xs = [.non] ∧ Q (.str "None") H)) := by
  intro E Z H st as xs Q R r h
  unfold dReprN at h
  split at h
  · obtain ⟨x, rfl, p⟩ := RepL.one r
    cases (show x = _ from p)
    exact .inr ⟨rfl, Post.now (P := rD K G) h R rfl⟩
  · exact .inl (ad_reprY E Z H st as xs Q R r h)
end S
/-! slices that stay cells; is, is not of bools -/
namespace S
open PySem L2
section
variable {K : PySem.W.Frag} {G : GA} {W : WX} {X : Cx} {e : Expr} {pos : Pos}
end
end S
/-! x in xs where x is any data; handlers that do something (append) with what was caught; tuples in handlers -/
namespace L2
open PySem PySem.Spec PyProof.Rows
section
variable {X : Cx}
end
end L2
namespace S
open PySem L2
section
variable {K : PySem.W.Frag} {G : GA}
end
/-! handlers: arguments, tuples, append -/
abbrev MXA := Nat → List Str → List D → MA
section
variable {G : GA} {X : Cx} {a : Addr} {oe : Obj} {cls : Value} {d : Option Addr} {pn : List (Addr × Obj)} {i k : Nat} {e : Expr} {es : List Expr} {pos : Pos} {m : MX} {n : MXA}
end
section
variable {G : GA} {W : WX} {X : Cx} {x n : Str} {cv : Value} {i : Nat} {body : List Stmt} {np pos pos' ps : Pos} {m : MS} {q : MX} {ki : Ki} {e : Expr}
end
end S
/-! list(zip(a, b)) -/
namespace S
open PySem L2
theorem ne_n {a b : Nat} (h : a < b ∨ b < a) : a ≠ b := by omega
/-- where a list of the pairs of two lists stands, while it is made; the zip and what belongs to it lie from N on -/
structure ZL (N l1 l2 L : Nat) (xs ys : Array Value) (h0 : Heap) (i : Nat) (Ts : List Addr) (h : Heap) : Prop where
  ti : IsPair h (N + 2) (.ref N) (.ref (N + 1))
  a1 : h.IsListIter N l1 i
  a2 : h.IsListIter (N + 1) l2 i
  b1 : h.IsList l1 xs
  b2 : h.IsList l2 ys
  sl : ∃ c, h.get? L = some { cls := .type "list", data := .seq (Ts.map Value.ref).toArray c }
  ln : Ts.length = i
  tp : ∀ (j : Nat) (T : Addr), Ts[j]? = some T → ∃ x y, xs[j]? = some x ∧ ys[j]? = some y ∧ IsPair h T x y
  pw : Ts.Pairwise (fun (a b : Nat) => a < b)
  rg : ∀ T ∈ Ts, L < (T : Nat)
  old : ∀ (b : Nat) (o : Obj), b < N → h0.get? b = some o → h.get? b = some o
  zz : (i = 0 ∧ IsZip h (N + 4) (N + 2) (N + 3) .none ∧ ∃ a b, IsPair h (N + 3) a b) ∨ ∃ (T : Nat) (f : Bool) (oT : Obj), IsZipHeld h (N + 4) (N + 2) (N + 3) T f ∧ h.get? T = some oT ∧ L < T
structure ZF (N L : Nat) (xs ys : Array Value) (h0 : Heap) (Ts : List Addr) (h : Heap) : Prop where
  sl : ∃ c, h.get? L = some { cls := .type "list", data := .seq (Ts.map Value.ref).toArray c }
  ln : Ts.length = min xs.size ys.size
  tp : ∀ (j : Nat) (T : Addr), Ts[j]? = some T → ∃ x y, xs[j]? = some x ∧ ys[j]? = some y ∧ IsPair h T x y
  pw : Ts.Pairwise (fun (a b : Nat) => a < b)
  rg : ∀ T ∈ Ts, L < (T : Nat)
  old : ∀ (b : Nat) (o : Obj), b < N → h0.get? b = some o → h.get? b = some o
section
variable {prog : Program} {w : World} {A : Around} {R : Result → Shared → Prop} {N l1 l2 L : Nat} {xs ys : Array Value} {h0 : Heap} {res : Value} {s0 : Shared}
theorem ZL.upd {h h' : Heap} {i : Nat} {Ts : List Addr} {x y : Value} {T' c : Nat} (tz : ∃ (T : Nat) (f : Bool) (oT : Obj), IsZipHeld h' (N + 4) (N + 2) (N + 3) T f ∧ h'.get? T = some oT ∧ L < T) (bl1 : l1 < N) (bl2 : l2 < N) (bL : N + 4 < L) (Z : ZL N l1 l2 L xs ys h0 i Ts h)
    (hx : xs[i]? = some x) (hy : ys[i]? = some y) (a1 : h'.IsListIter N l1 (i + 1)) (a2 : h'.IsListIter (N + 1) l2 (i + 1)) (hT : IsPair h' T' x y) (hT' : T' = h.objs.size) (sl : h'.get? L = some { cls := .type "list", data := .seq ((Ts ++ [T']).map Value.ref).toArray c })
    (kp : ∀ (c : Nat) (o : Obj), c ≠ L → c ≠ N + 4 → c ≠ N + 3 → c ≠ N → c ≠ N + 1 → h.get? c = some o → h'.get? c = some o) : ZL N l1 l2 L xs ys h0 (i + 1) (Ts ++ [T']) h' := by
  have lL : L < h.objs.size := by obtain ⟨c, e⟩ := Z.sl; exact Heap.lt_size e
  have keepL : ∀ {l : Nat} {us : Array Value}, l < N → h.IsList l us → h'.IsList l us := fun {l us} hl ⟨o, e, q⟩ => ⟨o, kp l o (by omega) (by omega) (by omega) (by omega) (by omega) e, q⟩
  refine ⟨kp (N + 2) _ (by omega) (by omega) (by omega) (by omega) (by omega) Z.ti, a1, a2, keepL bl1 Z.b1, keepL bl2 Z.b2, ⟨c, sl⟩, by simp [Z.ln], fun j T hj => ?_, ?_, fun T hT => ?_, fun b o hb e => kp b o (by omega) (by omega) (by omega) (by omega) (by omega) (Z.old b o hb e), .inr tz⟩
  · by_cases hj' : j < Ts.length
    · rw [List.getElem?_append_left hj'] at hj
      obtain ⟨x, y, e1, e2, e3⟩ := Z.tp j T hj
      have := Z.rg T (List.mem_of_getElem? hj)
      exact ⟨x, y, e1, e2, kp T _ (ne_n (by omega)) (ne_n (by omega)) (ne_n (by omega)) (ne_n (by omega)) (ne_n (by omega)) e3⟩
    · have hj2 : j = Ts.length := by
        have := (List.getElem?_eq_some_iff.mp hj).1
        simp at this
        omega
      subst hj2
      have : T = T' := by simpa using hj.symm
      subst this
      have := Z.ln
      exact ⟨x, y, this ▸ hx, this ▸ hy, hT⟩
  · rw [List.pairwise_append]
    refine ⟨Z.pw, by simp, fun a ha b hb => ?_⟩
    simp at hb
    subst hb
    rw [hT']
    obtain ⟨j, hj⟩ := List.getElem?_of_mem ha
    obtain ⟨x, y, _, _, e3⟩ := Z.tp j a hj
    exact Heap.lt_size e3
  · rcases List.mem_append.mp hT with h | h
    · exact Z.rg T h
    · simp at h
      rw [h, hT']
      exact lL
end
end S
namespace S
open PySem L2
section
variable {prog : Program} {w : World} {A : Around} {E : Value → Shared → Prop} {N l1 l2 : Nat} {xs ys : Array Value} {s : Shared} {Q : Value → Shared → Prop}
end
end S
namespace S
open PySem L2
section
variable {P : Program} {w : World} {h' : Heap}
end
end S
namespace S
open PySem L2
section
variable {K : PySem.W.Frag} {G : GA} {W : WX} {X : Cx}
end
end S
/-! d.get(k, z) -/
namespace S
open PySem L2
section
variable {K : PySem.W.Frag} {G : GA} {W : WX} {X : Cx} {o e f : Expr} {m n l : M} {apos cpos : Pos}
end
end S
/-! dicts by nested tuples: what their rules ask and give over the abstract heap -/
namespace S
open PySem L2 PyProof.Rows
mutual
/-- the value v is the key k -/
def NkIs (K : PySem.W.Frag) (H : Hp) : NestedKey → V → Prop
  | .none, v => v = .non
  | .num i, v => v = .int i ∨ ∃ b : Bool, v = .bl b ∧ i = (if b = true then 1 else 0)
  | .text x, v => v = .str x
  | .tup ks, v => ∃ a vs, v = .ref a ∧ SqT K H a vs ∧ NkAll K H ks vs
def NkAll (K : PySem.W.Frag) (H : Hp) : List NestedKey → List V → Prop
  | [], vs => vs = []
  | k :: ks, vs => ∃ v r, vs = v :: r ∧ NkIs K H k v ∧ NkAll K H ks r
end
section
variable {X : Cx} {pins : List (Addr × Obj)} {σ : L2.St} {H : Hp} {s : Shared}
mutual
theorem nk_is (I : Inv X pins σ H s) : ∀ (k : NestedKey) (v : V) (u : Value), NkIs X.K H k v → RelV v u → NestedIs s.heap k u
  | .none, _, _, h, r => by cases (show _ = _ from h); cases r; exact .none
  | .num i, _, _, h, r => by
    rcases (show _ ∨ _ from h) with e | ⟨b, e, q⟩
    · subst e
      obtain ⟨t, rfl⟩ := r
      exact .int i t
    · subst e
      cases r
      exact .bool q
  | .text x, _, _, h, r => by
    cases (show _ = _ from h)
    obtain ⟨t, rfl⟩ := r
    exact .text x t
  | .tup ks, _, _, h, r => by
    obtain ⟨a, vs, e, q, z⟩ := h
    subst e
    cases r
    obtain ⟨its, rv, ⟨o, ho, hc, n, hd⟩, _⟩ := I.tuple q
    exact .tup ho hc hd (by simpa using nk_all I ks vs its z rv)
theorem nk_all (I : Inv X pins σ H s) : ∀ (ks : List NestedKey) (vs : List V) (us : List Value), NkAll X.K H ks vs → Vals vs us → NestedAll s.heap ks us
  | [], _, _, h, r => by
    cases (show _ = _ from h)
    cases r
    exact .nil
  | k :: ks, _, _, h, r => by
    obtain ⟨v, t, e, p, q⟩ := h
    subst e
    cases r with
    | cons r1 r2 => exact .cons (nk_is I k v _ p r1) (nk_all I ks t _ q r2)
end
end
section
variable {K : PySem.W.Frag} {G : GA} {Z : Gh} {H : Hp}
mutual
theorem nkD_is (e : Same Z.fz H) : ∀ (d : D) (k : NestedKey) (v : V), nkD d = some k → Rep K G Z d v → NkIs K H k v
  | .non, _, _, h, r => by cases h; exact r
  | .bl b, _, _, h, r => by cases h; exact .inr ⟨b, r, rfl⟩
  | .int i, _, _, h, r => by cases h; exact .inl r
  | .str x, _, _, h, r => by cases h; exact r
  | .tup ds, _, _, h, r => by
    unfold nkD at h
    cases q : nkL ds with
    | none => rw [q] at h; cases h
    | some ks =>
      rw [q] at h
      cases h
      obtain ⟨a, vs, e1, e2, e3⟩ := r
      exact ⟨a, vs, e1, Same.sqt' e e2, nkL_is e ds ks vs q e3⟩
  | .lst _, _, _, h, _ => by unfold nkD at h; cases h
  | .rls _, _, _, h, _ => by unfold nkD at h; cases h
  | .dct _ _, _, _, h, _ => by unfold nkD at h; cases h
  | .ins _ _ _, _, _, h, _ => by unfold nkD at h; cases h
  | .ptr _, _, _, h, _ => by unfold nkD at h; cases h
  | .cls _, _, _, h, _ => by unfold nkD at h; cases h
  | .dkd _ _, _, _, h, _ => by unfold nkD at h; cases h
  | .ptp _, _, _, h, _ => by unfold nkD at h; cases h
  | .fn _, _, _, h, _ => by unfold nkD at h; cases h
  | .exv _ _ _, _, _, h, _ => by unfold nkD at h; cases h
theorem nkL_is (e : Same Z.fz H) : ∀ (ds : List D) (ks : List NestedKey) (vs : List V), nkL ds = some ks → RepL K G Z ds vs → NkAll K H ks vs
  | [], _, _, h, r => by cases h; exact r
  | d :: ds, ks, vs, h, r => by
    unfold nkL at h
    cases q : nkD d with
    | none => rw [q] at h; cases h
    | some k =>
      cases q2 : nkL ds with
      | none => rw [q, q2] at h; cases h
      | some ks' =>
        rw [q, q2] at h
        cases h
        obtain ⟨v, t, e1, e2, e3⟩ := r
        exact ⟨v, t, e1, nkD_is e d k v q e2, nkL_is e ds ks' t q2 e3⟩
end
theorem nk8_of {d : D} {k : NestedKey} (h : nk8 d = some k) : nkD d = some k ∧ k.depth ≤ 8 ∧ ∃ ds, d = .tup ds := by
  unfold nk8 at h
  split at h
  · rename_i ds
    cases q : nkD (.tup ds) with
    | none => rw [q] at h; cases h
    | some k' =>
      rw [q] at h
      have h' : (if k'.depth ≤ 8 then some k' else none) = some k := h
      split at h' <;> cases h'
      rename_i hd
      exact ⟨rfl, hd, ds, rfl⟩
  · cases h
/-- a key's place: it is a tuple -/
theorem nk8_is (e : Same Z.fz H) {d : D} {k : NestedKey} {v : V} (h : nk8 d = some k) (r : Rep K G Z d v) : NkIs K H k v ∧ k.depth ≤ 8 ∧ ∃ b, v = .ref b := by
  obtain ⟨h1, h2, ds, rfl⟩ := nk8_of h
  exact ⟨nkD_is e _ k v h1 r, h2, let ⟨a, _, e, _⟩ := r; ⟨a, e⟩⟩
end
/-- all keys of the entries are keys -/
def NKs (K : PySem.W.Frag) (H : Hp) (xs : List (NestedKey × Addr × V)) : Prop := ∀ x ∈ xs, NkIs K H x.1 (.ref x.2.1) ∧ x.1.depth ≤ 8
theorem nks_of {K : PySem.W.Frag} {G : GA} {Z : Gh} {H : Hp} (e : Same Z.fz H) : ∀ {ks : List D} {xs : List (NestedKey × Addr × V)}, ks.map nk8 = xs.map (fun x => some x.1) → RepL K G Z ks (xs.map fun x => .ref x.2.1) → NKs K H xs
  | [], [], _, _ => fun x hx => nomatch hx
  | [], _ :: _, h, _ => by cases h
  | _ :: _, [], h, _ => by cases h
  | k :: ks, x :: xs, h, r => by
    rw [List.map_cons, List.map_cons, List.cons.injEq] at h
    obtain ⟨v, t, e1, e2, e3⟩ := r
    rw [List.map_cons, List.cons.injEq] at e1
    obtain ⟨e1, e1'⟩ := e1
    subst e1 e1'
    intro y hy
    rcases List.mem_cons.mp hy with rfl | hy
    · obtain ⟨p1, p2, _⟩ := nk8_is e h.1 e2
      exact ⟨p1, p2⟩
    · exact nks_of e h.2 e3 y hy
/-- the value behind a key -/
def valN (xs : List (NestedKey × Addr × V)) (k : NestedKey) : Option V := (xs.find? fun x => decide (x.1 = k)).map (·.2.2)
def putT (xs : List (NestedKey × Addr × V)) (k : NestedKey) (b : Addr) (v : V) : List (NestedKey × Addr × V) :=
  if (valN xs k).isSome = true then xs.map (fun x => if x.1 = k then (x.1, x.2.1, v) else x) else xs ++ [(k, b, v)]
def NPut (X : Cx) (H : Hp) (a : Addr) (y v : V) (H' : Hp) : Prop := ∃ xs k b, H a = some (DkO X.w a xs) ∧ NKs X.K H xs ∧ y = .ref b ∧ NkIs X.K H k y ∧ k.depth ≤ 8 ∧ xs.length < sizeLine ∧ H' = upd H a (DkO X.w a (putT xs k b v))
section
variable {P : Program} {w : World} {H : Hp} {h : Heap} {a : Addr} {xs : List (NestedKey × Addr × V)}
end
section
variable {X : Cx} {pins : List (Addr × Obj)} {σ : L2.St} {H : Hp} {s : Shared} {a : Addr} {xs : List (NestedKey × Addr × V)}
variable {n : Nat} {A : Around} {E : Value → Shared → Prop} {y v : V} {u r : Value} {o : Option V}
end
end S
/-! dicts by nested tuples: what is reckoned with them -/
namespace S
open PySem PySem.W L2 PyProof.Rows
def lookN (k : NestedKey) : List D → List D → Option D
  | j :: ks, d :: ds => if nk8 j = some k then some d else lookN k ks ds
  | _, _ => none
def putNk (k : NestedKey) (i : D) (ks ds : List D) : List D := if (lookN k ks ds).isSome = true then ks else ks ++ [i]
def replN (k : NestedKey) (v : D) : List D → List D → List D
  | j :: ks, d :: ds => (if nk8 j = some k then v else d) :: replN k v ks ds
  | _, ds => ds
def putNd (k : NestedKey) (v : D) (ks ds : List D) : List D := if (lookN k ks ds).isSome = true then replN k v ks ds else ds ++ [v]
section
variable {K : PySem.W.Frag} {G : GA} {Z : Gh}
theorem lookN_of {k : NestedKey} : ∀ {ks ds : List D} {xs : List (NestedKey × Addr × V)}, ks.map nk8 = xs.map (fun x => some x.1) → RepL K G Z ds (xs.map (·.2.2)) →
    (∀ d, lookN k ks ds = some d → ∃ v, valN xs k = some v ∧ Rep K G Z d v) ∧ (lookN k ks ds = none → valN xs k = none)
  | [], _, [], _, _ => ⟨fun d h => (by unfold lookN at h; cases h), fun _ => rfl⟩
  | [], _, _ :: _, h, _ => by cases h
  | _ :: _, _, [], h, _ => by cases h
  | j :: ks, ds, x :: xs, h, r => by
    rw [List.map_cons, List.map_cons, List.cons.injEq] at h
    cases ds with
    | nil => cases (show _ = _ from r)
    | cons d ds =>
      obtain ⟨v, t, e, p, q⟩ := r
      rw [List.map_cons, List.cons.injEq] at e
      obtain ⟨e, e'⟩ := e
      subst e e'
      have ih := lookN_of (k := k) h.2 q
      unfold lookN valN
      unfold valN at ih
      rw [List.find?_cons, h.1]
      by_cases hk : x.1 = k
      · rw [if_pos (by rw [hk]), decide_eq_true hk]
        exact ⟨fun d' e => ⟨_, rfl, (Option.some.inj e) ▸ p⟩, fun e => nomatch e⟩
      · rw [if_neg (fun e => hk (Option.some.inj e)), decide_eq_false hk]
        exact ih
theorem lookN_some {k : NestedKey} {ks ds : List D} {xs : List (NestedKey × Addr × V)} (h : ks.map nk8 = xs.map (fun x => some x.1)) (r : RepL K G Z ds (xs.map (·.2.2))) : (valN xs k).isSome = (lookN k ks ds).isSome := by
  cases e : lookN k ks ds with
  | none => rw [(lookN_of h r).2 e]; rfl
  | some d => obtain ⟨v, h1, _⟩ := (lookN_of h r).1 d e; rw [h1]; rfl
theorem replN_of {k : NestedKey} {d : D} {v : V} (p : Rep K G Z d v) : ∀ {ks ds : List D} {xs : List (NestedKey × Addr × V)}, ks.map nk8 = xs.map (fun x => some x.1) → RepL K G Z ds (xs.map (·.2.2)) →
    RepL K G Z (replN k d ks ds) ((xs.map fun x => if x.1 = k then (x.1, x.2.1, v) else x).map (·.2.2))
  | [], ds, [], _, r => by
    cases ds with
    | nil => exact rfl
    | cons d ds => obtain ⟨_, _, e, _⟩ := r; cases e
  | [], _, _ :: _, h, _ => by cases h
  | _ :: _, _, [], h, _ => by cases h
  | j :: ks, ds, x :: xs, h, r => by
    rw [List.map_cons, List.map_cons, List.cons.injEq] at h
    cases ds with
    | nil => cases (show _ = _ from r)
    | cons d' ds =>
      obtain ⟨v', t, e, p', q⟩ := r
      rw [List.map_cons, List.cons.injEq] at e
      obtain ⟨e, e'⟩ := e
      subst e e'
      have ih := replN_of (k := k) p h.2 q
      unfold replN
      rw [h.1, List.map_cons, List.map_cons]
      by_cases hk : x.1 = k
      · rw [if_pos (by rw [hk]), if_pos hk]
        exact ⟨_, _, rfl, p, ih⟩
      · rw [if_neg (fun e => hk (Option.some.inj e)), if_neg hk]
        exact ⟨_, _, rfl, p', ih⟩
/-- keys and values behind a store -/
theorem putN_core {k : NestedKey} {i d : D} {b : Addr} {v : V} {ks ds : List D} {xs : List (NestedKey × Addr × V)} (hi : nk8 i = some k) (pi : Rep K G Z i (.ref b)) (p : Rep K G Z d v) (h : ks.map nk8 = xs.map (fun x => some x.1)) (r0 : RepL K G Z ks (xs.map fun x => .ref x.2.1)) (r : RepL K G Z ds (xs.map (·.2.2))) :
    (putNk k i ks ds).map nk8 = (putT xs k b v).map (fun x => some x.1) ∧ RepL K G Z (putNk k i ks ds) ((putT xs k b v).map fun x => .ref x.2.1) ∧ RepL K G Z (putNd k d ks ds) ((putT xs k b v).map (·.2.2)) := by
  have hs := lookN_some (k := k) h r
  unfold putT putNk putNd
  cases q : (lookN k ks ds).isSome with
  | true =>
    rw [q] at hs
    rw [hs, if_pos rfl, if_pos rfl, if_pos rfl]
    refine ⟨?_, ?_, replN_of p h r⟩
    · rw [h, List.map_map]
      refine List.map_congr_left fun x _ => ?_
      show some x.1 = some (if x.1 = k then (x.1, x.2.1, v) else x).1
      split <;> rfl
    · rw [List.map_map]
      have : ((fun x : NestedKey × Addr × V => V.ref x.2.1) ∘ fun x => if x.1 = k then (x.1, x.2.1, v) else x) = fun x => V.ref x.2.1 := by
        funext x
        show V.ref (if x.1 = k then (x.1, x.2.1, v) else x).2.1 = _
        split <;> rfl
      rw [this]
      exact r0
  | false =>
    rw [q] at hs
    rw [hs, if_neg Bool.false_ne_true, if_neg Bool.false_ne_true, if_neg Bool.false_ne_true]
    refine ⟨?_, ?_, ?_⟩
    · rw [List.map_append, List.map_append, h, List.map_cons, List.map_nil, hi]
      rfl
    · rw [List.map_append]
      exact r0.append ⟨_, [], rfl, pi, rfl⟩
    · rw [List.map_append]
      exact r.append ⟨_, [], rfl, p, rfl⟩
end
section
variable {G : GA} {X : Cx}
variable {W : WX} {o i e f : Expr} {m n k l : M} {pos pos' p apos cpos : Pos} {z : Nat}
end
end S
/-! all that is reached is at rest and locked from here on; dicts by tuples are walked -/
namespace S
open PySem L2 PyProof.Rows
mutual
def frzX : Nat → D → Sto → Option (D × Sto)
  | 0, _, _ => none
  | n + 1, d, st => match d with
    | .ptr i => (match st[i]? with
      | some (.lst xs) => (frzXL n xs (st.set i .dead)).map fun p => (.lst p.1, p.2)
      | some (.dct ks xs) => (frzXL n xs (st.set i .dead)).map fun p => (.dct ks p.1, p.2)
      | some (.dkd ks xs) => (frzXL n xs (st.set i .dead)).map fun p => (.dkd ks p.1, p.2)
      | some (.ins c ns xs) => (frzXL n xs (st.set i .dead)).map fun p => (.ins c ns p.1, p.2)
      | _ => none)
    | .lst xs => (frzXL n xs st).map fun p => (.lst p.1, p.2)
    | .tup xs => (frzXL n xs st).map fun p => (.tup p.1, p.2)
    | .dct ks xs => (frzXL n xs st).map fun p => (.dct ks p.1, p.2)
    | .dkd ks xs => (frzXL n xs st).map fun p => (.dkd ks p.1, p.2)
    | .ins c ns xs => (frzXL n xs st).map fun p => (.ins c ns p.1, p.2)
    | d => some (d, st)
def frzXL : Nat → List D → Sto → Option (List D × Sto)
  | 0, _, _ => none
  | n + 1, ds, st => match ds with
    | [] => some ([], st)
    | d :: r => match frzX n d st with
      | some (d', st1) => (frzXL n r st1).map fun p => (d' :: p.1, p.2)
      | none => none
end
section
variable {X : Cx} {G : GA} {W : WX} {e : Expr} {m : M} {pins : List (Addr × Obj)} {σ : L2.St} {s : Shared}
end
/-! ### for k in d -/
section
variable {X : Cx} {pins : List (Addr × Obj)} {σ : L2.St} {H : Hp} {s : Shared} {d : Addr} {o : Obj} {xs : List (NestedKey × Addr × V)}
end
section
variable {K : PySem.W.Frag} {G : GA} {W : WX} {X : Cx} {tg e : Expr} {m : M} {pos p : Pos}
end
/-! ### a dict comprehension whose dict may change on -/
section
variable {G : GA} {W : WX} {X : Cx} {tg iter kx vx : Expr} {ifs : List Expr} {pos : Pos} {t : Tg} {vs : List Nat} {mi : MA} {mt : MB} {mk mv : M} {scope : Scope} {own : List (Str × Nat)}
end
end S
/-! bits, places in tuples, d.pop(k, z) -/
namespace S
open PySem L2 PyProof.Rows
section
variable {K : PySem.W.Frag} {G : GA}
end
/-! ### t.index(x) -/
section
variable {K : PySem.W.Frag} {G : GA} {W : WX} {X : Cx} {e o : Expr} {m n : M} {ma : MA} {σ : L2.St} {H : Hp} {apos cpos p pos : Pos}
end
/-! ### d.pop(k, z) -/
section
variable {K : PySem.W.Frag} {G : GA} {W : WX} {X : Cx} {o e f : Expr} {m n l : M} {apos cpos : Pos}
end
end S
/-! dict(pairs) and comprehensions over dicts by tuples; {} that stays empty -/
namespace S
open PySem PySem.W L2 PyProof.Rows
section
variable {X : Cx} {pins : List (Addr × Obj)} {σ : L2.St} {H : Hp} {s : Shared}
end
section
variable {X : Cx} {G : GA} {Z : Gh}
/-! ### {} that stays empty -/
variable {W : WX} {pos : Pos}
end
end S
/-! [.. for k in d ..] over the keys of a dict by tuples that changes elsewhere -/
namespace S
open PySem L2 PyProof.Rows
section
variable {G : GA} {W : WX} {X : Cx} {tg elt : Expr} {ifs : List Expr} {pos : Pos} {t : Tg} {vs : List Nat} {mt : MB} {me : M} {scope : Scope} {own : List (Str × Nat)}
end
end S
/-! d.get(k, z), d a dict by tuples -/
namespace S
open PySem L2 PyProof.Rows
section
variable {G : GA} {W : WX} {X : Cx} {o e f : Expr} {m n l : M} {apos cpos : Pos} {z : Nat}
end
end S
/-! d[k], y = e (a pair), d a dict by tuples -/
namespace S
open PySem L2 PyProof.Rows
end S
/-! the engine in plain Lean: lots of outcomes, level by level -/
namespace S
structure Mch (κ σ ο ω β : Type) where
  begs : κ → List (σ × β)
  ends : κ → σ → List (ο × β)
  ways : κ → σ → List ω
  wkey : ω → κ
  beh : κ → σ → ω → ο → σ
  tb : κ → σ → ω → ο → β
inductive Pl (κ σ ο : Type) where
  | node (k : κ) (s : σ)
  | out (k : κ) (o : ο)
structure En (κ σ ο ω β : Type) where
  keys : List κ
  nodes : List ((κ × σ) × Nat × β)
  ws : List ((κ × σ) × ω)
  lot : κ → List (ο × Nat × β)
  lvls : List Nat
  lvl : Nat → List (Pl κ σ ο × β)
  cnt : Nat
section
variable {κ σ ο ω β : Type} [DecidableEq κ] [DecidableEq σ] [DecidableEq ο]
/-- the states to which calls come -/
inductive Rch (M : Mch κ σ ο ω β) : κ → σ → Prop
  | beg {k : κ} {p : σ × β} : p ∈ M.begs k → Rch M k p.1
  | go {k : κ} {s : σ} {w : ω} {s' : σ} {q : ο × β} : Rch M k s → w ∈ M.ways k s → Rch M (M.wkey w) s' → q ∈ M.ends (M.wkey w) s' → Rch M k (M.beh k s w q.1)
def OutK (M : Mch κ σ ο ω β) (k : κ) (o : ο) : Prop := ∃ s, Rch M k s ∧ ∃ q ∈ M.ends k s, q.1 = o
namespace En
variable (E : En κ σ ο ω β)
def put (c : Nat) (it : Pl κ σ ο × β) : En κ σ ο ω β :=
  { E with lvls := if c ∈ E.lvls then E.lvls else E.lvls ++ [c], lvl := fun x => if x = c then (if c ∈ E.lvls then E.lvl c else []) ++ [it] else E.lvl x, cnt := E.cnt + 1 }
def puts : List (Nat × Pl κ σ ο × β) → En κ σ ο ω β → En κ σ ο ω β
  | [], E => E
  | p :: L, E => puts L (E.put p.1 p.2)
def cN (nd : κ × σ) : Nat := match E.nodes.find? fun p => decide (p.1 = nd) with
  | some p => p.2.1
  | none => 0
def cO (k : κ) (o : ο) : Nat := match (E.lot k).find? fun p => decide (p.1 = o) with
  | some p => p.2.1
  | none => 0
def go (M : Mch κ σ ο ω β) (nd : κ × σ) (w : ω) (o : ο) : List (Nat × Pl κ σ ο × β) :=
  if (nd.1, M.beh nd.1 nd.2 w o) ∈ E.nodes.map (·.1) then [] else [(E.cN nd + E.cO (M.wkey w) o, .node nd.1 (M.beh nd.1 nd.2 w o), M.tb nd.1 nd.2 w o)]
def ads (M : Mch κ σ ο ω β) (c : Nat) (nd : κ × σ) (q : ο × β) : List (Nat × Pl κ σ ο × β) := if q.1 ∈ (E.lot nd.1).map (·.1) then [] else [(c + 1, .out nd.1 q.1, q.2)]
def addN (nd : κ × σ) (c : Nat) (b : β) : En κ σ ο ω β := { E with nodes := E.nodes ++ [(nd, c, b)] }
def addW (l : List ((κ × σ) × ω)) : En κ σ ο ω β := { E with ws := E.ws ++ l }
def addO (k : κ) (o : ο) (c : Nat) (b : β) : En κ σ ο ω β := { E with lot := fun x => if x = k then E.lot k ++ [(o, c, b)] else E.lot x }
def reach (M : Mch κ σ ο ω β) (c : Nat) (nd : κ × σ) (b : β) : En κ σ ο ω β :=
  if nd ∈ E.nodes.map (·.1) then E else
  ((E.addN nd c b).addW ((M.ways nd.1 nd.2).map fun w => (nd, w))).puts (((M.ends nd.1 nd.2).flatMap (E.ads M c nd)) ++ (M.ways nd.1 nd.2).flatMap fun w => (E.lot (M.wkey w)).flatMap fun o => (E.addN nd c b).go M nd w o.1)
def fix (M : Mch κ σ ο ω β) (c : Nat) (k : κ) (o : ο) (b : β) : En κ σ ο ω β :=
  if o ∈ (E.lot k).map (·.1) then E else
  (E.addO k o c b).puts ((E.ws.filter fun p => decide (M.wkey p.2 = k)).flatMap fun p => (E.addO k o c b).go M p.1 p.2 o)
def step (M : Mch κ σ ο ω β) (c : Nat) (it : Pl κ σ ο × β) : En κ σ ο ω β := match it.1 with
  | .node k s => E.reach M c (k, s) it.2
  | .out k o => E.fix M c k o it.2
def pop (c : Nat) : En κ σ ο ω β := { E with lvls := E.lvls.filter fun x => decide (x ≠ c) }
/-- what waits to be looked at -/
def Pnd (c i : Nat) (it : Pl κ σ ο × β) : Prop := ∃ x ∈ E.lvls, ∃ j, (E.lvl x)[j]? = some it ∧ (x = c → i ≤ j)
def Sat : Pl κ σ ο → Prop
  | .node k s => (k, s) ∈ E.nodes.map (·.1)
  | .out k o => o ∈ (E.lot k).map (·.1)
def Due (c i : Nat) (p : Pl κ σ ο) : Prop := E.Sat p ∨ ∃ b, E.Pnd c i (p, b)
def fx : Nat := E.nodes.length + (E.keys.map fun k => (E.lot k).length).sum
/-- the place at level c -/
def At (c i : Nat) : Prop := (c ∈ E.lvls → i ≤ (E.lvl c).length) ∧ (c ∉ E.lvls → i = 0)
variable {E}
theorem puts_keys : ∀ {L : List (Nat × Pl κ σ ο × β)} {E : En κ σ ο ω β}, (E.puts L).keys = E.keys ∧ (E.puts L).nodes = E.nodes ∧ (E.puts L).ws = E.ws ∧ (E.puts L).lot = E.lot ∧ (E.puts L).cnt = E.cnt + L.length
  | [], E => ⟨rfl, rfl, rfl, rfl, rfl⟩
  | p :: L, E => by
    obtain ⟨h1, h2, h3, h4, h5⟩ := puts_keys (L := L) (E := E.put p.1 p.2)
    refine ⟨h1, h2, h3, h4, ?_⟩
    show ((E.put p.1 p.2).puts L).cnt = _
    rw [h5]
    show E.cnt + 1 + L.length = _
    rw [List.length_cons]
    omega
/-- what a put keeps and lays -/
structure Lv (E E' : En κ σ ο ω β) (L : List (Nat × Pl κ σ ο × β)) : Prop where
  lv : ∀ x, x ∈ E'.lvls ↔ x ∈ E.lvls ∨ ∃ p ∈ L, p.1 = x
  nd : E.lvls.Nodup → E'.lvls.Nodup
  pre : ∀ x ∈ E.lvls, ∃ t, E'.lvl x = E.lvl x ++ t
  old : ∀ c i it, E.Pnd c i it → E'.Pnd c i it
  new : ∀ c i, E.At c i → ∀ p ∈ L, E'.Pnd c i p.2
  snd : ∀ c i it, E'.Pnd c i it → E.Pnd c i it ∨ ∃ p ∈ L, p.2 = it
  at_ : ∀ c i, E.At c i → E'.At c i
  len : (∀ x ∈ E.lvls, (E.lvl x).length ≤ E.cnt) → ∀ x ∈ E'.lvls, (E'.lvl x).length ≤ E'.cnt
  ll : E.lvls.length ≤ E.cnt → E'.lvls.length ≤ E'.cnt
theorem lv_nil : Lv E E [] := ⟨fun x => ⟨.inl, fun h => h.elim id fun ⟨p, hp, _⟩ => nomatch hp⟩, id, fun x _ => ⟨[], (List.append_nil _).symm⟩, fun _ _ _ h => h, fun c i h p hp => (by cases hp), fun c i it h => .inl h, fun _ _ h => h, fun h => h, id⟩
theorem put_lvl {c : Nat} {it : Pl κ σ ο × β} (x : Nat) : (E.put c it).lvl x = if x = c then (if c ∈ E.lvls then E.lvl c else []) ++ [it] else E.lvl x := rfl
theorem mem_put {c : Nat} {it : Pl κ σ ο × β} (x : Nat) : x ∈ (E.put c it).lvls ↔ x ∈ E.lvls ∨ x = c := by
  show x ∈ (if c ∈ E.lvls then E.lvls else E.lvls ++ [c]) ↔ _
  by_cases hc : c ∈ E.lvls
  · rw [if_pos hc]
    exact ⟨.inl, fun h => h.elim id fun e => e ▸ hc⟩
  · rw [if_neg hc, List.mem_append, List.mem_singleton]
theorem put_pre {c : Nat} {it : Pl κ σ ο × β} (x : Nat) (hx : x ∈ E.lvls) : ∃ t, (E.put c it).lvl x = E.lvl x ++ t := by
  rw [put_lvl]
  by_cases e : x = c
  · subst e
    rw [if_pos rfl, if_pos hx]
    exact ⟨_, rfl⟩
  · rw [if_neg e]
    exact ⟨[], (List.append_nil _).symm⟩
theorem pre_get {α : Type} {l l' t : List α} {j : Nat} {a : α} (e : l' = l ++ t) (h : l[j]? = some a) : l'[j]? = some a := by
  subst e
  have := (List.getElem?_eq_some_iff.mp h).1
  rw [List.getElem?_append_left this]
  exact h
theorem lv_put (c : Nat) (it : Pl κ σ ο × β) : Lv E (E.put c it) [(c, it)] := by
  refine ⟨fun x => ?_, fun h => ?_, fun x hx => put_pre x hx, fun c' i it' h => ?_, fun c' i h p hp => ?_, fun c' i it' h => ?_, fun c' i h => ?_, fun h x hx => ?_, fun h => ?_⟩
  · rw [mem_put]
    exact ⟨fun h => h.imp id fun e => ⟨_, List.mem_singleton.mpr rfl, e.symm⟩, fun h => h.imp id fun ⟨p, hp, e⟩ => by cases List.mem_singleton.mp hp; exact e.symm⟩
  · show (if c ∈ E.lvls then E.lvls else E.lvls ++ [c]).Nodup
    by_cases hc : c ∈ E.lvls
    · rw [if_pos hc]; exact h
    · rw [if_neg hc, List.nodup_append]
      exact ⟨h, List.nodup_cons.mpr ⟨nofun, .nil⟩, fun a ha b hb e => hc ((List.mem_singleton.mp hb) ▸ e ▸ ha)⟩
  · obtain ⟨x, hx, j, e, q⟩ := h
    obtain ⟨t, et⟩ := put_pre (E := E) (c := c) (it := it) x hx
    exact ⟨x, (mem_put x).mpr (.inl hx), j, pre_get et e, q⟩
  · cases List.mem_singleton.mp hp
    refine ⟨c, (mem_put c).mpr (.inr rfl), (if c ∈ E.lvls then E.lvl c else []).length, ?_, fun e => ?_⟩
    · rw [put_lvl, if_pos rfl, List.getElem?_append_right (Nat.le_refl _), Nat.sub_self]
      rfl
    · subst e
      by_cases hc : c ∈ E.lvls
      · rw [if_pos hc]; exact h.1 hc
      · rw [h.2 hc]; exact Nat.zero_le _
  · obtain ⟨x, hx, j, e, q⟩ := h
    rw [put_lvl] at e
    by_cases ex : x = c
    · subst ex
      rw [if_pos rfl] at e
      by_cases hj : j < (if x ∈ E.lvls then E.lvl x else []).length
      · rw [List.getElem?_append_left hj] at e
        by_cases hc : x ∈ E.lvls
        · rw [if_pos hc] at e
          exact .inl ⟨x, hc, j, e, q⟩
        · rw [if_neg hc] at hj
          exact absurd hj (Nat.not_lt_zero _)
      · rw [List.getElem?_append_right (Nat.le_of_not_lt hj)] at e
        have hm := List.mem_of_getElem? e
        exact .inr ⟨_, List.mem_singleton.mpr rfl, (List.mem_singleton.mp hm).symm⟩
    · rw [if_neg ex] at e
      have hx' := ((mem_put x).mp hx).resolve_right ex
      exact .inl ⟨x, hx', j, e, q⟩
  · refine ⟨fun hc => ?_, fun hc => ?_⟩
    · by_cases h2 : c' ∈ E.lvls
      · obtain ⟨t, et⟩ := put_pre (E := E) (c := c) (it := it) c' h2
        rw [et, List.length_append]
        exact Nat.le_trans (h.1 h2) (Nat.le_add_right _ _)
      · rw [h.2 h2]; exact Nat.zero_le _
    · exact h.2 fun h2 => hc ((mem_put c').mpr (.inl h2))
  · show ((E.put c it).lvl x).length ≤ E.cnt + 1
    rw [put_lvl]
    by_cases ex : x = c
    · subst ex
      rw [if_pos rfl, List.length_append]
      by_cases hc : x ∈ E.lvls
      · rw [if_pos hc]
        exact Nat.succ_le_succ (h x hc)
      · rw [if_neg hc]
        exact Nat.succ_le_succ (Nat.zero_le _)
    · rw [if_neg ex]
      exact Nat.le_succ_of_le (h x (((mem_put x).mp hx).resolve_right ex))
  · show (if c ∈ E.lvls then E.lvls else E.lvls ++ [c]).length ≤ E.cnt + 1
    by_cases hc : c ∈ E.lvls
    · rw [if_pos hc]; omega
    · rw [if_neg hc, List.length_append]; exact Nat.succ_le_succ h
theorem Lv.trans {E E' E'' : En κ σ ο ω β} {L L' : List (Nat × Pl κ σ ο × β)} (h1 : Lv E E' L) (h2 : Lv E' E'' L') : Lv E E'' (L ++ L') := by
  refine ⟨fun x => ?_, fun h => h2.nd (h1.nd h), fun x hx => ?_, fun c i it h => h2.old c i it (h1.old c i it h), fun c i h p hp => ?_, fun c i it h => ?_, fun c i h => h2.at_ c i (h1.at_ c i h), fun h => h2.len (h1.len h), fun h => h2.ll (h1.ll h)⟩
  · rw [h2.lv, h1.lv]
    constructor
    · rintro ((h | ⟨p, hp, e⟩) | ⟨p, hp, e⟩)
      · exact .inl h
      · exact .inr ⟨p, List.mem_append_left _ hp, e⟩
      · exact .inr ⟨p, List.mem_append_right _ hp, e⟩
    · rintro (h | ⟨p, hp, e⟩)
      · exact .inl (.inl h)
      · rcases List.mem_append.mp hp with hp | hp
        · exact .inl (.inr ⟨p, hp, e⟩)
        · exact .inr ⟨p, hp, e⟩
  · obtain ⟨t, e⟩ := h1.pre x hx
    obtain ⟨t', e'⟩ := h2.pre x ((h1.lv x).mpr (.inl hx))
    exact ⟨t ++ t', by rw [e', e, List.append_assoc]⟩
  · rcases List.mem_append.mp hp with hp | hp
    · exact h2.old c i _ (h1.new c i h p hp)
    · exact h2.new c i (h1.at_ c i h) p hp
  · rcases h2.snd c i it h with h | ⟨p, hp, e⟩
    · rcases h1.snd c i it h with h | ⟨p, hp, e⟩
      · exact .inl h
      · exact .inr ⟨p, List.mem_append_left _ hp, e⟩
    · exact .inr ⟨p, List.mem_append_right _ hp, e⟩
theorem lv_puts : ∀ (L : List (Nat × Pl κ σ ο × β)) {E : En κ σ ο ω β}, Lv E (E.puts L) L
  | [], E => lv_nil
  | p :: L, E => (lv_put p.1 p.2).trans (lv_puts L (E := E.put p.1 p.2))
end En
end
end S
/-! the engine in plain Lean: what stays true -/
namespace S
section
variable {κ σ ο ω β : Type} [DecidableEq κ] [DecidableEq σ] [DecidableEq ο]
theorem sum_le {α : Type} {f : α → Nat} {n : Nat} : ∀ {l : List α}, (∀ x ∈ l, f x ≤ n) → (l.map f).sum ≤ n * l.length
  | [], _ => Nat.zero_le _
  | a :: l, h => by
    rw [List.map_cons, List.sum_cons, List.length_cons, Nat.mul_succ]
    have := sum_le (l := l) fun x hx => h x (List.mem_cons_of_mem _ hx)
    have := h a (List.mem_cons_self ..)
    omega
theorem sum_ex {α : Type} [DecidableEq α] {f g : α → Nat} {a : α} {d : Nat} : ∀ {l : List α}, l.Nodup → a ∈ l → (∀ x, x ≠ a → g x = f x) → g a = f a + d → (l.map g).sum = (l.map f).sum + d
  | [], _, h, _, _ => nomatch h
  | b :: l, hn, h, h1, h2 => by
    rw [List.map_cons, List.sum_cons, List.map_cons, List.sum_cons]
    obtain ⟨n1, n2⟩ := List.nodup_cons.mp hn
    by_cases e : b = a
    · subst e
      rw [h2, List.map_congr_left (l := l) (f := g) (g := f) fun x hx => h1 x fun e => n1 (e ▸ hx)]
      omega
    · rw [h1 b e, sum_ex n2 ((List.mem_cons.mp h).resolve_left fun q => e q.symm) h1 h2]
      omega
theorem sum_add {α : Type} {f g : α → Nat} {P : α → Bool} (h : ∀ x, g x = f x + if P x = true then 1 else 0) : ∀ {l : List α}, (l.map g).sum = (l.map f).sum + (l.filter P).length
  | [] => rfl
  | a :: l => by
    rw [List.map_cons, List.sum_cons, List.map_cons, List.sum_cons, sum_add h (l := l), h a, List.filter_cons]
    cases P a
    · simp only [Bool.false_eq_true, if_false]; omega
    · simp only [if_true, List.length_cons]; omega
theorem len_flat {α γ : Type} {f : α → List γ} {l : List α} : (l.flatMap f).length = (l.map fun a => (f a).length).sum := List.length_flatMap
/-- unlike things out of some: no more than these -/
theorem nodup_le {α : Type} [DecidableEq α] : ∀ {l l' : List α}, l.Nodup → (∀ x ∈ l, x ∈ l') → l.length ≤ l'.length
  | [], _, _, _ => Nat.zero_le _
  | a :: l, l', hn, h => by
    obtain ⟨n1, n2⟩ := List.nodup_cons.mp hn
    have ha := h a (List.mem_cons_self ..)
    have := nodup_le (l := l) (l' := l'.erase a) n2 fun x hx => (List.mem_erase_of_ne fun e : x = a => n1 (by subst e; exact hx)).mpr (h x (List.mem_cons_of_mem _ hx))
    rw [List.length_erase_of_mem ha] at this
    have := List.length_pos_of_mem ha
    rw [List.length_cons]
    omega
/-- all that can come lies in lists -/
structure Fnt (M : Mch κ σ ο ω β) (ks : List κ) (US : κ → List σ) (UO : κ → List ο) (nW nS nO : Nat) : Prop where
  nd : ks.Nodup
  key : ∀ k ∈ ks, ∀ s ∈ US k, ∀ w ∈ M.ways k s, M.wkey w ∈ ks
  bg : ∀ k ∈ ks, ∀ p ∈ M.begs k, p.1 ∈ US k
  en : ∀ k ∈ ks, ∀ s ∈ US k, ∀ q ∈ M.ends k s, q.1 ∈ UO k
  bh : ∀ k ∈ ks, ∀ s ∈ US k, ∀ w ∈ M.ways k s, ∀ o ∈ UO (M.wkey w), M.beh k s w o ∈ US k
  lE : ∀ k s, (M.ends k s).length ≤ 2
  lW : ∀ k ∈ ks, ∀ s ∈ US k, (M.ways k s).length ≤ nW
  lS : ∀ k ∈ ks, (US k).length ≤ nS
  lO : ∀ k ∈ ks, (UO k).length ≤ nO
variable {M : Mch κ σ ο ω β} {ks : List κ} {US : κ → List σ} {UO : κ → List ο} {nW nS nO : Nat}
theorem Fnt.rch (F : Fnt M ks US UO nW nS nO) {k : κ} {s : σ} (h : Rch M k s) : k ∈ ks → s ∈ US k := by
  induction h with
  | beg hp => exact fun hk => F.bg _ hk _ hp
  | go h1 hw h2 hq ih1 ih2 =>
    intro hk
    have hs := ih1 hk
    have hk2 := F.key _ hk _ hs _ hw
    exact F.bh _ hk _ hs _ hw _ (F.en _ hk2 _ (ih2 hk2) _ hq)
theorem Fnt.out (F : Fnt M ks US UO nW nS nO) {k : κ} {o : ο} (h : OutK M k o) (hk : k ∈ ks) : o ∈ UO k := by
  obtain ⟨s, h1, q, hq, rfl⟩ := h
  exact F.en _ hk _ (F.rch h1 hk) _ hq
def Snd (M : Mch κ σ ο ω β) (ks : List κ) : Pl κ σ ο → Prop
  | .node k s => k ∈ ks ∧ Rch M k s
  | .out k o => k ∈ ks ∧ OutK M k o
def wsum (M : Mch κ σ ο ω β) (E : En κ σ ο ω β) : Nat := (E.ws.map fun p => (E.lot (M.wkey p.2)).length).sum
/-- what is true between two looks -/
structure Iv (M : Mch κ σ ο ω β) (b0 : Nat) (E : En κ σ ο ω β) (c i : Nat) : Prop where
  nd : E.lvls.Nodup
  ge : ∀ x ∈ E.lvls, c ≤ x
  at_ : E.At c i
  nn : (E.nodes.map (·.1)).Nodup
  on : ∀ k, ((E.lot k).map (·.1)).Nodup
  s1 : ∀ p ∈ E.nodes, p.1.1 ∈ E.keys ∧ Rch M p.1.1 p.1.2
  s2 : ∀ k, ∀ p ∈ E.lot k, k ∈ E.keys ∧ OutK M k p.1
  s3 : ∀ it, E.Pnd c i it → Snd M E.keys it.1
  wss : E.ws = E.nodes.flatMap fun p => (M.ways p.1.1 p.1.2).map fun w => (p.1, w)
  c1 : ∀ k ∈ E.keys, ∀ p ∈ M.begs k, E.Due c i (.node k p.1)
  c2 : ∀ p ∈ E.nodes, ∀ q ∈ M.ends p.1.1 p.1.2, E.Due c i (.out p.1.1 q.1)
  c4 : ∀ p ∈ E.nodes, ∀ w ∈ M.ways p.1.1 p.1.2, ∀ o ∈ E.lot (M.wkey w), E.Due c i (.node p.1.1 (M.beh p.1.1 p.1.2 w o.1))
  cn : E.cnt ≤ b0 + 2 * E.nodes.length + wsum M E
  len : ∀ x ∈ E.lvls, (E.lvl x).length ≤ E.cnt
  ll : E.lvls.length ≤ E.cnt
  x1 : ∀ x ∈ E.lvls, x ≤ 2 ^ E.fx
  x2 : ∀ p ∈ E.nodes, p.2.1 ≤ 2 ^ E.fx
  x3 : ∀ k, ∀ p ∈ E.lot k, p.2.1 ≤ 2 ^ E.fx
namespace En
variable {E E' : En κ σ ο ω β} {c i : Nat}
theorem cN_le {n : Nat} (h : ∀ p ∈ E.nodes, p.2.1 ≤ n) (nd : κ × σ) : E.cN nd ≤ n := by
  unfold cN
  split
  · exact h _ (List.mem_of_find?_eq_some (by assumption))
  · exact Nat.zero_le _
theorem cO_le {n : Nat} {k : κ} (h : ∀ p ∈ E.lot k, p.2.1 ≤ n) (o : ο) : E.cO k o ≤ n := by
  unfold cO
  split
  · exact h _ (List.mem_of_find?_eq_some (by assumption))
  · exact Nat.zero_le _
/-- looked at: the item at i is behind -/
theorem pnd_next {it : Pl κ σ ο × β} {it0 : Pl κ σ ο × β} (h : E.Pnd c i it) (h0 : (E.lvl c)[i]? = some it0) : it = it0 ∨ E.Pnd c (i + 1) it := by
  obtain ⟨x, hx, j, e, q⟩ := h
  by_cases hj : x = c ∧ j = i
  · obtain ⟨rfl, rfl⟩ := hj
    rw [h0] at e
    exact .inl (Option.some.inj e).symm
  · refine .inr ⟨x, hx, j, e, fun ex => ?_⟩
    have := q ex
    have : j ≠ i := fun ej => hj ⟨ex, ej⟩
    omega
theorem pnd_back {it : Pl κ σ ο × β} (h : E.Pnd c (i + 1) it) : E.Pnd c i it := by
  obtain ⟨x, hx, j, e, q⟩ := h
  exact ⟨x, hx, j, e, fun ex => Nat.le_of_succ_le (q ex)⟩
end En
open En
theorem due_next {E : En κ σ ο ω β} {it0 : Pl κ σ ο × β} {c i : Nat} {p : Pl κ σ ο} (h : E.Due c i p) (h0 : (E.lvl c)[i]? = some it0) (hs : E.Sat it0.1) : E.Due c (i + 1) p := by
  rcases h with h | ⟨b, h⟩
  · exact .inl h
  · rcases pnd_next h h0 with e | h
    · exact .inl (by subst e; exact hs)
    · exact .inr ⟨b, h⟩
theorem At.next {E : En κ σ ο ω β} {c i : Nat} (hc : c ∈ E.lvls) (hi : i < (E.lvl c).length) : E.At c (i + 1) := ⟨fun _ => hi, fun h => absurd hc h⟩
theorem pw {f : Nat} : 2 ^ f ≤ 2 ^ (f + 1) ∧ 2 ^ f + 2 ^ f ≤ 2 ^ (f + 1) ∧ 1 ≤ 2 ^ f := by
  have : 2 ^ (f + 1) = 2 ^ f + 2 ^ f := by rw [Nat.pow_succ]; omega
  have := Nat.one_le_two_pow (n := f)
  omega
/-- the item was there -/
theorem Iv.skip {b0 : Nat} {E : En κ σ ο ω β} {c i : Nat} {it : Pl κ σ ο × β} (I : Iv M b0 E c i) (hc : c ∈ E.lvls) (h0 : (E.lvl c)[i]? = some it) (hs : E.Sat it.1) : Iv M b0 E c (i + 1) :=
  { I with
    at_ := At.next hc (List.getElem?_eq_some_iff.mp h0).1
    s3 := fun it' h => I.s3 it' (pnd_back h)
    c1 := fun k hk p hp => due_next (I.c1 k hk p hp) h0 hs
    c2 := fun p hp q hq => due_next (I.c2 p hp q hq) h0 hs
    c4 := fun p hp w hw o ho => due_next (I.c4 p hp w hw o ho) h0 hs }
theorem mem_ads {E : En κ σ ο ω β} {c : Nat} {nd : κ × σ} {q : ο × β} {x : Nat × Pl κ σ ο × β} (h : x ∈ E.ads M c nd q) : x = (c + 1, .out nd.1 q.1, q.2) := by
  unfold En.ads at h
  split at h
  · cases h
  · exact List.mem_singleton.mp h
theorem mem_go {E : En κ σ ο ω β} {nd : κ × σ} {w : ω} {o : ο} {x : Nat × Pl κ σ ο × β} (h : x ∈ E.go M nd w o) : x = (E.cN nd + E.cO (M.wkey w) o, .node nd.1 (M.beh nd.1 nd.2 w o), M.tb nd.1 nd.2 w o) := by
  unfold En.go at h
  split at h
  · cases h
  · exact List.mem_singleton.mp h
theorem len_ads {E : En κ σ ο ω β} {c : Nat} {nd : κ × σ} {q : ο × β} : (E.ads M c nd q).length ≤ 1 := by
  unfold En.ads
  split
  · exact Nat.zero_le _
  · exact Nat.le_refl _
theorem len_go {E : En κ σ ο ω β} {nd : κ × σ} {w : ω} {o : ο} : (E.go M nd w o).length ≤ 1 := by
  unfold En.go
  split
  · exact Nat.zero_le _
  · exact Nat.le_refl _
theorem Iv.reach {b0 : Nat} {E : En κ σ ο ω β} {c i : Nat} {k : κ} {s : σ} {b : β} (F : Fnt M E.keys US UO nW nS nO) (I : Iv M b0 E c i) (hc : c ∈ E.lvls) (h0 : (E.lvl c)[i]? = some (.node k s, b)) : Iv M b0 (E.reach M c (k, s) b) c (i + 1) := by
  unfold En.reach
  by_cases hm : (k, s) ∈ E.nodes.map (·.1)
  · rw [if_pos hm]
    exact I.skip hc h0 hm
  rw [if_neg hm]
  have hi := (List.getElem?_eq_some_iff.mp h0).1
  obtain ⟨hk, hr⟩ : k ∈ E.keys ∧ Rch M k s := I.s3 (.node k s, b) ⟨c, hc, i, h0, fun _ => Nat.le_refl _⟩
  generalize eL : (((M.ends k s).flatMap (E.ads M c (k, s))) ++ (M.ways k s).flatMap fun w => (E.lot (M.wkey w)).flatMap fun o => (E.addN (k, s) c b).go M (k, s) w o.1) = L
  generalize eE : ((E.addN (k, s) c b).addW ((M.ways k s).map fun w => ((k, s), w))) = E0
  have e0 : E0.keys = E.keys ∧ E0.nodes = E.nodes ++ [((k, s), c, b)] ∧ E0.ws = E.ws ++ (M.ways k s).map (fun w => ((k, s), w)) ∧ E0.lot = E.lot ∧ E0.cnt = E.cnt ∧ E0.lvls = E.lvls ∧ E0.lvl = E.lvl := by subst eE; exact ⟨rfl, rfl, rfl, rfl, rfl, rfl, rfl⟩
  obtain ⟨k1, k2, k3, k4, k5, k6, k7⟩ := e0
  show Iv M b0 (E0.puts L) c (i + 1)
  obtain ⟨p1, p2, p3, p4, p5⟩ := puts_keys (L := L) (E := E0)
  have V := lv_puts L (E := E0)
  generalize E0.puts L = E' at p1 p2 p3 p4 p5 V ⊢
  rw [k1] at p1; rw [k2] at p2; rw [k3] at p3; rw [k4] at p4; rw [k5] at p5
  have at0 : E0.At c (i + 1) := by unfold En.At; rw [k6, k7]; exact At.next hc hi
  have pn0 : ∀ c i it, E0.Pnd c i it ↔ E.Pnd c i it := fun c i it => by unfold En.Pnd; rw [k6, k7]
  have st : ∀ p, E.Sat p → E'.Sat p := fun p h => by
    cases p with
    | node k' s' => show _ ∈ E'.nodes.map _; rw [p2, List.map_append]; exact List.mem_append_left _ h
    | out k' o' => show _ ∈ (E'.lot k').map _; rw [p4]; exact h
  have hN : E'.Sat (.node k s) := by show _ ∈ E'.nodes.map _; rw [p2, List.map_append]; exact List.mem_append_right _ (List.mem_singleton.mpr rfl)
  have dn : ∀ p, E.Due c i p → E'.Due c (i + 1) p := fun p h => by
    rcases h with h | ⟨b', h⟩
    · exact .inl (st p h)
    · rcases pnd_next h h0 with e | h
      · cases e; exact .inl hN
      · exact .inr ⟨b', V.old _ _ _ ((pn0 _ _ _).mpr h)⟩
  have dL : ∀ p ∈ L, E'.Due c (i + 1) p.2.1 := fun p hp => .inr ⟨p.2.2, V.new c (i + 1) at0 p hp⟩
  have fxe : E'.fx = E.fx + 1 := by
    show E'.nodes.length + (E'.keys.map fun k => (E'.lot k).length).sum = _
    rw [p2, p1, p4, List.length_append]
    show _ = E.nodes.length + (E.keys.map fun k => (E.lot k).length).sum + 1
    simp only [List.length_cons, List.length_nil]
    omega
  obtain ⟨q1, q2, q3⟩ := pw (f := E.fx)
  have cle := I.x1 c hc
  have Lk : ∀ p ∈ L, c ≤ p.1 ∧ p.1 ≤ 2 ^ (E.fx + 1) ∧ Snd M E.keys p.2.1 := fun p hp => by
    subst eL
    rcases List.mem_append.mp hp with hp | hp
    · obtain ⟨q, hq, hp⟩ := List.mem_flatMap.mp hp
      cases mem_ads hp
      exact ⟨Nat.le_succ _, by show c + 1 ≤ _; omega, hk, s, hr, q, hq, rfl⟩
    · obtain ⟨w, hw, hp⟩ := List.mem_flatMap.mp hp
      obtain ⟨o, ho, hp⟩ := List.mem_flatMap.mp hp
      cases mem_go hp
      have h1 : (E.addN (k, s) c b).cN (k, s) = c := by
        show (match (E.nodes ++ [((k, s), c, b)]).find? fun p => decide (p.1 = (k, s)) with | some p => p.2.1 | none => 0) = c
        rw [List.find?_append, List.find?_eq_none.mpr fun x hx => by
          intro e
          exact hm (List.mem_map.mpr ⟨x, hx, of_decide_eq_true e⟩)]
        simp
      have h2 : (E.addN (k, s) c b).cO (M.wkey w) o.1 ≤ 2 ^ E.fx := cO_le (I.x3 _) _
      obtain ⟨hk2, s', r', q, hq, eq⟩ := I.s2 _ o ho
      refine ⟨by rw [h1]; exact Nat.le_add_right _ _, by rw [h1]; omega, hk, ?_⟩
      rw [← eq]
      exact .go hr hw r' hq
  refine ⟨?_, ?_, ?_, ?_, ?_, ?_, ?_, ?_, ?_, ?_, ?_, ?_, ?_, ?_, ?_, ?_, ?_, ?_⟩
  · exact V.nd (by rw [k6]; exact I.nd)
  · intro x hx
    rcases (V.lv x).mp hx with h | ⟨p, hp, rfl⟩
    · exact I.ge x (by rw [k6] at h; exact h)
    · exact (Lk p hp).1
  · exact V.at_ _ _ at0
  · rw [p2, List.map_append, List.nodup_append]
    refine ⟨I.nn, List.nodup_cons.mpr ⟨nofun, .nil⟩, fun a ha b hb e => ?_⟩
    cases List.mem_singleton.mp hb
    subst e
    exact hm ha
  · rw [p4]; exact I.on
  · rw [p2, p1]
    intro p hp
    rcases List.mem_append.mp hp with hp | hp
    · exact I.s1 p hp
    · cases List.mem_singleton.mp hp; exact ⟨hk, hr⟩
  · rw [p4, p1]; exact I.s2
  · rw [p1]
    intro it h
    rcases V.snd _ _ _ h with h | ⟨p, hp, rfl⟩
    · exact I.s3 it (pnd_back ((pn0 _ _ _).mp h))
    · exact (Lk p hp).2.2
  · rw [p3, p2, I.wss, List.flatMap_append]
    simp
  · rw [p1]
    exact fun k hk p hp => dn _ (I.c1 k hk p hp)
  · rw [p2]
    intro p hp q hq
    rcases List.mem_append.mp hp with hp | hp
    · exact dn _ (I.c2 p hp q hq)
    · cases List.mem_singleton.mp hp
      by_cases ho : q.1 ∈ (E.lot k).map (·.1)
      · exact .inl (by show _ ∈ (E'.lot k).map _; rw [p4]; exact ho)
      · refine dL (c + 1, .out k q.1, q.2) ?_
        subst eL
        refine List.mem_append_left _ (List.mem_flatMap.mpr ⟨q, hq, ?_⟩)
        unfold En.ads
        rw [if_neg ho]
        exact List.mem_singleton.mpr rfl
  · rw [p2, p4]
    intro p hp w hw o ho
    rcases List.mem_append.mp hp with hp | hp
    · exact dn _ (I.c4 p hp w hw o ho)
    · cases List.mem_singleton.mp hp
      by_cases hz : (k, M.beh k s w o.1) ∈ (E.addN (k, s) c b).nodes.map (·.1)
      · exact .inl (by show _ ∈ E'.nodes.map _; rw [p2]; exact hz)
      · refine dL ((E.addN (k, s) c b).cN (k, s) + (E.addN (k, s) c b).cO (M.wkey w) o.1, .node k (M.beh k s w o.1), M.tb k s w o.1) ?_
        subst eL
        refine List.mem_append_right _ (List.mem_flatMap.mpr ⟨w, hw, List.mem_flatMap.mpr ⟨o, ho, ?_⟩⟩)
        unfold En.go
        rw [if_neg hz]
        exact List.mem_singleton.mpr rfl
  · have hL : L.length ≤ 2 + ((M.ways k s).map fun w => (E.lot (M.wkey w)).length).sum := by
      subst eL
      rw [List.length_append, len_flat, len_flat]
      have h1 := sum_le (l := M.ends k s) (f := fun a => (E.ads M c (k, s) a).length) (n := 1) fun x _ => len_ads
      have h2 := F.lE k s
      have h3 : ((M.ways k s).map fun a => ((E.lot (M.wkey a)).flatMap fun o => (E.addN (k, s) c b).go M (k, s) a o.1).length).sum ≤ ((M.ways k s).map fun w => (E.lot (M.wkey w)).length).sum := by
        generalize M.ways k s = l
        induction l with
        | nil => exact Nat.le_refl _
        | cons w l ih =>
          rw [List.map_cons, List.sum_cons, List.map_cons, List.sum_cons]
          refine Nat.add_le_add ?_ ih
          rw [len_flat]
          have := sum_le (l := E.lot (M.wkey w)) (f := fun o => ((E.addN (k, s) c b).go M (k, s) w o.1).length) (n := 1) fun x _ => len_go
          omega
      omega
    have hw : wsum M E' = wsum M E + ((M.ways k s).map fun w => (E.lot (M.wkey w)).length).sum := by
      unfold wsum
      rw [p3, p4, List.map_append, List.sum_append, List.map_map]
      rfl
    rw [p5, p2, hw, List.length_append]
    have := I.cn
    simp only [List.length_cons, List.length_nil]
    omega
  · exact V.len (by rw [k6, k7, k5]; exact I.len)
  · exact V.ll (by rw [k6, k5]; exact I.ll)
  · rw [fxe]
    intro x hx
    rcases (V.lv x).mp hx with h | ⟨p, hp, rfl⟩
    · exact Nat.le_trans (I.x1 x (by rw [k6] at h; exact h)) q1
    · exact (Lk p hp).2.1
  · rw [fxe, p2]
    intro p hp
    rcases List.mem_append.mp hp with hp | hp
    · exact Nat.le_trans (I.x2 p hp) q1
    · cases List.mem_singleton.mp hp; exact Nat.le_trans cle q1
  · rw [fxe, p4]
    exact fun k p hp => Nat.le_trans (I.x3 k p hp) q1
end
end S
/-! the engine in plain Lean: taking outcomes in, the end -/
namespace S
open En
section
variable {κ σ ο ω β : Type} [DecidableEq κ] [DecidableEq σ] [DecidableEq ο]
variable {M : Mch κ σ ο ω β} {US : κ → List σ} {UO : κ → List ο} {nW nS nO : Nat}
theorem Iv.fix {b0 : Nat} {E : En κ σ ο ω β} {c i : Nat} {k : κ} {o : ο} {b : β} (F : Fnt M E.keys US UO nW nS nO) (I : Iv M b0 E c i) (hc : c ∈ E.lvls) (h0 : (E.lvl c)[i]? = some (.out k o, b)) : Iv M b0 (E.fix M c k o b) c (i + 1) := by
  unfold En.fix
  by_cases hm : o ∈ (E.lot k).map (·.1)
  · rw [if_pos hm]
    exact I.skip hc h0 hm
  rw [if_neg hm]
  have hi := (List.getElem?_eq_some_iff.mp h0).1
  obtain ⟨hk, hr⟩ : k ∈ E.keys ∧ OutK M k o := I.s3 (.out k o, b) ⟨c, hc, i, h0, fun _ => Nat.le_refl _⟩
  generalize eL : ((E.ws.filter fun p => decide (M.wkey p.2 = k)).flatMap fun p => (E.addO k o c b).go M p.1 p.2 o) = L
  generalize eE : E.addO k o c b = E0 at eL
  have e0 : E0.keys = E.keys ∧ E0.nodes = E.nodes ∧ E0.ws = E.ws ∧ E0.lot = (fun x => if x = k then E.lot k ++ [(o, c, b)] else E.lot x) ∧ E0.cnt = E.cnt ∧ E0.lvls = E.lvls ∧ E0.lvl = E.lvl := by subst eE; exact ⟨rfl, rfl, rfl, rfl, rfl, rfl, rfl⟩
  obtain ⟨k1, k2, k3, k4, k5, k6, k7⟩ := e0
  have lk : E0.lot k = E.lot k ++ [(o, c, b)] := by rw [k4]; exact if_pos rfl
  have ln : ∀ x, x ≠ k → E0.lot x = E.lot x := fun x hx => by rw [k4]; exact if_neg hx
  have lm : ∀ x, ∀ p ∈ E.lot x, p ∈ E0.lot x := fun x p hp => by
    by_cases e : x = k
    · subst e; rw [lk]; exact List.mem_append_left _ hp
    · rw [ln x e]; exact hp
  have l2 : ∀ x, ∀ p ∈ E0.lot x, p ∈ E.lot x ∨ (x = k ∧ p = (o, c, b)) := fun x p hp => by
    by_cases e : x = k
    · subst e
      rw [lk] at hp
      exact (List.mem_append.mp hp).imp id fun h => ⟨rfl, List.mem_singleton.mp h⟩
    · rw [ln x e] at hp; exact .inl hp
  clear k4
  obtain ⟨p1, p2, p3, p4, p5⟩ := puts_keys (L := L) (E := E0)
  have V := lv_puts L (E := E0)
  generalize E0.puts L = E' at p1 p2 p3 p4 p5 V ⊢
  rw [k1] at p1; rw [k2] at p2; rw [k3] at p3; rw [k5] at p5
  have at0 : E0.At c (i + 1) := by unfold En.At; rw [k6, k7]; exact At.next hc hi
  have pn0 : ∀ c i it, E0.Pnd c i it ↔ E.Pnd c i it := fun c i it => by unfold En.Pnd; rw [k6, k7]
  have st : ∀ p, E.Sat p → E'.Sat p := fun p h => by
    cases p with
    | node k' s' => show _ ∈ E'.nodes.map _; rw [p2]; exact h
    | out k' o' =>
      show _ ∈ (E'.lot k').map _
      obtain ⟨q, hq, e⟩ := List.mem_map.mp (show o' ∈ (E.lot k').map (·.1) from h)
      rw [p4]
      exact List.mem_map.mpr ⟨q, lm _ q hq, e⟩
  have hN : E'.Sat (.out k o) := by show _ ∈ (E'.lot k).map _; rw [p4, lk, List.map_append]; exact List.mem_append_right _ (List.mem_singleton.mpr rfl)
  have dn : ∀ p, E.Due c i p → E'.Due c (i + 1) p := fun p h => by
    rcases h with h | ⟨b', h⟩
    · exact .inl (st p h)
    · rcases pnd_next h h0 with e | h
      · cases e; exact .inl hN
      · exact .inr ⟨b', V.old _ _ _ ((pn0 _ _ _).mpr h)⟩
  have dL : ∀ p ∈ L, E'.Due c (i + 1) p.2.1 := fun p hp => .inr ⟨p.2.2, V.new c (i + 1) at0 p hp⟩
  have fxe : E'.fx = E.fx + 1 := by
    show E'.nodes.length + (E'.keys.map fun k => (E'.lot k).length).sum = E.nodes.length + (E.keys.map fun k => (E.lot k).length).sum + 1
    rw [p2, p1, p4, sum_ex (f := fun k => (E.lot k).length) (d := 1) F.nd hk (fun x hx => by rw [ln x hx]) (by rw [lk, List.length_append]; rfl)]
    omega
  obtain ⟨q1, q2, q3⟩ := pw (f := E.fx)
  have cle := I.x1 c hc
  have Lk : ∀ p ∈ L, c ≤ p.1 ∧ p.1 ≤ 2 ^ (E.fx + 1) ∧ Snd M E.keys p.2.1 := fun p hp => by
    subst eL
    obtain ⟨x, hx, hp⟩ := List.mem_flatMap.mp hp
    obtain ⟨hx, hw⟩ := List.mem_filter.mp hx
    have hw := of_decide_eq_true hw
    cases mem_go hp
    rw [I.wss] at hx
    obtain ⟨y, hy, hx⟩ := List.mem_flatMap.mp hx
    obtain ⟨w, hww, rfl⟩ := List.mem_map.mp hx
    obtain ⟨y1, y2⟩ := I.s1 y hy
    have h1 : E0.cN y.1 ≤ 2 ^ E.fx := cN_le (by rw [k2]; exact I.x2) _
    have h2 : E0.cO (M.wkey w) o = c := by
      rw [hw]
      unfold En.cO
      rw [lk, List.find?_append, List.find?_eq_none.mpr fun x hx => by
        intro e
        exact hm (List.mem_map.mpr ⟨x, hx, of_decide_eq_true e⟩)]
      simp
    obtain ⟨s', r', q, hq, eq⟩ := hr
    refine ⟨by show c ≤ E0.cN y.1 + E0.cO (M.wkey w) o; rw [h2]; exact Nat.le_add_left _ _, by show E0.cN y.1 + E0.cO (M.wkey w) o ≤ _; rw [h2]; omega, y1, ?_⟩
    subst eq
    subst hw
    exact .go y2 hww r' hq
  refine ⟨?_, ?_, ?_, ?_, ?_, ?_, ?_, ?_, ?_, ?_, ?_, ?_, ?_, ?_, ?_, ?_, ?_, ?_⟩
  · exact V.nd (by rw [k6]; exact I.nd)
  · intro x hx
    rcases (V.lv x).mp hx with h | ⟨p, hp, rfl⟩
    · exact I.ge x (by rw [k6] at h; exact h)
    · exact (Lk p hp).1
  · exact V.at_ _ _ at0
  · rw [p2]; exact I.nn
  · rw [p4]
    intro x
    by_cases e : x = k
    · subst e
      rw [lk, List.map_append, List.nodup_append]
      refine ⟨I.on x, List.nodup_cons.mpr ⟨nofun, .nil⟩, fun a ha b hb e => ?_⟩
      cases List.mem_singleton.mp hb
      subst e
      exact hm ha
    · rw [ln x e]; exact I.on x
  · rw [p2, p1]; exact I.s1
  · rw [p4, p1]
    intro x p hp
    rcases l2 x p hp with hp | ⟨rfl, rfl⟩
    · exact I.s2 x p hp
    · exact ⟨hk, hr⟩
  · rw [p1]
    intro it h
    rcases V.snd _ _ _ h with h | ⟨p, hp, rfl⟩
    · exact I.s3 it (pnd_back ((pn0 _ _ _).mp h))
    · exact (Lk p hp).2.2
  · rw [p3, p2, I.wss]
  · rw [p1]
    exact fun k hk p hp => dn _ (I.c1 k hk p hp)
  · rw [p2]
    exact fun p hp q hq => dn _ (I.c2 p hp q hq)
  · rw [p2, p4]
    intro p hp w hw x hx
    rcases l2 _ x hx with hx | ⟨e, rfl⟩
    · exact dn _ (I.c4 p hp w hw x hx)
    · by_cases hz : (p.1.1, M.beh p.1.1 p.1.2 w o) ∈ E0.nodes.map (·.1)
      · exact .inl (by show _ ∈ E'.nodes.map _; rw [p2]; rw [k2] at hz; exact hz)
      · refine dL (E0.cN p.1 + E0.cO (M.wkey w) o, .node p.1.1 (M.beh p.1.1 p.1.2 w o), M.tb p.1.1 p.1.2 w o) ?_
        subst eL
        refine List.mem_flatMap.mpr ⟨(p.1, w), List.mem_filter.mpr ⟨?_, decide_eq_true e⟩, ?_⟩
        · rw [I.wss]
          exact List.mem_flatMap.mpr ⟨p, hp, List.mem_map.mpr ⟨w, hw, rfl⟩⟩
        · unfold En.go
          rw [if_neg hz]
          exact List.mem_singleton.mpr rfl
  · have hL : L.length ≤ (E.ws.filter fun p => decide (M.wkey p.2 = k)).length := by
      subst eL
      rw [len_flat]
      have := sum_le (l := E.ws.filter fun p => decide (M.wkey p.2 = k)) (f := fun p => (E0.go M p.1 p.2 o).length) (n := 1) fun x _ => len_go
      omega
    have hw : wsum M E' = wsum M E + (E.ws.filter fun p => decide (M.wkey p.2 = k)).length := by
      unfold wsum
      rw [p3, p4]
      refine sum_add fun x => ?_
      by_cases e : M.wkey x.2 = k
      · rw [e, lk, List.length_append]; simp
      · rw [ln _ e]; simp [e]
    rw [p5, p2, hw]
    have := I.cn
    omega
  · exact V.len (by rw [k6, k7, k5]; exact I.len)
  · exact V.ll (by rw [k6, k5]; exact I.ll)
  · rw [fxe]
    intro x hx
    rcases (V.lv x).mp hx with h | ⟨p, hp, rfl⟩
    · exact Nat.le_trans (I.x1 x (by rw [k6] at h; exact h)) q1
    · exact (Lk p hp).2.1
  · rw [fxe, p2]
    exact fun p hp => Nat.le_trans (I.x2 p hp) q1
  · rw [fxe, p4]
    intro x p hp
    rcases l2 x p hp with hp | ⟨rfl, rfl⟩
    · exact Nat.le_trans (I.x3 x p hp) q1
    · exact Nat.le_trans cle q1
theorem Iv.step {b0 : Nat} {E : En κ σ ο ω β} {c i : Nat} {it : Pl κ σ ο × β} (F : Fnt M E.keys US UO nW nS nO) (I : Iv M b0 E c i) (hc : c ∈ E.lvls) (h0 : (E.lvl c)[i]? = some it) : Iv M b0 (E.step M c it) c (i + 1) := by
  obtain ⟨p, b⟩ := it
  cases p with
  | node k s => exact I.reach F hc h0
  | out k o => exact I.fix F hc h0
/-- all of this level is behind -/
theorem Iv.next {b0 : Nat} {E : En κ σ ο ω β} {c i : Nat} (I : Iv M b0 E c i) (h : c ∈ E.lvls → (E.lvl c).length ≤ i) : Iv M b0 (E.pop c) (c + 1) 0 := by
  have mem : ∀ x, x ∈ (E.pop c).lvls ↔ x ∈ E.lvls ∧ x ≠ c := fun x => by
    show x ∈ E.lvls.filter _ ↔ _
    rw [List.mem_filter]
    exact ⟨fun h => ⟨h.1, of_decide_eq_true h.2⟩, fun h => ⟨h.1, decide_eq_true h.2⟩⟩
  have pn : ∀ it, E.Pnd c i it → (E.pop c).Pnd (c + 1) 0 it := fun it ⟨x, hx, j, e, q⟩ => by
    refine ⟨x, (mem x).mpr ⟨hx, fun ex => ?_⟩, j, e, fun _ => Nat.zero_le _⟩
    subst ex
    have := h hx
    have := q rfl
    have := (List.getElem?_eq_some_iff.mp e).1
    omega
  have dn : ∀ p, E.Due c i p → (E.pop c).Due (c + 1) 0 p := fun p hp => hp.imp (fun h => by cases p <;> exact h) fun ⟨b, hb⟩ => ⟨b, pn _ hb⟩
  exact {
    nd := I.nd.filter _
    ge := fun x hx => by
      obtain ⟨h1, h2⟩ := (mem x).mp hx
      have := I.ge x h1
      omega
    at_ := ⟨fun _ => Nat.zero_le _, fun _ => rfl⟩
    nn := I.nn
    on := I.on
    s1 := I.s1
    s2 := I.s2
    s3 := fun it ⟨x, hx, j, e, q⟩ => by
      obtain ⟨h1, h2⟩ := (mem x).mp hx
      exact I.s3 it ⟨x, h1, j, e, fun ex => absurd ex h2⟩
    wss := I.wss
    c1 := fun k hk p hp => dn _ (I.c1 k hk p hp)
    c2 := fun p hp q hq => dn _ (I.c2 p hp q hq)
    c4 := fun p hp w hw o ho => dn _ (I.c4 p hp w hw o ho)
    cn := I.cn
    len := fun x hx => I.len x ((mem x).mp hx).1
    ll := Nat.le_trans (List.length_filter_le _ _) I.ll
    x1 := fun x hx => I.x1 x ((mem x).mp hx).1
    x2 := I.x2
    x3 := I.x3 }
/-- no more looks than these -/
theorem Iv.small {b0 : Nat} {E : En κ σ ο ω β} {c i : Nat} (F : Fnt M E.keys US UO nW nS nO) (I : Iv M b0 E c i) : E.nodes.length ≤ nS * E.keys.length ∧ E.cnt ≤ b0 + (2 + nO * nW) * (nS * E.keys.length) ∧ E.fx ≤ nS * E.keys.length + nO * E.keys.length := by
  have h1 : E.nodes.length ≤ nS * E.keys.length := by
    have := nodup_le (l := E.nodes.map (·.1)) (l' := E.keys.flatMap fun k => (US k).map fun s => (k, s)) I.nn fun x hx => by
      obtain ⟨p, hp, rfl⟩ := List.mem_map.mp hx
      obtain ⟨p1, p2⟩ := I.s1 p hp
      exact List.mem_flatMap.mpr ⟨p.1.1, p1, List.mem_map.mpr ⟨p.1.2, F.rch p2 p1, rfl⟩⟩
    rw [List.length_map, len_flat] at this
    refine Nat.le_trans this (sum_le fun k hk => ?_)
    rw [List.length_map]
    exact F.lS k hk
  have lo : ∀ k, (E.lot k).length ≤ nO := fun k => by
    by_cases hk : k ∈ E.keys
    · have := nodup_le (l := (E.lot k).map (·.1)) (l' := UO k) (I.on k) fun x hx => by
        obtain ⟨p, hp, rfl⟩ := List.mem_map.mp hx
        obtain ⟨p1, p2⟩ := I.s2 k p hp
        exact F.out p2 p1
      rw [List.length_map] at this
      exact Nat.le_trans this (F.lO k hk)
    · cases e : E.lot k with
      | nil => exact Nat.zero_le _
      | cons p l => exact absurd (I.s2 k p (by rw [e]; exact List.mem_cons_self ..)).1 hk
  refine ⟨h1, ?_, ?_⟩
  · have h2 : wsum M E ≤ nO * E.ws.length := sum_le fun p _ => lo _
    have h3 : E.ws.length ≤ nW * E.nodes.length := by
      rw [I.wss, len_flat]
      refine sum_le fun p hp => ?_
      rw [List.length_map]
      obtain ⟨p1, p2⟩ := I.s1 p hp
      exact F.lW _ p1 _ (F.rch p2 p1)
    have h4 := I.cn
    have h5 : nO * E.ws.length ≤ nO * nW * (nS * E.keys.length) := by
      rw [Nat.mul_assoc]
      exact Nat.mul_le_mul_left _ (Nat.le_trans h3 (Nat.mul_le_mul_left _ h1))
    rw [Nat.add_mul]
    omega
  · exact Nat.add_le_add h1 (sum_le fun k _ => lo k)
/-- the end: just what can come is in the lots -/
theorem Iv.done {b0 : Nat} {E : En κ σ ο ω β} {c i : Nat} (F : Fnt M E.keys US UO nW nS nO) (I : Iv M b0 E c i) (h : E.lvls = []) {k : κ} (hk : k ∈ E.keys) (o : ο) : o ∈ (E.lot k).map (·.1) ↔ OutK M k o := by
  have sat : ∀ p, E.Due c i p → E.Sat p := fun p hp => hp.elim id fun ⟨b, x, hx, _⟩ => by rw [h] at hx; cases hx
  have all : ∀ {k : κ} {s : σ}, Rch M k s → k ∈ E.keys → (k, s) ∈ E.nodes.map (·.1) := by
    intro k s hr
    induction hr with
    | beg hp => exact fun hk => sat _ (I.c1 _ hk _ hp)
    | @go k s w s' q h1 hw h2 hq ih1 ih2 =>
      intro hk
      obtain ⟨p, hp, e⟩ := List.mem_map.mp (ih1 hk)
      have hk2 := F.key _ hk _ (F.rch h1 hk) _ hw
      obtain ⟨p', hp', e'⟩ := List.mem_map.mp (ih2 hk2)
      have e1 : p.1.1 = k ∧ p.1.2 = s := by rw [e]; exact ⟨rfl, rfl⟩
      have e2 : p'.1.1 = M.wkey w ∧ p'.1.2 = s' := by rw [e']; exact ⟨rfl, rfl⟩
      have h3 := sat _ (I.c2 p' hp' q (by rw [e2.1, e2.2]; exact hq))
      rw [e2.1] at h3
      obtain ⟨o, ho, eo⟩ := List.mem_map.mp h3
      have h4 := sat _ (I.c4 p hp w (by rw [e1.1, e1.2]; exact hw) o ho)
      rw [e1.1, e1.2, eo] at h4
      exact h4
  constructor
  · intro ho
    obtain ⟨p, hp, rfl⟩ := List.mem_map.mp ho
    exact (I.s2 k p hp).2
  · rintro ⟨s, hr, q, hq, rfl⟩
    obtain ⟨p, hp, e⟩ := List.mem_map.mp (all hr hk)
    have e1 : p.1.1 = k ∧ p.1.2 = s := by rw [e]; exact ⟨rfl, rfl⟩
    have h3 := sat _ (I.c2 p hp q (by rw [e1.1, e1.2]; exact hq))
    rw [e1.1] at h3
    exact h3
end
end S
/-! the engine in plain Lean: room for all puts -/
namespace S
open En
section
variable {κ σ ο ω β : Type} [DecidableEq κ] [DecidableEq σ] [DecidableEq ο]
variable {M : Mch κ σ ο ω β} {US : κ → List σ} {UO : κ → List ο} {nW nS nO : Nat}
theorem Iv.room {b0 : Nat} {E : En κ σ ο ω β} {c i : Nat} (F : Fnt M E.keys US UO nW nS nO) (I : Iv M b0 E c i) : b0 + 2 * E.nodes.length + wsum M E ≤ b0 + (2 + nO * nW) * (nS * E.keys.length) := by
  obtain ⟨h1, _, _⟩ := I.small F
  have lo : ∀ k, (E.lot k).length ≤ nO := fun k => by
    by_cases hk : k ∈ E.keys
    · have := nodup_le (l := (E.lot k).map (·.1)) (l' := UO k) (I.on k) fun x hx => by
        obtain ⟨p, hp, rfl⟩ := List.mem_map.mp hx
        obtain ⟨p1, p2⟩ := I.s2 k p hp
        exact F.out p2 p1
      rw [List.length_map] at this
      exact Nat.le_trans this (F.lO k hk)
    · cases e : E.lot k with
      | nil => exact Nat.zero_le _
      | cons p l => exact absurd (I.s2 k p (by rw [e]; exact List.mem_cons_self ..)).1 hk
  have h2 : wsum M E ≤ nO * E.ws.length := sum_le fun p _ => lo _
  have h3 : E.ws.length ≤ nW * E.nodes.length := by
    rw [I.wss, len_flat]
    refine sum_le fun p hp => ?_
    rw [List.length_map]
    obtain ⟨p1, p2⟩ := I.s1 p hp
    exact F.lW _ p1 _ (F.rch p2 p1)
  have h5 : nO * E.ws.length ≤ nO * nW * (nS * E.keys.length) := by
    rw [Nat.mul_assoc]
    exact Nat.mul_le_mul_left _ (Nat.le_trans h3 (Nat.mul_le_mul_left _ h1))
  rw [Nat.add_mul]
  omega
end
end S
/-! the engine in plain Lean: what is told along -/
namespace S
open En
section
variable {κ σ ο ω β : Type} [DecidableEq κ] [DecidableEq σ] [DecidableEq ο]
variable {M : Mch κ σ ο ω β} {P : β → Prop}
structure Bi (P : β → Prop) (E : En κ σ ο ω β) : Prop where
  n : ∀ p ∈ E.nodes, P p.2.2
  o : ∀ k, ∀ p ∈ E.lot k, P p.2.2
  l : ∀ x, ∀ it ∈ E.lvl x, P it.2
structure BiM (P : β → Prop) (M : Mch κ σ ο ω β) : Prop where
  b : ∀ k, ∀ p ∈ M.begs k, P p.2
  e : ∀ k s, ∀ p ∈ M.ends k s, P p.2
  t : ∀ k s w o, P (M.tb k s w o)
theorem Bi.put {E : En κ σ ο ω β} (B : Bi P E) {c : Nat} {it : Pl κ σ ο × β} (h : P it.2) : Bi P (E.put c it) :=
  ⟨B.n, B.o, fun x i hi => by
    rw [put_lvl] at hi
    by_cases e : x = c
    · rw [if_pos e] at hi
      rcases List.mem_append.mp hi with hi | hi
      · by_cases hc : c ∈ E.lvls
        · rw [if_pos hc] at hi; exact B.l c i hi
        · rw [if_neg hc] at hi; cases hi
      · cases List.mem_singleton.mp hi; exact h
    · rw [if_neg e] at hi
      exact B.l x i hi⟩
theorem Bi.puts : ∀ {L : List (Nat × Pl κ σ ο × β)} {E : En κ σ ο ω β}, Bi P E → (∀ p ∈ L, P p.2.2) → Bi P (E.puts L)
  | [], E, B, _ => B
  | p :: L, E, B, h => Bi.puts (L := L) (E := E.put p.1 p.2) (B.put (h p (List.mem_cons_self ..))) fun q hq => h q (List.mem_cons_of_mem _ hq)
theorem Bi.step {E : En κ σ ο ω β} (Q : BiM P M) (B : Bi P E) {c : Nat} {it : Pl κ σ ο × β} (h : P it.2) : Bi P (E.step M c it) := by
  obtain ⟨p, b⟩ := it
  cases p with
  | node k s =>
    show Bi P (E.reach M c (k, s) b)
    unfold En.reach
    split
    · exact B
    · refine Bi.puts ⟨fun p hp => ?_, B.o, B.l⟩ fun p hp => ?_
      · rcases List.mem_append.mp (show p ∈ E.nodes ++ [((k, s), c, b)] from hp) with hp | hp
        · exact B.n p hp
        · cases List.mem_singleton.mp hp; exact h
      · rcases List.mem_append.mp hp with hp | hp
        · obtain ⟨q, hq, hp⟩ := List.mem_flatMap.mp hp
          cases mem_ads hp
          exact Q.e _ _ q hq
        · obtain ⟨w, hw, hp⟩ := List.mem_flatMap.mp hp
          obtain ⟨o, ho, hp⟩ := List.mem_flatMap.mp hp
          cases mem_go hp
          exact Q.t _ _ _ _
  | out k o =>
    show Bi P (E.fix M c k o b)
    unfold En.fix
    split
    · exact B
    · refine Bi.puts ⟨B.n, fun x p hp => ?_, B.l⟩ fun p hp => ?_
      · have hp : p ∈ (if x = k then E.lot k ++ [(o, c, b)] else E.lot x) := hp
        by_cases e : x = k
        · rw [if_pos e] at hp
          rcases List.mem_append.mp hp with hp | hp
          · exact B.o k p hp
          · cases List.mem_singleton.mp hp; exact h
        · rw [if_neg e] at hp
          exact B.o x p hp
      · obtain ⟨x, hx, hp⟩ := List.mem_flatMap.mp hp
        cases mem_go hp
        exact Q.t _ _ _ _
theorem Bi.pop {E : En κ σ ο ω β} (B : Bi P E) {c : Nat} : Bi P (E.pop c) := ⟨B.n, B.o, B.l⟩
/-- the start: all beginnings on the lowest level -/
theorem Iv.start {κ σ ο ω β : Type} [DecidableEq κ] [DecidableEq σ] [DecidableEq ο] {M : Mch κ σ ο ω β} {ks : List κ} : Iv M ((ks.flatMap fun k => (M.begs k).map fun p => ((0, Pl.node k p.1, p.2) : Nat × Pl κ σ ο × β)).length) (En.puts (ks.flatMap fun k => (M.begs k).map fun p => ((0, Pl.node k p.1, p.2) : Nat × Pl κ σ ο × β)) (⟨ks, [], [], fun _ => [], [], fun _ => [], 0⟩ : En κ σ ο ω β)) 0 0 := by
  generalize eL : (ks.flatMap fun k => (M.begs k).map fun p => ((0, Pl.node k p.1, p.2) : Nat × Pl κ σ ο × β)) = L
  have hL : ∀ p ∈ L, p.1 = 0 ∧ ∃ k ∈ ks, ∃ q ∈ M.begs k, p.2.1 = .node k q.1 := fun p hp => by
    subst eL
    obtain ⟨k, hk, hp⟩ := List.mem_flatMap.mp hp
    obtain ⟨q, hq, rfl⟩ := List.mem_map.mp hp
    exact ⟨rfl, k, hk, q, hq, rfl⟩
  generalize eE : (⟨ks, [], [], fun _ => [], [], fun _ => [], 0⟩ : En κ σ ο ω β) = E0
  have V := lv_puts L (E := E0)
  obtain ⟨p1, p2, p3, p4, p5⟩ := puts_keys (L := L) (E := E0)
  have a0 : E0.keys = ks ∧ E0.nodes = [] ∧ E0.ws = [] ∧ E0.lot = (fun _ => []) ∧ E0.lvls = [] ∧ E0.cnt = 0 := by subst eE; exact ⟨rfl, rfl, rfl, rfl, rfl, rfl⟩
  obtain ⟨k1, k2, k3, k4, k5, k6⟩ := a0
  rw [k1] at p1; rw [k2] at p2; rw [k3] at p3; rw [k4] at p4; rw [k6] at p5
  have at0 : E0.At 0 0 := ⟨fun _ => Nat.zero_le _, fun _ => rfl⟩
  generalize E0.puts L = E at p1 p2 p3 p4 p5 V ⊢
  refine ⟨?_, fun _ _ => Nat.zero_le _, V.at_ _ _ at0, ?_, ?_, ?_, ?_, ?_, ?_, ?_, ?_, ?_, ?_, ?_, ?_, ?_, ?_, ?_⟩
  · exact V.nd (by rw [k5]; exact List.Pairwise.nil)
  · rw [p2]; exact List.Pairwise.nil
  · rw [p4]; exact fun _ => List.Pairwise.nil
  · rw [p2]; exact fun p hp => nomatch hp
  · rw [p4]; exact fun k p hp => nomatch hp
  · intro it h
    rcases V.snd _ _ _ h with ⟨x, hx, _⟩ | ⟨p, hp, rfl⟩
    · rw [k5] at hx; cases hx
    · obtain ⟨_, k, hk, q, hq, e⟩ := hL p hp
      rw [e, p1]
      exact ⟨hk, .beg hq⟩
  · rw [p3, p2]; rfl
  · rw [p1]
    intro k hk p hp
    refine .inr ⟨p.2, V.new 0 0 at0 (0, .node k p.1, p.2) ?_⟩
    subst eL
    exact List.mem_flatMap.mpr ⟨k, hk, List.mem_map.mpr ⟨p, hp, rfl⟩⟩
  · rw [p2]; exact fun p hp => nomatch hp
  · rw [p2]; exact fun p hp => nomatch hp
  · rw [p5]; omega
  · exact V.len (by rw [k5]; exact fun x hx => nomatch hx)
  · exact V.ll (by rw [k5]; exact Nat.zero_le _)
  · intro x hx
    rcases (V.lv x).mp hx with h | ⟨p, hp, rfl⟩
    · rw [k5] at h; cases h
    · rw [(hL p hp).1]; exact Nat.zero_le _
  · rw [p2]; exact fun p hp => nomatch hp
  · rw [p4]; exact fun k p hp => nomatch hp
end
end S
/-! len of a dict by nested tuples -/
namespace S
open PySem PySem.W L2 PyProof.Rows
section
variable {G : GA} {X : Cx}
end
end S
/-! what repr shows of data -/
namespace S
open PySem L2
structure Shw (p : PyData) (n w : Nat) : Prop where
  lay : p.canLay0 = true
  shw : p.showable = true
  dep : p.depth ≤ n
  lf : p.leavesShort 8 = true
  we : p.weight ≤ w
end S
/-! own exceptions over KeyError: it has no making of its own, that of LookupError serves -/
namespace L2
open PySem PySem.Spec PyProof.Rows
theorem key_store : StoreFacts "KeyError" [.type "KeyError", .type "LookupError", .type "Exception", .type "BaseException", .type "object"] "object.__setattr__" "object" := by
  refine ⟨by kernel_rfl, ?_, F.store_IndexError.entry, F.store_IndexError.kind, F.store_IndexError.split, by decide +kernel, F.store_IndexError.args, fun x => by kernel_rfl⟩
  exact Slot.of (owner := "object") (n := "__setattr__") (by rw [typeLookup_type, builtinLookup_eq_fast]; kernel_rfl) (by decide +kernel) (by decide +kernel) (by decide +kernel) (by first | exact Or.inl (by decide +kernel) | exact Or.inr (by decide +kernel)) (by rw [isSubtype_type]; kernel_rfl)
theorem key_kx : PySem.W.KxsFacts "KeyError" "KeyError.__init__" := by
  constructor
  · show builtinType _ = _
    rw [builtinType_eq_fast]
    kernel_rfl
  · first | kernel_rfl | rfl
theorem key_kind : builtinKind "KeyError.__init__" = some .slot := by kernel_rfl
theorem key_row : Manifest.signature? "KeyError.__init__" = some ⟨.positional, "*", "KeyError", .self, [⟨"args", .varPos, false⟩]⟩ := by kernel_rfl
theorem key_entry : entryFor table "KeyError.__init__" = some Builtin.«BaseException.__init__» := entryFor_alias (id' := "BaseException.__init__") (by rw [fastTable_eq_tree]; kernel_rfl) (by first | rfl | decide +kernel) (by decide +kernel) (by rw [fastTable_eq_tree]; kernel_rfl)
theorem key_plain : PySem.plainId "KeyError.__init__" = true := by decide +kernel
theorem key_bnd : BndI "LookupError.__new__" "KeyError.__init__" := by
  intro M A E Q h g d t os nm q C N e oe bs l hd sn sub ab col dd k0 k1 k2 k3 k5 us hC he hc hq
  have ns : ("KeyError" != "*") = true := by decide
  simp only [checkBoundCall, key_kind, key_row]
  repeat (first | (with_reducible refine wpAny_loadPart_at he ?_; rw [hc]) | (with_reducible refine wpAny_loadPart_at hC ?_) | wp_step)
  refine wpAny_onRaise ?_
  have z : ∀ (a b : String) (n : Nat), Bind.check ⟨.positional, "*", "KeyError", .self, [⟨"args", .varPos, false⟩]⟩ a b n (({ pos := Value.ref e :: us } : Args).kw.map fun x => x.1) = pure () := fun a b n => check_star_args ..
  rw [z]
  exact wpAny_pure hq
section
variable {prog : Program} {w : World} {A : Around} {E : Value → Shared → Prop} {R : PySem.Result → Shared → Prop} {h : Heap} {g : Array GenState} {d : Drawn} {t : Nat} {os : OsState}
variable {nm q : Str} {C N : Addr} {bs l : List Value} {hd : Bool} {sn : List Str} {sub : List Value} {ab : Bool} {col : Option Bool} {dd : Option Addr} {k0 k1 k2 k3 k5 : Option Value} {us : List Value} {fI : Addr}
/-- what is asked of the classes above C -/
structure KeyL (C : Addr) (l : List Value) : Prop where
  lk : (Value.ref C :: l).contains (.type "LookupError") = true
  at_ : (Value.ref C :: l).contains (.type "AttributeError") = false
  nm : (Value.ref C :: l).contains (.type "NameError") = false
  own : (Value.ref C :: l).contains (.ref C) = true
theorem keyL_of (hT : ∀ Y : String, l.contains (.type Y) = ([.type "KeyError", .type "LookupError", .type "Exception", .type "BaseException", .type "object"] : List Value).contains (.type Y)) : KeyL C l := by
  constructor
  · rw [List.contains_cons, hT "LookupError"]; rfl
  · rw [List.contains_cons, hT "AttributeError"]; rfl
  · rw [List.contains_cons, hT "NameError"]; rfl
  · simp
theorem key_check {M : Model} {Q : Unit → Shared → Prop} (kl : KeyL C l) (hC : h.get? C = some (excClassObj nm q C N bs l hd sn sub ab col dd k0 k1 k2 k3 k5 "LookupError.__new__")) (hq : Q () ⟨h, g, d, t, os⟩) : wpAny M A (checkBuiltinCall "LookupError.__new__" ⟨.ref C :: us, []⟩) Q E ⟨h, g, d, t, os⟩ := by
  have FL := F.excBase_LookupError
  have c1 := kl.lk
  have ns := FL.noStar
  simp only [checkBuiltinCall, FL.newKind, FL.newSplit, FL.newRow]
  repeat (first | (refine wpAny_loadPart_at hC ?_) | (refine wpAny_isSubtype_exc hC ?_; rw [c1]) | (refine wpAny_staticBase_exc hC ?_) | (refine wpAny_madeBy_exc hC ?_) | (simp only [bne_self_eq_false, Bool.false_eq_true, if_false]) | wp_step)
  exact hq
theorem key_new (kl : KeyL C l) (hC : h.get? C = some (excClassObj nm q C N bs l hd sn sub ab col dd k0 k1 k2 k3 k5 "LookupError.__new__")) (hl : us.length ≤ sizeLine)
    (hq : R (.ok (.ret (.ref (h.objs.size + 1)))) ⟨(h.push (PySem.W.kdv_tup us)).push (PySem.HandSPX.excO C h.objs.size), g, d, t, os⟩) : codeAny (model prog w) A (.builtin "LookupError.__new__" ⟨.ref C :: us, []⟩) R ⟨h, g, d, t, os⟩ := by
  have FL := F.excBase_LookupError
  have ends := FL.ends
  have c1 := kl.lk
  have c2 := kl.at_
  have c3 := kl.nm
  refine codeAny_builtinAt FL.entry ?_
  unfold Builtin.«BaseException.__new__»
  refine PySem.wpAt_bind ?_
  show PySem.wpAt _ _ _ (stack >>= _) _ _ _
  refine PySem.wpAt_bind ?_
  refine PySem.wpAt_stack fun top below => ?_
  refine PySem.wpAt_of_wpAny ?_
  wp_walk
  refine PySem.wpAt_of_wpAny ?_
  rw [FL.owner]
  repeat (first | (with_reducible refine wpAny_madeHere_exc FL.canon hC ?_) | (with_reducible refine wpAny_loadPart_at hC ?_) | (with_reducible refine wpAny_isSubtype_exc hC ?_; first | rw [c1] | rw [c2] | rw [c3]) | wp_step)
  show R _ _
  rw [Heap.size_push]
  exact hq
theorem key_call (kl : KeyL C l) (hC : h.get? C = some (excClassObj nm q C N bs l hd sn sub ab col dd k0 k1 k2 k3 k5 "LookupError.__new__")) (hi : PySem.W.Looks (model prog w) h (typeLookup (.ref C) "__init__") (some (.ref fI))) (hb : ∀ x, PySem.W.Looks (model prog w) h (bindSpecial (.ref fI) x) (.ref fI, [x])) (hl : us.length ≤ sizeLine) {Q : Fin → Shared → Prop}
    (hq : codeAny (model prog w) A (.call (.ref fI) ⟨.ref (h.objs.size + 1) :: us, []⟩) (fun r s' => match r with | .ok (.ret v) => v = .none ∧ Q (.done (.ret (.ref (h.objs.size + 1)))) s' | .ok _ => False | .error e => E e s') ⟨(h.push (PySem.W.kdv_tup us)).push (PySem.HandSPX.excO C h.objs.size), g, d, t, os⟩) :
    wpAny (model prog w) A (Builtin.«type.__call__» ⟨.ref C :: us, []⟩) Q E ⟨h, g, d, t, os⟩ := by
  have FL := F.excBase_LookupError
  repeat (first | (with_reducible refine wpAny_loadPart_at hC ?_) | (with_reducible refine wpAny_madeBy_exc hC ?_) | wp_step)
  refine codeAny_call_builtin_code (Code.quiet_builtin _ FL.quiet) (key_check kl hC ?_)
  refine key_new kl hC hl ?_
  show wpAny _ _ _ _ _ _
  have keep : ∀ b o, h.get? b = some o → ((h.push (PySem.W.kdv_tup us)).push (PySem.HandSPX.excO C h.objs.size)).get? b = some o := fun b o z => Heap.get?_push_of_some _ (Heap.get?_push_of_some _ z)
  have hC1 := keep _ _ hC
  have there : ((h.push (PySem.W.kdv_tup us)).push (PySem.HandSPX.excO C h.objs.size)).get? (h.objs.size + 1) = some (PySem.HandSPX.excO C h.objs.size) := by heap_get
  have co := kl.own
  have li := hi.keeps keep
  have lb := (hb (.ref (h.objs.size + 1))).keeps keep
  unfold isInstance
  repeat (first | (with_reducible refine wpAny_loadPart_at there ?_) | (with_reducible refine wpAny_isSubtype_exc hC1 ?_; rw [co]) | wp_step)
  show wpAny _ _ (typeLookup (.ref C) _) _ _ _
  refine li.at ?_
  refine wpAny_holding ?_
  refine wpAny_bind (lb.at ?_)
  refine wpAny_bind ?_
  refine wpAny_call (codeAny_mono hq fun r s' z => ?_)
  rcases r with e | (v | _ | _ | _) <;> first | exact z | exact z.elim | skip
  obtain ⟨rfl, z⟩ := z
  first | exact wpAny_pure (wpAny_pure z) | (wp_walk; exact z)
end
theorem key_mk : MkOwn "LookupError.__new__" [.type "KeyError", .type "LookupError", .type "Exception", .type "BaseException", .type "object"] := by
  intro prog w A R h g d t os nm q C N bs l hd sn sub ab col dd k0 k1 k2 k3 k5 us fI hT hC hi hb hl hq
  have f1 := PySem.tc_lookup
  have f2 := PySem.tc_bind (.ref C)
  have ty : (⟨h, g, d, t, os⟩ : Shared).TypeIs (.ref C) "type" := ⟨_, hC, rfl⟩
  refine codeAny_of_tree ?_
  show wpAny _ _ (callAny (.ref C) _) _ _ _
  repeat (any_goals (first | assumption | (with_reducible refine wpAny_loadPart_at hC ?_) | wp_step))
  refine ⟨rfl, ?_⟩
  refine codeAny_call_builtin_at (Code.quiet_builtin _ (by decide +kernel)) PySem.entry_typeCall ?_
  refine wpAny_check_type_call_sub hC ?_
  refine key_call (keyL_of hT) hC hi hb hl ?_
  refine codeAny_mono hq fun r s' z => ?_
  rcases r with e | (v | _ | _ | _) <;> exact z
theorem xb_key : XBase "KeyError" "LookupError.__new__" "KeyError.__init__" [.type "KeyError", .type "LookupError", .type "Exception", .type "BaseException", .type "object"] :=
  ⟨key_mk, key_bnd, key_plain, key_entry, key_store, key_kx, by decide +kernel⟩
end L2
/-! a lambda without parameters, handed to a def: its making, what it tells when it is called -/
namespace L2
open PySem PySem.Spec PyProof.Rows LamX
section
variable {X : Cx} {pins : List (Addr × Obj)} {σ : St} {H : Hp} {s : Shared}
structure Far (X : Cx) (f : Addr) : Prop where
  stk : f ∉ frs X.stack
  loc : f ≠ X.env.locals
  fs : f ∉ X.fs
end
section
variable {X : Cx} {pins : List (Addr × Obj)} {σ : St} {H HZ : Hp} {s s1 : Shared}
end
end L2
/-! a lambda handed to a def, over values without addresses -/
namespace S
open PySem PySem.Spec PyProof.Rows L2 LamX
/-- something more is known of what never changes -/
def GA.wit (G : GA) (p : Hp → Prop) (hp : ∀ {f f' : Hp}, Same f f' → p f → p f') : GA := ⟨G.at_, G.w, fun f => G.ok f ∧ p f, fun e h => ⟨G.mono e h.1, hp e h.2⟩⟩
section
variable {K : PySem.W.Frag} {G : GA} {p : Hp → Prop} {hp : ∀ {f f' : Hp}, Same f f' → p f → p f'} {Z : Gh}
mutual
theorem rep_wit : ∀ (d : D) (v : V), Rep K (G.wit p hp) Z d v ↔ Rep K G Z d v
  | .non, _ => Iff.rfl
  | .bl _, _ => Iff.rfl
  | .int _, _ => Iff.rfl
  | .str _, _ => Iff.rfl
  | .ptr _, _ => Iff.rfl
  | .cls _, _ => Iff.rfl
  | .fn _, _ => Iff.rfl
  | .lst ds, _ => by unfold Rep; simp only [repL_wit ds]
  | .rls ds, _ => by unfold Rep; simp only [repL_wit ds]
  | .tup ds, _ => by unfold Rep; simp only [repL_wit ds]
  | .dct _ ds, _ => by unfold Rep; simp only [repL_wit ds]
  | .ins _ _ ds, _ => by unfold Rep; simp only [repL_wit ds]; exact Iff.rfl
  | .dkd ks ds, _ => by unfold Rep; simp only [repL_wit ks, repL_wit ds]; exact Iff.rfl
  | .ptp ds, _ => by unfold Rep; simp only [repL_wit ds]
  | .exv _ _ ds, _ => by unfold Rep; simp only [repL_wit ds]; exact Iff.rfl
theorem repL_wit : ∀ (ds : List D) (vs : List V), RepL K (G.wit p hp) Z ds vs ↔ RepL K G Z ds vs
  | [], _ => Iff.rfl
  | d :: ds, _ => by unfold RepL; simp only [rep_wit d, repL_wit ds]
end
theorem repC_wit {H : Hp} {a : Addr} (c : C) : RepC K (G.wit p hp) Z H a c ↔ RepC K G Z H a c := by
  cases c with
  | lst ds => unfold RepC; simp only [repL_wit ds]
  | dct ks ds => unfold RepC; simp only [repL_wit ds]
  | dkd ks ds => unfold RepC; simp only [repL_wit ks, repL_wit ds]; exact Iff.rfl
  | ins c ns ds => unfold RepC; simp only [repL_wit ds]; exact Iff.rfl
  | tab q => exact Iff.rfl
  | dead => exact Iff.rfl
theorem RelH.wit {H : Hp} {st : Sto} (R : RelH K G Z H st) (h : p Z.fz) : RelH K (G.wit p hp) Z H st := ⟨R.fz, R.len, fun i c a e1 e2 => (repC_wit c).mpr (R.cell i c a e1 e2), R.off, R.inj, R.tmp, R.tof, R.lk, h⟩
end
/-- no changing thing among the locals -/
def cutE (env : S.Env) : S.Env := env.map fun o => o.bind fun d => if below 0 d = true then some d else none
/-- what the lambda f in slot i tells -/
def mTh (f : Addr) (i : Nat) (th : Sto → R D) : M := fun env st => match env[i]? with
  | some (some (.fn a)) => if a = f then pur (fun _ s => th s) [] st else .stuck
  | _ => .stuck
open Classical in
/-- g(lambda: e, ..): cell j is the table of code objects -/
noncomputable def mLam (j : Nat) (q : Str) (n : Nat) (F : Addr → (Sto → R D) → List D → Sto → R D) (me : M) (ma : MA) : M := fun env st =>
  if st[j]? = some (.tab q) then (ma env st).bind fun ds st1 =>
    if ds.length + 1 = n ∧ ∀ a, F a (fun s => me (cutE env) s) (.fn a :: ds) st1 = F 0 (fun s => me (cutE env) s) (.fn 0 :: ds) st1 then F 0 (fun s => me (cutE env) s) (.fn 0 :: ds) st1 else .stuck
  else .stuck
section
variable {X : Cx} {G : GA} {W : WX} {pins : List (Addr × Obj)} {σ : L2.St} {H : Hp} {s : Shared} {params : Arguments} {body : Expr} {scope : Scope} {f c' : Addr} {me : M} {envL : S.Env} {k i : Nat} {a : Str} {p1 p2 : Pos}
end
/-- a def that calls what it got first: its body in the frame A, told what that tells -/
def LamAt (P : Program) (w : World) (K : PySem.W.Frag) (mg : Str → Option Value) (base : Heap) (G : GA) (k : Nat) (x : Str) (sg : Scope) (g : Addr) (cdg : Value) (bg : List Stmt) (Ng : List Str) (a : Str) (ms : Addr → (Sto → R D) → MS) (A : Around) : Prop :=
  ∀ (fa : Addr) (th : Sto → R D) (outer : List PySem.Env) (s : Shared) (H : Hp) (E : XK), Room k (A.deeper (envOfC x sg s.heap.objs.size g cdg)) →
    (∀ (W : WX) (pn : List (Addr × Obj)) (xe : Value → Shared → Prop) (p1 p2 : Pos), Takes ((cxOf (L2.CX P w) P w K mg base Ng x sg g cdg A outer s H E).tr pn xe) W → PE ((cxOf (L2.CX P w) P w K mg base Ng x sg g cdg A outer s H E).tr pn xe) (.Call (.Name a p1) [] [] p2) (tS K G W (mTh fa 0 th))) →
    PSs (cxOf (L2.CX P w) P w K mg base Ng x sg g cdg A outer s H E) bg (tSS K G (wE E) (ms fa th))
/-- the same in every frame -/
def LamOk (P : Program) (w : World) (K : PySem.W.Frag) (mg : Str → Option Value) (base : Heap) (G : GA) (k : Nat) (x : Str) (sg : Scope) (g : Addr) (cdg : Value) (bg : List Stmt) (Ng : List Str) (a : Str) (ms : Addr → (Sto → R D) → MS) : Prop :=
  ∀ A : Around, LamAt P w K mg base G k x sg g cdg bg Ng a ms A
/-- the same in every frame under no repr -/
def LamOkG (P : Program) (w : World) (K : PySem.W.Frag) (mg : Str → Option Value) (base : Heap) (G : GA) (k : Nat) (x : Str) (sg : Scope) (g : Addr) (cdg : Value) (bg : List Stmt) (Ng : List Str) (a : Str) (ms : Addr → (Sto → R D) → MS) : Prop :=
  ∀ A : Around, A.guards = some [] → LamAt P w K mg base G k x sg g cdg bg Ng a ms A
section
variable {X : Cx} {G : GA} {W : WX}
end
end S
/-! g(lambda: e, ..) -/
namespace S
open PySem PySem.Spec PyProof.Rows L2 LamX
section
variable {X : Cx} {G : GA} {W : WX}
end
end S
/-! a law whose text makes lambdas: its code object, its table, the end -/
namespace S
open PySem PySem.Spec PyProof.Rows L2 LamX
section
variable {P : Program} {w : World} {K : PySem.W.Frag} {mg : Str → Option Value} {base : Heap} {G : GA}
end
end S
/-! g(lambda: e, ..) for printed texts -/
namespace S
open PySem PySem.Spec PyProof.Rows L2 LamX
theorem LamOk.up {P : Program} {w : World} {K : PySem.W.Frag} {mg : Str → Option Value} {base : Heap} {G : GA} {k j : Nat} {x : Str} {sg : Scope} {g : Addr} {cdg : Value} {bg : List Stmt} {Ng : List Str} {a : Str} {ms : Addr → (Sto → R D) → MS} (h : LamOk P w K mg base G k x sg g cdg bg Ng a ms) (hk : k ≤ j := by decide) : LamOk P w K mg base G j x sg g cdg bg Ng a ms :=
  fun A fa th outer s H E hr act => h A fa th outer s H E (hr.mono hk) act
theorem LamOkG.up {P : Program} {w : World} {K : PySem.W.Frag} {mg : Str → Option Value} {base : Heap} {G : GA} {k j : Nat} {x : Str} {sg : Scope} {g : Addr} {cdg : Value} {bg : List Stmt} {Ng : List Str} {a : Str} {ms : Addr → (Sto → R D) → MS} (h : LamOkG P w K mg base G k x sg g cdg bg Ng a ms) (hk : k ≤ j := by decide) : LamOkG P w K mg base G j x sg g cdg bg Ng a ms :=
  fun A hg fa th outer s H E hr act => h A hg fa th outer s H E (hr.mono hk) act
end S
namespace S
open PySem PySem.Spec PyProof.Rows L2
end S
/-! what a dict's cell holds is frozen, the dict itself not -/
namespace S
open PySem L2
section
variable {X : Cx} {G : GA} {W : WX}
end
/-! ### a comparison by an own def that raises nothing, anywhere -/
section
variable {X : Cx} {G : GA} {W : WX} {f : D → D → Sto → R D} {r : R2} {a b : Expr} {m n : M} {pos : Pos} {σ : St} {H : Hp}
end
end S
/-! try .. except C as e: y = .. except D as e: z = .. -/
namespace S
open PySem PySem.Spec PyProof.Rows L2
inductive HdsAs (X : Cx) : List ExceptHandler → List (Value × Nat × (Addr → Value → Option Addr → TS)) → Prop
  | nil : HdsAs X [] []
  | cons {x n : Str} {c : Value} {i : Nat} {ts : Addr → Value → Option Addr → TS} {b₀ : Stmt} {suite : List Stmt} {np pos' : Pos} {hds : List ExceptHandler} {l : List (Value × Nat × (Addr → Value → Option Addr → TS))} (hi : X.N[i]? = some n) (hln : X.env.kindOf n = some .local) (hc : Names X x c)
      (hsu : ∀ (a : Addr) (oe : Obj) (cls : Value) (d : Option Addr) (pn : List (Addr × Obj)), Zc cls d oe → (∃ vs, oe.data = .fields vs) → PSs (X.suite a ((a, oe) :: pn)) (b₀ :: suite) (ts a cls d)) (r : HdsAs X hds l) :
      HdsAs X (.ExceptHandler (some (.Name x np)) (some n) (b₀ :: suite) pos' :: hds) ((c, i, ts) :: l)
section
variable {X : Cx} {body : List Stmt} {h₀ : ExceptHandler} {hds : List ExceptHandler} {l : List (Value × Nat × (Addr → Value → Option Addr → TS))} {pos : Pos} {tb : WX → TS} {Wout : WX}
end
/-! ### on values: clauses that each set a name -/
structure Cl where
  ki : Ki
  i : Nat
  j : Nat
  q : MX
section
variable {G : GA} {W : WX} {X : Cx} {body : List Stmt} {h₀ : ExceptHandler} {hds : List ExceptHandler} {ks : List Cl} {pos : Pos} {m : MS}
/-- the clauses, with what they set -/
inductive ClsOk (X : Cx) (G : GA) : List ExceptHandler → List Cl → Prop
  | nil : ClsOk X G [] []
  | cons {x n y : Str} {cv : Value} {i j : Nat} {ki : Ki} {q : MX} {e : Expr} {np pos' py ps : Pos} {hds : List ExceptHandler} {r : List Cl} (hi : X.N[i]? = some n) (hln : X.env.kindOf n = some .local) (hc : Names X x cv) (hk : ∀ c b, ki c = some b → PySem.W.exmOne X.K (.ref (G c)) cv = some b)
      (hj : X.N[j]? = some y) (hy : Loc X.env.scope y) (hfy : X.fn y = true ∨ X.env.scope.names.lookup y = some .local)
      (hq : ∀ (a : Addr) (oe : Obj) (cls : Value) (d : Option Addr) (pn : List (Addr × Obj)), Zc cls d oe → (∃ vs, oe.data = .fields vs) → PE (X.suite a ((a, oe) :: pn)) e (tX X.K G i a cls d q)) (r0 : ClsOk X G hds r)
      (hsw : swapsWith e (some (.Name y py)) ps.line X.env = pure false := by rfl) :
      ClsOk X G (.ExceptHandler (some (.Name x np)) (some n) [.Assign [.Name y py] e ps] pos' :: hds) (⟨ki, i, j, q⟩ :: r)
end
/-! ### str(o) by an own def that raises nothing, anywhere -/
section
variable {X : Cx} {G : GA} {W : WX}
end
end S
/-! sets of texts: what set(xs) holds, what it gives when sorted -/
namespace S
open PySem PySem.Spec PyProof.Rows L2
/-- a table that can be walked, n in it -/
def Tab (w : World) (n : Nat) (t : SetTable) : Prop := t.fits n = true ∧ Ris t.place.toList ∧ (w.params.followText "set-order" = true ∨ t.led = true)
theorem Tab.laid {w : World} {n : Nat} {t : SetTable} (T : Tab w n t) (es : Array (Int × Value)) (h : Int) (x : Value) : Tab w (layNew t es h x).1.size (layNew t es h x).2.1 :=
  ⟨layNew_fits t es h x, layNew_ris t es h x T.2.1, T.2.2.imp id fun z => (layNew_led t es h x).trans z⟩
theorem Tab.anew {w : World} {n : Nat} {t : SetTable} (T : Tab w n t) (es : Array (Int × Value)) (m : Nat) : Tab w (relayAll t es m).1.size (relayAll t es m).2.1 :=
  ⟨relayAll_fits t es m, relayAll_ris t es m, T.2.2.imp id fun z => (relayAll_led t es m).trans z⟩
theorem Tab.off {w : World} {n : Nat} {t : SetTable} (T : Tab w n t) : Tab w n { t with plain := false } := ⟨SetTable.fits_plain_off T.1, T.2.1, T.2.2⟩
def tx (e : Int × Value) : Str := match e.2 with
  | .str x _ => x
  | _ => Str.empty
/-- what lies in a set of the texts ks, each once -/
structure InX (P : Program) (w : World) (es : Array (Int × Value)) (t : SetTable) (ks : List Str) : Prop where
  el : ElemsOf (PySem.strKind P w) es.toList
  pm : (es.toList.map tx).Perm ks
  nd : ks.Nodup
  ln : ks.length < scanBound
  tb : Tab w es.size t
theorem InX.size {P : Program} {w : World} {es : Array (Int × Value)} {t : SetTable} {ks : List Str} (X : InX P w es t ks) : es.size = ks.length := by
  have := X.pm.length_eq
  rwa [List.length_map, Array.length_toList] at this
def SetX (P : Program) (w : World) (h : Heap) (a : Addr) (ks : List Str) : Prop := ∃ o es ep t, h.get? a = some o ∧ o.ExactSet ∧ o.data = .set es ep t ∧ InX P w es t ks
theorem SetX.keep {P : Program} {w : World} {h h' : Heap} {a : Addr} {ks : List Str} (R : SetX P w h a ks) (k : ∀ o, h.get? a = some o → h'.get? a = some o) : SetX P w h' a ks := by
  obtain ⟨o, es, ep, t, ho, r⟩ := R
  exact ⟨o, es, ep, t, k o ho, r⟩
theorem SetX.put {P : Program} {w : World} {h : Heap} {a : Addr} {o : Obj} {es es' : Array (Int × Value)} {ep : Nat} {t t' : SetTable} {ks : List Str} (ho : h.get? a = some o) (hx : o.ExactSet) (hd : o.data = .set es ep t) (X : InX P w es' t' ks) :
    (h.update a (Obj.putSet es' t')).get? a = some { o with data := .set es' (ep + 1) t' } ∧ SetX P w (h.update a (Obj.putSet es' t')) a ks := by
  have g := Heap.get?_update_self (Obj.putSet es' t') ho (by rw [putSet_of es' t' hd]; rfl)
  rw [putSet_of es' t' hd] at g
  exact ⟨g, _, es', _, t', g, hx, rfl, X⟩
section
variable {P : Program} {w : World} {A : Around} {E : Value → Shared → Prop} {s : Shared} {a : Addr} {ks : List Str}
end
end S
/-! set(xs) of a list of texts; sorted of it -/
namespace S
open PySem PySem.Spec PyProof.Rows L2
section
variable {P : Program} {w : World} {A : Around} {E : Value → Shared → Prop} {s : Shared}
end
end S
/-! set(xs) of a list of texts -/
namespace S
open PySem PySem.Spec PyProof.Rows L2
section
variable {P : Program} {w : World} {A : Around} {E : Value → Shared → Prop} {s : Shared}
set_option maxRecDepth 100000 in
set_option maxHeartbeats 3200000 in
set_option maxRecDepth 100000 in
set_option maxHeartbeats 3200000 in
end
end S
/-! sorted(set(xs)) -/
namespace S
open PySem PySem.Spec PyProof.Rows L2
end S
/-! a list that lies in a list and changes behind a call: locked during the call alone -/
namespace S
open PySem L2 PyProof.Rows
mutual
/-- no read-only list within -/
def noR : D → Bool
  | .rls _ => false
  | .lst xs => noRL xs
  | .tup xs => noRL xs
  | .dct _ xs => noRL xs
  | .dkd ks xs => noRL ks && noRL xs
  | .ptp xs => noRL xs
  | .ins _ _ xs => noRL xs
  | .exv _ _ _ => false
  | _ => true
def noRL : List D → Bool
  | [] => true
  | d :: ds => noR d && noRL ds
end
def noRC : C → Bool
  | .lst xs => noRL xs
  | .dct _ xs => noRL xs
  | .dkd ks xs => noRL ks && noRL xs
  | .ins _ _ xs => noRL xs
  | .tab _ => true
  | .dead => true
section
variable {K : PySem.W.Frag} {G : GA}
mutual
theorem Rep.thawR {Z : Gh} {a : Addr} {od : Obj} {ws : List V} (ha : Z.fz a = some (.frz od (.lst ws))) : ∀ (d : D) (v : V), noR d = true → Rep K G Z d v → Rep K G (Z.thaw a) d v
  | .non, _, _, h => h
  | .bl _, _, _, h => h
  | .int _, _, _, h => h
  | .str _, _, _, h => h
  | .cls _, _, _, h => h
  | .ptr _, _, _, h => h
  | .fn _, _, _, h => h
  | .exv _ _ _, _, n, _ => by unfold noR at n; cases n
  | .rls _, _, n, _ => by unfold noR at n; cases n
  | .lst ds, v, n, ⟨b, vs, e, q, r⟩ => by
    unfold noR at n
    refine ⟨b, vs, e, ?_, RepL.thawR ha ds vs n r⟩
    rw [thaw_ne (fun hb => by rw [hb, ha] at q; cases q)]
    exact q
  | .tup ds, v, n, ⟨b, vs, e, q, r⟩ => by
    unfold noR at n
    refine ⟨b, vs, e, ?_, RepL.thawR ha ds vs n r⟩
    rcases q with q | q
    · refine .inl ?_
      rcases q with q | ⟨o, q⟩
      · exact .inl (by rw [thaw_ne (fun hb => by rw [hb, ha] at q; cases q)]; exact q)
      · exact .inr ⟨o, by rw [thaw_ne (fun hb => by rw [hb, ha] at q; cases q)]; exact q⟩
    · exact .inr q
  | .dct ks ds, v, n, ⟨b, vs, e, q, hl, r⟩ => by
    unfold noR at n
    refine ⟨b, vs, e, ?_, hl, RepL.thawR ha ds vs n r⟩
    rcases q with q | ⟨o, q⟩
    · exact .inl (by rw [thaw_ne (fun hb => by rw [hb, ha] at q; cases q)]; exact q)
    · exact .inr ⟨o, by rw [thaw_ne (fun hb => by rw [hb, ha] at q; cases q)]; exact q⟩
  | .dkd ks ds, v, n, ⟨b, o, xs, e, q, m, r, t⟩ => by
    unfold noR at n
    rw [Bool.and_eq_true] at n
    refine ⟨b, o, xs, e, ?_, m, RepL.thawR ha ks _ n.1 r, RepL.thawR ha ds _ n.2 t⟩
    rw [thaw_ne (fun hb => by rw [hb, ha] at q; unfold DkO at q; cases q)]
    exact q
  | .ptp ds, v, n, ⟨b, o, vs, e, q, m, r⟩ => by
    unfold noR at n
    refine ⟨b, o, vs, e, ?_, m, RepL.thawR ha ds vs n r⟩
    rw [thaw_ne (fun hb => by rw [hb, ha] at q; cases q)]
    exact q
  | .ins c ns ds, v, n, ⟨b, dx, vs, e, q, hl, r⟩ => by
    unfold noR at n
    refine ⟨b, dx, vs, e, ?_, hl, RepL.thawR ha ds vs n r⟩
    rw [thaw_ne (fun hb => by rw [hb, ha] at q; cases q)]
    exact q
theorem RepL.thawR {Z : Gh} {a : Addr} {od : Obj} {ws : List V} (ha : Z.fz a = some (.frz od (.lst ws))) : ∀ (ds : List D) (vs : List V), noRL ds = true → RepL K G Z ds vs → RepL K G (Z.thaw a) ds vs
  | [], _, _, h => h
  | d :: ds, vs, n, ⟨v, t, e, p, q⟩ => by
    unfold noRL at n
    rw [Bool.and_eq_true] at n
    exact ⟨v, t, e, Rep.thawR ha d v n.1 p, RepL.thawR ha ds t n.2 q⟩
end
theorem RepC.thawR {Z : Gh} {a b : Addr} {od : Obj} {ws : List V} {H : Hp} (ha : Z.fz a = some (.frz od (.lst ws))) {c : C} (n : noRC c = true) (h : RepC K G Z H b c) : RepC K G (Z.thaw a) H b c := by
  cases c with
  | lst ds => obtain ⟨vs, h1, r⟩ := h; exact ⟨vs, h1, RepL.thawR ha ds vs n r⟩
  | dct ks ds => obtain ⟨vs, h1, h2, r⟩ := h; exact ⟨vs, h1, h2, RepL.thawR ha ds vs n r⟩
  | dkd ks ds =>
    obtain ⟨xs, h1, h2, h3, h4⟩ := h
    unfold noRC at n
    rw [Bool.and_eq_true] at n
    exact ⟨xs, h1, h2, RepL.thawR ha ks _ n.1 h3, RepL.thawR ha ds _ n.2 h4⟩
  | ins c ns ds => obtain ⟨dx, vs, h1, h2, r⟩ := h; exact ⟨dx, vs, h1, h2, RepL.thawR ha ds vs n r⟩
  | tab z =>
    obtain ⟨e0, ps, h1, h2, k⟩ := h
    refine ⟨e0, ps, h1, h2, fun pos cv y => ?_⟩
    obtain ⟨c, q1, q2⟩ := k pos cv y
    refine ⟨c, q1, ?_⟩
    rw [thaw_ne]
    · exact q2
    · rintro rfl
      rw [ha] at q2
      unfold LamX.CodeO at q2
      cases q2
  | dead => trivial
theorem RelH.thawR {Z Z2 : Gh} {H H2 : Hp} {st st' : Sto} {k : Nat} {a : Addr} {od : Obj} {c0 : C} {ws : List V} (R : RelH K G Z H st) (hk : st[k]? = some c0) (hl0 : c0.live = true) (hp : Z.rho[k]? = some a) (hc0 : ∀ Z' H', Z.le Z' → H' a = some (.lst ws) → RepC K G Z' H' a c0) (l : Z.ex Z2) (tm : Z2.tmp = Z.tmp)
    (ha : Z2.fz a = some (.frz od (.lst ws))) (R2 : RelH K G Z2 H2 st') (hn : st'.all noRC = true) (hd : st'[k]? = some .dead) :
    Z.le (Z2.thaw a) ∧ RelH K G (Z2.thaw a) (upd H2 a (.lst ws)) (st'.set k c0) := by
  have za : Z.fz a = none := R.off k _ a hk hl0 hp
  have p2 : Z2.rho[k]? = some a := l.at hp
  have le : Z.le (Z2.thaw a) := ⟨fun b u e => by rw [thaw_ne (ne_of_none e za)]; exact l.fz _ _ e, l.rho, tm⟩
  have kl : k < st'.length := (List.getElem?_eq_some_iff.mp hd).1
  have alt : ∀ {i : Nat} {c : C}, (st'.set k c0)[i]? = some c → (i = k ∧ c = c0) ∨ (i ≠ k ∧ st'[i]? = some c) := fun {i c} e => by
    by_cases hi : i = k
    · subst hi
      rw [List.getElem?_set_self kl] at e
      cases e
      exact .inl ⟨rfl, rfl⟩
    · rw [List.getElem?_set_ne (Ne.symm hi)] at e
      exact .inr ⟨hi, e⟩
  have no : ∀ {i : Nat} {c : C}, st'[i]? = some c → noRC c = true := fun {i c} e => List.all_eq_true.mp hn c (List.mem_of_getElem? e)
  have ha2 : ∀ {i : Nat} {c : C}, st'[i]? = some c → c.live = true → Z2.rho[i]? ≠ some a := fun {i c} e hl hi => by
    have := R2.off i c a e hl hi
    rw [ha] at this
    cases this
  refine ⟨le, ⟨fun b u e => ?_, by rw [List.length_set]; exact R2.len, fun i c b e hr => ?_, fun i c b e hl hr => ?_, fun i j c c' b e1 e2 h1 h2 r1 r2 => ?_, fun b u e => ?_, fun b o e => ?_, G.mono le.fz R.lk⟩⟩
  · by_cases hb : b = a
    · subst hb
      have : (if b = b then none else Z2.fz b) = some u := e
      rw [if_pos rfl] at this
      cases this
    · rw [thaw_ne hb] at e
      rw [upd_ne hb]
      exact R2.fz _ _ e
  · rcases alt e with ⟨rfl, rfl⟩ | ⟨hi, e⟩
    · have hr' : Z2.rho[i]? = some b := hr
      rw [p2] at hr'
      cases hr'
      exact hc0 _ _ le upd_same
    · cases hl : c.live with
      | false => cases c <;> first | trivial | cases hl
      | true =>
        have ne : b ≠ a := fun z => ha2 e hl (by rw [← z]; exact hr)
        exact RepC.thawR ha (no e) (RepC.congr (upd_ne ne) (R2.cell i c b e hr))
  · rcases alt e with ⟨rfl, rfl⟩ | ⟨hi, e⟩
    · have hr' : Z2.rho[i]? = some b := hr
      rw [p2] at hr'
      cases hr'
      show (if a = a then none else Z2.fz a) = none
      rw [if_pos rfl]
    · have z := R2.off i c b e hl hr
      show (if b = a then none else Z2.fz b) = none
      rw [z]
      split <;> rfl
  · rcases alt e1 with ⟨i1, c1⟩ | ⟨hi, f1⟩
    · rcases alt e2 with ⟨j1, c2⟩ | ⟨hj, f2⟩
      · rw [i1, j1]
      · have r1' : Z2.rho[i]? = some b := r1
        rw [i1, p2] at r1'
        cases r1'
        exact absurd r2 (ha2 f2 h2)
    · rcases alt e2 with ⟨j1, c2⟩ | ⟨hj, f2⟩
      · have r2' : Z2.rho[j]? = some b := r2
        rw [j1, p2] at r2'
        cases r2'
        exact absurd r1 (ha2 f1 h1)
      · exact R2.inj i j c c' b f1 f2 h1 h2 r1 r2
  · have ne : b ≠ a := fun z => by
      have := (R2.tof b u e).1
      rw [z, ha] at this
      cases this
    rw [upd_ne ne]
    exact R2.tmp _ _ e
  · obtain ⟨t1, t2⟩ := R2.tof b o e
    refine ⟨?_, fun i c e1 hl hr => ?_⟩
    · show (if b = a then none else Z2.fz b) = none
      rw [t1]
      split <;> rfl
    · rcases alt e1 with ⟨rfl, rfl⟩ | ⟨hi, e1⟩
      · have hr' : Z2.rho[i]? = some b := hr
        rw [p2] at hr'
        cases hr'
        rw [ha] at t1
        cases t1
      · exact t2 i c e1 hl hr
end
section
variable {G : GA} {W : WX} {X : Cx} {e : Expr} {m : M}
end
end S
/-! xs.index(x) of a list of texts -/
namespace S
open PySem L2
section
variable {K : PySem.W.Frag} {G : GA}
end
end S
/-! y = {k: v for ..} on one line, y a local -/
namespace L2
open PySem PySem.Spec PyProof.Rows
section
variable {X : Cx}
end
end L2
namespace S
open PySem L2
section
variable {K : PySem.W.Frag} {G : GA} {W : WX} {t : Tg} {vs : List Nat} {mi : MA} {mt : MB} {mk mv : M} {σ : St} {H : Hp} {Q : VK}
end
section
variable {G : GA} {W : WX} {X : Cx} {kx vx tg iter : Expr} {ifs : List Expr} {pos : Pos} {t : Tg} {vs : List Nat} {mi : MA} {mt : MB} {mk mv : M} {scope : Scope} {own : List (Str × Nat)}
end
end S
/-! {k: v for ..} whose keys are nested tuples: a dict that may change on -/
namespace S
open PySem PySem.Spec L2 PyProof.Rows
section
variable {X : Cx} {pins : List (Addr × Obj)} {σ : L2.St} {H : Hp} {s : Shared} {n : Nat} {A : Around} {E : Value → Shared → Prop} {a : Addr} {y v : V} {u r : Value}
end
end S
/-! {k: v for ..} whose keys are nested tuples, over D -/
namespace S
open PySem L2
structure DnAt (K : PySem.W.Frag) (G : GA) (Z0 : Gh) (Dd : Addr) (ks ds : List D) (Z : Gh) (st : Sto) (H : Hp) : Prop where
  ex : Z0.ex Z
  rel : RelH K G Z H st
  at_ : ∃ xs : List (NestedKey × Addr × V), Z.tmp = upd Z0.tmp Dd (DkO G.w Dd xs) ∧ ks.map nk8 = xs.map (fun x => some x.1) ∧ RepL K G Z ks (xs.map fun x => .ref x.2.1) ∧ RepL K G Z ds (xs.map (·.2.2))
section
variable {K : PySem.W.Frag} {G : GA} {W : WX} {X : Cx} {tg iter kx vx : Expr} {ifs : List Expr} {pos : Pos} {t : Tg} {vs : List Nat} {mi : MA} {mt : MB} {mk mv : M} {Z0 Z : Gh} {Dd : Addr} {st : Sto} {H : Hp} {σ : L2.St} {ks : List D} {ds : List D}
theorem DnAt.le {Z' : Gh} {st' : Sto} {H' : Hp} (L : DnAt K G Z0 Dd ks ds Z st H) (l : Z.le Z') (R : RelH K G Z' H' st') : DnAt K G Z0 Dd ks ds Z' st' H' := by
  obtain ⟨e, _, xs, h1, h2, h3, h4⟩ := L
  exact ⟨e.trans l.ex, R, xs, l.tmp.trans h1, h2, RepL.up l _ _ h3, RepL.up l _ _ h4⟩
theorem DnAt.add {k : NestedKey} {y z : D} {v v' : V} (L : DnAt X.K G Z0 Dd ks ds Z st H) (hw : X.w = G.w) (hz : ks.length < sizeLine) (e : nk8 y = some k) (ry : Rep X.K G Z y v') (r : Rep X.K G Z z v) :
    ∃ H6, NPut X H Dd v' v H6 ∧ ∃ Z', DnAt X.K G Z0 Dd (putNk k y ks ds) (putNd k z ks ds) Z' st H6 := by
  obtain ⟨ex0, R, xs, h1, h2, h3, h4⟩ := L
  have hp : Z.tmp Dd = some (DkO G.w Dd xs) := by rw [h1, upd_same]
  obtain ⟨z1, z2, b, rfl⟩ := nk8_is R.fz e ry
  have hlz : xs.length < sizeLine := by
    have := congrArg List.length h2
    rw [List.length_map, List.length_map] at this
    omega
  obtain ⟨q1, q2, q3⟩ := putN_core (v := v) (b := b) e ry r h2 h3 h4
  have ex : Z.ex ⟨Z.fz, Z.rho, upd Z.tmp Dd (DkO G.w Dd (putT xs k b v))⟩ := ⟨Same.refl _, ⟨[], by simp⟩⟩
  refine ⟨upd H Dd (DkO G.w Dd (putT xs k b v)), ⟨xs, k, b, by rw [hw]; exact R.tmp _ _ hp, nks_of R.fz h2 h3, rfl, z1, z2, hlz, by rw [hw]⟩, ⟨Z.fz, Z.rho, upd Z.tmp Dd (DkO G.w Dd (putT xs k b v))⟩, ⟨ex0.trans ex, R.setTmp hp, putT xs k b v, ?_, q1, RepL.ux ex _ _ q2, RepL.ux ex _ _ q3⟩⟩
  show upd Z.tmp Dd _ = upd Z0.tmp Dd _
  rw [h1, upd_upd]
theorem DnAt.start (R : RelH K G Z0 H st) (hn : H Dd = none) : ∃ Z, DnAt K G Z0 Dd [] [] Z st (upd H Dd (DkO G.w Dd [])) :=
  ⟨⟨Z0.fz, Z0.rho, upd Z0.tmp Dd (DkO G.w Dd [])⟩, ⟨⟨Same.refl _, ⟨[], by simp⟩⟩, R.addTmp hn, [], rfl, rfl, rfl, rfl⟩⟩
variable {scope : Scope} {own : List (Str × Nat)} {Q : VK} {n : Nat}
end
end S
/-! t[::-1], t a tuple -/
namespace L2
open PySem PySem.Spec PyProof.Rows
section
variable {prog : Program} {w : World} {A : Around} {E : Value → Shared → Prop} {s : Shared}
end
section
variable {X : Cx}
end
end L2
namespace S
open PySem L2
section
variable {G : GA} {W : WX} {X : Cx} {e : Expr} {m : M} {k : Nat} {p1 p2 p3 pos : Pos}
end
end S
/-! match over a list of texts -/
namespace L2
open PySem PySem.Spec PyProof.Rows
/-- a pattern for a text -/
inductive P1 where
  | val (x : Str)
  | any
  | cap (n : Str) (i : Nat)
  | alt (xs : List Str)
def P1.res (q : P1) (x : Str) (u : Value) : Option (List (Str × Value)) := match q with
  | .val y => if x = y then some [] else none
  | .any => some []
  | .cap n _ => some [(n, u)]
  | .alt ys => if x ∈ ys then some [] else none
def P1.isAny : P1 → Bool
  | .any => true
  | _ => false
section
variable {prog : Program} {w : World} {A : Around} {E : Value → Shared → Prop} {s : Shared}
end
section
variable {X : Cx} {pins : List (Addr × Obj)} {σ : St} {H : Hp} {s : Shared}
structure PtOk (X : Cx) (p : Pattern) (q : P1) : Prop where
  run : ∀ (pins : List (Addr × Obj)) (s : Shared) (σ : St) (H : Hp) (x : Str) (u : Value) (Q : Option (List (Str × Value)) → Shared → Prop), Inv X pins σ H s → RelV (.str x) u → (∀ s', Inv X pins σ H s' → Q (q.res x u) s') →
    wpAny (model X.prog X.w) X.A (matchPattern p X.env u) Q X.xe s
  star : p.isStar = false
  wild : p.isWildcard = q.isAny
  back : p.comesBack = false ∨ p.comesBack = true
/-- "a" | "b" -/
inductive AltOk (X : Cx) : List Pattern → List Str → Prop
  | nil : AltOk X [] []
  | cons {p : Pattern} {ps : List Pattern} {y : Str} {ys : List Str} : PtOk X p (.val y) → AltOk X ps ys → AltOk X (p :: ps) (y :: ys)
inductive PtsOk (X : Cx) : List Pattern → List P1 → Prop
  | nil : PtsOk X [] []
  | cons {p : Pattern} {ps : List Pattern} {q : P1} {qs : List P1} : PtOk X p q → PtsOk X ps qs → PtsOk X (p :: ps) (q :: qs)
theorem PtsOk.length {ps : List Pattern} {qs : List P1} (h : PtsOk X ps qs) : ps.length = qs.length := by
  induction h with
  | nil => rfl
  | cons _ _ ih => simp [ih]
def P1.ok (q : P1) (x : Str) : Bool := match q with
  | .val y => decide (x = y)
  | .any => true
  | .cap _ _ => false
  | .alt ys => decide (x ∈ ys)
def okE : List P1 → List Str → Bool
  | q :: qs, x :: xs => q.ok x && okE qs xs
  | _, _ => true
/-! ### a pattern over the whole list -/
structure MP where
  star : Bool
  qs : List P1
def binds : List P1 → List Str → Option (List (Nat × Str))
  | q :: qs, x :: xs => match q with
    | .val y => if x = y then binds qs xs else none
    | .any => binds qs xs
    | .cap _ i => (binds qs xs).map fun bs => (i, x) :: bs
    | .alt ys => if x ∈ ys then binds qs xs else none
  | _, _ => some []
def MP.get (p : MP) (xs : List Str) : Option (List (Nat × Str)) :=
  if p.star = true then (if p.qs.length ≤ xs.length then (if okE p.qs xs = true then some [] else none) else none)
  else (if xs.length = p.qs.length then binds p.qs xs else none)
inductive BsOk (X : Cx) : List (Str × Value) → List (Nat × Str) → Prop
  | nil : BsOk X [] []
  | cons {n : Str} {u : Value} {rs : List (Str × Value)} {i : Nat} {x : Str} {bs : List (Nat × Str)} : X.N[i]? = some n → X.env.scope.names.lookup n = some .local → RelV (.str x) u → BsOk X rs bs → BsOk X ((n, u) :: rs) ((i, x) :: bs)
structure SqOk (X : Cx) (p : Pattern) (m : MP) : Prop where
  run : ∀ (pins : List (Addr × Obj)) (s : Shared) (σ : St) (H : Hp) (a : Addr) (xs : List Str) (Q : Option (List (Str × Value)) → Shared → Prop), Inv X pins σ H s → SqL X.K H a (xs.map V.str) →
    (m.get xs = none → ∀ s', Inv X pins σ H s' → Q none s') → (∀ bs, m.get xs = some bs → ∀ s' rs, Inv X pins σ H s' → BsOk X rs bs → Q (some rs) s') → wpAny (model X.prog X.w) X.A (matchPattern p X.env (.ref a)) Q X.xe s
end
end L2
namespace S
open PySem PySem.Spec L2 PyProof.Rows
section
variable {K : PySem.W.Frag} {G : GA} {W : WX} {X : Cx} {e : Expr} {m : M} {pos : Pos}
inductive MCs (X : Cx) (G : GA) (W : WX) : List MatchCase → List (MP × MS) → Prop
  | nil : MCs X G W [] []
  | cons {p : Pattern} {body : List Stmt} {cases : List MatchCase} {q : MP} {b : MS} {cs : List (MP × MS)} : SqOk X p q → PSs X body (tSS X.K G W b) → MCs X G W cases cs → MCs X G W (⟨p, none, body⟩ :: cases) ((q, b) :: cs)
end
end S
/-! o.f, f a property of the class of a thing that may change -/
namespace S
open PySem L2
section
variable {G : GA} {W : WX} {X : Cx} {k c : Nat} {p g : Addr} {f : Str} {fd : FuncData} {ps : List Str} {F : List D → Sto → R D} {o : Expr} {mo : M} {pos : Pos}
end
end S
/-! e.replace(..) of written texts, e a call at a written text ("..".join(..)) -/
namespace L2
open PySem PySem.Spec PyProof.Rows
section
variable {M : Model} {A : Around} {E : Value → Shared → Prop} {s : Shared} {env : Env}
end
section
variable {X : Cx} {o : Expr} {to : TE} {y z c : Str} {i j k : Nat} {c0 c1 p apos pos : Pos} {f : Value → Sem Value}
end
end L2
namespace S
open PySem L2
section
variable {G : GA} {W : WX} {X : Cx} {o : Expr} {mo : M} {y z c : Str} {i j k : Nat} {c0 c1 p apos pos : Pos} {f : Value → Sem Value}
end
end S
/-! int(a text) -/
namespace S
open PySem L2
end S
/-! a law whose text makes lambdas and asks repr: the end at the caller's own frame, which is under no repr -/
namespace S
open PySem PySem.Spec PyProof.Rows L2 LamX
section
variable {P : Program} {w : World} {K : PySem.W.Frag} {mg mb : Str → Option Value} {CX : CXT} {fa a c T : Addr} {s₁ : Shared} {vs : List Value} {ns : List Int}
/-- what lies at the script and at the table -/
structure Two (s₁ : Shared) (a T : Addr) (vs : List Value) (H : Hp) : Prop where
  atA : s₁.heap.get? a = some { cls := .type "list", data := .seq vs.toArray }
  atT : s₁.heap.get? T = some { cls := .none, data := .fields #[] }
  hT : H T = some (.tbl #[])
  one : ∀ b, b ≠ T → H b = none ∨ ∃ o xs, H b = some (.frz o (.lst xs))
  two : ∀ b, H b ≠ none → b = a ∨ b = T
theorem Two.ne (t : Two s₁ a T vs H) : a ≠ T := fun e => by
  have q := t.atA
  rw [e, t.atT] at q
  cases q
theorem Two.sees (t : Two s₁ a T vs H) {b : Addr} {o : Obj} (e : s₁.heap.get? b = some o) (h1 : ∀ x n, o.data ≠ .seq x n) (h2 : o.data ≠ .fields #[]) : (hidT s₁.heap H).get? b = some o := by
  refine hidT_get e (Classical.byContradiction fun q => ?_)
  rcases t.two b q with rfl | rfl
  · rw [t.atA] at e; cases e; exact h1 _ _ rfl
  · rw [t.atT] at e; cases e; exact h2 rfl
theorem Two.dict (t : Two s₁ a T vs H) {b : Addr} {m : Str → Option Value} : s₁.heap.Ns b m → (hidT s₁.heap H).Ns b m := fun ⟨o, es, ep, e, d, r⟩ =>
  ⟨o, es, ep, t.sees e (fun x n z => by rw [d] at z; cases z) (fun z => by rw [d] at z; cases z), d, r⟩
theorem Two.tab (t : Two s₁ a T vs H) (hns : s₁.heap.Ns mainGlobals mg) (C : PySem.W.CodeHd s₁.heap c T)
    (hbm : ∃ (bm : Addr) (ob : Obj), mg "__builtins__" = some (.ref bm) ∧ bm ≠ builtinsNs ∧ s₁.heap.get? bm = some ob ∧ ob.cls = .type "module" ∧ ob.dict = some builtinsNs ∧ ob.data = .plain) : TabB (hidT s₁.heap H) mg c T := by
  obtain ⟨og, es, ep, eg, dg, _⟩ := id hns
  obtain ⟨o, us, file, tf, flags, tg, inF, text, tt, e1, r1, r2, r3, r⟩ := C
  obtain ⟨bm, ob, b1, b2, b3, b4, b5, b6⟩ := hbm
  refine ⟨⟨o, us, file, tf, flags, tg, inF, text, tt, t.sees e1 (fun x n z => by rw [r2] at z; cases z) (fun z => by rw [r2] at z; cases z; simp at r3), r1, r2, r3, r⟩, ⟨bm, ob, b1, b2, fun q => ?_, fun q => ?_, t.sees b3 (fun x n z => by rw [b6] at z; cases z) (fun z => by rw [b6] at z; cases z), b4, b5, b6⟩, fun q => ?_⟩
  · rw [q, eg] at b3; cases b3; rw [dg] at b6; cases b6
  · rw [q, t.atT] at b3; cases b3; cases b6
  · rw [q, t.atT] at eg; cases eg; cases dg
end
end S
/-! repr of what a handler looks at -/
namespace L2
open PySem PySem.Spec PyProof.Rows
/-- as call_repr, where an exception is in the hand -/
theorem Room.u200 {k : Nat} {A : Around} (r : Room k A) : A.units + 200 < cLine := by have := r.un; omega
theorem call_reprU {X : Cx} (hg : X.A.guards = some []) (hr : X.A.units + 200 < cLine) : CallR X (.builtin "repr") (rRepr X.K) := fun pins s σ H xs us Q I r h => by
  obtain ⟨a, d, rfl, dp, hs, hnd, hdep, hsz, q⟩ := h
  obtain ⟨u, rfl, ru⟩ := r.one
  cases (show u = Value.ref a from ru)
  obtain ⟨as, rd⟩ := Dp.reads I d _ _ dp (show RelV (.ref a) (Value.ref a) from rfl)
  refine repr_of_reads' rd hs (PyData.noDict_hsm hnd) hg (by have : d.depth ≤ 50 := hdep; omega) (fun _ _ e => e) (fun h' u tk hk => ⟨.str d.shown, H, I.kept hk, ⟨u, rfl⟩, q⟩) hsz
end L2
namespace S
open PySem L2
section
variable {G : GA} {X : Cx} {a : Addr} {oe : Obj} {cls : Value} {d : Option Addr} {pn : List (Addr × Obj)} {i : Nat} {e : Expr} {es : List Expr} {x : Str} {p pos : Pos} {id : String} {r : List V → Hp → VK → Prop} {f : List D → Sto → R D} {m : MXA}
end
end S
/-! dict(pairs) that stays a cell -/
namespace S
open PySem L2
end S
/-! try with clauses at the end that nothing reaches -/
namespace S
open PySem PySem.Spec PyProof.Rows L2
inductive HdsAd (X : Cx) : List ExceptHandler → List (Value × Nat × (Addr → Value → Option Addr → TS)) → Prop
  | nil {hds : List ExceptHandler} : HdsAd X hds []
  | cons {x n : Str} {c : Value} {i : Nat} {ts : Addr → Value → Option Addr → TS} {b₀ : Stmt} {suite : List Stmt} {np pos' : Pos} {hds : List ExceptHandler} {l : List (Value × Nat × (Addr → Value → Option Addr → TS))} (hi : X.N[i]? = some n) (hln : X.env.kindOf n = some .local) (hc : Names X x c)
      (hsu : ∀ (a : Addr) (oe : Obj) (cls : Value) (d : Option Addr) (pn : List (Addr × Obj)), Zc cls d oe → (∃ vs, oe.data = .fields vs) → PSs (X.suite a ((a, oe) :: pn)) (b₀ :: suite) (ts a cls d)) (r : HdsAd X hds l) :
      HdsAd X (.ExceptHandler (some (.Name x np)) (some n) (b₀ :: suite) pos' :: hds) ((c, i, ts) :: l)
section
variable {X : Cx} {body : List Stmt} {h₀ : ExceptHandler} {hds : List ExceptHandler} {l : List (Value × Nat × (Addr → Value → Option Addr → TS))} {pos : Pos} {tb : WX → TS} {Wout : WX}
end
section
variable {G : GA} {W : WX} {X : Cx} {body : List Stmt} {h₀ : ExceptHandler} {hds : List ExceptHandler} {ks : List Cl} {pos : Pos} {m : MS}
/-- the clauses, with what they set -/
inductive ClsOd (X : Cx) (G : GA) : List ExceptHandler → List Cl → Prop
  | nil {hds : List ExceptHandler} : ClsOd X G hds []
  | cons {x n y : Str} {cv : Value} {i j : Nat} {ki : Ki} {q : MX} {e : Expr} {np pos' py ps : Pos} {hds : List ExceptHandler} {r : List Cl} (hi : X.N[i]? = some n) (hln : X.env.kindOf n = some .local) (hc : Names X x cv) (hk : ∀ c b, ki c = some b → PySem.W.exmOne X.K (.ref (G c)) cv = some b)
      (hj : X.N[j]? = some y) (hy : Loc X.env.scope y) (hfy : X.fn y = true ∨ X.env.scope.names.lookup y = some .local)
      (hq : ∀ (a : Addr) (oe : Obj) (cls : Value) (d : Option Addr) (pn : List (Addr × Obj)), Zc cls d oe → (∃ vs, oe.data = .fields vs) → PE (X.suite a ((a, oe) :: pn)) e (tX X.K G i a cls d q)) (r0 : ClsOd X G hds r)
      (hsw : swapsWith e (some (.Name y py)) ps.line X.env = pure false := by rfl) :
      ClsOd X G (.ExceptHandler (some (.Name x np)) (some n) [.Assign [.Name y py] e ps] pos' :: hds) (⟨ki, i, j, q⟩ :: r)
end
end S
/-! C.m(e, ..) within a try body; len(set(xs)) of texts -/
namespace S
open PySem PySem.Spec PyProof.Rows L2
section
variable {G : GA} {X : Cx} {W : WX} {k n : Nat} {g p : Addr} {F : List D → Sto → R D} {nm : Str} {pos apos : Pos} {e o : Expr} {es : List Expr} {m : MA} {mo : M} {mc : Value}
end
/-! ### len(set(xs)) -/
end S
/-! t.split(s), the list kept as a cell -/
namespace S
open PySem PySem.Spec PyProof.Rows L2
section
variable {K : PySem.W.Frag} {G : GA} {W : WX} {X : Cx} {o e : Expr} {m n : M} {pos apos : Pos} {σ : L2.St} {H : Hp}
end
end S
/-! a tuple times a number -/
namespace S
open PySem PySem.Spec PyProof.Rows L2
section
variable {K : PySem.W.Frag} {G : GA} {Z : Gh} {X : Cx}
end
end S
/-! a call in which no changing thing takes part, run as though one place were taken -/
namespace S
open PySem L2 PyProof.Rows
section
variable {K : PySem.W.Frag} {G : GA} {Z : Gh}
end
end S
/-! exceptions as values: made, looked at, their field read -/
namespace L2
open PySem PySem.Spec PyProof.Rows
section
variable {X : Cx} {x : Str} {C fI : Addr} {k : Nat} {fd : FuncData} {ps : List Str} {sp : Sp} {ds : List Value} {dvs : List V} {CX : CXT} {e : Expr} {es : List Expr} {ta : TA} {p pos : Pos} {B n i : String} {bmB : List Value}
/-- C(e, ..) as a value, C's own __init__ keeping sp -/
def tMkV (C : Addr) (sp : Sp) (dvs : List V) (ta : TA) : TE := fun σ H Q => ta σ H fun vs H1 => vs.length ≤ 1000 ∧ ∀ a, H1 a = none → sp (.ref a :: (vs ++ dvs)) (upd H1 a (exo a C none))
  (fun v H2 => v = .non ∧ Q (.ref a) H2) (fun _ _ _ => False)
theorem pe_oexV (T : OexC X.K C) (iC : PySem.W.findIn X.K (.ref C) "__init__" = some (some (.ref fI))) (tI : PySem.W.typeIn X.K (.ref fI) = some (.type "function"))
    (F1 : FnOk X.prog X.w X.K X.mg X.base CX k fI fd ps sp) (hr : Room (k + 1) X.A) (hb : Binds X.K fd ps ds) (hd : Vals dvs ds) (hx : Passes CX X (fun _ _ _ => False)) (hg : Gl X x) (hm : X.mg x = some (.ref C)) (ha : PA X (e :: es) ta)
    (hdb : (x == ("__debug__" : Str)) = false := by decide) (he : starEach (e :: es) X.env = (false, eval e X.env) :: starEach es X.env := by rfl) (hpl : (backTo pos (starEach es X.env)).any (·.1) = false := by rfl) :
    PE X (.Call (.Name x p) (e :: es) [] pos) (tMkV C sp dvs ta) := by
  refine ⟨fun pins s σ H Q I h => ?_⟩
  obtain ⟨nm, q, N, bs, bm, sn, sub, ab, col, dd, k0, k1, k2, k3, k5, hC, hbm⟩ := T.cls
  refine wpAny_Call_Name_kw (ld_glob I hg hm ?_ hdb)
  refine PySem.W.callWith_K (h₀ := X.base) I.ok.mod.kin T.kC (thn (ha.run pos pins s σ H _ I h) fun us s1 ⟨vs, H1, I1, r1, hz, q1⟩ => ⟨I1.kIn, ?_⟩) he hpl
  show wpAny _ _ (call (.ref C) us) _ _ _
  obtain ⟨hp, g, dr, tk, os⟩ := s1
  have hsz : hp.objs.size ≤ hp.objs.size + 1 := Nat.le_succ _
  have hn : H1 (hp.objs.size + 1) = none := I1.hok.fresh hsz
  have hq := q1 (hp.objs.size + 1) hn
  have kk : ∀ b o, hp.get? b = some o → ((hp.push (PySem.W.kdv_tup us)).push (PySem.HandSPX.excO C hp.objs.size)).get? b = some o := fun b o e => Heap.get?_push_of_some _ (Heap.get?_push_of_some _ e)
  have hget : ((hp.push (PySem.W.kdv_tup us)).push (PySem.HandSPX.excO C hp.objs.size)).get? (hp.objs.size + 1) = some (PySem.HandSPX.excO C hp.objs.size) := by heap_get
  have I2 : Inv X pins σ (upd H1 (hp.objs.size + 1) (exo (hp.objs.size + 1) C none)) ⟨(hp.push (PySem.W.kdv_tup us)).push (PySem.HandSPX.excO C hp.objs.size), g, dr, tk, os⟩ :=
    I1.laid (t' := tk) (a := hp.objs.size + 1) (o := exo (hp.objs.size + 1) C none) (h' := (hp.push (PySem.W.kdv_tup us)).push (PySem.HandSPX.excO C hp.objs.size)) kk hsz (exo_ok hget)
  have r2 : Vals (V.ref (hp.objs.size + 1) :: (vs ++ dvs)) (Value.ref (hp.objs.size + 1) :: (us ++ ds)) := .cons rfl (r1.append hd)
  have hl : (Value.ref (hp.objs.size + 1) :: us ++ ds).length = ps.length := by
    have e := r2.length
    rw [F1.len _ _ _ _ hq] at e
    exact e.symm
  have hus : us.length ≤ sizeLine := by
    rw [← Paired.length r1, sizeLine_eq]
    omega
  refine wpAny_call (PySem.HandSPX.call_own F.excBase_ValueError (fun Y => PySem.HandSPX.refsVE_contains Y bm hbm) (I1.kIn _ _ hC) (PySem.W.looks_findIn I1.kIn iC) (fun self => PySem.W.bind_fn I1.kIn self tI) hus
    (codeAny_mono (F1.run _ X.stack _ _ ⟨Value.ref (hp.objs.size + 1) :: us, []⟩ (Value.ref (hp.objs.size + 1) :: (us ++ ds)) _ _ (fun _ _ _ => False) (hr.make C us []) (I2.env0.make C us []) (hb _ (Value.ref (hp.objs.size + 1) :: us) I2.kIn hl) r2 hq) fun r s' hq' => ?_))
  cases r with
  | error er => exact hx pins σ _ _ er s' I2 hq'
  | ok fl =>
    cases fl with
    | ret u =>
      obtain ⟨v, H2, os2, bare2, un2, hok2, rv, ev, q2⟩ := hq'
      subst ev
      obtain ⟨h2, g2, d2, t2, os'⟩ := s'
      exact ⟨rv, .ref (hp.objs.size + 1), H2, I2.call' (ch := []) os2 un2 hok2 bare2 (fun b z => absurd z (by simp)), rfl, q2⟩
    | next => exact False.elim hq'
    | brk => exact False.elim hq'
    | cont => exact False.elim hq'
theorem pe_oexVB (XB : XBase B n i bmB) (T : OexB n bmB X.K C) (iC : PySem.W.findIn X.K (.ref C) "__init__" = some (some (.ref fI))) (tI : PySem.W.typeIn X.K (.ref fI) = some (.type "function"))
    (F1 : FnOk X.prog X.w X.K X.mg X.base CX k fI fd ps sp) (hr : Room (k + 1) X.A) (hb : Binds X.K fd ps ds) (hd : Vals dvs ds) (hx : Passes CX X (fun _ _ _ => False)) (hg : Gl X x) (hm : X.mg x = some (.ref C)) (ha : PA X (e :: es) ta)
    (hdb : (x == ("__debug__" : Str)) = false := by decide) (he : starEach (e :: es) X.env = (false, eval e X.env) :: starEach es X.env := by rfl) (hpl : (backTo pos (starEach es X.env)).any (·.1) = false := by rfl) :
    PE X (.Call (.Name x p) (e :: es) [] pos) (tMkV C sp dvs ta) := by
  refine ⟨fun pins s σ H Q I h => ?_⟩
  obtain ⟨_, _, _, _, l, _, _, _, _, _, _, _, _, _, _, hC, ht⟩ := T.cls
  refine wpAny_Call_Name_kw (ld_glob I hg hm ?_ hdb)
  refine PySem.W.callWith_K (h₀ := X.base) I.ok.mod.kin T.kC (thn (ha.run pos pins s σ H _ I h) fun us s1 ⟨vs, H1, I1, r1, hz, q1⟩ => ⟨I1.kIn, ?_⟩) he hpl
  show wpAny _ _ (call (.ref C) us) _ _ _
  obtain ⟨hp, g, dr, tk, os⟩ := s1
  have hsz : hp.objs.size ≤ hp.objs.size + 1 := Nat.le_succ _
  have hn : H1 (hp.objs.size + 1) = none := I1.hok.fresh hsz
  have hq := q1 (hp.objs.size + 1) hn
  have kk : ∀ b o, hp.get? b = some o → ((hp.push (PySem.W.kdv_tup us)).push (PySem.HandSPX.excO C hp.objs.size)).get? b = some o := fun b o e => Heap.get?_push_of_some _ (Heap.get?_push_of_some _ e)
  have hget : ((hp.push (PySem.W.kdv_tup us)).push (PySem.HandSPX.excO C hp.objs.size)).get? (hp.objs.size + 1) = some (PySem.HandSPX.excO C hp.objs.size) := by heap_get
  have I2 : Inv X pins σ (upd H1 (hp.objs.size + 1) (exo (hp.objs.size + 1) C none)) ⟨(hp.push (PySem.W.kdv_tup us)).push (PySem.HandSPX.excO C hp.objs.size), g, dr, tk, os⟩ :=
    I1.laid (t' := tk) (a := hp.objs.size + 1) (o := exo (hp.objs.size + 1) C none) (h' := (hp.push (PySem.W.kdv_tup us)).push (PySem.HandSPX.excO C hp.objs.size)) kk hsz (exo_ok hget)
  have r2 : Vals (V.ref (hp.objs.size + 1) :: (vs ++ dvs)) (Value.ref (hp.objs.size + 1) :: (us ++ ds)) := .cons rfl (r1.append hd)
  have hl : (Value.ref (hp.objs.size + 1) :: us ++ ds).length = ps.length := by
    have e := r2.length
    rw [F1.len _ _ _ _ hq] at e
    exact e.symm
  have hus : us.length ≤ sizeLine := by
    rw [← Paired.length r1, sizeLine_eq]
    omega
  refine wpAny_call (XB.mkO (fun Y => PySem.W.excTail_contains Y l ht) (I1.kIn _ _ hC) (PySem.W.looks_findIn I1.kIn iC) (fun self => PySem.W.bind_fn I1.kIn self tI) hus
    (codeAny_mono (F1.run _ X.stack _ _ ⟨Value.ref (hp.objs.size + 1) :: us, []⟩ (Value.ref (hp.objs.size + 1) :: (us ++ ds)) _ _ (fun _ _ _ => False) (hr.make C us []) (I2.env0.make C us []) (hb _ (Value.ref (hp.objs.size + 1) :: us) I2.kIn hl) r2 hq) fun r s' hq' => ?_))
  cases r with
  | error er => exact hx pins σ _ _ er s' I2 hq'
  | ok fl =>
    cases fl with
    | ret u =>
      obtain ⟨v, H2, os2, bare2, un2, hok2, rv, ev, q2⟩ := hq'
      subst ev
      obtain ⟨h2, g2, d2, t2, os'⟩ := s'
      exact ⟨rv, .ref (hp.objs.size + 1), H2, I2.call' (ch := []) os2 un2 hok2 bare2 (fun b z => absurd z (by simp)), rfl, q2⟩
    | next => exact False.elim hq'
    | brk => exact False.elim hq'
    | cont => exact False.elim hq'
/-- C() as a value, C an own exception class without own __init__ -/
theorem pe_exc0V {bm : List Value} {newId initId : String} (F : ExcBaseFacts B newId initId bm) (q : PySem.W.excIn X.K C bm newId = true) (gC : X.mg x = some (.ref C)) (kC : PySem.W.keepIn X.K (.ref C) = true) (hg : Gl X x)
    (hdb : (x == ("__debug__" : Str)) = false := by decide) :
    PE X (.Call (.Name x p) [] [] pos) (fun σ H Q => ∀ a, H a = none → Q (.ref a) (upd H a (exo a C none))) := by
  refine ⟨fun pins s σ H Q I h => ?_⟩
  refine wpAny_Call_Name_kw (ld_glob I hg gC ?_ hdb)
  refine PySem.W.callWith_K0 I.kIn kC ?_
  show wpAny _ _ (call (.ref C) []) _ _ _
  obtain ⟨bm', N, nm, qn, bs, hdct, sn, sub, ab, col, dd, k0, k1, k2, k3, k5, mN, hC, hN, hni, T⟩ := exc_obj I.kIn q
  refine wpAny_call_exc_subT F T hC hN hni (fun h' a hm => ?_) (Nat.zero_le _)
  have hn : H a = none := I.hok.gone hm.new
  obtain ⟨t, ht, _, _⟩ := hm.there
  exact ⟨.ref a, _, I.laidN hm.keeps hm.new hn (exo_ok ht), rfl, h a hn⟩
/-! ### isinstance(v, C), v an exception as a value -/
def rIsV (K : PySem.W.Frag) : List V → Hp → VK → Prop := fun xs H Q => ∃ (a D : Addr) (od : Option Addr) (c : V) (cv : Value) (b : Bool), xs = [.ref a, c] ∧ H a = some (exo a D od) ∧ (∀ d, od = some d → ∃ fs, H d = some (exd d fs)) ∧ ExcC K D ∧ ClsV c cv ∧ PySem.W.kitOne K (.ref D) cv = some b ∧ Q (.bl b) H
theorem exo_inst {pins : List (Addr × Obj)} {σ : St} {H : Hp} {s : Shared} {a D : Addr} {od : Option Addr} (I : Inv X pins σ H s) (ea : H a = some (exo a D od)) (ed : ∀ d, od = some d → ∃ fs, H d = some (exd d fs)) : ∃ oe oo, PySem.W.InstAt s.heap a oe D oo := by
  obtain ⟨t1, ho⟩ := exo_at I.hok ea
  cases od with
  | none => exact ⟨_, none, ho, rfl, rfl, trivial⟩
  | some d =>
    obtain ⟨fs, e2⟩ := ed d rfl
    obtain ⟨mA, hns, rel⟩ := exd_at I.hok e2
    obtain ⟨oD, _, _, hoD, _⟩ := hns
    exact ⟨_, some oD, ho, rfl, rfl, hoD⟩
theorem call_isV : CallR X (.builtin "isinstance") (rIsV X.K) := by
  intro pins s σ H xs us Q I r h
  obtain ⟨a, D, od, c, cv, b, rfl, ea, ed, Ec, kc, e, q⟩ := h
  cases r with
  | cons rx rr =>
    cases rr with
    | cons rt rr =>
      cases rr
      cases rx
      cases kc.eq rt
      obtain ⟨oe, oo, J⟩ := exo_inst I ea ed
      have hcl : (PySem.W.clsIn X.K D).isSome = true := by
        have := Ec.hd
        unfold PySem.W.hasDictIn at this
        cases z : PySem.W.clsIn X.K D with
        | none => rw [z] at this; cases this
        | some _ => rfl
      exact PySem.W.kia_one (PySem.W.kitx_exc hcl Ec.hg Ec.hk Ec.hs Ec.ha Ec.hn Ec.ht Ec.hm) I.kIn J e (fun z => nomatch z) fun tk => ⟨.bl b, H, I.kept (t' := tk) fun _ _ z => z, rfl, q⟩
/-! ### v.f, v an exception as a value -/
def tXv (K : PySem.W.Frag) (f : Str) (te : TE) : TE := fun σ H Q => te σ H fun x H1 => ∃ (a C dx : Addr) (fs : List (Str × V)) (v : V), x = .ref a ∧ H1 a = some (exo a C (some dx)) ∧ H1 dx = some (exd dx fs) ∧ XfC K C ∧ PySem.W.findIn K (.ref C) f = some none ∧ fs.lookup f = some v ∧ Q v H1
theorem pe_xfv {f : Str} {te : TE} (he : PE X e te) (hb : attributeBase e f X.env (eval e X.env) = eval e X.env := by rfl) : PE X (.Attribute e f pos) (tXv X.K f te) := by
  refine ⟨fun pins s σ H Q I h => ?_⟩
  refine attr_of hb (thn (he.run pins s σ H _ I h) fun u s1 hh => ?_)
  obtain ⟨x, H1, I1, rx, a, C, dx, fs, v, ex, ea, ed, T, hno, l, q⟩ := hh
  subst ex
  obtain rfl : u = Value.ref a := rx
  obtain ⟨t1, ho⟩ := exo_at I1.hok ea
  obtain ⟨mA, hns, hr⟩ := exd_at I1.hok ed
  obtain ⟨od, hod, hl⟩ := lookIn_ns hns
  obtain ⟨u, hu, ru⟩ := RelO.some_of (v := v) (o := mA f) (by rw [← l]; exact hr f)
  have J : PySem.W.InstAt s1.heap a _ C (some od) := ⟨ho, rfl, rfl, hod⟩
  exact HandSPX.exc_get I1.kIn J T.ga T.gg T.exC (PySem.W.findObj_own T.hdC hno rfl (by rw [hl, hu])) (handed_of ru) ⟨v, H1, I1.tok _, ru, q⟩
end
end L2
namespace S
open PySem PySem.Spec PyProof.Rows L2
def mExv (c : Nat) (fld : Str) (m : M) : M := fun env st => (m env st).bind fun d st1 => .ok (.exv c [fld] [d]) st1
def mExv0 (c : Nat) : M := fun env st => .ok (.exv c [] []) st
def dIsv (ki : Nat → Option Bool) (a : D) (st : Sto) : R D := match a with
  | .exv c _ _ => (match ki c with
    | some b => .ok (.bl b) st
    | none => .stuck)
  | _ => .stuck
def mIsv (ki : Nat → Option Bool) (m : M) : M := fun env st => (m env st).bind fun a st1 => dIsv ki a st1
def dXv (xa : Nat → Bool) (f : Str) (a : D) (st : Sto) : R D := match a with
  | .exv c [g] [d] => if g = f ∧ xa c = true then .ok d st else .stuck
  | _ => .stuck
def mXv (xa : Nat → Bool) (f : Str) (m : M) : M := fun env st => (m env st).bind fun a st1 => dXv xa f a st1
section
variable {K : PySem.W.Frag} {G : GA} {W : WX} {X : Cx} {Z : Gh}
theorem exv_end {E : XK} {c : Nat} {fld : Str} {y : V} {d : D} {H : Hp} {st : Sto} {Q : VK} (R : RelH K G Z H st) (r : Rep K G Z d y) (h : Post K G (rD K G) E Z (.ok (.exv c [fld] [d]) st) Q) : [y].length ≤ 1000 ∧ ∀ a, H a = none → spExc (G c) fld (.ref a :: ([y] ++ [])) (upd H a (exo a (G c) none))
    (fun v H2 => v = .non ∧ Q (.ref a) H2) (fun _ _ _ => False) := by
  refine ⟨by simp, fun a na => ⟨a, y, rfl, upd_same, fun dx n ne => ⟨rfl, ?_⟩⟩⟩
  have n' : H dx = none := by rw [upd_ne ne] at n; exact n
  obtain ⟨l1, R1⟩ := R.lay (o := exd dx [(fld, y)]) n'
  have na1 : upd H dx (exd dx [(fld, y)]) a = none := by rw [upd_ne (Ne.symm ne)]; exact na
  obtain ⟨l2, R2⟩ := R1.lay (o := exo a (G c) (some dx)) na1
  have e : upd (upd (upd H a (exo a (G c) none)) dx (exd dx [(fld, y)])) a (exo a (G c) (some dx)) = upd (upd H dx (exd dx [(fld, y)])) a (exo a (G c) (some dx)) := funext fun b => by
    by_cases hb : b = a
    · subst hb; rw [upd_same, upd_same]
    · rw [upd_ne hb, upd_ne hb]
      by_cases hd : b = dx
      · subst hd; rw [upd_same, upd_same]
      · rw [upd_ne hd, upd_ne hd, upd_ne hb]
  rw [e]
  refine h _ (.ref a) _ (l1.trans l2) R2 ⟨a, some dx, [y], rfl, upd_same, fun d' hd' => ?_, (fun z => nomatch z), rfl, y, [], rfl, Rep.up (l1.trans l2) d y r, rfl⟩
  cases hd'
  show upd (upd Z.fz dx _) a _ dx = _
  rw [upd_ne ne, upd_same]
  rfl
theorem pS_exv {c : Nat} {k : Nat} {fI : Addr} {fd : FuncData} {ps : List Str} {x fld : Str} {p pos : Pos} {e : Expr} {m : M} (Xc : Xn X.prog X.K X.mg x (G c) fI fld) (Fk : FnOk X.prog X.w X.K X.mg X.base (L2.CX X.prog X.w) k fI fd ps (spExc (G c) fld)) (hr : Room (k + 1) X.A) (hb : Binds X.K fd ps []) (hx : Passes (L2.CX X.prog X.w) X fun _ _ _ => False) (hg : Gl X x) (he : PE X e (tS X.K G W m))
    (hdb : (x == ("__debug__" : Str)) = false := by decide) (hs : starEach [e] X.env = (false, eval e X.env) :: starEach [] X.env := by rfl) (hpl : (backTo pos (starEach [] X.env)).any (·.1) = false := by rfl) :
    PE X (.Call (.Name x p) [e] [] pos) (tS X.K G W (mExv c fld m)) :=
  pe_of (pe_oexV Xc.o Xc.iC Xc.tI Fk hr hb .nil hx hg Xc.g (pa_cons he pa_nil hs) hdb hs hpl) fun σ H Q h => rs_bind (f := fun d _ st1 => S.R.ok (D.exv c [fld] [d]) st1) h fun d v H1 Z env st R S r q => exv_end R r q
theorem pS_exvB {B n i : String} {bmB : List Value} {c : Nat} {k : Nat} {fI : Addr} {fd : FuncData} {ps : List Str} {x fld : Str} {p pos : Pos} {e : Expr} {m : M} (Xc : XnB B n i bmB X.prog X.K X.mg x (G c) fI fld) (Fk : FnOk X.prog X.w X.K X.mg X.base (L2.CX X.prog X.w) k fI fd ps (spExc (G c) fld)) (hr : Room (k + 1) X.A) (hb : Binds X.K fd ps []) (hx : Passes (L2.CX X.prog X.w) X fun _ _ _ => False) (hg : Gl X x) (he : PE X e (tS X.K G W m))
    (hdb : (x == ("__debug__" : Str)) = false := by decide) (hs : starEach [e] X.env = (false, eval e X.env) :: starEach [] X.env := by rfl) (hpl : (backTo pos (starEach [] X.env)).any (·.1) = false := by rfl) :
    PE X (.Call (.Name x p) [e] [] pos) (tS X.K G W (mExv c fld m)) :=
  pe_of (pe_oexVB Xc.xb Xc.o Xc.iC Xc.tI Fk hr hb .nil hx hg Xc.g (pa_cons he pa_nil hs) hdb hs hpl) fun σ H Q h => rs_bind (f := fun d _ st1 => S.R.ok (D.exv c [fld] [d]) st1) h fun d v H1 Z env st R S r q => exv_end R r q
theorem pS_exv0 {c : Nat} {x : Str} {p pos : Pos} (Xc : Xn0 X.K X.mg x (G c)) (hg : Gl X x) (hdb : (x == ("__debug__" : Str)) = false := by decide) :
    PE X (.Call (.Name x p) [] [] pos) (tS X.K G W (mExv0 c)) :=
  pe_of (pe_exc0V PySem.F.excBase_ValueError Xc.ex Xc.g Xc.k hg hdb) fun σ H Q ⟨Z, env, st, R, S, h⟩ a ha => by
    obtain ⟨l, R'⟩ := R.lay (o := exo a (G c) none) ha
    exact h _ (.ref a) _ l R' ⟨a, none, [], rfl, upd_same, (fun d z => nomatch z), fun _ => rfl, rfl, rfl⟩
theorem pS_isv {ce e : Expr} {m : M} {p pos : Pos} {cl : V} {u : Value} {ki : Nat → Option Bool} (hc : PE X ce (tC cl)) (hcl : ClsV cl u) (hk : ∀ c b, ki c = some b → ExcC X.K (G c) ∧ PySem.W.kitOne X.K (.ref (G c)) u = some b) (hg : Gl X "isinstance") (hm : X.mg "isinstance" = none) (h : PE X e (tS X.K G W m))
    (he : starEach [e, ce] X.env = (false, eval e X.env) :: starEach [ce] X.env := by rfl) (he1 : starEach [ce] X.env = [(false, eval ce X.env)] := by rfl) (hpl : (backTo pos (starEach [ce] X.env)).any (·.1) = false := by rfl) :
    PE X (.Call (.Name "isinstance" p) [e, ce] [] pos) (tS X.K G W (mIsv ki m)) :=
  pe_of (pe_callB call_isV hg hm (by decide +kernel) (pa_cons h (pa_cons hc pa_nil he1) he) (by decide) (by decide) he hpl) fun σ H Q h => rs_bind (f := fun a _ st1 => dIsv ki a st1) h fun a x H1 Z env st R S r q => by
    unfold dIsv at q
    split at q
    · rename_i c ns ds
      split at q
      · rename_i b e1
        obtain ⟨ok, k1⟩ := hk _ b e1
        obtain ⟨a1, od, vs, rfl, q1, q2, _⟩ := r
        exact ⟨a1, G c, od, cl, u, b, rfl, R.fz _ _ q1, fun d hd => ⟨_, R.fz _ _ (q2 d hd)⟩, ok, hcl, k1, Post.now (P := rD X.K G) q R rfl⟩
      · exact q.elim
    · exact q.elim
theorem pS_xv {e : Expr} {m : M} {f : Str} {pos : Pos} {xa : Nat → Bool} (hxa : ∀ c, xa c = true → XfC X.K (G c) ∧ PySem.W.findIn X.K (.ref (G c)) f = some none) (h : PE X e (tS X.K G W m)) (hb : attributeBase e f X.env (eval e X.env) = eval e X.env := by rfl) :
    PE X (.Attribute e f pos) (tS X.K G W (mXv xa f m)) :=
  pe_of (pe_xfv h hb) fun σ H Q h => rs_bind (f := fun a _ st1 => dXv xa f a st1) h fun a x H1 Z env st R S r q => by
    unfold dXv at q
    split at q
    · rename_i c g d
      split at q
      · rename_i hh
        obtain ⟨rfl, hx⟩ := hh
        obtain ⟨a1, od, vs, rfl, q1, q2, q3, hl, rr⟩ := r
        obtain ⟨v, t, rfl, rv, rn⟩ := rr
        cases (show t = [] from rn)
        cases od with
        | none => cases q3 rfl
        | some dx => exact ⟨a1, G c, dx, _, v, rfl, R.fz _ _ q1, R.fz _ _ (q2 dx rfl), (hxa c hx).1, (hxa c hx).2, by simp [List.lookup], Post.now (P := rD X.K G) q R rv⟩
      · exact q.elim
    · exact q.elim
end
end S
namespace K
open PySem L2 S
abbrev PG : Program := PySem.Challenge.pw_wholetraces_k01_errors_and_what_they_kee
def topS (i : Nat) : Stmt := PG.main.body.getD i (.Pass ⟨0, 0, 0, 0⟩)
abbrev s_InvalidRow_init : Stmt := inClass (topS 2) 0
theorem sc_InvalidRow_init : FnScopeS ["self", "word"] ["self", "word"] (defScope s_InvalidRow_init) := ⟨rfl, rfl, rfl, by decide +kernel, rfl, by decide +kernel, by decide +kernel, by decide +kernel, rfl, rfl⟩
abbrev s_InvalidService_init : Stmt := inClass (topS 3) 0
theorem sc_InvalidService_init : FnScopeS ["self", "word"] ["self", "word"] (defScope s_InvalidService_init) := ⟨rfl, rfl, rfl, by decide +kernel, rfl, by decide +kernel, by decide +kernel, by decide +kernel, rfl, rfl⟩
abbrev s_InvalidBook_init : Stmt := inClass (topS 4) 0
theorem sc_InvalidBook_init : FnScopeS ["self", "word"] ["self", "word"] (defScope s_InvalidBook_init) := ⟨rfl, rfl, rfl, by decide +kernel, rfl, by decide +kernel, by decide +kernel, by decide +kernel, rfl, rfl⟩
abbrev s_InvalidText_init : Stmt := inClass (topS 5) 0
theorem sc_InvalidText_init : FnScopeS ["self", "at"] ["self", "at"] (defScope s_InvalidText_init) := ⟨rfl, rfl, rfl, by decide +kernel, rfl, by decide +kernel, by decide +kernel, by decide +kernel, rfl, rfl⟩
abbrev s_InvalidTree_init : Stmt := inClass (topS 6) 0
theorem sc_InvalidTree_init : FnScopeS ["self", "word"] ["self", "word"] (defScope s_InvalidTree_init) := ⟨rfl, rfl, rfl, by decide +kernel, rfl, by decide +kernel, by decide +kernel, by decide +kernel, rfl, rfl⟩
abbrev s_Refused_init : Stmt := inClass (topS 9) 0
theorem sc_Refused_init : FnScopeS ["self", "word"] ["self", "word"] (defScope s_Refused_init) := ⟨rfl, rfl, rfl, by decide +kernel, rfl, by decide +kernel, by decide +kernel, by decide +kernel, rfl, rfl⟩
abbrev s_NoRow_init : Stmt := inClass (topS 10) 0
theorem sc_NoRow_init : FnScopeS ["self", "at"] ["self", "at"] (defScope s_NoRow_init) := ⟨rfl, rfl, rfl, by decide +kernel, rfl, by decide +kernel, by decide +kernel, by decide +kernel, rfl, rfl⟩
abbrev s_NoService_init : Stmt := inClass (topS 11) 0
theorem sc_NoService_init : FnScopeS ["self", "name"] ["self", "name"] (defScope s_NoService_init) := ⟨rfl, rfl, rfl, by decide +kernel, rfl, by decide +kernel, by decide +kernel, by decide +kernel, rfl, rfl⟩
abbrev s__law_box : Stmt := topS 13
theorem sc__law_box : FnScope ["_law_script", "_law_k", "_law_cell", "_law_seed", "_law_wide"] ["_law_script", "_law_k"] (defScope s__law_box) := ⟨rfl, rfl, rfl, by decide +kernel, rfl, by decide +kernel, by decide +kernel⟩
abbrev s__law_take : Stmt := topS 14
theorem sc__law_take : FnScope ["_law_box_here", "_law_many", "_law_digit", "_law_near"] ["_law_box_here", "_law_many"] (defScope s__law_take) := ⟨rfl, rfl, rfl, by decide +kernel, rfl, by decide +kernel, by decide +kernel⟩
abbrev s__law_pick : Stmt := topS 15
theorem sc__law_pick : FnScope ["_law_box_here", "_law_some"] ["_law_box_here", "_law_some"] (defScope s__law_pick) := ⟨rfl, rfl, rfl, by decide +kernel, rfl, by decide +kernel, by decide +kernel⟩
abbrev s__law_any : Stmt := topS 16
theorem sc__law_any : FnScope ["_law_box_here", "_law_deep", "_law_form", "_law_some", "_law_words", "_law_plain", "_law_k"] ["_law_box_here", "_law_deep"] (defScope s__law_any) := ⟨rfl, rfl, rfl, by decide +kernel, rfl, by decide +kernel, by decide +kernel⟩
abbrev s__law_made : Stmt := topS 17
theorem sc__law_made : FnScope ["_law_at", "_law_value"] ["_law_at", "_law_value"] (defScope s__law_made) := ⟨rfl, rfl, rfl, by decide +kernel, rfl, by decide +kernel, by decide +kernel⟩
abbrev s__law_sorts : Stmt := topS 18
theorem sc__law_sorts : FnScope ["_law_e", "_law_found", "_law_at", "_law_is_so"] ["_law_e"] (defScope s__law_sorts) := ⟨rfl, rfl, rfl, by decide +kernel, rfl, by decide +kernel, by decide +kernel⟩
abbrev s__law_kept : Stmt := topS 19
theorem sc__law_kept : FnScope ["_law_e", "_law_at"] ["_law_e", "_law_at"] (defScope s__law_kept) := ⟨rfl, rfl, rfl, by decide +kernel, rfl, by decide +kernel, by decide +kernel⟩
abbrev s_law : Stmt := topS 20
theorem sc_law : FnScope ["_law_script", "_law_k", "_law_box_here", "_law_at", "_law_value", "_law_e", "_law_told"] ["_law_script"] (defScope s_law) := ⟨rfl, rfl, rfl, by decide +kernel, rfl, by decide +kernel, by decide +kernel⟩
structure Ad where
  w : World
  okk : Hp → Prop
  okm : ∀ {f f' : Hp}, Same f f' → okk f → okk f'
  InvalidRow_init : Addr
  InvalidRow_init_d : FuncData
  InvalidService_init : Addr
  InvalidService_init_d : FuncData
  InvalidBook_init : Addr
  InvalidBook_init_d : FuncData
  InvalidText_init : Addr
  InvalidText_init_d : FuncData
  InvalidTree_init : Addr
  InvalidTree_init_d : FuncData
  Refused_init : Addr
  Refused_init_d : FuncData
  NoRow_init : Addr
  NoRow_init_d : FuncData
  NoService_init : Addr
  NoService_init_d : FuncData
  _law_box : Addr
  _law_box_d : FuncData
  _law_take : Addr
  _law_take_d : FuncData
  _law_pick : Addr
  _law_pick_d : FuncData
  _law_any : Addr
  _law_any_d : FuncData
  _law_made : Addr
  _law_made_d : FuncData
  _law_sorts : Addr
  _law_sorts_d : FuncData
  _law_kept : Addr
  _law_kept_d : FuncData
  law : Addr
  law_d : FuncData
  C_InvalidRow : Addr
  C_InvalidService : Addr
  C_InvalidBook : Addr
  C_InvalidText : Addr
  C_InvalidTree : Addr
  C_Refused : Addr
  C_NoRow : Addr
  C_NoService : Addr
  C_Mismatch : Addr
  C_InvalidCommand : Addr
  C_TraceError : Addr
def Ad.Gf (A : Ad) : Nat → Addr
  | 0 => A.C_InvalidRow
  | 1 => A.C_InvalidService
  | 2 => A.C_InvalidBook
  | 3 => A.C_InvalidText
  | 4 => A.C_InvalidTree
  | 5 => A.C_Refused
  | 6 => A.C_NoRow
  | 7 => A.C_NoService
  | 8 => A.C_Mismatch
  | 9 => A.C_InvalidCommand
  | _ => 0
def Ad.G (A : Ad) : GA := ⟨A.Gf, A.w, A.okk, A.okm⟩
structure Tx (K : PySem.W.Frag) (mg : Str → Option Value) (A : Ad) : Prop where
  InvalidRow_init : Sn PG K "__init__" "InvalidRow.__init__" s_InvalidRow_init ["self", "word"] A.InvalidRow_init A.InvalidRow_init_d A.C_InvalidRow
  InvalidService_init : Sn PG K "__init__" "InvalidService.__init__" s_InvalidService_init ["self", "word"] A.InvalidService_init A.InvalidService_init_d A.C_InvalidService
  InvalidBook_init : Sn PG K "__init__" "InvalidBook.__init__" s_InvalidBook_init ["self", "word"] A.InvalidBook_init A.InvalidBook_init_d A.C_InvalidBook
  InvalidText_init : Sn PG K "__init__" "InvalidText.__init__" s_InvalidText_init ["self", "at"] A.InvalidText_init A.InvalidText_init_d A.C_InvalidText
  InvalidTree_init : Sn PG K "__init__" "InvalidTree.__init__" s_InvalidTree_init ["self", "word"] A.InvalidTree_init A.InvalidTree_init_d A.C_InvalidTree
  Refused_init : Sn PG K "__init__" "Refused.__init__" s_Refused_init ["self", "word"] A.Refused_init A.Refused_init_d A.C_Refused
  NoRow_init : Sn PG K "__init__" "NoRow.__init__" s_NoRow_init ["self", "at"] A.NoRow_init A.NoRow_init_d A.C_NoRow
  NoService_init : Sn PG K "__init__" "NoService.__init__" s_NoService_init ["self", "name"] A.NoService_init A.NoService_init_d A.C_NoService
  _law_box : Dv K mg "_law_box" "_law_box" "_law_box" s__law_box ["_law_script", "_law_k"] [] A._law_box A._law_box_d
  _law_take : Dv K mg "_law_take" "_law_take" "_law_take" s__law_take ["_law_box_here", "_law_many"] [] A._law_take A._law_take_d
  _law_pick : Dv K mg "_law_pick" "_law_pick" "_law_pick" s__law_pick ["_law_box_here", "_law_some"] [] A._law_pick A._law_pick_d
  _law_any : Dv K mg "_law_any" "_law_any" "_law_any" s__law_any ["_law_box_here", "_law_deep"] [] A._law_any A._law_any_d
  _law_made : Dv K mg "_law_made" "_law_made" "_law_made" s__law_made ["_law_at", "_law_value"] [] A._law_made A._law_made_d
  _law_sorts : Dv K mg "_law_sorts" "_law_sorts" "_law_sorts" s__law_sorts ["_law_e"] [] A._law_sorts A._law_sorts_d
  _law_kept : Dv K mg "_law_kept" "_law_kept" "_law_kept" s__law_kept ["_law_e", "_law_at"] [] A._law_kept A._law_kept_d
  law : Dv K mg "law" "law" "law" s_law ["_law_script"] [] A.law A.law_d
  b_len : mg "len" = none
  b_abs : mg "abs" = none
  b_max : mg "max" = none
  b_min : mg "min" = none
  b_int : mg "int" = none
  b_isinstance : mg "isinstance" = none
  b_range : mg "range" = none
  b_tuple : mg "tuple" = none
  b_enumerate : mg "enumerate" = none
  b_repr : mg "repr" = none
  b_ValueError : mg "ValueError" = none
  b_IndexError : mg "IndexError" = none
  b_KeyError : mg "KeyError" = none
  sup : SupT PG K mg
  g_TraceError : mg "TraceError" = some (.ref A.C_TraceError)
  X_InvalidRow : Xn PG K mg "InvalidRow" A.C_InvalidRow A.InvalidRow_init "word"
  X_InvalidService : Xn PG K mg "InvalidService" A.C_InvalidService A.InvalidService_init "word"
  X_InvalidBook : Xn PG K mg "InvalidBook" A.C_InvalidBook A.InvalidBook_init "word"
  X_InvalidText : Xn PG K mg "InvalidText" A.C_InvalidText A.InvalidText_init "at"
  X_InvalidTree : Xn PG K mg "InvalidTree" A.C_InvalidTree A.InvalidTree_init "word"
  X_Refused : Xn PG K mg "Refused" A.C_Refused A.Refused_init "word"
  X_NoRow : XnB "IndexError" "IndexError.__new__" "IndexError.__init__" [.type "IndexError", .type "LookupError", .type "Exception", .type "BaseException", .type "object"] PG K mg "NoRow" A.C_NoRow A.NoRow_init "at"
  X_NoService : XnB "KeyError" "LookupError.__new__" "KeyError.__init__" [.type "KeyError", .type "LookupError", .type "Exception", .type "BaseException", .type "object"] PG K mg "NoService" A.C_NoService A.NoService_init "name"
  X_Mismatch : Xn0 K mg "Mismatch" A.C_Mismatch
  X_InvalidCommand : Xn0 K mg "InvalidCommand" A.C_InvalidCommand
  kx_InvalidRow_ValueError : PySem.W.kitOne K (.ref A.C_InvalidRow) (.type "ValueError") = some true
  kx_InvalidService_ValueError : PySem.W.kitOne K (.ref A.C_InvalidService) (.type "ValueError") = some true
  kx_InvalidBook_ValueError : PySem.W.kitOne K (.ref A.C_InvalidBook) (.type "ValueError") = some true
  kx_InvalidText_ValueError : PySem.W.kitOne K (.ref A.C_InvalidText) (.type "ValueError") = some true
  kx_InvalidTree_ValueError : PySem.W.kitOne K (.ref A.C_InvalidTree) (.type "ValueError") = some true
  kx_Refused_ValueError : PySem.W.kitOne K (.ref A.C_Refused) (.type "ValueError") = some true
  kx_NoRow_ValueError : PySem.W.kitOne K (.ref A.C_NoRow) (.type "ValueError") = some false
  kx_NoService_ValueError : PySem.W.kitOne K (.ref A.C_NoService) (.type "ValueError") = some false
  kx_Mismatch_ValueError : PySem.W.kitOne K (.ref A.C_Mismatch) (.type "ValueError") = some true
  kx_InvalidCommand_ValueError : PySem.W.kitOne K (.ref A.C_InvalidCommand) (.type "ValueError") = some true
  kx_InvalidRow_IndexError : PySem.W.kitOne K (.ref A.C_InvalidRow) (.type "IndexError") = some false
  kx_InvalidService_IndexError : PySem.W.kitOne K (.ref A.C_InvalidService) (.type "IndexError") = some false
  kx_InvalidBook_IndexError : PySem.W.kitOne K (.ref A.C_InvalidBook) (.type "IndexError") = some false
  kx_InvalidText_IndexError : PySem.W.kitOne K (.ref A.C_InvalidText) (.type "IndexError") = some false
  kx_InvalidTree_IndexError : PySem.W.kitOne K (.ref A.C_InvalidTree) (.type "IndexError") = some false
  kx_Refused_IndexError : PySem.W.kitOne K (.ref A.C_Refused) (.type "IndexError") = some false
  kx_NoRow_IndexError : PySem.W.kitOne K (.ref A.C_NoRow) (.type "IndexError") = some true
  kx_NoService_IndexError : PySem.W.kitOne K (.ref A.C_NoService) (.type "IndexError") = some false
  kx_Mismatch_IndexError : PySem.W.kitOne K (.ref A.C_Mismatch) (.type "IndexError") = some false
  kx_InvalidCommand_IndexError : PySem.W.kitOne K (.ref A.C_InvalidCommand) (.type "IndexError") = some false
  kx_InvalidRow_KeyError : PySem.W.kitOne K (.ref A.C_InvalidRow) (.type "KeyError") = some false
  kx_InvalidService_KeyError : PySem.W.kitOne K (.ref A.C_InvalidService) (.type "KeyError") = some false
  kx_InvalidBook_KeyError : PySem.W.kitOne K (.ref A.C_InvalidBook) (.type "KeyError") = some false
  kx_InvalidText_KeyError : PySem.W.kitOne K (.ref A.C_InvalidText) (.type "KeyError") = some false
  kx_InvalidTree_KeyError : PySem.W.kitOne K (.ref A.C_InvalidTree) (.type "KeyError") = some false
  kx_Refused_KeyError : PySem.W.kitOne K (.ref A.C_Refused) (.type "KeyError") = some false
  kx_NoRow_KeyError : PySem.W.kitOne K (.ref A.C_NoRow) (.type "KeyError") = some false
  kx_NoService_KeyError : PySem.W.kitOne K (.ref A.C_NoService) (.type "KeyError") = some true
  kx_Mismatch_KeyError : PySem.W.kitOne K (.ref A.C_Mismatch) (.type "KeyError") = some false
  kx_InvalidCommand_KeyError : PySem.W.kitOne K (.ref A.C_InvalidCommand) (.type "KeyError") = some false
  ki_InvalidRow_InvalidRow : PySem.W.kitOne K (.ref A.C_InvalidRow) (.ref A.C_InvalidRow) = some true
  ki_InvalidRow_InvalidService : PySem.W.kitOne K (.ref A.C_InvalidRow) (.ref A.C_InvalidService) = some false
  ki_InvalidRow_InvalidBook : PySem.W.kitOne K (.ref A.C_InvalidRow) (.ref A.C_InvalidBook) = some false
  ki_InvalidRow_InvalidText : PySem.W.kitOne K (.ref A.C_InvalidRow) (.ref A.C_InvalidText) = some false
  ki_InvalidRow_InvalidTree : PySem.W.kitOne K (.ref A.C_InvalidRow) (.ref A.C_InvalidTree) = some false
  ki_InvalidRow_Refused : PySem.W.kitOne K (.ref A.C_InvalidRow) (.ref A.C_Refused) = some false
  ki_InvalidRow_NoRow : PySem.W.kitOne K (.ref A.C_InvalidRow) (.ref A.C_NoRow) = some false
  ki_InvalidRow_NoService : PySem.W.kitOne K (.ref A.C_InvalidRow) (.ref A.C_NoService) = some false
  ki_InvalidRow_Mismatch : PySem.W.kitOne K (.ref A.C_InvalidRow) (.ref A.C_Mismatch) = some false
  ki_InvalidRow_InvalidCommand : PySem.W.kitOne K (.ref A.C_InvalidRow) (.ref A.C_InvalidCommand) = some false
  ki_InvalidRow_TraceError : PySem.W.kitOne K (.ref A.C_InvalidRow) (.ref A.C_TraceError) = some true
  ki_InvalidService_InvalidRow : PySem.W.kitOne K (.ref A.C_InvalidService) (.ref A.C_InvalidRow) = some false
  ki_InvalidService_InvalidService : PySem.W.kitOne K (.ref A.C_InvalidService) (.ref A.C_InvalidService) = some true
  ki_InvalidService_InvalidBook : PySem.W.kitOne K (.ref A.C_InvalidService) (.ref A.C_InvalidBook) = some false
  ki_InvalidService_InvalidText : PySem.W.kitOne K (.ref A.C_InvalidService) (.ref A.C_InvalidText) = some false
  ki_InvalidService_InvalidTree : PySem.W.kitOne K (.ref A.C_InvalidService) (.ref A.C_InvalidTree) = some false
  ki_InvalidService_Refused : PySem.W.kitOne K (.ref A.C_InvalidService) (.ref A.C_Refused) = some false
  ki_InvalidService_NoRow : PySem.W.kitOne K (.ref A.C_InvalidService) (.ref A.C_NoRow) = some false
  ki_InvalidService_NoService : PySem.W.kitOne K (.ref A.C_InvalidService) (.ref A.C_NoService) = some false
  ki_InvalidService_Mismatch : PySem.W.kitOne K (.ref A.C_InvalidService) (.ref A.C_Mismatch) = some false
  ki_InvalidService_InvalidCommand : PySem.W.kitOne K (.ref A.C_InvalidService) (.ref A.C_InvalidCommand) = some false
  ki_InvalidService_TraceError : PySem.W.kitOne K (.ref A.C_InvalidService) (.ref A.C_TraceError) = some true
  ki_InvalidBook_InvalidRow : PySem.W.kitOne K (.ref A.C_InvalidBook) (.ref A.C_InvalidRow) = some false
  ki_InvalidBook_InvalidService : PySem.W.kitOne K (.ref A.C_InvalidBook) (.ref A.C_InvalidService) = some false
  ki_InvalidBook_InvalidBook : PySem.W.kitOne K (.ref A.C_InvalidBook) (.ref A.C_InvalidBook) = some true
  ki_InvalidBook_InvalidText : PySem.W.kitOne K (.ref A.C_InvalidBook) (.ref A.C_InvalidText) = some false
  ki_InvalidBook_InvalidTree : PySem.W.kitOne K (.ref A.C_InvalidBook) (.ref A.C_InvalidTree) = some false
  ki_InvalidBook_Refused : PySem.W.kitOne K (.ref A.C_InvalidBook) (.ref A.C_Refused) = some false
  ki_InvalidBook_NoRow : PySem.W.kitOne K (.ref A.C_InvalidBook) (.ref A.C_NoRow) = some false
  ki_InvalidBook_NoService : PySem.W.kitOne K (.ref A.C_InvalidBook) (.ref A.C_NoService) = some false
  ki_InvalidBook_Mismatch : PySem.W.kitOne K (.ref A.C_InvalidBook) (.ref A.C_Mismatch) = some false
  ki_InvalidBook_InvalidCommand : PySem.W.kitOne K (.ref A.C_InvalidBook) (.ref A.C_InvalidCommand) = some false
  ki_InvalidBook_TraceError : PySem.W.kitOne K (.ref A.C_InvalidBook) (.ref A.C_TraceError) = some true
  ki_InvalidText_InvalidRow : PySem.W.kitOne K (.ref A.C_InvalidText) (.ref A.C_InvalidRow) = some false
  ki_InvalidText_InvalidService : PySem.W.kitOne K (.ref A.C_InvalidText) (.ref A.C_InvalidService) = some false
  ki_InvalidText_InvalidBook : PySem.W.kitOne K (.ref A.C_InvalidText) (.ref A.C_InvalidBook) = some false
  ki_InvalidText_InvalidText : PySem.W.kitOne K (.ref A.C_InvalidText) (.ref A.C_InvalidText) = some true
  ki_InvalidText_InvalidTree : PySem.W.kitOne K (.ref A.C_InvalidText) (.ref A.C_InvalidTree) = some false
  ki_InvalidText_Refused : PySem.W.kitOne K (.ref A.C_InvalidText) (.ref A.C_Refused) = some false
  ki_InvalidText_NoRow : PySem.W.kitOne K (.ref A.C_InvalidText) (.ref A.C_NoRow) = some false
  ki_InvalidText_NoService : PySem.W.kitOne K (.ref A.C_InvalidText) (.ref A.C_NoService) = some false
  ki_InvalidText_Mismatch : PySem.W.kitOne K (.ref A.C_InvalidText) (.ref A.C_Mismatch) = some false
  ki_InvalidText_InvalidCommand : PySem.W.kitOne K (.ref A.C_InvalidText) (.ref A.C_InvalidCommand) = some false
  ki_InvalidText_TraceError : PySem.W.kitOne K (.ref A.C_InvalidText) (.ref A.C_TraceError) = some true
  ki_InvalidTree_InvalidRow : PySem.W.kitOne K (.ref A.C_InvalidTree) (.ref A.C_InvalidRow) = some false
  ki_InvalidTree_InvalidService : PySem.W.kitOne K (.ref A.C_InvalidTree) (.ref A.C_InvalidService) = some false
  ki_InvalidTree_InvalidBook : PySem.W.kitOne K (.ref A.C_InvalidTree) (.ref A.C_InvalidBook) = some false
  ki_InvalidTree_InvalidText : PySem.W.kitOne K (.ref A.C_InvalidTree) (.ref A.C_InvalidText) = some false
  ki_InvalidTree_InvalidTree : PySem.W.kitOne K (.ref A.C_InvalidTree) (.ref A.C_InvalidTree) = some true
  ki_InvalidTree_Refused : PySem.W.kitOne K (.ref A.C_InvalidTree) (.ref A.C_Refused) = some false
  ki_InvalidTree_NoRow : PySem.W.kitOne K (.ref A.C_InvalidTree) (.ref A.C_NoRow) = some false
  ki_InvalidTree_NoService : PySem.W.kitOne K (.ref A.C_InvalidTree) (.ref A.C_NoService) = some false
  ki_InvalidTree_Mismatch : PySem.W.kitOne K (.ref A.C_InvalidTree) (.ref A.C_Mismatch) = some false
  ki_InvalidTree_InvalidCommand : PySem.W.kitOne K (.ref A.C_InvalidTree) (.ref A.C_InvalidCommand) = some false
  ki_InvalidTree_TraceError : PySem.W.kitOne K (.ref A.C_InvalidTree) (.ref A.C_TraceError) = some true
  ki_Refused_InvalidRow : PySem.W.kitOne K (.ref A.C_Refused) (.ref A.C_InvalidRow) = some false
  ki_Refused_InvalidService : PySem.W.kitOne K (.ref A.C_Refused) (.ref A.C_InvalidService) = some false
  ki_Refused_InvalidBook : PySem.W.kitOne K (.ref A.C_Refused) (.ref A.C_InvalidBook) = some false
  ki_Refused_InvalidText : PySem.W.kitOne K (.ref A.C_Refused) (.ref A.C_InvalidText) = some false
  ki_Refused_InvalidTree : PySem.W.kitOne K (.ref A.C_Refused) (.ref A.C_InvalidTree) = some false
  ki_Refused_Refused : PySem.W.kitOne K (.ref A.C_Refused) (.ref A.C_Refused) = some true
  ki_Refused_NoRow : PySem.W.kitOne K (.ref A.C_Refused) (.ref A.C_NoRow) = some false
  ki_Refused_NoService : PySem.W.kitOne K (.ref A.C_Refused) (.ref A.C_NoService) = some false
  ki_Refused_Mismatch : PySem.W.kitOne K (.ref A.C_Refused) (.ref A.C_Mismatch) = some false
  ki_Refused_InvalidCommand : PySem.W.kitOne K (.ref A.C_Refused) (.ref A.C_InvalidCommand) = some false
  ki_Refused_TraceError : PySem.W.kitOne K (.ref A.C_Refused) (.ref A.C_TraceError) = some true
  ki_NoRow_InvalidRow : PySem.W.kitOne K (.ref A.C_NoRow) (.ref A.C_InvalidRow) = some false
  ki_NoRow_InvalidService : PySem.W.kitOne K (.ref A.C_NoRow) (.ref A.C_InvalidService) = some false
  ki_NoRow_InvalidBook : PySem.W.kitOne K (.ref A.C_NoRow) (.ref A.C_InvalidBook) = some false
  ki_NoRow_InvalidText : PySem.W.kitOne K (.ref A.C_NoRow) (.ref A.C_InvalidText) = some false
  ki_NoRow_InvalidTree : PySem.W.kitOne K (.ref A.C_NoRow) (.ref A.C_InvalidTree) = some false
  ki_NoRow_Refused : PySem.W.kitOne K (.ref A.C_NoRow) (.ref A.C_Refused) = some false
  ki_NoRow_NoRow : PySem.W.kitOne K (.ref A.C_NoRow) (.ref A.C_NoRow) = some true
  ki_NoRow_NoService : PySem.W.kitOne K (.ref A.C_NoRow) (.ref A.C_NoService) = some false
  ki_NoRow_Mismatch : PySem.W.kitOne K (.ref A.C_NoRow) (.ref A.C_Mismatch) = some false
  ki_NoRow_InvalidCommand : PySem.W.kitOne K (.ref A.C_NoRow) (.ref A.C_InvalidCommand) = some false
  ki_NoRow_TraceError : PySem.W.kitOne K (.ref A.C_NoRow) (.ref A.C_TraceError) = some false
  ki_NoService_InvalidRow : PySem.W.kitOne K (.ref A.C_NoService) (.ref A.C_InvalidRow) = some false
  ki_NoService_InvalidService : PySem.W.kitOne K (.ref A.C_NoService) (.ref A.C_InvalidService) = some false
  ki_NoService_InvalidBook : PySem.W.kitOne K (.ref A.C_NoService) (.ref A.C_InvalidBook) = some false
  ki_NoService_InvalidText : PySem.W.kitOne K (.ref A.C_NoService) (.ref A.C_InvalidText) = some false
  ki_NoService_InvalidTree : PySem.W.kitOne K (.ref A.C_NoService) (.ref A.C_InvalidTree) = some false
  ki_NoService_Refused : PySem.W.kitOne K (.ref A.C_NoService) (.ref A.C_Refused) = some false
  ki_NoService_NoRow : PySem.W.kitOne K (.ref A.C_NoService) (.ref A.C_NoRow) = some false
  ki_NoService_NoService : PySem.W.kitOne K (.ref A.C_NoService) (.ref A.C_NoService) = some true
  ki_NoService_Mismatch : PySem.W.kitOne K (.ref A.C_NoService) (.ref A.C_Mismatch) = some false
  ki_NoService_InvalidCommand : PySem.W.kitOne K (.ref A.C_NoService) (.ref A.C_InvalidCommand) = some false
  ki_NoService_TraceError : PySem.W.kitOne K (.ref A.C_NoService) (.ref A.C_TraceError) = some false
  ki_Mismatch_InvalidRow : PySem.W.kitOne K (.ref A.C_Mismatch) (.ref A.C_InvalidRow) = some false
  ki_Mismatch_InvalidService : PySem.W.kitOne K (.ref A.C_Mismatch) (.ref A.C_InvalidService) = some false
  ki_Mismatch_InvalidBook : PySem.W.kitOne K (.ref A.C_Mismatch) (.ref A.C_InvalidBook) = some false
  ki_Mismatch_InvalidText : PySem.W.kitOne K (.ref A.C_Mismatch) (.ref A.C_InvalidText) = some false
  ki_Mismatch_InvalidTree : PySem.W.kitOne K (.ref A.C_Mismatch) (.ref A.C_InvalidTree) = some false
  ki_Mismatch_Refused : PySem.W.kitOne K (.ref A.C_Mismatch) (.ref A.C_Refused) = some false
  ki_Mismatch_NoRow : PySem.W.kitOne K (.ref A.C_Mismatch) (.ref A.C_NoRow) = some false
  ki_Mismatch_NoService : PySem.W.kitOne K (.ref A.C_Mismatch) (.ref A.C_NoService) = some false
  ki_Mismatch_Mismatch : PySem.W.kitOne K (.ref A.C_Mismatch) (.ref A.C_Mismatch) = some true
  ki_Mismatch_InvalidCommand : PySem.W.kitOne K (.ref A.C_Mismatch) (.ref A.C_InvalidCommand) = some false
  ki_Mismatch_TraceError : PySem.W.kitOne K (.ref A.C_Mismatch) (.ref A.C_TraceError) = some true
  ki_InvalidCommand_InvalidRow : PySem.W.kitOne K (.ref A.C_InvalidCommand) (.ref A.C_InvalidRow) = some false
  ki_InvalidCommand_InvalidService : PySem.W.kitOne K (.ref A.C_InvalidCommand) (.ref A.C_InvalidService) = some false
  ki_InvalidCommand_InvalidBook : PySem.W.kitOne K (.ref A.C_InvalidCommand) (.ref A.C_InvalidBook) = some false
  ki_InvalidCommand_InvalidText : PySem.W.kitOne K (.ref A.C_InvalidCommand) (.ref A.C_InvalidText) = some false
  ki_InvalidCommand_InvalidTree : PySem.W.kitOne K (.ref A.C_InvalidCommand) (.ref A.C_InvalidTree) = some false
  ki_InvalidCommand_Refused : PySem.W.kitOne K (.ref A.C_InvalidCommand) (.ref A.C_Refused) = some false
  ki_InvalidCommand_NoRow : PySem.W.kitOne K (.ref A.C_InvalidCommand) (.ref A.C_NoRow) = some false
  ki_InvalidCommand_NoService : PySem.W.kitOne K (.ref A.C_InvalidCommand) (.ref A.C_NoService) = some false
  ki_InvalidCommand_Mismatch : PySem.W.kitOne K (.ref A.C_InvalidCommand) (.ref A.C_Mismatch) = some false
  ki_InvalidCommand_InvalidCommand : PySem.W.kitOne K (.ref A.C_InvalidCommand) (.ref A.C_InvalidCommand) = some true
  ki_InvalidCommand_TraceError : PySem.W.kitOne K (.ref A.C_InvalidCommand) (.ref A.C_TraceError) = some true
def xk_InvalidRow : Nat → Option Bool
  | 0 => some true
  | 1 => some false
  | 2 => some false
  | 3 => some false
  | 4 => some false
  | 5 => some false
  | 6 => some false
  | 7 => some false
  | 8 => some false
  | 9 => some false
  | _ => none
theorem hxk_InvalidRow {K : PySem.W.Frag} {mg : Str → Option Value} {A : Ad} (T : Tx K mg A) : ∀ c b, xk_InvalidRow c = some b → ExcC K (A.G c) ∧ PySem.W.kitOne K (.ref (A.G c)) (.ref A.C_InvalidRow) = some b := by
  intro c b h
  unfold xk_InvalidRow at h
  split at h
  · cases h; exact ⟨T.X_InvalidRow.ec, T.ki_InvalidRow_InvalidRow⟩
  · cases h; exact ⟨T.X_InvalidService.ec, T.ki_InvalidService_InvalidRow⟩
  · cases h; exact ⟨T.X_InvalidBook.ec, T.ki_InvalidBook_InvalidRow⟩
  · cases h; exact ⟨T.X_InvalidText.ec, T.ki_InvalidText_InvalidRow⟩
  · cases h; exact ⟨T.X_InvalidTree.ec, T.ki_InvalidTree_InvalidRow⟩
  · cases h; exact ⟨T.X_Refused.ec, T.ki_Refused_InvalidRow⟩
  · cases h; exact ⟨T.X_NoRow.ec, T.ki_NoRow_InvalidRow⟩
  · cases h; exact ⟨T.X_NoService.ec, T.ki_NoService_InvalidRow⟩
  · cases h; exact ⟨T.X_Mismatch.ec, T.ki_Mismatch_InvalidRow⟩
  · cases h; exact ⟨T.X_InvalidCommand.ec, T.ki_InvalidCommand_InvalidRow⟩
  · cases h
def xk_InvalidService : Nat → Option Bool
  | 0 => some false
  | 1 => some true
  | 2 => some false
  | 3 => some false
  | 4 => some false
  | 5 => some false
  | 6 => some false
  | 7 => some false
  | 8 => some false
  | 9 => some false
  | _ => none
theorem hxk_InvalidService {K : PySem.W.Frag} {mg : Str → Option Value} {A : Ad} (T : Tx K mg A) : ∀ c b, xk_InvalidService c = some b → ExcC K (A.G c) ∧ PySem.W.kitOne K (.ref (A.G c)) (.ref A.C_InvalidService) = some b := by
  intro c b h
  unfold xk_InvalidService at h
  split at h
  · cases h; exact ⟨T.X_InvalidRow.ec, T.ki_InvalidRow_InvalidService⟩
  · cases h; exact ⟨T.X_InvalidService.ec, T.ki_InvalidService_InvalidService⟩
  · cases h; exact ⟨T.X_InvalidBook.ec, T.ki_InvalidBook_InvalidService⟩
  · cases h; exact ⟨T.X_InvalidText.ec, T.ki_InvalidText_InvalidService⟩
  · cases h; exact ⟨T.X_InvalidTree.ec, T.ki_InvalidTree_InvalidService⟩
  · cases h; exact ⟨T.X_Refused.ec, T.ki_Refused_InvalidService⟩
  · cases h; exact ⟨T.X_NoRow.ec, T.ki_NoRow_InvalidService⟩
  · cases h; exact ⟨T.X_NoService.ec, T.ki_NoService_InvalidService⟩
  · cases h; exact ⟨T.X_Mismatch.ec, T.ki_Mismatch_InvalidService⟩
  · cases h; exact ⟨T.X_InvalidCommand.ec, T.ki_InvalidCommand_InvalidService⟩
  · cases h
def xk_InvalidBook : Nat → Option Bool
  | 0 => some false
  | 1 => some false
  | 2 => some true
  | 3 => some false
  | 4 => some false
  | 5 => some false
  | 6 => some false
  | 7 => some false
  | 8 => some false
  | 9 => some false
  | _ => none
theorem hxk_InvalidBook {K : PySem.W.Frag} {mg : Str → Option Value} {A : Ad} (T : Tx K mg A) : ∀ c b, xk_InvalidBook c = some b → ExcC K (A.G c) ∧ PySem.W.kitOne K (.ref (A.G c)) (.ref A.C_InvalidBook) = some b := by
  intro c b h
  unfold xk_InvalidBook at h
  split at h
  · cases h; exact ⟨T.X_InvalidRow.ec, T.ki_InvalidRow_InvalidBook⟩
  · cases h; exact ⟨T.X_InvalidService.ec, T.ki_InvalidService_InvalidBook⟩
  · cases h; exact ⟨T.X_InvalidBook.ec, T.ki_InvalidBook_InvalidBook⟩
  · cases h; exact ⟨T.X_InvalidText.ec, T.ki_InvalidText_InvalidBook⟩
  · cases h; exact ⟨T.X_InvalidTree.ec, T.ki_InvalidTree_InvalidBook⟩
  · cases h; exact ⟨T.X_Refused.ec, T.ki_Refused_InvalidBook⟩
  · cases h; exact ⟨T.X_NoRow.ec, T.ki_NoRow_InvalidBook⟩
  · cases h; exact ⟨T.X_NoService.ec, T.ki_NoService_InvalidBook⟩
  · cases h; exact ⟨T.X_Mismatch.ec, T.ki_Mismatch_InvalidBook⟩
  · cases h; exact ⟨T.X_InvalidCommand.ec, T.ki_InvalidCommand_InvalidBook⟩
  · cases h
def xk_InvalidText : Nat → Option Bool
  | 0 => some false
  | 1 => some false
  | 2 => some false
  | 3 => some true
  | 4 => some false
  | 5 => some false
  | 6 => some false
  | 7 => some false
  | 8 => some false
  | 9 => some false
  | _ => none
theorem hxk_InvalidText {K : PySem.W.Frag} {mg : Str → Option Value} {A : Ad} (T : Tx K mg A) : ∀ c b, xk_InvalidText c = some b → ExcC K (A.G c) ∧ PySem.W.kitOne K (.ref (A.G c)) (.ref A.C_InvalidText) = some b := by
  intro c b h
  unfold xk_InvalidText at h
  split at h
  · cases h; exact ⟨T.X_InvalidRow.ec, T.ki_InvalidRow_InvalidText⟩
  · cases h; exact ⟨T.X_InvalidService.ec, T.ki_InvalidService_InvalidText⟩
  · cases h; exact ⟨T.X_InvalidBook.ec, T.ki_InvalidBook_InvalidText⟩
  · cases h; exact ⟨T.X_InvalidText.ec, T.ki_InvalidText_InvalidText⟩
  · cases h; exact ⟨T.X_InvalidTree.ec, T.ki_InvalidTree_InvalidText⟩
  · cases h; exact ⟨T.X_Refused.ec, T.ki_Refused_InvalidText⟩
  · cases h; exact ⟨T.X_NoRow.ec, T.ki_NoRow_InvalidText⟩
  · cases h; exact ⟨T.X_NoService.ec, T.ki_NoService_InvalidText⟩
  · cases h; exact ⟨T.X_Mismatch.ec, T.ki_Mismatch_InvalidText⟩
  · cases h; exact ⟨T.X_InvalidCommand.ec, T.ki_InvalidCommand_InvalidText⟩
  · cases h
def xk_InvalidTree : Nat → Option Bool
  | 0 => some false
  | 1 => some false
  | 2 => some false
  | 3 => some false
  | 4 => some true
  | 5 => some false
  | 6 => some false
  | 7 => some false
  | 8 => some false
  | 9 => some false
  | _ => none
theorem hxk_InvalidTree {K : PySem.W.Frag} {mg : Str → Option Value} {A : Ad} (T : Tx K mg A) : ∀ c b, xk_InvalidTree c = some b → ExcC K (A.G c) ∧ PySem.W.kitOne K (.ref (A.G c)) (.ref A.C_InvalidTree) = some b := by
  intro c b h
  unfold xk_InvalidTree at h
  split at h
  · cases h; exact ⟨T.X_InvalidRow.ec, T.ki_InvalidRow_InvalidTree⟩
  · cases h; exact ⟨T.X_InvalidService.ec, T.ki_InvalidService_InvalidTree⟩
  · cases h; exact ⟨T.X_InvalidBook.ec, T.ki_InvalidBook_InvalidTree⟩
  · cases h; exact ⟨T.X_InvalidText.ec, T.ki_InvalidText_InvalidTree⟩
  · cases h; exact ⟨T.X_InvalidTree.ec, T.ki_InvalidTree_InvalidTree⟩
  · cases h; exact ⟨T.X_Refused.ec, T.ki_Refused_InvalidTree⟩
  · cases h; exact ⟨T.X_NoRow.ec, T.ki_NoRow_InvalidTree⟩
  · cases h; exact ⟨T.X_NoService.ec, T.ki_NoService_InvalidTree⟩
  · cases h; exact ⟨T.X_Mismatch.ec, T.ki_Mismatch_InvalidTree⟩
  · cases h; exact ⟨T.X_InvalidCommand.ec, T.ki_InvalidCommand_InvalidTree⟩
  · cases h
def xk_Refused : Nat → Option Bool
  | 0 => some false
  | 1 => some false
  | 2 => some false
  | 3 => some false
  | 4 => some false
  | 5 => some true
  | 6 => some false
  | 7 => some false
  | 8 => some false
  | 9 => some false
  | _ => none
theorem hxk_Refused {K : PySem.W.Frag} {mg : Str → Option Value} {A : Ad} (T : Tx K mg A) : ∀ c b, xk_Refused c = some b → ExcC K (A.G c) ∧ PySem.W.kitOne K (.ref (A.G c)) (.ref A.C_Refused) = some b := by
  intro c b h
  unfold xk_Refused at h
  split at h
  · cases h; exact ⟨T.X_InvalidRow.ec, T.ki_InvalidRow_Refused⟩
  · cases h; exact ⟨T.X_InvalidService.ec, T.ki_InvalidService_Refused⟩
  · cases h; exact ⟨T.X_InvalidBook.ec, T.ki_InvalidBook_Refused⟩
  · cases h; exact ⟨T.X_InvalidText.ec, T.ki_InvalidText_Refused⟩
  · cases h; exact ⟨T.X_InvalidTree.ec, T.ki_InvalidTree_Refused⟩
  · cases h; exact ⟨T.X_Refused.ec, T.ki_Refused_Refused⟩
  · cases h; exact ⟨T.X_NoRow.ec, T.ki_NoRow_Refused⟩
  · cases h; exact ⟨T.X_NoService.ec, T.ki_NoService_Refused⟩
  · cases h; exact ⟨T.X_Mismatch.ec, T.ki_Mismatch_Refused⟩
  · cases h; exact ⟨T.X_InvalidCommand.ec, T.ki_InvalidCommand_Refused⟩
  · cases h
def xk_NoRow : Nat → Option Bool
  | 0 => some false
  | 1 => some false
  | 2 => some false
  | 3 => some false
  | 4 => some false
  | 5 => some false
  | 6 => some true
  | 7 => some false
  | 8 => some false
  | 9 => some false
  | _ => none
theorem hxk_NoRow {K : PySem.W.Frag} {mg : Str → Option Value} {A : Ad} (T : Tx K mg A) : ∀ c b, xk_NoRow c = some b → ExcC K (A.G c) ∧ PySem.W.kitOne K (.ref (A.G c)) (.ref A.C_NoRow) = some b := by
  intro c b h
  unfold xk_NoRow at h
  split at h
  · cases h; exact ⟨T.X_InvalidRow.ec, T.ki_InvalidRow_NoRow⟩
  · cases h; exact ⟨T.X_InvalidService.ec, T.ki_InvalidService_NoRow⟩
  · cases h; exact ⟨T.X_InvalidBook.ec, T.ki_InvalidBook_NoRow⟩
  · cases h; exact ⟨T.X_InvalidText.ec, T.ki_InvalidText_NoRow⟩
  · cases h; exact ⟨T.X_InvalidTree.ec, T.ki_InvalidTree_NoRow⟩
  · cases h; exact ⟨T.X_Refused.ec, T.ki_Refused_NoRow⟩
  · cases h; exact ⟨T.X_NoRow.ec, T.ki_NoRow_NoRow⟩
  · cases h; exact ⟨T.X_NoService.ec, T.ki_NoService_NoRow⟩
  · cases h; exact ⟨T.X_Mismatch.ec, T.ki_Mismatch_NoRow⟩
  · cases h; exact ⟨T.X_InvalidCommand.ec, T.ki_InvalidCommand_NoRow⟩
  · cases h
def xk_NoService : Nat → Option Bool
  | 0 => some false
  | 1 => some false
  | 2 => some false
  | 3 => some false
  | 4 => some false
  | 5 => some false
  | 6 => some false
  | 7 => some true
  | 8 => some false
  | 9 => some false
  | _ => none
theorem hxk_NoService {K : PySem.W.Frag} {mg : Str → Option Value} {A : Ad} (T : Tx K mg A) : ∀ c b, xk_NoService c = some b → ExcC K (A.G c) ∧ PySem.W.kitOne K (.ref (A.G c)) (.ref A.C_NoService) = some b := by
  intro c b h
  unfold xk_NoService at h
  split at h
  · cases h; exact ⟨T.X_InvalidRow.ec, T.ki_InvalidRow_NoService⟩
  · cases h; exact ⟨T.X_InvalidService.ec, T.ki_InvalidService_NoService⟩
  · cases h; exact ⟨T.X_InvalidBook.ec, T.ki_InvalidBook_NoService⟩
  · cases h; exact ⟨T.X_InvalidText.ec, T.ki_InvalidText_NoService⟩
  · cases h; exact ⟨T.X_InvalidTree.ec, T.ki_InvalidTree_NoService⟩
  · cases h; exact ⟨T.X_Refused.ec, T.ki_Refused_NoService⟩
  · cases h; exact ⟨T.X_NoRow.ec, T.ki_NoRow_NoService⟩
  · cases h; exact ⟨T.X_NoService.ec, T.ki_NoService_NoService⟩
  · cases h; exact ⟨T.X_Mismatch.ec, T.ki_Mismatch_NoService⟩
  · cases h; exact ⟨T.X_InvalidCommand.ec, T.ki_InvalidCommand_NoService⟩
  · cases h
def xk_Mismatch : Nat → Option Bool
  | 0 => some false
  | 1 => some false
  | 2 => some false
  | 3 => some false
  | 4 => some false
  | 5 => some false
  | 6 => some false
  | 7 => some false
  | 8 => some true
  | 9 => some false
  | _ => none
theorem hxk_Mismatch {K : PySem.W.Frag} {mg : Str → Option Value} {A : Ad} (T : Tx K mg A) : ∀ c b, xk_Mismatch c = some b → ExcC K (A.G c) ∧ PySem.W.kitOne K (.ref (A.G c)) (.ref A.C_Mismatch) = some b := by
  intro c b h
  unfold xk_Mismatch at h
  split at h
  · cases h; exact ⟨T.X_InvalidRow.ec, T.ki_InvalidRow_Mismatch⟩
  · cases h; exact ⟨T.X_InvalidService.ec, T.ki_InvalidService_Mismatch⟩
  · cases h; exact ⟨T.X_InvalidBook.ec, T.ki_InvalidBook_Mismatch⟩
  · cases h; exact ⟨T.X_InvalidText.ec, T.ki_InvalidText_Mismatch⟩
  · cases h; exact ⟨T.X_InvalidTree.ec, T.ki_InvalidTree_Mismatch⟩
  · cases h; exact ⟨T.X_Refused.ec, T.ki_Refused_Mismatch⟩
  · cases h; exact ⟨T.X_NoRow.ec, T.ki_NoRow_Mismatch⟩
  · cases h; exact ⟨T.X_NoService.ec, T.ki_NoService_Mismatch⟩
  · cases h; exact ⟨T.X_Mismatch.ec, T.ki_Mismatch_Mismatch⟩
  · cases h; exact ⟨T.X_InvalidCommand.ec, T.ki_InvalidCommand_Mismatch⟩
  · cases h
def xk_InvalidCommand : Nat → Option Bool
  | 0 => some false
  | 1 => some false
  | 2 => some false
  | 3 => some false
  | 4 => some false
  | 5 => some false
  | 6 => some false
  | 7 => some false
  | 8 => some false
  | 9 => some true
  | _ => none
theorem hxk_InvalidCommand {K : PySem.W.Frag} {mg : Str → Option Value} {A : Ad} (T : Tx K mg A) : ∀ c b, xk_InvalidCommand c = some b → ExcC K (A.G c) ∧ PySem.W.kitOne K (.ref (A.G c)) (.ref A.C_InvalidCommand) = some b := by
  intro c b h
  unfold xk_InvalidCommand at h
  split at h
  · cases h; exact ⟨T.X_InvalidRow.ec, T.ki_InvalidRow_InvalidCommand⟩
  · cases h; exact ⟨T.X_InvalidService.ec, T.ki_InvalidService_InvalidCommand⟩
  · cases h; exact ⟨T.X_InvalidBook.ec, T.ki_InvalidBook_InvalidCommand⟩
  · cases h; exact ⟨T.X_InvalidText.ec, T.ki_InvalidText_InvalidCommand⟩
  · cases h; exact ⟨T.X_InvalidTree.ec, T.ki_InvalidTree_InvalidCommand⟩
  · cases h; exact ⟨T.X_Refused.ec, T.ki_Refused_InvalidCommand⟩
  · cases h; exact ⟨T.X_NoRow.ec, T.ki_NoRow_InvalidCommand⟩
  · cases h; exact ⟨T.X_NoService.ec, T.ki_NoService_InvalidCommand⟩
  · cases h; exact ⟨T.X_Mismatch.ec, T.ki_Mismatch_InvalidCommand⟩
  · cases h; exact ⟨T.X_InvalidCommand.ec, T.ki_InvalidCommand_InvalidCommand⟩
  · cases h
def xk_TraceError : Nat → Option Bool
  | 0 => some true
  | 1 => some true
  | 2 => some true
  | 3 => some true
  | 4 => some true
  | 5 => some true
  | 6 => some false
  | 7 => some false
  | 8 => some true
  | 9 => some true
  | _ => none
theorem hxk_TraceError {K : PySem.W.Frag} {mg : Str → Option Value} {A : Ad} (T : Tx K mg A) : ∀ c b, xk_TraceError c = some b → ExcC K (A.G c) ∧ PySem.W.kitOne K (.ref (A.G c)) (.ref A.C_TraceError) = some b := by
  intro c b h
  unfold xk_TraceError at h
  split at h
  · cases h; exact ⟨T.X_InvalidRow.ec, T.ki_InvalidRow_TraceError⟩
  · cases h; exact ⟨T.X_InvalidService.ec, T.ki_InvalidService_TraceError⟩
  · cases h; exact ⟨T.X_InvalidBook.ec, T.ki_InvalidBook_TraceError⟩
  · cases h; exact ⟨T.X_InvalidText.ec, T.ki_InvalidText_TraceError⟩
  · cases h; exact ⟨T.X_InvalidTree.ec, T.ki_InvalidTree_TraceError⟩
  · cases h; exact ⟨T.X_Refused.ec, T.ki_Refused_TraceError⟩
  · cases h; exact ⟨T.X_NoRow.ec, T.ki_NoRow_TraceError⟩
  · cases h; exact ⟨T.X_NoService.ec, T.ki_NoService_TraceError⟩
  · cases h; exact ⟨T.X_Mismatch.ec, T.ki_Mismatch_TraceError⟩
  · cases h; exact ⟨T.X_InvalidCommand.ec, T.ki_InvalidCommand_TraceError⟩
  · cases h
def xk_ValueError : Nat → Option Bool
  | 0 => some true
  | 1 => some true
  | 2 => some true
  | 3 => some true
  | 4 => some true
  | 5 => some true
  | 6 => some false
  | 7 => some false
  | 8 => some true
  | 9 => some true
  | _ => none
theorem hxk_ValueError {K : PySem.W.Frag} {mg : Str → Option Value} {A : Ad} (T : Tx K mg A) : ∀ c b, xk_ValueError c = some b → ExcC K (A.G c) ∧ PySem.W.kitOne K (.ref (A.G c)) (.type "ValueError") = some b := by
  intro c b h
  unfold xk_ValueError at h
  split at h
  · cases h; exact ⟨T.X_InvalidRow.ec, T.kx_InvalidRow_ValueError⟩
  · cases h; exact ⟨T.X_InvalidService.ec, T.kx_InvalidService_ValueError⟩
  · cases h; exact ⟨T.X_InvalidBook.ec, T.kx_InvalidBook_ValueError⟩
  · cases h; exact ⟨T.X_InvalidText.ec, T.kx_InvalidText_ValueError⟩
  · cases h; exact ⟨T.X_InvalidTree.ec, T.kx_InvalidTree_ValueError⟩
  · cases h; exact ⟨T.X_Refused.ec, T.kx_Refused_ValueError⟩
  · cases h; exact ⟨T.X_NoRow.ec, T.kx_NoRow_ValueError⟩
  · cases h; exact ⟨T.X_NoService.ec, T.kx_NoService_ValueError⟩
  · cases h; exact ⟨T.X_Mismatch.ec, T.kx_Mismatch_ValueError⟩
  · cases h; exact ⟨T.X_InvalidCommand.ec, T.kx_InvalidCommand_ValueError⟩
  · cases h
def xk_IndexError : Nat → Option Bool
  | 0 => some false
  | 1 => some false
  | 2 => some false
  | 3 => some false
  | 4 => some false
  | 5 => some false
  | 6 => some true
  | 7 => some false
  | 8 => some false
  | 9 => some false
  | _ => none
theorem hxk_IndexError {K : PySem.W.Frag} {mg : Str → Option Value} {A : Ad} (T : Tx K mg A) : ∀ c b, xk_IndexError c = some b → ExcC K (A.G c) ∧ PySem.W.kitOne K (.ref (A.G c)) (.type "IndexError") = some b := by
  intro c b h
  unfold xk_IndexError at h
  split at h
  · cases h; exact ⟨T.X_InvalidRow.ec, T.kx_InvalidRow_IndexError⟩
  · cases h; exact ⟨T.X_InvalidService.ec, T.kx_InvalidService_IndexError⟩
  · cases h; exact ⟨T.X_InvalidBook.ec, T.kx_InvalidBook_IndexError⟩
  · cases h; exact ⟨T.X_InvalidText.ec, T.kx_InvalidText_IndexError⟩
  · cases h; exact ⟨T.X_InvalidTree.ec, T.kx_InvalidTree_IndexError⟩
  · cases h; exact ⟨T.X_Refused.ec, T.kx_Refused_IndexError⟩
  · cases h; exact ⟨T.X_NoRow.ec, T.kx_NoRow_IndexError⟩
  · cases h; exact ⟨T.X_NoService.ec, T.kx_NoService_IndexError⟩
  · cases h; exact ⟨T.X_Mismatch.ec, T.kx_Mismatch_IndexError⟩
  · cases h; exact ⟨T.X_InvalidCommand.ec, T.kx_InvalidCommand_IndexError⟩
  · cases h
def xk_KeyError : Nat → Option Bool
  | 0 => some false
  | 1 => some false
  | 2 => some false
  | 3 => some false
  | 4 => some false
  | 5 => some false
  | 6 => some false
  | 7 => some true
  | 8 => some false
  | 9 => some false
  | _ => none
theorem hxk_KeyError {K : PySem.W.Frag} {mg : Str → Option Value} {A : Ad} (T : Tx K mg A) : ∀ c b, xk_KeyError c = some b → ExcC K (A.G c) ∧ PySem.W.kitOne K (.ref (A.G c)) (.type "KeyError") = some b := by
  intro c b h
  unfold xk_KeyError at h
  split at h
  · cases h; exact ⟨T.X_InvalidRow.ec, T.kx_InvalidRow_KeyError⟩
  · cases h; exact ⟨T.X_InvalidService.ec, T.kx_InvalidService_KeyError⟩
  · cases h; exact ⟨T.X_InvalidBook.ec, T.kx_InvalidBook_KeyError⟩
  · cases h; exact ⟨T.X_InvalidText.ec, T.kx_InvalidText_KeyError⟩
  · cases h; exact ⟨T.X_InvalidTree.ec, T.kx_InvalidTree_KeyError⟩
  · cases h; exact ⟨T.X_Refused.ec, T.kx_Refused_KeyError⟩
  · cases h; exact ⟨T.X_NoRow.ec, T.kx_NoRow_KeyError⟩
  · cases h; exact ⟨T.X_NoService.ec, T.kx_NoService_KeyError⟩
  · cases h; exact ⟨T.X_Mismatch.ec, T.kx_Mismatch_KeyError⟩
  · cases h; exact ⟨T.X_InvalidCommand.ec, T.kx_InvalidCommand_KeyError⟩
  · cases h
def xa_at : Nat → Bool
  | 3 => true
  | 6 => true
  | _ => false
theorem hxa_at {K : PySem.W.Frag} {mg : Str → Option Value} {A : Ad} (T : Tx K mg A) : ∀ c, xa_at c = true → XfC K (A.G c) ∧ PySem.W.findIn K (.ref (A.G c)) "at" = some none := by
  intro c h
  unfold xa_at at h
  split at h
  · exact ⟨T.X_InvalidText.xf, T.X_InvalidText.na⟩
  · exact ⟨T.X_NoRow.xf, T.X_NoRow.na⟩
  · cases h
def xa_name : Nat → Bool
  | 7 => true
  | _ => false
theorem hxa_name {K : PySem.W.Frag} {mg : Str → Option Value} {A : Ad} (T : Tx K mg A) : ∀ c, xa_name c = true → XfC K (A.G c) ∧ PySem.W.findIn K (.ref (A.G c)) "name" = some none := by
  intro c h
  unfold xa_name at h
  split at h
  · exact ⟨T.X_NoService.xf, T.X_NoService.na⟩
  · cases h
def xa_word : Nat → Bool
  | 0 => true
  | 1 => true
  | 2 => true
  | 4 => true
  | 5 => true
  | _ => false
theorem hxa_word {K : PySem.W.Frag} {mg : Str → Option Value} {A : Ad} (T : Tx K mg A) : ∀ c, xa_word c = true → XfC K (A.G c) ∧ PySem.W.findIn K (.ref (A.G c)) "word" = some none := by
  intro c h
  unfold xa_word at h
  split at h
  · exact ⟨T.X_InvalidRow.xf, T.X_InvalidRow.na⟩
  · exact ⟨T.X_InvalidService.xf, T.X_InvalidService.na⟩
  · exact ⟨T.X_InvalidBook.xf, T.X_InvalidBook.na⟩
  · exact ⟨T.X_InvalidTree.xf, T.X_InvalidTree.na⟩
  · exact ⟨T.X_Refused.xf, T.X_Refused.na⟩
  · cases h
end K
namespace K
open PySem L2 S
theorem ok_InvalidRow_init {K : PySem.W.Frag} {mg : Str → Option Value} {A : Ad} (T : Tx K mg A) {base : Heap} : FnOk PG A.w K mg base (L2.CX PG A.w) 1 A.InvalidRow_init A.InvalidRow_init_d ["self", "word"] (spExc A.C_InvalidRow "word") :=
  fnX (k := 0) T.InvalidRow_init T.sup sc_InvalidRow_init T.X_InvalidRow rfl rfl rfl fun cdv cc AA outer s H E hr Sx => (pssa_cons (psa_superE (i := 0) Sx (pa_cons (pv 1) pa_nil)) (pssa_one (psa_of (ps_ost (pv 0) (pv 1)))))
theorem ok_InvalidService_init {K : PySem.W.Frag} {mg : Str → Option Value} {A : Ad} (T : Tx K mg A) {base : Heap} : FnOk PG A.w K mg base (L2.CX PG A.w) 1 A.InvalidService_init A.InvalidService_init_d ["self", "word"] (spExc A.C_InvalidService "word") :=
  fnX (k := 0) T.InvalidService_init T.sup sc_InvalidService_init T.X_InvalidService rfl rfl rfl fun cdv cc AA outer s H E hr Sx => (pssa_cons (psa_superE (i := 0) Sx (pa_cons (pv 1) pa_nil)) (pssa_one (psa_of (ps_ost (pv 0) (pv 1)))))
theorem ok_InvalidBook_init {K : PySem.W.Frag} {mg : Str → Option Value} {A : Ad} (T : Tx K mg A) {base : Heap} : FnOk PG A.w K mg base (L2.CX PG A.w) 1 A.InvalidBook_init A.InvalidBook_init_d ["self", "word"] (spExc A.C_InvalidBook "word") :=
  fnX (k := 0) T.InvalidBook_init T.sup sc_InvalidBook_init T.X_InvalidBook rfl rfl rfl fun cdv cc AA outer s H E hr Sx => (pssa_cons (psa_superE (i := 0) Sx (pa_cons (pv 1) pa_nil)) (pssa_one (psa_of (ps_ost (pv 0) (pv 1)))))
theorem ok_InvalidText_init {K : PySem.W.Frag} {mg : Str → Option Value} {A : Ad} (T : Tx K mg A) {base : Heap} : FnOk PG A.w K mg base (L2.CX PG A.w) 1 A.InvalidText_init A.InvalidText_init_d ["self", "at"] (spExc A.C_InvalidText "at") :=
  fnX (k := 0) T.InvalidText_init T.sup sc_InvalidText_init T.X_InvalidText rfl rfl rfl fun cdv cc AA outer s H E hr Sx => (pssa_cons (psa_superE (i := 0) Sx (pa_cons (pv 1) pa_nil)) (pssa_one (psa_of (ps_ost (pv 0) (pv 1)))))
theorem ok_InvalidTree_init {K : PySem.W.Frag} {mg : Str → Option Value} {A : Ad} (T : Tx K mg A) {base : Heap} : FnOk PG A.w K mg base (L2.CX PG A.w) 1 A.InvalidTree_init A.InvalidTree_init_d ["self", "word"] (spExc A.C_InvalidTree "word") :=
  fnX (k := 0) T.InvalidTree_init T.sup sc_InvalidTree_init T.X_InvalidTree rfl rfl rfl fun cdv cc AA outer s H E hr Sx => (pssa_cons (psa_superE (i := 0) Sx (pa_cons (pv 1) pa_nil)) (pssa_one (psa_of (ps_ost (pv 0) (pv 1)))))
theorem ok_Refused_init {K : PySem.W.Frag} {mg : Str → Option Value} {A : Ad} (T : Tx K mg A) {base : Heap} : FnOk PG A.w K mg base (L2.CX PG A.w) 1 A.Refused_init A.Refused_init_d ["self", "word"] (spExc A.C_Refused "word") :=
  fnX (k := 0) T.Refused_init T.sup sc_Refused_init T.X_Refused rfl rfl rfl fun cdv cc AA outer s H E hr Sx => (pssa_cons (psa_superE (i := 0) Sx (pa_cons (pv 1) pa_nil)) (pssa_one (psa_of (ps_ost (pv 0) (pv 1)))))
theorem ok_NoRow_init {K : PySem.W.Frag} {mg : Str → Option Value} {A : Ad} (T : Tx K mg A) {base : Heap} : FnOk PG A.w K mg base (L2.CX PG A.w) 1 A.NoRow_init A.NoRow_init_d ["self", "at"] (spExc A.C_NoRow "at") :=
  fnXB (k := 0) T.NoRow_init T.sup sc_NoRow_init T.X_NoRow rfl rfl rfl fun cdv cc AA outer s H E hr Sx => (pssa_cons (psa_superB T.X_NoRow.xb (j := 0) Sx (pa_cons (pv 1) pa_nil)) (pssa_one (psa_of (ps_ostB T.X_NoRow.xb (pv 0) (pv 1)))))
theorem ok_NoService_init {K : PySem.W.Frag} {mg : Str → Option Value} {A : Ad} (T : Tx K mg A) {base : Heap} : FnOk PG A.w K mg base (L2.CX PG A.w) 1 A.NoService_init A.NoService_init_d ["self", "name"] (spExc A.C_NoService "name") :=
  fnXB (k := 0) T.NoService_init T.sup sc_NoService_init T.X_NoService rfl rfl rfl fun cdv cc AA outer s H E hr Sx => (pssa_cons (psa_superB T.X_NoService.xb (j := 0) Sx (pa_cons (pv 1) pa_nil)) (pssa_one (psa_of (ps_ostB T.X_NoService.xb (pv 0) (pv 1)))))
end K
namespace K
open PySem L2 S
def p__law_box_1 : MS := mSeq (mSet 3 (mBin dAdd (mBin dMod (mApp dInt (mCons (mBin dAdd (mBin dAdd (mBin dMulX (mBin dMod (mApp dInt (mCons (mVar 2) (mNil))) (mC (.int 2147483629))) (mC (.int 69621))) (mBin dMulX (mC (.int 40591)) (mVar 1))) (mC (.int 3))) (mNil))) (mC (.int 2147483629))) (mC (.int 1)))) (mSeq (mSet 4 (mIf (mTest (mBin dGe (mVar 2) (mBin dPow (mC (.int 10)) (mC (.int 18))))) (mVar 2) (mC (.int 0)))) (mRet (mLstC (mCons (mVar 4) (mCons (mVar 3) (mCons (mC (.int 0)) (mNil)))))))
def m__law_box : MS := mSeq (mSet 2 (mBin dAdd (mBin dMulX (mC (.int 6563)) (mVar 1)) (mC (.int 71)))) (mSeq (mIfS (mTest (mBin dLt (mVar 1) (mApp dLen (mCons (mVar 0) (mNil))))) (mSet 2 (mApp dAbs (mCons (mApp dInt (mCons (mBin dIx (mVar 0) (mVar 1)) (mNil))) (mNil)))) (mIfS (mTest (mBin dGt (mApp dLen (mCons (mVar 0) (mNil))) (mC (.int 0)))) (mSet 2 (mBin dAdd (mVar 2) (mBin dMulX (mBin dMod (mApp dInt (mCons (mBin dIx (mVar 0) (mBin dMod (mApp dInt (mCons (mVar 1) (mNil))) (mApp dLen (mCons (mVar 0) (mNil))))) (mNil))) (mC (.int 2147483629))) (mC (.int 50329))))) (mNext))) (p__law_box_1))
def f__law_box : List D → Sto → R D := mFun false 5 m__law_box
theorem ok__law_box {K : PySem.W.Frag} {mg : Str → Option Value} {A : Ad} (T : Tx K mg A) {base : Heap} : FnOk PG A.w K mg base (L2.CX PG A.w) 1 A._law_box A._law_box_d ["_law_script", "_law_k"] (spS K A.G 2 f__law_box) :=
  fnSD (N := ["_law_script", "_law_k", "_law_cell", "_law_seed", "_law_wide"]) (k := 0) T._law_box.F sc__law_box rfl fun cdv AA outer s H E hr =>
    have tk := takes_of (X := cxOf (L2.CX PG A.w) PG A.w K mg base ["_law_script", "_law_k", "_law_cell", "_law_seed", "_law_wide"] "_law_box" (defScope s__law_box) A._law_box cdv AA outer s H E) rfl rfl rfl rfl
    have hx := passes_call tk (fun _ _ _ _ h => h)
    (pSs_cons (pS_set (i := 2) sc__law_box.nd rfl (Or.inl rfl) (pS_op op_addS ad_add (pS_op op_mulX ad_mulX pS_int (pS_var 1 (pv 1))) pS_int)) (pSs_cons (pS_if (pS_cmpT op_ltS ad_lt (pS_var 1 (pv 1)) (pS_callB cr_lenS ad_len (by rfl) T.b_len (by decide +kernel) (pSA_cons (pS_var 0 (pv 0)) pSA_nil)) (nomark _)) (pSs_one (pS_set (i := 2) sc__law_box.nd rfl (Or.inl rfl) (pS_callB call_abs ad_abs (by rfl) T.b_abs (by decide +kernel) (pSA_cons (pS_callTy call_int1 ad_int (by rfl) T.b_int (by decide +kernel) (pSA_cons (pS_ix ix_S ad_ix (pS_var 0 (pv 0)) (pS_var 1 (pv 1)) (fun _ _ => rfl)) pSA_nil)) pSA_nil)))) (pSs_one (pS_if (pS_cmpT op_gt ad_gt (pS_callB cr_lenS ad_len (by rfl) T.b_len (by decide +kernel) (pSA_cons (pS_var 0 (pv 0)) pSA_nil)) pS_int (nomark _)) (pSs_one (pS_set (i := 2) sc__law_box.nd rfl (Or.inl rfl) (pS_op op_addS ad_add (pS_var 2 (pv 2)) (pS_op op_mulX ad_mulX (pS_op op_modN ad_mod (pS_callTy call_int1 ad_int (by rfl) T.b_int (by decide +kernel) (pSA_cons (pS_ix ix_S ad_ix (pS_var 0 (pv 0)) (pS_op op_modN ad_mod (pS_callTy call_int1 ad_int (by rfl) T.b_int (by decide +kernel) (pSA_cons (pS_var 1 (pv 1)) pSA_nil)) (pS_callB cr_lenS ad_len (by rfl) T.b_len (by decide +kernel) (pSA_cons (pS_var 0 (pv 0)) pSA_nil))) (fun _ _ => rfl)) pSA_nil)) pS_int) pS_int)))) pSs_nil))) (pSs_cons (pS_set (i := 3) sc__law_box.nd rfl (Or.inl rfl) (pS_op op_addS ad_add (pS_op op_modN ad_mod (pS_callTy call_int1 ad_int (by rfl) T.b_int (by decide +kernel) (pSA_cons (pS_op op_addS ad_add (pS_op op_addS ad_add (pS_op op_mulX ad_mulX (pS_op op_modN ad_mod (pS_callTy call_int1 ad_int (by rfl) T.b_int (by decide +kernel) (pSA_cons (pS_var 2 (pv 2)) pSA_nil)) pS_int) pS_int) (pS_op op_mulX ad_mulX pS_int (pS_var 1 (pv 1)))) pS_int) pSA_nil)) pS_int) pS_int)) (pSs_cons (pS_set (i := 4) sc__law_box.nd rfl (Or.inl rfl) (pS_ifE (pS_cmpT op_ge ad_ge (pS_var 2 (pv 2)) (pS_op op_pow ad_pow pS_int pS_int) (nomark _)) (pS_var 2 (pv 2)) pS_int)) (pSs_one (pS_ret (pS_lstC (pSA_cons (pS_var 4 (pv 4)) (pSA_cons (pS_var 3 (pv 3)) (pSA_cons pS_int pSA_nil))))))))))
def m__law_take : MS := mSeq (mIfS (mTest (mBin dGt (mBin dIx (mVar 0) (mC (.int 0))) (mC (.int 0)))) (mSeq (mSet 2 (mBin dMod (mApp dInt (mCons (mBin dIx (mVar 0) (mC (.int 0))) (mNil))) (mVar 1))) (mSeq (mSetIx (mVar 0) (mC (.int 0)) (mBin dDiv (mBin dIx (mVar 0) (mC (.int 0))) (mVar 1))) (mRet (mVar 2)))) (mNext)) (mSeq (mSetIx (mVar 0) (mC (.int 2)) (mBin dAdd (mBin dIx (mVar 0) (mC (.int 2))) (mC (.int 1)))) (mSeq (mSet 3 (mBin dMod (mApp dInt (mCons (mBin dMulX (mBin dAdd (mBin dIx (mVar 0) (mC (.int 1))) (mBin dMulX (mC (.int 104801)) (mBin dIx (mVar 0) (mC (.int 2))))) (mC (.int 48271))) (mNil))) (mC (.int 2147483647)))) (mSeq (mSetIx (mVar 0) (mC (.int 1)) (mBin dAdd (mBin dMod (mApp dInt (mCons (mBin dAdd (mBin dMulX (mVar 3) (mC (.int 69697))) (mC (.int 30161))) (mNil))) (mC (.int 2147483629))) (mC (.int 1)))) (mRet (mBin dMod (mApp dInt (mCons (mBin dDiv (mBin dAdd (mBin dMulX (mVar 3) (mC (.int 2147483647))) (mBin dIx (mVar 0) (mC (.int 1)))) (mC (.int 8191))) (mNil))) (mVar 1))))))
def f__law_take : List D → Sto → R D := pur (mFun true 4 m__law_take)
theorem ok__law_take {K : PySem.W.Frag} {mg : Str → Option Value} {A : Ad} (T : Tx K mg A) {base : Heap} : FnOk PG A.w K mg base (L2.CX PG A.w) 1 A._law_take A._law_take_d ["_law_box_here", "_law_many"] (spS K A.G 2 f__law_take) :=
  okPur <|
  fnSD (N := ["_law_box_here", "_law_many", "_law_digit", "_law_near"]) (k := 0) T._law_take.F sc__law_take rfl fun cdv AA outer s H E hr =>
    have tk := takes_of (X := cxOf (L2.CX PG A.w) PG A.w K mg base ["_law_box_here", "_law_many", "_law_digit", "_law_near"] "_law_take" (defScope s__law_take) A._law_take cdv AA outer s H E) rfl rfl rfl rfl
    have hx := passes_call tk (fun _ _ _ _ h => h)
    (pSs_cons (pS_if (pS_cmpT op_gt ad_gt (pS_ix ix_S ad_ix (pS_var 0 (pv 0)) pS_int (fun _ _ => rfl)) pS_int (nomark _)) (pSs_cons (pS_set (i := 2) sc__law_take.nd rfl (Or.inl rfl) (pS_op op_modN ad_mod (pS_callTy call_int1 ad_int (by rfl) T.b_int (by decide +kernel) (pSA_cons (pS_ix ix_S ad_ix (pS_var 0 (pv 0)) pS_int (fun _ _ => rfl)) pSA_nil)) (pS_var 1 (pv 1)))) (pSs_cons (pS_setIx (pS_var 0 (pv 0)) pS_int (pS_op op_fdivN ad_div (pS_ix ix_S ad_ix (pS_var 0 (pv 0)) pS_int (fun _ _ => rfl)) (pS_var 1 (pv 1)))) (pSs_one (pS_ret (pS_var 2 (pv 2)))))) pSs_nil) (pSs_cons (pS_setIx (pS_var 0 (pv 0)) pS_int (pS_op op_addS ad_add (pS_ix ix_S ad_ix (pS_var 0 (pv 0)) pS_int (fun _ _ => rfl)) pS_int)) (pSs_cons (pS_set (i := 3) sc__law_take.nd rfl (Or.inl rfl) (pS_op op_modN ad_mod (pS_callTy call_int1 ad_int (by rfl) T.b_int (by decide +kernel) (pSA_cons (pS_op op_mulX ad_mulX (pS_op op_addS ad_add (pS_ix ix_S ad_ix (pS_var 0 (pv 0)) pS_int (fun _ _ => rfl)) (pS_op op_mulX ad_mulX pS_int (pS_ix ix_S ad_ix (pS_var 0 (pv 0)) pS_int (fun _ _ => rfl)))) pS_int) pSA_nil)) pS_int)) (pSs_cons (pS_setIx (pS_var 0 (pv 0)) pS_int (pS_op op_addS ad_add (pS_op op_modN ad_mod (pS_callTy call_int1 ad_int (by rfl) T.b_int (by decide +kernel) (pSA_cons (pS_op op_addS ad_add (pS_op op_mulX ad_mulX (pS_var 3 (pv 3)) pS_int) pS_int) pSA_nil)) pS_int) pS_int)) (pSs_one (pS_ret (pS_op op_modN ad_mod (pS_callTy call_int1 ad_int (by rfl) T.b_int (by decide +kernel) (pSA_cons (pS_op op_fdivN ad_div (pS_op op_addS ad_add (pS_op op_mulX ad_mulX (pS_var 3 (pv 3)) pS_int) (pS_ix ix_S ad_ix (pS_var 0 (pv 0)) pS_int (fun _ _ => rfl))) pS_int) pSA_nil)) (pS_var 1 (pv 1)))))))))
def m__law_pick : MS := mRet (mBin dIx (mVar 1) (mCall 2 f__law_take [] (mCons (mVar 0) (mCons (mApp dLen (mCons (mVar 1) (mNil))) (mNil)))))
def f__law_pick : List D → Sto → R D := pur (mFun true 2 m__law_pick)
theorem ok__law_pick {K : PySem.W.Frag} {mg : Str → Option Value} {A : Ad} (T : Tx K mg A) {base : Heap} : FnOk PG A.w K mg base (L2.CX PG A.w) 2 A._law_pick A._law_pick_d ["_law_box_here", "_law_some"] (spS K A.G 2 f__law_pick) :=
  okPur <|
  fnSD (N := ["_law_box_here", "_law_some"]) (k := 1) T._law_pick.F sc__law_pick rfl fun cdv AA outer s H E hr =>
    have tk := takes_of (X := cxOf (L2.CX PG A.w) PG A.w K mg base ["_law_box_here", "_law_some"] "_law_pick" (defScope s__law_pick) A._law_pick cdv AA outer s H E) rfl rfl rfl rfl
    have hx := passes_call tk (fun _ _ _ _ h => h)
    (pSs_one (pS_ret (pS_ix ix_S ad_ix (pS_var 1 (pv 1)) (pS_call (ok__law_take T) (hr.mono (by decide)) rfl T._law_take.g T._law_take.F.kp (T._law_take.F.bindsN fun _ _ _ _ _ _ us hl => match us, hl with | [_, _], _ => rfl) .nil (fun _ => rfl) tk (pSA_cons (pS_var 0 (pv 0)) (pSA_cons (pS_callB cr_lenS ad_len (by rfl) T.b_len (by decide +kernel) (pSA_cons (pS_var 1 (pv 1)) pSA_nil)) pSA_nil))) (fun _ _ => rfl))))
def p__law_any_1 (rec : List D → Sto → R D) : MS := mSeq (mSet 4 (mLst (mCons (mC (.str "")) (mCons (mC (.str "a")) (mCons (mC (.str "none")) (mCons (mC (.str "any")) (mCons (mC (.str "same")) (mCons (mC (.str "keep")) (mCons (mC (.str "old")) (mCons (mC (.str "abcde")) (mCons (mC (.str "Ab")) (mCons (mC (.str "a b")) (mCons (mC (.str "x1")) (mCons (mC (.str "good")) (mCons (mC (.str "both")) (mCons (mC (.str "\n")) (mCons (mC (.str "zz")) (mNil)))))))))))))))))) (mSeq (mSet 5 (mLst (mCons (mC .non) (mCons (mC (.bl true)) (mCons (mC (.bl false)) (mCons (mC (.int 0)) (mCons (mC (.int 1)) (mCons (mBin dSub (mC (.int 0)) (mC (.int 1))) (mCons (mBin dPow (mC (.int 10)) (mC (.int 20))) (mCons (mLst (mCons (mC (.str "a")) (mNil))) (mCons (mTup (mCons (mC (.str "a")) (mNil))) (mCons (mC (.int 7)) (mNil))))))))))))) (mRet (mIf (mTest (mBin dLt (mVar 2) (mC (.int 10)))) (mCall 2 f__law_pick [] (mCons (mVar 0) (mCons (mVar 4) (mNil)))) (mCall 2 f__law_pick [] (mCons (mVar 0) (mCons (mVar 5) (mNil)))))))
def p__law_any_2 (rec : List D → Sto → R D) : MS := mSeq (mIfS (mAndB (mTest (mBin dLt (mVar 2) (mC (.int 4)))) (mTest (mBin dGt (mVar 1) (mC (.int 0))))) (mSeq (mSet 3 (mLc (.nm 6) [6] (mItRange (mCons (mCall 2 f__law_take [] (mCons (mVar 0) (mCons (mC (.int 3)) (mNil)))) (mNil))) (mYes) (mCall 2 rec [] (mCons (mVar 0) (mCons (mBin dSub (mVar 1) (mC (.int 1))) (mNil)))))) (mRet (mIf (mTest (mBin dLt (mVar 2) (mC (.int 2)))) (mVar 3) (mApp dTuple (mCons (mVar 3) (mNil)))))) (mNext)) ((p__law_any_1 rec))
def m__law_any (rec : List D → Sto → R D) : MS := mSeq (mSet 2 (mCall 2 f__law_take [] (mCons (mVar 0) (mCons (mC (.int 14)) (mNil))))) ((p__law_any_2 rec))
def f__law_any : Nat → List D → Sto → R D
  | 0 => fun _ _ => .stuck
  | n + 1 => pur (mFun true 7 (m__law_any (f__law_any n)))
theorem ok__law_any {K : PySem.W.Frag} {mg : Str → Option Value} {A : Ad} (T : Tx K mg A) {base : Heap} : ∀ n : Nat, FnOk PG A.w K mg base (L2.CX PG A.w) (3 + n) A._law_any A._law_any_d ["_law_box_here", "_law_deep"] (spS K A.G 2 (f__law_any n))
  | 0 => fn_stuck
  | n + 1 => have ih := ok__law_any T (base := base) n
   okPur <|
  fnSD (N := ["_law_box_here", "_law_deep", "_law_form", "_law_some", "_law_words", "_law_plain", "_law_k"]) (k := 3 + n) T._law_any.F sc__law_any rfl fun cdv AA outer s H E hr =>
    have tk := takes_of (X := cxOf (L2.CX PG A.w) PG A.w K mg base ["_law_box_here", "_law_deep", "_law_form", "_law_some", "_law_words", "_law_plain", "_law_k"] "_law_any" (defScope s__law_any) A._law_any cdv AA outer s H E) rfl rfl rfl rfl
    have hx := passes_call tk (fun _ _ _ _ h => h)
    (pSs_cons (pS_set (i := 2) sc__law_any.nd rfl (Or.inl rfl) (pS_call (ok__law_take T) (hr.mono (by omega)) rfl T._law_take.g T._law_take.F.kp (T._law_take.F.bindsN fun _ _ _ _ _ _ us hl => match us, hl with | [_, _], _ => rfl) .nil (fun _ => rfl) tk (pSA_cons (pS_var 0 (pv 0)) (pSA_cons pS_int pSA_nil)))) (pSs_cons (pS_if (PW.pt (pS_and (pS_cmpT op_ltS ad_lt (pS_var 2 (pv 2)) pS_int (nomark _)) (pS_and1 (pS_cmpT op_gt ad_gt (pS_var 1 (pv 1)) pS_int (nomark _))))) (pSs_cons (pS_setLc (i := 3) rfl sc__law_any.nd rfl rfl (sw_true rfl rfl rfl (by decide +kernel)) (pI_range1 rfl T.b_range (pSA_cons (pS_call (ok__law_take T) (hr.mono (by omega)) rfl T._law_take.g T._law_take.F.kp (T._law_take.F.bindsN fun _ _ _ _ _ _ us hl => match us, hl with | [_, _], _ => rfl) .nil (fun _ => rfl) tk (pSA_cons (pS_var 0 (pv 0)) (pSA_cons pS_int pSA_nil))) pSA_nil)) (blkOk_by (own := [("_law_k", 6)]) (N := ["_law_box_here", "_law_deep", "_law_form", "_law_some", "_law_words", "_law_plain", "_law_k"]) (sc := defScope s__law_any) (by decide +kernel)) (fun _ _ _ _ _ => (pG_nm (i := 6) sc__law_any.nd rfl (Or.inl rfl))) (fun _ _ _ _ _ => pTs_nil) (fun _ _ _ _ _ => (pS_call ih (hr.mono (Nat.le_refl _)) rfl T._law_any.g T._law_any.F.kp (T._law_any.F.bindsN fun _ _ _ _ _ _ us hl => match us, hl with | [_, _], _ => rfl) .nil (fun _ => rfl) takes0 (pSA_cons (pS_var 0 (pv 0)) (pSA_cons (pS_op op_sub ad_sub (pS_var 1 (pv 1)) pS_int) pSA_nil))))) (pSs_one (pS_ret (pS_ifE (pS_cmpT op_ltS ad_lt (pS_var 2 (pv 2)) pS_int (nomark _)) (pS_var 3 (pv 3)) (pS_callTy call_tuple_of ad_tuple (by rfl) T.b_tuple (by decide +kernel) (pSA_cons (pS_var 3 (pv 3)) pSA_nil)))))) pSs_nil) (pSs_cons (pS_set (i := 4) sc__law_any.nd rfl (Or.inl rfl) (pS_lst (pSA_cons pS_str (pSA_cons pS_str (pSA_cons pS_str (pSA_cons pS_str (pSA_cons pS_str (pSA_cons pS_str (pSA_cons pS_str (pSA_cons pS_str (pSA_cons pS_str (pSA_cons pS_str (pSA_cons pS_str (pSA_cons pS_str (pSA_cons pS_str (pSA_cons pS_str (pSA_cons pS_str pSA_nil))))))))))))))))) (pSs_cons (pS_set (i := 5) sc__law_any.nd rfl (Or.inl rfl) (pS_lst (pSA_cons pS_non (pSA_cons pS_bl (pSA_cons pS_bl (pSA_cons pS_int (pSA_cons pS_int (pSA_cons (pS_op op_sub ad_sub pS_int pS_int) (pSA_cons (pS_op op_pow ad_pow pS_int pS_int) (pSA_cons (pS_lst (pSA_cons pS_str pSA_nil)) (pSA_cons (pS_tup (pSA_cons pS_str pSA_nil)) (pSA_cons pS_int pSA_nil)))))))))))) (pSs_one (pS_ret (pS_ifE (pS_cmpT op_ltS ad_lt (pS_var 2 (pv 2)) pS_int (nomark _)) (pS_call (ok__law_pick T) (hr.mono (by omega)) rfl T._law_pick.g T._law_pick.F.kp (T._law_pick.F.bindsN fun _ _ _ _ _ _ us hl => match us, hl with | [_, _], _ => rfl) .nil (fun _ => rfl) tk (pSA_cons (pS_var 0 (pv 0)) (pSA_cons (pS_var 4 (pv 4)) pSA_nil))) (pS_call (ok__law_pick T) (hr.mono (by omega)) rfl T._law_pick.g T._law_pick.F.kp (T._law_pick.F.bindsN fun _ _ _ _ _ _ us hl => match us, hl with | [_, _], _ => rfl) .nil (fun _ => rfl) tk (pSA_cons (pS_var 0 (pv 0)) (pSA_cons (pS_var 5 (pv 5)) pSA_nil))))))))))
end K
namespace K
open PySem L2 S
def m__law_made : MS := mSeq (mIfS (mTest (mBin dLt (mVar 0) (mC (.int 3)))) (mSeq (mIfS (mTest (mBin dEq (mVar 0) (mC (.int 0)))) (mRet (mExv 0 "word" (mVar 1))) (mNext)) (mRet (mIf (mTest (mBin dEq (mVar 0) (mC (.int 1)))) (mExv 1 "word" (mVar 1)) (mExv 2 "word" (mVar 1))))) (mNext)) (mSeq (mIfS (mTest (mBin dLt (mVar 0) (mC (.int 6)))) (mSeq (mIfS (mTest (mBin dEq (mVar 0) (mC (.int 3)))) (mRet (mExv 3 "at" (mVar 1))) (mNext)) (mRet (mIf (mTest (mBin dEq (mVar 0) (mC (.int 4)))) (mExv 4 "word" (mVar 1)) (mExv 5 "word" (mVar 1))))) (mNext)) (mSeq (mIfS (mTest (mBin dLt (mVar 0) (mC (.int 8)))) (mRet (mIf (mTest (mBin dEq (mVar 0) (mC (.int 6)))) (mExv 6 "at" (mVar 1)) (mExv 7 "name" (mVar 1)))) (mNext)) (mRet (mIf (mTest (mBin dEq (mVar 0) (mC (.int 8)))) (mExv0 8) (mExv0 9)))))
def f__law_made : List D → Sto → R D := mFun false 2 m__law_made
theorem ok__law_made {K : PySem.W.Frag} {mg : Str → Option Value} {A : Ad} (T : Tx K mg A) {base : Heap} : FnOk PG A.w K mg base (L2.CX PG A.w) 3 A._law_made A._law_made_d ["_law_at", "_law_value"] (spS K A.G 2 f__law_made) :=
  fnSD (N := ["_law_at", "_law_value"]) (k := 2) T._law_made.F sc__law_made rfl fun cdv AA outer s H E hr =>
    have tk := takes_of (X := cxOf (L2.CX PG A.w) PG A.w K mg base ["_law_at", "_law_value"] "_law_made" (defScope s__law_made) A._law_made cdv AA outer s H E) rfl rfl rfl rfl
    have hx := passes_call tk (fun _ _ _ _ h => h)
    (pSs_cons (pS_if (pS_cmpT op_ltS ad_lt (pS_var 0 (pv 0)) pS_int (nomark _)) (pSs_cons (pS_if (pS_cmpT (op_eqS hr.units) ad_eq (pS_var 0 (pv 0)) pS_int (nomark _)) (pSs_one (pS_ret (pS_exv (c := 0) T.X_InvalidRow (ok_InvalidRow_init T) (hr.mono (by decide)) T.InvalidRow_init.b passL rfl (pS_var 1 (pv 1))))) pSs_nil) (pSs_one (pS_ret (pS_ifE (pS_cmpT (op_eqS hr.units) ad_eq (pS_var 0 (pv 0)) pS_int (nomark _)) (pS_exv (c := 1) T.X_InvalidService (ok_InvalidService_init T) (hr.mono (by decide)) T.InvalidService_init.b passL rfl (pS_var 1 (pv 1))) (pS_exv (c := 2) T.X_InvalidBook (ok_InvalidBook_init T) (hr.mono (by decide)) T.InvalidBook_init.b passL rfl (pS_var 1 (pv 1))))))) pSs_nil) (pSs_cons (pS_if (pS_cmpT op_ltS ad_lt (pS_var 0 (pv 0)) pS_int (nomark _)) (pSs_cons (pS_if (pS_cmpT (op_eqS hr.units) ad_eq (pS_var 0 (pv 0)) pS_int (nomark _)) (pSs_one (pS_ret (pS_exv (c := 3) T.X_InvalidText (ok_InvalidText_init T) (hr.mono (by decide)) T.InvalidText_init.b passL rfl (pS_var 1 (pv 1))))) pSs_nil) (pSs_one (pS_ret (pS_ifE (pS_cmpT (op_eqS hr.units) ad_eq (pS_var 0 (pv 0)) pS_int (nomark _)) (pS_exv (c := 4) T.X_InvalidTree (ok_InvalidTree_init T) (hr.mono (by decide)) T.InvalidTree_init.b passL rfl (pS_var 1 (pv 1))) (pS_exv (c := 5) T.X_Refused (ok_Refused_init T) (hr.mono (by decide)) T.Refused_init.b passL rfl (pS_var 1 (pv 1))))))) pSs_nil) (pSs_cons (pS_if (pS_cmpT op_ltS ad_lt (pS_var 0 (pv 0)) pS_int (nomark _)) (pSs_one (pS_ret (pS_ifE (pS_cmpT (op_eqS hr.units) ad_eq (pS_var 0 (pv 0)) pS_int (nomark _)) (pS_exvB (c := 6) T.X_NoRow (ok_NoRow_init T) (hr.mono (by decide)) T.NoRow_init.b passL rfl (pS_var 1 (pv 1))) (pS_exvB (c := 7) T.X_NoService (ok_NoService_init T) (hr.mono (by decide)) T.NoService_init.b passL rfl (pS_var 1 (pv 1)))))) pSs_nil) (pSs_one (pS_ret (pS_ifE (pS_cmpT (op_eqS hr.units) ad_eq (pS_var 0 (pv 0)) pS_int (nomark _)) (pS_exv0 (c := 8) T.X_Mismatch rfl) (pS_exv0 (c := 9) T.X_InvalidCommand rfl)))))))
def m__law_sorts : MS := mSeq (mSet 1 (mLst (mCons (mIsv xk_InvalidRow (mVar 0)) (mCons (mIsv xk_InvalidService (mVar 0)) (mCons (mIsv xk_InvalidBook (mVar 0)) (mNil)))))) (mSeq (mSet 1 (mBin dAdd (mVar 1) (mLst (mCons (mIsv xk_InvalidText (mVar 0)) (mCons (mIsv xk_InvalidTree (mVar 0)) (mCons (mIsv xk_Refused (mVar 0)) (mNil))))))) (mSeq (mSet 1 (mBin dAdd (mVar 1) (mLst (mCons (mIsv xk_NoRow (mVar 0)) (mCons (mIsv xk_NoService (mVar 0)) (mNil)))))) (mSeq (mSet 1 (mBin dAdd (mVar 1) (mLst (mCons (mIsv xk_Mismatch (mVar 0)) (mCons (mIsv xk_InvalidCommand (mVar 0)) (mNil)))))) (mRet (mLcC (.tp [.nm 2, .nm 3]) [2, 3] (mItEnumA (mCons (mVar 1) (mNil))) (mTru (mVar 3)) (mVar 2))))))
def f__law_sorts : List D → Sto → R D := mFun false 4 m__law_sorts
theorem ok__law_sorts {K : PySem.W.Frag} {mg : Str → Option Value} {A : Ad} (T : Tx K mg A) {base : Heap} : FnOk PG A.w K mg base (L2.CX PG A.w) 1 A._law_sorts A._law_sorts_d ["_law_e"] (spS K A.G 1 f__law_sorts) :=
  fnSD (N := ["_law_e", "_law_found", "_law_at", "_law_is_so"]) (k := 0) T._law_sorts.F sc__law_sorts rfl fun cdv AA outer s H E hr =>
    have tk := takes_of (X := cxOf (L2.CX PG A.w) PG A.w K mg base ["_law_e", "_law_found", "_law_at", "_law_is_so"] "_law_sorts" (defScope s__law_sorts) A._law_sorts cdv AA outer s H E) rfl rfl rfl rfl
    have hx := passes_call tk (fun _ _ _ _ h => h)
    (pSs_cons (pS_set (i := 1) sc__law_sorts.nd rfl (Or.inl rfl) (pS_lst (pSA_cons (pS_isv (pe_glob (v := .ref A.C_InvalidRow) rfl T.X_InvalidRow.g rfl) (.own _) (hxk_InvalidRow T) rfl T.b_isinstance (pS_var 0 (pv 0))) (pSA_cons (pS_isv (pe_glob (v := .ref A.C_InvalidService) rfl T.X_InvalidService.g rfl) (.own _) (hxk_InvalidService T) rfl T.b_isinstance (pS_var 0 (pv 0))) (pSA_cons (pS_isv (pe_glob (v := .ref A.C_InvalidBook) rfl T.X_InvalidBook.g rfl) (.own _) (hxk_InvalidBook T) rfl T.b_isinstance (pS_var 0 (pv 0))) pSA_nil))))) (pSs_cons (pS_set (i := 1) sc__law_sorts.nd rfl (Or.inl rfl) (pS_op op_addS ad_add (pS_var 1 (pv 1)) (pS_lst (pSA_cons (pS_isv (pe_glob (v := .ref A.C_InvalidText) rfl T.X_InvalidText.g rfl) (.own _) (hxk_InvalidText T) rfl T.b_isinstance (pS_var 0 (pv 0))) (pSA_cons (pS_isv (pe_glob (v := .ref A.C_InvalidTree) rfl T.X_InvalidTree.g rfl) (.own _) (hxk_InvalidTree T) rfl T.b_isinstance (pS_var 0 (pv 0))) (pSA_cons (pS_isv (pe_glob (v := .ref A.C_Refused) rfl T.X_Refused.g rfl) (.own _) (hxk_Refused T) rfl T.b_isinstance (pS_var 0 (pv 0))) pSA_nil)))))) (pSs_cons (pS_set (i := 1) sc__law_sorts.nd rfl (Or.inl rfl) (pS_op op_addS ad_add (pS_var 1 (pv 1)) (pS_lst (pSA_cons (pS_isv (pe_glob (v := .ref A.C_NoRow) rfl T.X_NoRow.g rfl) (.own _) (hxk_NoRow T) rfl T.b_isinstance (pS_var 0 (pv 0))) (pSA_cons (pS_isv (pe_glob (v := .ref A.C_NoService) rfl T.X_NoService.g rfl) (.own _) (hxk_NoService T) rfl T.b_isinstance (pS_var 0 (pv 0))) pSA_nil))))) (pSs_cons (pS_set (i := 1) sc__law_sorts.nd rfl (Or.inl rfl) (pS_op op_addS ad_add (pS_var 1 (pv 1)) (pS_lst (pSA_cons (pS_isv (pe_glob (v := .ref A.C_Mismatch) rfl T.X_Mismatch.g rfl) (.own _) (hxk_Mismatch T) rfl T.b_isinstance (pS_var 0 (pv 0))) (pSA_cons (pS_isv (pe_glob (v := .ref A.C_InvalidCommand) rfl T.X_InvalidCommand.g rfl) (.own _) (hxk_InvalidCommand T) rfl T.b_isinstance (pS_var 0 (pv 0))) pSA_nil))))) (pSs_one (pS_ret (pS_lcC rfl sc__law_sorts.nd (pI_enumA rfl T.b_enumerate (pSA_cons (pS_var 1 (pv 1)) pSA_nil)) (blkOk_by (own := [("_law_at", 2), ("_law_is_so", 3)]) (N := ["_law_e", "_law_found", "_law_at", "_law_is_so"]) (sc := defScope s__law_sorts) (by decide +kernel)) (fun _ _ _ _ _ => (pG_tp rfl (pGs_cons (pG_nm (i := 2) sc__law_sorts.nd rfl (Or.inl rfl)) (pGs_cons (pG_nm (i := 3) sc__law_sorts.nd rfl (Or.inl rfl)) pGs_nil)))) (fun _ _ _ _ _ => (pTs_one (pS_tru (pS_var 3 (pv 3))))) (fun _ _ _ _ _ => (pS_var 2 (pv 2))))))))))
def m__law_kept : MS := mSeq (mIfS (mTest (mBin dIn (mVar 1) (mTup (mCons (mC (.int 3)) (mCons (mC (.int 6)) (mNil)))))) (mRet (mXv xa_at "at" (mVar 0))) (mNext)) (mRet (mIf (mTest (mBin dEq (mVar 1) (mC (.int 7)))) (mXv xa_name "name" (mVar 0)) (mXv xa_word "word" (mVar 0))))
def f__law_kept : List D → Sto → R D := mFun false 2 m__law_kept
theorem ok__law_kept {K : PySem.W.Frag} {mg : Str → Option Value} {A : Ad} (T : Tx K mg A) {base : Heap} : FnOk PG A.w K mg base (L2.CX PG A.w) 1 A._law_kept A._law_kept_d ["_law_e", "_law_at"] (spS K A.G 2 f__law_kept) :=
  fnSD (N := ["_law_e", "_law_at"]) (k := 0) T._law_kept.F sc__law_kept rfl fun cdv AA outer s H E hr =>
    have tk := takes_of (X := cxOf (L2.CX PG A.w) PG A.w K mg base ["_law_e", "_law_at"] "_law_kept" (defScope s__law_kept) A._law_kept cdv AA outer s H E) rfl rfl rfl rfl
    have hx := passes_call tk (fun _ _ _ _ h => h)
    (pSs_cons (pS_if (pS_cmpT op_inS ad_in (pS_var 1 (pv 1)) (pS_tup (pSA_cons pS_int (pSA_cons pS_int pSA_nil))) (by rfl)) (pSs_one (pS_ret (pS_xv (hxa_at T) (pS_var 0 (pv 0))))) pSs_nil) (pSs_one (pS_ret (pS_ifE (pS_cmpT (op_eqS hr.units) ad_eq (pS_var 1 (pv 1)) pS_int (nomark _)) (pS_xv (hxa_name T) (pS_var 0 (pv 0))) (pS_xv (hxa_word T) (pS_var 0 (pv 0)))))))
end K
namespace K
open PySem L2 S
def p_law_1 : MS := mIfS (mAndB (mTest (mBin dLt (mVar 3) (mC (.int 8)))) (mTest (mBin dNe (mCall 2 f__law_kept [] (mCons (mVar 5) (mCons (mVar 3) (mNil)))) (mVar 6)))) (mRet (mC (.bl false))) (mNext)
def p_law_2 : MS := mSeq (mDo (mLm dAppend (mVar 6) (mCons (mC (.str "more")) (mNil)))) (p_law_1)
def p_law_3 : MS := mSeq (mSet 5 (mCall 2 f__law_made [] (mCons (mVar 3) (mCons (mVar 6) (mNil))))) (p_law_2)
def p_law_4 : MS := mSeq (mSet 6 (mLstC (mCons (mCall 2 (f__law_any 5) [] (mCons (mVar 2) (mCons (mC (.int 1)) (mNil)))) (mNil)))) (p_law_3)
def p_law_5 : MS := mSeq (mIfS (mAndB (mTest (mBin dLt (mVar 3) (mC (.int 8)))) (mTest (mBin dNe (mApp dReprN (mCons (mCall 2 f__law_kept [] (mCons (mVar 5) (mCons (mVar 3) (mNil)))) (mNil))) (mApp dReprN (mCons (mVar 4) (mNil)))))) (mRet (mC (.bl false))) (mNext)) (p_law_4)
def p_law_6 : MS := mSeq (mIfS (mOrB (mAndB (mTest (mBin dEq (mVar 3) (mC (.int 6)))) (mNotB (mTru (mIsv xk_IndexError (mVar 5))))) (mAndB (mTest (mBin dEq (mVar 3) (mC (.int 7)))) (mNotB (mTru (mIsv xk_KeyError (mVar 5)))))) (mRet (mC (.bl false))) (mNext)) (p_law_5)
def p_law_7 : MS := mSeq (mIfS (mAndB (mTru (mIsv xk_TraceError (mVar 5))) (mNotB (mTru (mIsv xk_ValueError (mVar 5))))) (mRet (mC (.bl false))) (mNext)) (p_law_6)
def p_law_8 : MS := mSeq (mIfS (mOrB (mTest (mBin dNe (mCall 1 f__law_sorts [] (mCons (mVar 5) (mNil))) (mLst (mCons (mVar 3) (mNil))))) (mTest (mBin dNe (mIsv xk_TraceError (mVar 5)) (mBin dNotIn (mVar 3) (mTup (mCons (mC (.int 6)) (mCons (mC (.int 7)) (mNil)))))))) (mRet (mC (.bl false))) (mNext)) (p_law_7)
def p_law_9 : MS := mSeq (mSet 5 (mCall 2 f__law_made [] (mCons (mVar 3) (mCons (mVar 4) (mNil))))) (p_law_8)
def p_law_10 : MS := mSeq (mSet 4 (mCall 2 (f__law_any 5) [] (mCons (mVar 2) (mCons (mC (.int 3)) (mNil))))) (p_law_9)
def p_law_11 : MS := p_law_10
def p_law_12 : MS := mSeq (mSet 2 (mCall 2 f__law_box [] (mCons (mVar 0) (mCons (mVar 1) (mNil))))) (mFor (.nm 3) (mItRange (mCons (mC (.int 10)) (mNil))) (p_law_11))
def m_law : MS := mSeq (mFor (.nm 1) (mItRange (mCons (mApp dMax (mCons (mC (.int 1)) (mCons (mApp dMin (mCons (mC (.int 5)) (mCons (mApp dLen (mCons (mVar 0) (mNil))) (mNil)))) (mNil)))) (mNil))) (p_law_12)) (mRet (mC (.bl true)))
def f_law : List D → Sto → R D := pur (mFun true 7 m_law)
theorem ok_law {K : PySem.W.Frag} {mg : Str → Option Value} {A : Ad} (T : Tx K mg A) {base : Heap} : FnG PG A.w K mg base (L2.CX PG A.w) 9 A.law A.law_d ["_law_script"] (spS K A.G 1 f_law) :=
  okPurG <|
  fnSDG (N := ["_law_script", "_law_k", "_law_box_here", "_law_at", "_law_value", "_law_e", "_law_told"]) (k := 8) T.law.F sc_law rfl fun cdv AA outer s H E hr hg =>
    have tk := takes_of (X := cxOf (L2.CX PG A.w) PG A.w K mg base ["_law_script", "_law_k", "_law_box_here", "_law_at", "_law_value", "_law_e", "_law_told"] "law" (defScope s_law) A.law cdv AA outer s H E) rfl rfl rfl rfl
    have hx := passes_call tk (fun _ _ _ _ h => h)
    (pSs_cons (pS_for (passes_of rfl) rfl (pI_range1 rfl T.b_range (pSA_cons (pS_callB (call_max2 rfl) ad_max (by rfl) T.b_max (by decide +kernel) (pSA_cons pS_int (pSA_cons (pS_callB (call_min2 rfl) ad_min (by rfl) T.b_min (by decide +kernel) (pSA_cons pS_int (pSA_cons (pS_callB cr_lenS ad_len (by rfl) T.b_len (by decide +kernel) (pSA_cons (pS_var 0 (pv 0)) pSA_nil)) pSA_nil))) pSA_nil))) pSA_nil)) (pG_nm (i := 1) sc_law.nd rfl (Or.inl rfl)) (pSs_cons (pS_set (i := 2) sc_law.nd rfl (Or.inl rfl) (pS_call (ok__law_box T) (hr.mono (by decide)) rfl T._law_box.g T._law_box.F.kp (T._law_box.F.bindsN fun _ _ _ _ _ _ us hl => match us, hl with | [_, _], _ => rfl) .nil (fun _ => rfl) tk (pSA_cons (pS_var 0 (pv 0)) (pSA_cons (pS_var 1 (pv 1)) pSA_nil)))) (pSs_one (pS_for (passes_of rfl) rfl (pI_range1 rfl T.b_range (pSA_cons pS_int pSA_nil)) (pG_nm (i := 3) sc_law.nd rfl (Or.inl rfl)) (pSs_cons (pS_set (i := 4) sc_law.nd rfl (Or.inl rfl) (pS_call (ok__law_any T 5) (hr.mono (by decide)) rfl T._law_any.g T._law_any.F.kp (T._law_any.F.bindsN fun _ _ _ _ _ _ us hl => match us, hl with | [_, _], _ => rfl) .nil (fun _ => rfl) tk (pSA_cons (pS_var 2 (pv 2)) (pSA_cons pS_int pSA_nil)))) (pSs_cons (pS_set (i := 5) sc_law.nd rfl (Or.inl rfl) (pS_call (ok__law_made T) (hr.mono (by decide)) rfl T._law_made.g T._law_made.F.kp (T._law_made.F.bindsN fun _ _ _ _ _ _ us hl => match us, hl with | [_, _], _ => rfl) .nil (fun _ => rfl) tk (pSA_cons (pS_var 3 (pv 3)) (pSA_cons (pS_var 4 (pv 4)) pSA_nil)))) (pSs_cons (pS_if (PW.pt (pS_or (pS_cmpT (op_neS hr.units) ad_ne (pS_call (ok__law_sorts T) (hr.mono (by decide)) rfl T._law_sorts.g T._law_sorts.F.kp (T._law_sorts.F.bindsN fun _ _ _ _ _ _ us hl => match us, hl with | [_], _ => rfl) .nil (fun _ => rfl) tk (pSA_cons (pS_var 5 (pv 5)) pSA_nil)) (pS_lst (pSA_cons (pS_var 3 (pv 3)) pSA_nil)) (nomark _)) (pS_or1 (pS_cmpT (op_neS hr.units) ad_ne (pS_isv (pe_glob (v := .ref A.C_TraceError) rfl T.g_TraceError rfl) (.own _) (hxk_TraceError T) rfl T.b_isinstance (pS_var 5 (pv 5))) (pS_cmp op_notInS ad_notIn (pS_var 3 (pv 3)) (pS_tup (pSA_cons pS_int (pSA_cons pS_int pSA_nil))) (by rfl)) (nomark _))))) (pSs_one (pS_ret pS_bl)) pSs_nil) (pSs_cons (pS_if (PW.pt (pS_and (pS_tru (pS_isv (pe_glob (v := .ref A.C_TraceError) rfl T.g_TraceError rfl) (.own _) (hxk_TraceError T) rfl T.b_isinstance (pS_var 5 (pv 5)))) (pS_and1 (pS_not (pS_tru (pS_isv (pe_bltn (v := .ty "ValueError") (u := .type "ValueError") (by rfl) T.b_ValueError (by decide +kernel) rfl) (.ty _) (hxk_ValueError T) rfl T.b_isinstance (pS_var 5 (pv 5)))))))) (pSs_one (pS_ret pS_bl)) pSs_nil) (pSs_cons (pS_if (PW.pt (pS_or (PW.pt (pS_and (pS_cmpT (op_eqS hr.units) ad_eq (pS_var 3 (pv 3)) pS_int (nomark _)) (pS_and1 (pS_not (pS_tru (pS_isv (pe_bltn (v := .ty "IndexError") (u := .type "IndexError") (by rfl) T.b_IndexError (by decide +kernel) rfl) (.ty _) (hxk_IndexError T) rfl T.b_isinstance (pS_var 5 (pv 5)))))))) (pS_or1 (PW.pt (pS_and (pS_cmpT (op_eqS hr.units) ad_eq (pS_var 3 (pv 3)) pS_int (nomark _)) (pS_and1 (pS_not (pS_tru (pS_isv (pe_bltn (v := .ty "KeyError") (u := .type "KeyError") (by rfl) T.b_KeyError (by decide +kernel) rfl) (.ty _) (hxk_KeyError T) rfl T.b_isinstance (pS_var 5 (pv 5))))))))))) (pSs_one (pS_ret pS_bl)) pSs_nil) (pSs_cons (pS_if (PW.pt (pS_and (pS_cmpT op_ltS ad_lt (pS_var 3 (pv 3)) pS_int (nomark _)) (pS_and1 (pS_cmpT (op_neS hr.units) ad_ne (pS_callB (S.CallR.or (S.CallR.or (S.CallR.or (call_reprU hg hr.u200) L2.call_repr_text) L2.call_repr_flat) S.call_repr_non) ad_reprN (by rfl) T.b_repr (by decide +kernel) (pSA_cons (pS_call (ok__law_kept T) (hr.mono (by decide)) rfl T._law_kept.g T._law_kept.F.kp (T._law_kept.F.bindsN fun _ _ _ _ _ _ us hl => match us, hl with | [_, _], _ => rfl) .nil (fun _ => rfl) tk (pSA_cons (pS_var 5 (pv 5)) (pSA_cons (pS_var 3 (pv 3)) pSA_nil))) pSA_nil)) (pS_callB (S.CallR.or (S.CallR.or (S.CallR.or (call_reprU hg hr.u200) L2.call_repr_text) L2.call_repr_flat) S.call_repr_non) ad_reprN (by rfl) T.b_repr (by decide +kernel) (pSA_cons (pS_var 4 (pv 4)) pSA_nil)) (nomark _))))) (pSs_one (pS_ret pS_bl)) pSs_nil) (pSs_cons (pS_set (i := 6) sc_law.nd rfl (Or.inl rfl) (pS_lstC (pSA_cons (pS_call (ok__law_any T 5) (hr.mono (by decide)) rfl T._law_any.g T._law_any.F.kp (T._law_any.F.bindsN fun _ _ _ _ _ _ us hl => match us, hl with | [_, _], _ => rfl) .nil (fun _ => rfl) tk (pSA_cons (pS_var 2 (pv 2)) (pSA_cons pS_int pSA_nil))) pSA_nil))) (pSs_cons (pS_set (i := 5) sc_law.nd rfl (Or.inl rfl) (pS_call (ok__law_made T) (hr.mono (by decide)) rfl T._law_made.g T._law_made.F.kp (T._law_made.F.bindsN fun _ _ _ _ _ _ us hl => match us, hl with | [_, _], _ => rfl) .nil (fun _ => rfl) tk (pSA_cons (pS_var 3 (pv 3)) (pSA_cons (pS_var 6 (pv 6)) pSA_nil)))) (pSs_cons (pS_do (pS_lm (t := fun _ _ _ => False) ad_append (pe_bm PySem.F.plainAttrs_list PySem.F.slot_list_append PySem.F.type_list_append mt_append (pS_var 6 (pv 6)) (pSA_cons pS_str pSA_nil)))) (pSs_one (pS_if (PW.pt (pS_and (pS_cmpT op_ltS ad_lt (pS_var 3 (pv 3)) pS_int (nomark _)) (pS_and1 (pS_cmpT (op_neS hr.units) ad_ne (pS_call (ok__law_kept T) (hr.mono (by decide)) rfl T._law_kept.g T._law_kept.F.kp (T._law_kept.F.bindsN fun _ _ _ _ _ _ us hl => match us, hl with | [_, _], _ => rfl) .nil (fun _ => rfl) tk (pSA_cons (pS_var 5 (pv 5)) (pSA_cons (pS_var 3 (pv 3)) pSA_nil))) (pS_var 6 (pv 6)) (nomark _))))) (pSs_one (pS_ret pS_bl)) pSs_nil))))))))))))))) (pSs_one (pS_ret pS_bl)))
end K
namespace K
open PySem L2 S
/-! ### draws -/
theorem st_same {st : Sto} {i : Nat} {c c' : C} (h : st[i]? = some c) : (st.set i c')[i]? = some c' := by
  have := (List.getElem?_eq_some_iff.mp h).1
  rw [List.getElem?_set_self this]
theorem gc_same {st st' : Sto} {d : D} (h : st'.length = st.length) : gc st.length d st' = .ok d st' := by
  unfold gc
  rw [List.take_of_length_le (Nat.le_of_eq h)]
  split <;> rfl
theorem take_ok {st : Sto} {i : Nat} {w s c many : Int} (h : st[i]? = some (.lst [.int w, .int s, .int c])) (h0 : 0 < many) (h1 : many < 1073741824) :
    ∃ r w' s' c', f__law_take [.ptr i, .int many] st = .ok (.int r) (st.set i (.lst [.int w', .int s', .int c'])) ∧ 0 ≤ r ∧ r < many := by
  have hb : belowL 0 [D.ptr i, .int many] = false := rfl
  have hm : many ≠ 0 := by omega
  have hm2 : many.natAbs < 1073741824 := by omega
  have rr : ∀ x : Int, 0 ≤ x.fmod many ∧ x.fmod many < many := fun x => ⟨Int.fmod_nonneg_of_pos _ h0, Int.fmod_lt_of_pos _ h0⟩
  unfold f__law_take pur
  rw [hb, if_neg (by decide)]
  by_cases hw : 0 < w
  · refine ⟨w.fmod many, w.fdiv many, s, c, ?_, (rr w).1, (rr w).2⟩
    simp [mFun, m__law_take, mSeq, mIfS, mTest, mBin, mVar, mC, mSet, mRet, mSetIx, mDo, mApp, mCons, mNil, R.bind, dIx, rd, h, atI, ixN, dGt, dI, hw, dMod, dDiv, hm, hm2, dInt, dSetIx, dFrz]
    rw [gc_same (by simp)]
  · refine ⟨Int.fmod (Int.fdiv (((s + 104801 * (c + 1)) * 48271).fmod 2147483647 * 2147483647 + (((((s + 104801 * (c + 1)) * 48271).fmod 2147483647) * 69697 + 30161).fmod 2147483629 + 1)) 8191) many, w, ((((s + 104801 * (c + 1)) * 48271).fmod 2147483647) * 69697 + 30161).fmod 2147483629 + 1, c + 1, ?_, (rr _).1, (rr _).2⟩
    simp [mFun, m__law_take, mSeq, mIfS, mTest, mBin, mVar, mC, mSet, mRet, mSetIx, mDo, mApp, mCons, mNil, R.bind, dIx, rd, h, atI, ixN, dGt, dI, hw, dMod, dDiv, hm, hm2, dInt, dSetIx, dFrz, dAdd, dMul, dMulX, mNext, st_same h, List.set_set]
    rw [gc_same (by simp)]
theorem atI_of {α : Type} {ys : List α} {j : Nat} {i : Int} {y : α} (hi : i = j) (h : ys[j]? = some y) : atI ys i = some y := by
  subst hi
  have := (List.getElem?_eq_some_iff.mp h).1
  obtain ⟨_, rfl⟩ := List.getElem?_eq_some_iff.mp h
  simp [atI, ixN, this]
theorem box_fin {st : Sto} {sc : D} {k c : Int} : ∃ w s, mFun false 5 (fun _ st => p__law_box_1 [some sc, some (.int k), some (.int c), none, none] st) [sc, .int k] st = .ok (.ptr st.length) (st ++ [.lst [.int w, .int s, .int 0]]) := by
  have hp : dPow (.int 10) (.int 18) st = .ok (.int 1000000000000000000) st := by
    have : (0 : Int) ≤ 18 ∧ (18 : Int) ≤ 1000000 ∧ (10 : Int).natAbs < 2 ^ 64 := by decide
    simp [dPow, this]
  have h3 : 3 ≤ sizeLine := by unfold sizeLine; omega
  by_cases hc : (1000000000000000000 : Int) ≤ c
  · refine ⟨c, ((c.fmod 2147483629 * 69621 + 40591 * k + 3).fmod 2147483629 + 1), ?_⟩
    simp [mFun, p__law_box_1, mSeq, mSet, mBin, mVar, mC, mApp, mCons, mNil, R.bind, mRet, mLstC, mIf, mTest, dAdd, rd, dMul, dMulX, dMod, dInt, dGe, dI, hp, hc, h3, gc, below]
  · refine ⟨0, ((c.fmod 2147483629 * 69621 + 40591 * k + 3).fmod 2147483629 + 1), ?_⟩
    simp [mFun, p__law_box_1, mSeq, mSet, mBin, mVar, mC, mApp, mCons, mNil, R.bind, mRet, mLstC, mIf, mTest, dAdd, rd, dMul, dMulX, dMod, dInt, dGe, dI, hp, hc, h3, gc, below]
theorem box_at {st : Sto} {xs : List Int} {k c : Int} (hk : k < xs.length) (hx : atI (xs.map D.int) k = some (D.int c)) : ∃ w s, f__law_box [.rls (xs.map D.int), .int k] st = .ok (.ptr st.length) (st ++ [.lst [.int w, .int s, .int 0]]) := by
  obtain ⟨w, s, e⟩ := box_fin (st := st) (sc := .rls (xs.map D.int)) (k := k) (c := if c < 0 then -c else c)
  refine ⟨w, s, Eq.trans ?_ e⟩
  simp [f__law_box, mFun, m__law_box, mSeq, mSet, mBin, mVar, mC, mApp, mCons, mNil, R.bind, dAdd, dMul, dMulX, rd, mIfS, mTest, dLt, dLen, hk, dIx, hx, dInt, dAbs]
theorem box_past {st : Sto} {xs : List Int} {k c : Int} (hk : ¬ k < xs.length) (h0 : 0 < (xs.length : Int)) (hx : atI (xs.map D.int) (Int.fmod k (xs.length : Int)) = some (D.int c)) : ∃ w s, f__law_box [.rls (xs.map D.int), .int k] st = .ok (.ptr st.length) (st ++ [.lst [.int w, .int s, .int 0]]) := by
  obtain ⟨w, s, e⟩ := box_fin (st := st) (sc := .rls (xs.map D.int)) (k := k) (c := 6563 * k + 71 + (c.fmod 2147483629 * 50329))
  refine ⟨w, s, Eq.trans ?_ e⟩
  have hz : (xs.length : Int) ≠ 0 := by omega
  have hl : dLen [D.rls (xs.map D.int)] st = .ok (.int xs.length) st := by simp [dLen, rd]
  revert hk h0 hx hz hl
  generalize (xs.length : Int) = n
  intro hk h0 hx hz hl
  simp [f__law_box, mFun, m__law_box, mSeq, mSet, mBin, mVar, mC, mApp, mCons, mNil, R.bind, dAdd, dMul, dMulX, rd, mIfS, mTest, dLt, hl, hk, dIx, hx, dInt, dAbs, dGt, dI, h0, dMod, hz]
theorem box_none {st : Sto} {k : Int} (hk : 0 ≤ k) : ∃ w s, f__law_box [.rls [], .int k] st = .ok (.ptr st.length) (st ++ [.lst [.int w, .int s, .int 0]]) := by
  obtain ⟨w, s, e⟩ := box_fin (st := st) (sc := .rls []) (k := k) (c := 6563 * k + 71)
  refine ⟨w, s, Eq.trans ?_ e⟩
  have hk' : ¬ k < 0 := by omega
  simp [f__law_box, mFun, m__law_box, mSeq, mSet, mBin, mVar, mC, mApp, mCons, mNil, R.bind, dAdd, dMul, dMulX, rd, mIfS, mTest, dLt, dLen, hk', dGt, dI, mNext]
theorem box_ok {st : Sto} {xs : List Int} {k : Nat} : ∃ w s, f__law_box [.rls (xs.map D.int), .int k] st = .ok (.ptr st.length) (st ++ [.lst [.int w, .int s, .int 0]]) := by
  by_cases hk : k < xs.length
  · exact box_at (by omega) (atI_of rfl (List.getElem?_map.trans (by rw [List.getElem?_eq_getElem hk]; rfl)))
  · by_cases h0 : 0 < xs.length
    · have hm : k % xs.length < xs.length := Nat.mod_lt _ h0
      refine box_past (by omega) (by omega) (atI_of (j := k % xs.length) ?_ (List.getElem?_map.trans (by rw [List.getElem?_eq_getElem hm]; rfl)))
      rw [Int.fmod_eq_emod_of_nonneg _ (by omega)]; rfl
    · obtain rfl : xs = [] := List.length_eq_zero_iff.mp (by omega)
      exact box_none (by omega)
/-! ### what a draw leaves as it was -/
def Box (st : Sto) (i : Nat) : Prop := ∃ w s c : Int, st[i]? = some (.lst [.int w, .int s, .int c])
structure Drawn (i : Nat) (st st' : Sto) : Prop where
  box : Box st' i
  len : st.length ≤ st'.length
  off : ∀ k, k < st.length → k ≠ i → st'[k]? = st[k]?
theorem Box.lt {st : Sto} {i : Nat} (h : Box st i) : i < st.length := by
  obtain ⟨w, s, c, h⟩ := h
  exact (List.getElem?_eq_some_iff.mp h).1
theorem Drawn.refl {i : Nat} {st : Sto} (h : Box st i) : Drawn i st st := ⟨h, Nat.le_refl _, fun _ _ _ => rfl⟩
theorem Drawn.trans {i : Nat} {a b c : Sto} (h : Drawn i a b) (h' : Drawn i b c) : Drawn i a c :=
  ⟨h'.box, Nat.le_trans h.len h'.len, fun k hk hi => (h'.off k (Nat.lt_of_lt_of_le hk h.len) hi).trans (h.off k hk hi)⟩
/-- new cells, and a change of one of these -/
theorem Drawn.app {i : Nat} {st r : Sto} (h : Box st i) : Drawn i st (st ++ r) := by
  obtain ⟨w, s, c, h⟩ := h
  have lt := (List.getElem?_eq_some_iff.mp h).1
  exact ⟨⟨w, s, c, by rw [List.getElem?_append_left lt]; exact h⟩, by simp, fun k hk _ => List.getElem?_append_left hk⟩
theorem Drawn.put {i j : Nat} {a b : Sto} {c : C} (h : Drawn i a b) (hj : a.length ≤ j) (hi : i < a.length) : Drawn i a (b.set j c) := by
  obtain ⟨⟨w, s, c', hb⟩, hl, ho⟩ := h
  exact ⟨⟨w, s, c', by rw [List.getElem?_set_ne (by omega)]; exact hb⟩, by simpa using hl, fun k hk hi => by rw [List.getElem?_set_ne (by omega)]; exact ho k hk hi⟩
theorem Drawn.gc {i : Nat} {st st' : Sto} {d : D} (h : Drawn i st st') (hi : i < st.length) : ∃ st2, S.gc st.length d st' = .ok d st2 ∧ Drawn i st st2 := by
  unfold S.gc
  split
  · obtain ⟨⟨w, s, c, hb⟩, hl, ho⟩ := h
    exact ⟨_, rfl, ⟨w, s, c, by rw [List.getElem?_take_of_lt hi]; exact hb⟩, by simp; omega, fun k hk hk' => by rw [List.getElem?_take_of_lt hk]; exact ho k hk hk'⟩
  · exact ⟨_, rfl, h⟩
theorem take_d {st : Sto} {i : Nat} {many : Int} (h : Box st i) (h0 : 0 < many) (h1 : many < 1073741824) : ∃ (r : Nat) (st' : Sto), (r : Int) < many ∧ f__law_take [.ptr i, .int many] st = .ok (.int r) st' ∧ Drawn i st st' := by
  obtain ⟨w, s, c, h⟩ := h
  obtain ⟨r, w', s', c', e, r0, r1⟩ := take_ok h h0 h1
  obtain ⟨n, rfl⟩ : ∃ n : Nat, r = n := ⟨r.toNat, by omega⟩
  exact ⟨n, _, r1, e, ⟨w', s', c', st_same h⟩, by simp, fun k _ hk => List.getElem?_set_ne (Ne.symm hk)⟩
theorem box_d {st : Sto} {xs : List Int} {k : Nat} : ∃ st0, f__law_box [.rls (xs.map D.int), .int k] st = .ok (.ptr st.length) st0 ∧ Box st0 st.length ∧ ∃ c, st0 = st ++ [c] := by
  obtain ⟨w, s, h⟩ := box_ok (st := st) (xs := xs) (k := k)
  exact ⟨_, h, ⟨w, s, 0, by simp⟩, _, rfl⟩
def noPtr : D → Bool
  | .ptr _ => false
  | _ => true
theorem noPtr_of {ds : List D} (h : ds.all noPtr = true) : ∀ d ∈ ds, ∀ i, d ≠ .ptr i := fun d hd i e => by
  have := List.all_eq_true.mp h d hd
  rw [e] at this
  cases this
theorem pick_d {st : Sto} {i : Nat} {ds : List D} (h : Box st i) (h0 : ds ≠ []) (h1 : ds.length < 1000) (hp : ds.all noPtr = true) : ∃ d st', d ∈ ds ∧ f__law_pick [.ptr i, .lst ds] st = .ok d st' ∧ Drawn i st st' := by
  have hl := List.length_pos_iff.mpr h0
  obtain ⟨r, st1, r1, e, D1⟩ := take_d (many := ds.length) h (by omega) (by omega)
  have hk : r < ds.length := by omega
  have hx : atI ds (r : Int) = some ds[r] := atI_of rfl (List.getElem?_eq_getElem hk)
  obtain ⟨st2, e2, D2⟩ := D1.gc (d := ds[r]) h.lt
  refine ⟨ds[r], st2, List.getElem_mem hk, ?_, D2⟩
  rw [← e2]
  refine call_at rfl ?_ (noPtr_of hp _ (List.getElem_mem hk))
  show m__law_pick [some (.ptr i), some (.lst ds)] st = _
  simp [m__law_pick, mRet, mBin, mVar, mCall, mCons, mNil, mApp, R.bind, dLen, rd, e, dIx, hx]
end K
namespace K
open PySem L2 S
/-! ### any values, drawn -/
theorem tst {m : M} {b : Bool} {env : S.Env} {st st' : Sto} (h : m env st = .ok (.bl b) st') : mTest m env st = .ok b st' := by
  unfold mTest
  rw [h]
  rfl
theorem var_i {i : Nat} {env : S.Env} {st : Sto} {d : D} (h : env[i]? = some (some d)) : mVar i env st = .ok d st := by
  unfold mVar
  rw [h]
theorem rngN {m : M} {env : S.Env} {st st' : Sto} {n : Nat} (h : m env st = .ok (.int (n : Nat)) st') (hn : n ≤ 1000) : mItRange (mCons m mNil) env st = .ok (rangeD 0 n) st' := by
  have h1 : -4611686018427387904 ≤ (n : Int) ∧ (n : Int) < 4611686018427387904 := by omega
  have e := cons_ok h (nil_ok (env := env) (st := st'))
  simp [mItRange, e, R.bind, h1]
theorem if_ok {c : MB} {a b : M} {env : S.Env} {st : Sto} {k : Bool} {st1 : Sto} (h : c env st = .ok k st1) : mIf c a b env st = if k = true then a env st1 else b env st1 := by
  unfold mIf
  rw [h]
  cases k <;> rfl
section
variable {i : Nat} {st st' : Sto} {env : S.Env} {m n : M}
theorem take_e {many : Int} (h : Box st i) (h0 : env[0]? = some (some (.ptr i))) (hw : 0 < many) (h1 : many < 1073741824) : ∃ (r : Nat) (st' : Sto), (r : Int) < many ∧ mCall 2 f__law_take [] (mCons (mVar 0) (mCons (mC (.int many)) mNil)) env st = .ok (.int (r : Nat)) st' ∧ Drawn i st st' := by
  obtain ⟨r, st', r1, e, D1⟩ := take_d h hw h1
  exact ⟨r, st', r1, call_ok (ds := [.ptr i, .int many]) (cons_ok (var_i h0) (cons_ok (st1 := st) rfl nil_ok)) rfl e, D1⟩
end
inductive Any : Nat → D → Prop
  | non {n : Nat} : Any n .non
  | bl {n : Nat} (b : Bool) : Any n (.bl b)
  | int {n : Nat} {i : Int} (h : (decide ((PyData.shown (.int i)).length ≤ 30) && (decide (i.natAbs.log2 < 100) && decide ((PyData.int i).weight ≤ 100))) = true) : Any n (.int i)
  | str {n : Nat} {x : Str} (h : PyData.strOk x = true) (hl : x.length ≤ 10) : Any n (.str x)
  | lst {n : Nat} {xs : List D} (hl : xs.length ≤ 2) (h : ∀ x ∈ xs, Any n x) : Any (n + 1) (.lst xs)
  | tup {n : Nat} {xs : List D} (hl : xs.length ≤ 2) (h : ∀ x ∈ xs, Any n x) : Any (n + 1) (.tup xs)
def wA : Nat → Nat
  | 0 => 100
  | n + 1 => 2 * (wA n + 1)
theorem wA_up (n : Nat) : 100 ≤ wA n := by
  induction n with
  | zero => exact Nat.le_refl _
  | succ n ih => show 100 ≤ 2 * (wA n + 1); omega
/-- what is known of a value's picture -/
structure Shy (p : PyData) (n : Nat) : Prop where
  lay : p.canLay0 = true
  shw : p.showable = true
  dep : p.depth ≤ n
  lf : p.leavesShort 30 = true
  we : p.weight ≤ wA n
theorem shyL {n : Nat} : ∀ {xs : List D}, (∀ x ∈ xs, ∃ p, toPy x = some p ∧ Shy p n) → ∃ ps, toPyL xs = some ps ∧ PyData.canLayAll0 ps = true ∧ PyData.showableAll ps = true ∧ PyData.depthAll ps ≤ n ∧ PyData.leavesShortAll 30 ps = true ∧ PyData.weightAll ps ≤ xs.length * (wA n + 1)
  | [], _ => ⟨[], rfl, rfl, rfl, Nat.zero_le _, rfl, by simp [PyData.weightAll]⟩
  | d :: ds, h => by
    obtain ⟨p, e, hp⟩ := h d (.head _)
    obtain ⟨ps, e1, e3, e4, e5, e6, e7⟩ := shyL (xs := ds) fun d hd => h d (.tail _ hd)
    refine ⟨p :: ps, by unfold toPyL; rw [e, e1]; rfl, ?_, ?_, ?_, ?_, ?_⟩
    · unfold PyData.canLayAll0; rw [hp.lay, e3]; rfl
    · unfold PyData.showableAll; rw [hp.shw, e4]; rfl
    · unfold PyData.depthAll; have := hp.dep; omega
    · unfold PyData.leavesShortAll; rw [hp.lf, e6]; rfl
    · unfold PyData.weightAll
      have := hp.we
      rw [List.length_cons, Nat.add_mul]
      omega
theorem Any.shy {n : Nat} {d : D} (h : Any n d) : ∃ p, toPy d = some p ∧ Shy p n := by
  induction h with
  | @non n => exact ⟨_, rfl, rfl, rfl, Nat.zero_le _, rfl, Nat.zero_le _⟩
  | @bl n b => exact ⟨_, rfl, rfl, rfl, Nat.zero_le _, rfl, Nat.zero_le _⟩
  | @int n i h =>
    rw [Bool.and_eq_true, Bool.and_eq_true, decide_eq_true_eq, decide_eq_true_eq, decide_eq_true_eq] at h
    exact ⟨.int i, rfl, rfl, by simp only [PyData.showable, decide_eq_true_eq]; omega, Nat.zero_le _, by simp only [PyData.leavesShort, decide_eq_true_eq]; exact h.1, Nat.le_trans h.2.2 (wA_up n)⟩
  | @str n x h hl =>
    refine ⟨.str x, rfl, h, rfl, Nat.zero_le _, ?_, ?_⟩
    · unfold PyData.strOk at h
      rw [← Array.all_toList, List.all_eq_true] at h
      simp only [PyData.leavesShort]
      rw [List.all_eq_true]
      intro c hc
      have := of_decide_eq_true (h c hc)
      exact decide_eq_true (by omega)
    · have := wA_up n
      have e : PyData.weight (.str x) = x.length := by simp only [PyData.weight]; rfl
      omega
  | @lst n xs hl h ih =>
    obtain ⟨ps, e1, e3, e4, e5, e6, e7⟩ := shyL ih
    refine ⟨.list ps, by show (toPyL xs).map _ = _; rw [e1]; rfl, ?_, ?_, ?_, ?_, ?_⟩
    · simpa only [PyData.canLay0] using e3
    · simpa only [PyData.showable] using e4
    · simp only [PyData.depth]; omega
    · simpa only [PyData.leavesShort] using e6
    · simp only [PyData.weight]
      have := Nat.mul_le_mul_right (wA n + 1) hl
      show _ ≤ 2 * (wA n + 1)
      omega
  | @tup n xs hl h ih =>
    obtain ⟨ps, e1, e3, e4, e5, e6, e7⟩ := shyL ih
    refine ⟨.tuple ps, by show (toPyL xs).map _ = _; rw [e1]; rfl, ?_, ?_, ?_, ?_, ?_⟩
    · simpa only [PyData.canLay0] using e3
    · simpa only [PyData.showable] using e4
    · simp only [PyData.depth]; omega
    · simpa only [PyData.leavesShort] using e6
    · simp only [PyData.weight]
      have := Nat.mul_le_mul_right (wA n + 1) hl
      show _ ≤ 2 * (wA n + 1)
      omega
theorem Any.np {n : Nat} {d : D} (h : Any n d) : ∀ k, d ≠ .ptr k := fun k e => by subst e; cases h
theorem any_w {n : Nat} {x : Str} (h : (PyData.strOk x && decide (x.length ≤ 10)) = true) : Any n (.str x) := by
  rw [Bool.and_eq_true] at h
  exact .str h.1 (of_decide_eq_true h.2)
theorem Shy.fits {p : PyData} {n : Nat} (h : Shy p n) (hn : n ≤ 8) : p.shown.length ≤ sizeLine := by
  have h1 := PyData.shown_le 30 (by decide) p h.lf
  have h2 : wA n ≤ 100000 := by
    have : ∀ k ∈ List.range 9, wA k ≤ 100000 := by decide +kernel
    exact this n (List.mem_range.mpr (by omega))
  have h3 := Nat.mul_le_mul_left 32 (Nat.le_trans h.we h2)
  rw [sizeLine_eq]
  omega
/-- repr shows it -/
theorem Any.repr {n : Nat} {d : D} (h : Any n d) (hn : n ≤ 8) (st : Sto) : ∃ t, dReprN [d] st = .ok (.str t) st := by
  obtain ⟨p, e, hp⟩ := h.shy
  have hd := PyData.hasDict_of_canLay _ hp.lay
  have hz := hp.fits hn
  cases h with
  | non => exact ⟨_, rfl⟩
  | bl b => exact ⟨_, rfl⟩
  | int h =>
    rename_i i
    rw [Bool.and_eq_true, Bool.and_eq_true, decide_eq_true_eq, decide_eq_true_eq, decide_eq_true_eq] at h
    refine ⟨toString i, ?_⟩
    unfold dReprN dReprY
    simp only
    rw [if_pos (by omega)]
  | str h hl =>
    rename_i x
    cases e
    simp only [PyData.shown] at hz
    refine ⟨reprText x, ?_⟩
    unfold dReprN dReprY dReprX
    simp only
    rw [if_pos hz]
  | lst hl h =>
    rename_i m xs
    have e' : (toPyL xs).map PyData.list = some p := e
    cases q : toPyL xs with
    | none => rw [q] at e'; cases e'
    | some ps =>
      rw [q] at e'
      cases e'
      refine ⟨(PyData.list ps).shown, ?_⟩
      unfold dReprN dReprY dReprX dRepr
      simp only [q]
      rw [if_pos ⟨hp.shw, hd, Nat.le_trans hp.dep (by omega), hz⟩]
  | tup hl h =>
    rename_i m xs
    have e' : (toPyL xs).map PyData.tuple = some p := e
    cases q : toPyL xs with
    | none => rw [q] at e'; cases e'
    | some ps =>
      rw [q] at e'
      cases e'
      refine ⟨(PyData.tuple ps).shown, ?_⟩
      unfold dReprN dReprY dReprX dRepr
      simp only [q]
      rw [if_pos ⟨hp.shw, hd, Nat.le_trans hp.dep (by omega), hz⟩]
theorem all2_right {α β : Type} {Q : β → Prop} {as : List α} {bs : List β} (h : All2 (fun _ b => Q b) as bs) : ∀ b ∈ bs, Q b := by
  induction h with
  | nil => intro b hb; simp at hb
  | cons p _ ih =>
    intro b hb
    rcases List.mem_cons.mp hb with rfl | hb
    · exact p
    · exact ih b hb
theorem all2_len {α β : Type} {Q : α → β → Prop} {as : List α} {bs : List β} (h : All2 Q as bs) : bs.length = as.length := by
  induction h with
  | nil => rfl
  | cons p _ ih => rw [List.length_cons, List.length_cons, ih]
def wL : List D := [.str "", .str "a", .str "none", .str "any", .str "same", .str "keep", .str "old", .str "abcde", .str "Ab", .str "a b", .str "x1", .str "good", .str "both", .str "\n", .str "zz"]
def pL : List D := [.non, .bl true, .bl false, .int 0, .int 1, .int (-1), .int 100000000000000000000, .lst [.str "a"], .tup [.str "a"], .int 7]
theorem wL_ok {n : Nat} : ∀ d ∈ wL, Any n d := by
  intro d hd
  simp only [wL, List.mem_cons, List.not_mem_nil, or_false] at hd
  rcases hd with rfl | rfl | rfl | rfl | rfl | rfl | rfl | rfl | rfl | rfl | rfl | rfl | rfl | rfl | rfl <;> exact any_w (by decide +kernel)
theorem pL_ok {n : Nat} : ∀ d ∈ pL, Any (n + 1) d := by
  intro d hd
  simp only [pL, List.mem_cons, List.not_mem_nil, or_false] at hd
  rcases hd with rfl | rfl | rfl | rfl | rfl | rfl | rfl | rfl | rfl | rfl
  · exact .non
  · exact .bl _
  · exact .bl _
  · exact .int (by decide +kernel)
  · exact .int (by decide +kernel)
  · exact .int (by decide +kernel)
  · exact .int (by decide +kernel)
  · exact .lst (by decide) fun x hx => by rw [List.mem_singleton.mp hx]; exact any_w (by decide +kernel)
  · exact .tup (by decide) fun x hx => by rw [List.mem_singleton.mp hx]; exact any_w (by decide +kernel)
  · exact .int (by decide +kernel)
theorem wl_ok {env : S.Env} {st : Sto} : mLst (mCons (mC (.str "")) (mCons (mC (.str "a")) (mCons (mC (.str "none")) (mCons (mC (.str "any")) (mCons (mC (.str "same")) (mCons (mC (.str "keep")) (mCons (mC (.str "old")) (mCons (mC (.str "abcde")) (mCons (mC (.str "Ab")) (mCons (mC (.str "a b")) (mCons (mC (.str "x1")) (mCons (mC (.str "good")) (mCons (mC (.str "both")) (mCons (mC (.str "\n")) (mCons (mC (.str "zz")) (mNil)))))))))))))))) env st = .ok (.lst wL) st := by
  simp [mLst, mCons, mNil, mC, R.bind, sizeLine_eq, wL]
theorem pl_ok {env : S.Env} {st : Sto} : mLst (mCons (mC .non) (mCons (mC (.bl true)) (mCons (mC (.bl false)) (mCons (mC (.int 0)) (mCons (mC (.int 1)) (mCons (mBin dSub (mC (.int 0)) (mC (.int 1))) (mCons (mBin dPow (mC (.int 10)) (mC (.int 20))) (mCons (mLst (mCons (mC (.str "a")) (mNil))) (mCons (mTup (mCons (mC (.str "a")) (mNil))) (mCons (mC (.int 7)) (mNil))))))))))) env st = .ok (.lst pL) st := by
  have hbig : dPow (.int 10) (.int 20) st = .ok (.int 100000000000000000000) st := by kernel_rfl
  have hneg : dSub (.int 0) (.int 1) st = .ok (.int (-1)) st := by kernel_rfl
  simp [mLst, mCons, mNil, mC, R.bind, sizeLine_eq, mBin, hbig, hneg, mTup, pL]
theorem any_ok : ∀ (k n i : Nat) (st : Sto), n < k → Box st i → ∃ d st', f__law_any k [.ptr i, .int (n : Nat)] st = .ok d st' ∧ Any (n + 1) d ∧ Drawn i st st'
  | 0, _, _, _, h, _ => absurd h (Nat.not_lt_zero _)
  | k + 1, n, i, st, hk, h => by
    have hi := h.lt
    let en : Option D → Option D → Option D → Option D → S.Env := fun a c e g => [some (.ptr i), some (.int (n : Nat)), a, c, e, g, none]
    obtain ⟨f, st1, f1, e1, D1⟩ := take_e (many := 14) (env := en none none none none) h rfl (by decide) (by decide)
    have s1 : mSet 2 (mCall 2 f__law_take [] (mCons (mVar 0) (mCons (mC (.int 14)) (mNil)))) (en none none none none) st = .nx (en (some (.int (f : Nat))) none none none) st1 := set_ok e1
    have fin : ∀ {d : D} {st2 : Sto}, Any (n + 1) d → Drawn i st st2 → m__law_any (f__law_any k) (en none none none none) st = .rt d st2 → ∃ d st', f__law_any (k + 1) [.ptr i, .int (n : Nat)] st = .ok d st' ∧ Any (n + 1) d ∧ Drawn i st st' := fun {d st2} hv D2 e => by
      obtain ⟨st3, e3, D3⟩ := D2.gc (d := d) hi
      refine ⟨d, st3, ?_, hv, D3⟩
      rw [← e3]
      show pur (mFun true 7 (m__law_any (f__law_any k))) [.ptr i, .int (n : Nat)] st = _
      exact call_at rfl e hv.np
    have lt : ∀ {a b : Int} {env : S.Env} {st : Sto} {p q : M}, p env st = .ok (.int a) st → q env st = .ok (.int b) st → mTest (mBin dLt p q) env st = .ok (decide (a < b)) st := fun {a b env st p q} h1 h2 => tst ((bin_ok h1 h2).trans rfl)
    have t : mAndB (mTest (mBin dLt (mVar 2) (mC (.int 4)))) (mTest (mBin dGt (mVar 1) (mC (.int 0)))) (en (some (.int (f : Nat))) none none none) st1 = .ok (decide ((f : Int) < 4) && decide ((n : Int) > 0)) st1 := by
      have t1 := lt (a := (f : Nat)) (b := 4) (env := en (some (.int (f : Nat))) none none none) (st := st1) (p := mVar 2) (q := mC (.int 4)) rfl rfl
      have t2 : mTest (mBin dGt (mVar 1) (mC (.int 0))) (en (some (.int (f : Nat))) none none none) st1 = .ok (decide ((n : Int) > 0)) st1 := tst ((bin_ok (d := .int (n : Nat)) (e := .int 0) rfl rfl).trans rfl)
      unfold mAndB
      rw [t1]
      cases decide (((f : Nat) : Int) < 4)
      · rfl
      · exact t2
    unfold m__law_any p__law_any_2 at fin
    cases q : (decide ((f : Int) < 4) && decide ((n : Int) > 0)) with
    | false =>
      rw [q] at t
      have fin2 : ∀ {d : D} {st2 : Sto}, Any (n + 1) d → Drawn i st st2 → p__law_any_1 (f__law_any k) (en (some (.int (f : Nat))) none none none) st1 = .rt d st2 → ∃ d st', f__law_any (k + 1) [.ptr i, .int (n : Nat)] st = .ok d st' ∧ Any (n + 1) d ∧ Drawn i st st' := fun {d st2} hv D2 e => by
        refine fin hv D2 ?_
        rw [seq_nx s1, seq_nx ((if_f t).trans (show mNext _ _ = .nx (en (some (.int (f : Nat))) none none none) st1 from rfl))]
        exact e
      unfold p__law_any_1 at fin2
      have t10 := lt (a := (f : Nat)) (b := 10) (env := en (some (.int (f : Nat))) none (some (.lst wL)) (some (.lst pL))) (st := st1) (p := mVar 2) (q := mC (.int 10)) rfl rfl
      cases q7 : decide (((f : Nat) : Int) < 10) with
      | true =>
        rw [q7] at t10
        obtain ⟨d, st2, m, e2, D2⟩ := pick_d (ds := wL) D1.box (by simp [wL]) (by simp [wL]) (by simp [wL, noPtr])
        refine fin2 (wL_ok d m) (D1.trans D2) ?_
        rw [seq_nx (show mSet 4 _ (en (some (.int (f : Nat))) none none none) st1 = .nx (en (some (.int (f : Nat))) none (some (.lst wL)) none) st1 from set_ok wl_ok), seq_nx (show mSet 5 _ (en (some (.int (f : Nat))) none (some (.lst wL)) none) st1 = .nx (en (some (.int (f : Nat))) none (some (.lst wL)) (some (.lst pL))) st1 from set_ok pl_ok)]
        exact ret_ok ((if_ok t10).trans (call_ok (ds := [.ptr i, .lst wL]) (cons_ok rfl (cons_ok rfl nil_ok)) rfl e2))
      | false =>
        rw [q7] at t10
        obtain ⟨d, st2, m, e2, D2⟩ := pick_d (ds := pL) D1.box (by simp [pL]) (by simp [pL]) (by simp [pL, noPtr])
        refine fin2 (pL_ok d m) (D1.trans D2) ?_
        rw [seq_nx (show mSet 4 _ (en (some (.int (f : Nat))) none none none) st1 = .nx (en (some (.int (f : Nat))) none (some (.lst wL)) none) st1 from set_ok wl_ok), seq_nx (show mSet 5 _ (en (some (.int (f : Nat))) none (some (.lst wL)) none) st1 = .nx (en (some (.int (f : Nat))) none (some (.lst wL)) (some (.lst pL))) st1 from set_ok pl_ok)]
        exact ret_ok ((if_ok t10).trans (call_ok (ds := [.ptr i, .lst pL]) (cons_ok rfl (cons_ok rfl nil_ok)) rfl e2))
    | true =>
      rw [q] at t
      rw [Bool.and_eq_true, decide_eq_true_eq, decide_eq_true_eq] at q
      obtain ⟨m, rfl⟩ : ∃ m, n = m + 1 := ⟨n - 1, by omega⟩
      obtain ⟨c, st2, c1, e2, D2⟩ := take_e (many := 3) (env := en (some (.int (f : Nat))) none none none) D1.box rfl (by decide) (by decide)
      obtain ⟨ys, st3, e3, D3, a3⟩ := lc_inv (t := .nm 6) (vs := [6]) (mt := mYes) (me := mCall 2 (f__law_any k) [] (mCons (mVar 0) (mCons (mBin dSub (mVar 1) (mC (.int 1))) (mNil)))) (fun s => Drawn i st s) (fun _ y => Any (m + 1) y) (env := en (some (.int (f : Nat))) none none none) (ds := rangeD 0 c) (acc := []) (st := st2) (by
        have : (rangeD 0 c).length ≤ 1000 := by unfold rangeD; simp; omega
        rw [sizeLine_eq]; simp only [List.length_nil]; omega) (D1.trans D2) fun d _ s hs => by
        obtain ⟨y, s2, ey, hy, Dy⟩ := any_ok k m i s (by omega) hs.box
        refine ⟨_, y, s2, rfl, rfl, ?_, hs.trans Dy, hy⟩
        refine call_ok (ds := [.ptr i, .int m]) (cons_ok rfl (cons_ok ?_ nil_ok)) rfl ey
        simp [mBin, mVar, mC, wipeE, R.bind, dSub, dI, en]
      have lc : mLc (.nm 6) [6] (mItRange (mCons (mCall 2 f__law_take [] (mCons (mVar 0) (mCons (mC (.int 3)) (mNil)))) (mNil))) (mYes) (mCall 2 (f__law_any k) [] (mCons (mVar 0) (mCons (mBin dSub (mVar 1) (mC (.int 1))) (mNil)))) (en (some (.int (f : Nat))) none none none) st1 = .ok (.lst ys) st3 := by
        unfold mLc
        rw [rngN e2 (by omega)]
        simp only [R.bind, e3, List.nil_append]
      have ly : ys.length ≤ 2 := by
        have := all2_len a3
        rw [this]
        unfold rangeD
        rw [List.length_map, List.length_range]
        omega
      have hys := all2_right a3
      have t7 := lt (a := (f : Nat)) (b := 2) (env := en (some (.int (f : Nat))) (some (.lst ys)) none none) (st := st3) (p := mVar 2) (q := mC (.int 2)) rfl rfl
      have pre : ∀ {d : D}, Any (m + 1 + 1) d → mIf (mTest (mBin dLt (mVar 2) (mC (.int 2)))) (mVar 3) (mApp dTuple (mCons (mVar 3) (mNil))) (en (some (.int (f : Nat))) (some (.lst ys)) none none) st3 = .ok d st3 → ∃ d st', f__law_any (k + 1) [.ptr i, .int ((m + 1 : Nat))] st = .ok d st' ∧ Any (m + 1 + 1) d ∧ Drawn i st st' := fun {d} hv e => by
        refine fin hv D3 ?_
        rw [seq_nx s1]
        refine seq_rt ((if_t t).trans ?_)
        rw [seq_nx (show mSet 3 _ (en (some (.int (f : Nat))) none none none) st1 = .nx (en (some (.int (f : Nat))) (some (.lst ys)) none none) st3 from set_ok lc)]
        exact ret_ok e
      cases q7 : decide (((f : Nat) : Int) < 2) with
      | true => rw [q7] at t7; exact pre (.lst ly hys) ((if_ok t7).trans rfl)
      | false => rw [q7] at t7; exact pre (.tup ly hys) ((if_ok t7).trans rfl)
end K
namespace K
open PySem L2 S
/-! ### the errors, and the law -/
theorem of10 {a : Nat} (h : a < 10) : a = 0 ∨ a = 1 ∨ a = 2 ∨ a = 3 ∨ a = 4 ∨ a = 5 ∨ a = 6 ∨ a = 7 ∨ a = 8 ∨ a = 9 := by omega
theorem of8 {a : Nat} (h : a < 8) : a = 0 ∨ a = 1 ∨ a = 2 ∨ a = 3 ∨ a = 4 ∨ a = 5 ∨ a = 6 ∨ a = 7 := by omega
def exA (a : Nat) (d : D) : D := match a with
  | 0 => .exv 0 ["word"] [d]
  | 1 => .exv 1 ["word"] [d]
  | 2 => .exv 2 ["word"] [d]
  | 3 => .exv 3 ["at"] [d]
  | 4 => .exv 4 ["word"] [d]
  | 5 => .exv 5 ["word"] [d]
  | 6 => .exv 6 ["at"] [d]
  | 7 => .exv 7 ["name"] [d]
  | 8 => .exv 8 [] []
  | _ => .exv 9 [] []
theorem made_ok {a : Nat} (ha : a < 10) (d : D) (st : Sto) : f__law_made [.int (a : Nat), d] st = .ok (exA a d) st := by
  have e : m__law_made [some (.int (a : Nat)), some d] st = .rt (exA a d) st := by
    rcases of10 ha with rfl | rfl | rfl | rfl | rfl | rfl | rfl | rfl | rfl | rfl <;> rfl
  show mFun false 2 m__law_made [.int (a : Nat), d] st = _
  unfold mFun
  rw [show m__law_made ([D.int (a : Nat), d].map some ++ List.replicate (2 - [D.int (a : Nat), d].length) none) st = .rt (exA a d) st from e]
  exact gc_same rfl
theorem sorts_ok {a : Nat} (ha : a < 10) (d : D) (st : Sto) : f__law_sorts [exA a d] st = .ok (.ptr st.length) (st ++ [.lst [.int (a : Nat)]]) := by
  have e : m__law_sorts [some (exA a d), none, none, none] st = .rt (.ptr st.length) (st ++ [.lst [.int (a : Nat)]]) := by
    rcases of10 ha with rfl | rfl | rfl | rfl | rfl | rfl | rfl | rfl | rfl | rfl <;> kernel_rfl
  show mFun false 4 m__law_sorts [exA a d] st = _
  unfold mFun
  rw [show m__law_sorts ([exA a d].map some ++ List.replicate (4 - [exA a d].length) none) st = .rt (.ptr st.length) (st ++ [.lst [.int (a : Nat)]]) from e]
  show gc st.length (.ptr st.length) (st ++ [.lst [.int (a : Nat)]]) = _
  unfold gc
  rw [show S.below st.length (.ptr st.length) = false by unfold S.below; simp]
  rfl
theorem kept_ok {a : Nat} (ha : a < 8) (d : D) (st : Sto) : f__law_kept [exA a d, .int (a : Nat)] st = .ok d st := by
  have e : m__law_kept [some (exA a d), some (.int (a : Nat))] st = .rt d st := by
    rcases of8 ha with rfl | rfl | rfl | rfl | rfl | rfl | rfl | rfl <;> kernel_rfl
  show mFun false 2 m__law_kept [exA a d, .int (a : Nat)] st = _
  unfold mFun
  rw [show m__law_kept ([exA a d, D.int (a : Nat)].map some ++ List.replicate (2 - [exA a d, D.int (a : Nat)].length) none) st = .rt d st from e]
  exact gc_same rfl
section
variable {a i : Nat} {v x : D} {e0 e1 e2 e4 e5 e6 : Option D} {st st' : Sto} {env : S.Env}
theorem ne_self {t : Str} : dNe (.str t) (.str t) st = .ok (.bl false) st := by simp [dNe, eqD, isFl, fl, scal]
theorem at_last {c : C} : (st ++ [c])[st.length]? = some c := by simp
theorem orB_f {p q : MB} (h : p env st = .ok false st') (h' : q env st' = .ok false st') : mOrB p q env st = .ok false st' := by
  unfold mOrB
  rw [h]
  exact h'
theorem andB_f {p q : MB} (h : p env st = .ok false st') : mAndB p q env st = .ok false st' := by
  unfold mAndB
  rw [h]
  rfl
theorem andB_t {p q : MB} {b : Bool} (h : p env st = .ok true st) (h' : q env st = .ok b st') : mAndB p q env st = .ok b st' := by
  unfold mAndB
  rw [h]
  exact h'
theorem lt8 (env3 : env[3]? = some (some (.int (a : Nat)))) : mTest (mBin dLt (mVar 3) (mC (.int 8))) env st = .ok (decide (a < 8)) st := by
  refine (tst ((bin_ok (var_i env3) (e := .int 8) (st2 := st) rfl).trans rfl)).trans ?_
  show R.ok (decide ((a : Int) < 8)) st = _
  rw [show decide ((a : Int) < 8) = decide (a < 8) from decide_eq_decide.mpr (by omega)]
theorem c8_ok (ha : a < 10) : mOrB (mTest (mBin dNe (mCall 1 f__law_sorts [] (mCons (mVar 5) (mNil))) (mLst (mCons (mVar 3) (mNil))))) (mTest (mBin dNe (mIsv xk_TraceError (mVar 5)) (mBin dNotIn (mVar 3) (mTup (mCons (mC (.int 6)) (mCons (mC (.int 7)) (mNil))))))) [e0, e1, e2, some (.int (a : Nat)), e4, some (exA a v), e6] st = .ok false (st ++ [.lst [.int (a : Nat)]]) := by
  have s : mCall 1 f__law_sorts [] (mCons (mVar 5) (mNil)) [e0, e1, e2, some (.int (a : Nat)), e4, some (exA a v), e6] st = .ok (.ptr st.length) (st ++ [.lst [.int (a : Nat)]]) := call_ok (ds := [exA a v]) (cons_ok rfl nil_ok) rfl (sorts_ok ha v st)
  refine orB_f (tst ((bin_ok s (e := .lst [.int (a : Nat)]) (st2 := st ++ [.lst [.int (a : Nat)]]) ?_).trans ?_)) ?_
  · simp [mLst, mCons, mNil, mVar, R.bind, sizeLine_eq]
  · have hr : rd (st ++ [C.lst [.int (a : Nat)]]) (.ptr st.length) = .lst [.int (a : Nat)] := by
      unfold rd
      simp only [at_last]
    have hk : eqD (st ++ [C.lst [.int (a : Nat)]]) (.ptr st.length) (.lst [.int (a : Nat)]) = some true := by
      unfold eqD
      rw [hr]
      rcases of10 ha with rfl | rfl | rfl | rfl | rfl | rfl | rfl | rfl | rfl | rfl <;> rfl
    unfold dNe
    rw [hk]
    rfl
  · rcases of10 ha with rfl | rfl | rfl | rfl | rfl | rfl | rfl | rfl | rfl | rfl <;> rfl
theorem c7_ok (ha : a < 10) : mAndB (mTru (mIsv xk_TraceError (mVar 5))) (mNotB (mTru (mIsv xk_ValueError (mVar 5)))) [e0, e1, e2, some (.int (a : Nat)), e4, some (exA a v), e6] st = .ok false st := by
  rcases of10 ha with rfl | rfl | rfl | rfl | rfl | rfl | rfl | rfl | rfl | rfl <;> rfl
theorem c6_ok (ha : a < 10) : mOrB (mAndB (mTest (mBin dEq (mVar 3) (mC (.int 6)))) (mNotB (mTru (mIsv xk_IndexError (mVar 5))))) (mAndB (mTest (mBin dEq (mVar 3) (mC (.int 7)))) (mNotB (mTru (mIsv xk_KeyError (mVar 5))))) [e0, e1, e2, some (.int (a : Nat)), e4, some (exA a v), e6] st = .ok false st := by
  rcases of10 ha with rfl | rfl | rfl | rfl | rfl | rfl | rfl | rfl | rfl | rfl <;> rfl
theorem c5_ok (ha : a < 10) (hv : Any 4 v) : mAndB (mTest (mBin dLt (mVar 3) (mC (.int 8)))) (mTest (mBin dNe (mApp dReprN (mCons (mCall 2 f__law_kept [] (mCons (mVar 5) (mCons (mVar 3) (mNil)))) (mNil))) (mApp dReprN (mCons (mVar 4) (mNil))))) [e0, e1, e2, some (.int (a : Nat)), some v, some (exA a v), e6] st = .ok false st := by
  by_cases h8 : a < 8
  · obtain ⟨t, ht⟩ := hv.repr (by decide) st
    have k : mCall 2 f__law_kept [] (mCons (mVar 5) (mCons (mVar 3) (mNil))) [e0, e1, e2, some (.int (a : Nat)), some v, some (exA a v), e6] st = .ok v st := call_ok (ds := [exA a v, .int (a : Nat)]) (cons_ok rfl (cons_ok rfl nil_ok)) rfl (kept_ok h8 v st)
    refine andB_t ((lt8 rfl).trans (by rw [decide_eq_true h8])) (tst ((bin_ok (app_ok (cons_ok k nil_ok) |>.trans ht) (app_ok (cons_ok (show mVar 4 _ st = .ok v st from rfl) nil_ok) |>.trans ht)).trans ne_self))
  · exact andB_f ((lt8 rfl).trans (by rw [decide_eq_false h8]))
/-- a list that was changed: the very list -/
theorem ne_ptr {n : Nat} {d : D} (hs : st[n]? = some (.lst [d, .str "more"])) (hd : Any 2 d) : dNe (.ptr n) (.ptr n) st = .ok (.bl false) st := by
  obtain ⟨p, e, hp⟩ := hd.shy
  have hr : rd st (.ptr n) = .lst [d, .str "more"] := by
    unfold rd
    simp only [hs]
  have ht : toPy (.lst [d, .str "more"]) = some (.list [p, .str "more"]) := by
    unfold toPy toPyL toPyL toPyL
    rw [e]
    rfl
  have hl : (PyData.list [p, .str "more"]).canLay0 = true := by
    simp only [PyData.canLay0, PyData.canLayAll0, hp.lay, Bool.true_and]
    decide +kernel
  have hsh : SeqAt.shaped (PyData.list [p, .str "more"]) = true := by
    unfold SeqAt.shaped
    rw [hl]
    have := hp.dep
    rw [Bool.true_and]
    refine decide_eq_true ?_
    have h0 : (PyData.list [p, .str "more"]).depth ≤ 3 := by
      have e : (PyData.list [p, .str "more"]).depth = max p.depth (max 0 0) + 1 := by simp only [PyData.depth, PyData.depthAll]
      rw [e]
      have := Nat.max_le.mpr ⟨hp.dep, (by decide : max 0 0 ≤ 2)⟩
      omega
    omega
  have hk : eqD st (.ptr n) (.ptr n) = some true := by
    unfold eqD
    rw [if_neg (by simp [isFl])]
    rw [hr, ht]
    simp only [hsh, Bool.and_self, if_true]
    rw [SeqAt.eqv_refl _ hl]
  unfold dNe
  rw [hk]
  rfl
theorem c1_ok {n : Nat} {d : D} (ha : a < 10) (hs : st[n]? = some (.lst [d, .str "more"])) (hd : Any 2 d) : mAndB (mTest (mBin dLt (mVar 3) (mC (.int 8)))) (mTest (mBin dNe (mCall 2 f__law_kept [] (mCons (mVar 5) (mCons (mVar 3) (mNil)))) (mVar 6))) [e0, e1, e2, some (.int (a : Nat)), e4, some (exA a (.ptr n)), some (.ptr n)] st = .ok false st := by
  by_cases h8 : a < 8
  · have k : mCall 2 f__law_kept [] (mCons (mVar 5) (mCons (mVar 3) (mNil))) [e0, e1, e2, some (.int (a : Nat)), e4, some (exA a (.ptr n)), some (.ptr n)] st = .ok (.ptr n) st := call_ok (ds := [exA a (.ptr n), .int (a : Nat)]) (cons_ok rfl (cons_ok rfl nil_ok)) rfl (kept_ok h8 (.ptr n) st)
    exact andB_t ((lt8 rfl).trans (by rw [decide_eq_true h8])) (tst ((bin_ok k (e := .ptr n) (st2 := st) rfl).trans (ne_ptr hs hd)))
  · exact andB_f ((lt8 rfl).trans (by rw [decide_eq_false h8]))
/-- one error -/
theorem turn_ok (ha : a < 10) (hB : Box st i) : ∃ x y z st', p_law_11 [e0, e1, some (.ptr i), some (.int (a : Nat)), e4, e5, e6] st = .nx [e0, e1, some (.ptr i), some (.int (a : Nat)), x, y, z] st' ∧ Box st' i := by
  obtain ⟨v, st1, ev, hv, D1⟩ := any_ok 5 3 i st (by decide) hB
  obtain ⟨d, st2, ed, hd, D2⟩ := any_ok 5 1 i (st1 ++ [.lst [.int (a : Nat)]]) (by decide) (Drawn.app D1.box).box
  have B3 : Box (st2 ++ [C.lst [d]]) i := (Drawn.app D2.box).box
  have hn : i ≠ st2.length := by have := D2.box.lt; omega
  have set_at : (st2 ++ [C.lst [d]]).set st2.length (.lst [d, .str "more"]) = st2 ++ [C.lst [d, .str "more"]] := by simp
  refine ⟨some v, some (exA a (.ptr st2.length)), some (.ptr st2.length), st2 ++ [C.lst [d, .str "more"]], ?_, (Drawn.app (r := [C.lst [d, .str "more"]]) D2.box).box⟩
  unfold p_law_11 p_law_10
  refine (seq_nx (set_ok (call_ok (ds := [.ptr i, .int (3 : Nat)]) (cons_ok rfl (cons_ok rfl nil_ok)) rfl ev))).trans ?_
  show p_law_9 [e0, e1, some (.ptr i), some (.int (a : Nat)), some v, e5, e6] st1 = _
  unfold p_law_9
  refine (seq_nx (set_ok (call_ok (ds := [.int (a : Nat), v]) (cons_ok rfl (cons_ok rfl nil_ok)) rfl (made_ok ha v st1)))).trans ?_
  show p_law_8 [e0, e1, some (.ptr i), some (.int (a : Nat)), some v, some (exA a v), e6] st1 = _
  unfold p_law_8
  refine (seq_nx ((if_f (c8_ok ha)).trans rfl)).trans ?_
  unfold p_law_7
  refine (seq_nx ((if_f (c7_ok ha)).trans rfl)).trans ?_
  unfold p_law_6
  refine (seq_nx ((if_f (c6_ok ha)).trans rfl)).trans ?_
  unfold p_law_5
  refine (seq_nx ((if_f (c5_ok ha hv)).trans rfl)).trans ?_
  unfold p_law_4
  have told : mLstC (mCons (mCall 2 (f__law_any 5) [] (mCons (mVar 2) (mCons (mC (.int 1)) (mNil)))) (mNil)) [e0, e1, some (.ptr i), some (.int (a : Nat)), some v, some (exA a v), e6] (st1 ++ [.lst [.int (a : Nat)]]) = .ok (.ptr st2.length) (st2 ++ [.lst [d]]) := by
    have e := cons_ok (call_ok (k := 2) (F := f__law_any 5) (ma := mCons (mVar 2) (mCons (mC (.int 1)) (mNil))) (env := [e0, e1, some (.ptr i), some (.int (a : Nat)), some v, some (exA a v), e6]) (st := st1 ++ [.lst [.int (a : Nat)]]) (ds := [.ptr i, .int (1 : Nat)]) (cons_ok rfl (cons_ok rfl nil_ok)) rfl ed) nil_ok
    simp [mLstC, e, R.bind, sizeLine_eq]
  refine (seq_nx (set_ok told)).trans ?_
  show p_law_3 [e0, e1, some (.ptr i), some (.int (a : Nat)), some v, some (exA a v), some (.ptr st2.length)] (st2 ++ [.lst [d]]) = _
  unfold p_law_3
  refine (seq_nx (set_ok (call_ok (ds := [.int (a : Nat), .ptr st2.length]) (cons_ok rfl (cons_ok rfl nil_ok)) rfl (made_ok ha (.ptr st2.length) _)))).trans ?_
  show p_law_2 [e0, e1, some (.ptr i), some (.int (a : Nat)), some v, some (exA a (.ptr st2.length)), some (.ptr st2.length)] (st2 ++ [.lst [d]]) = _
  unfold p_law_2
  have app : mDo (mLm dAppend (mVar 6) (mCons (mC (.str "more")) (mNil))) [e0, e1, some (.ptr i), some (.int (a : Nat)), some v, some (exA a (.ptr st2.length)), some (.ptr st2.length)] (st2 ++ [.lst [d]]) = .nx [e0, e1, some (.ptr i), some (.int (a : Nat)), some v, some (exA a (.ptr st2.length)), some (.ptr st2.length)] (st2 ++ [.lst [d, .str "more"]]) := by
    simp [mDo, mLm, mVar, mCons, mC, mNil, R.bind, isLst, rd, dAppend, sizeLine_eq]
  refine (seq_nx app).trans ?_
  unfold p_law_1
  exact (if_f (c1_ok ha (by simp) hd)).trans rfl
theorem cell_ok {xs : List Int} {k : Nat} {e2 e3 e4 e5 e6 : Option D} {st : Sto} : ∃ env' st', p_law_12 [some (.rls (xs.map D.int)), some (.int k), e2, e3, e4, e5, e6] st = .nx (some (.rls (xs.map D.int)) :: env') st' ∧ env'.length = 6 := by
  obtain ⟨st0, hb, B0, _⟩ := box_d (st := st) (xs := xs) (k := k)
  obtain ⟨env', st', e, ⟨f3, f4, f5, f6, rfl⟩, _⟩ := for_inv (t := .nm 3) (body := p_law_11) (fun env s => (∃ f3 f4 f5 f6, env = [some (.rls (xs.map D.int)), some (.int k), some (.ptr st.length), f3, f4, f5, f6]) ∧ Box s st.length) (ds := rangeD 0 10) (env := [some (.rls (xs.map D.int)), some (.int k), some (.ptr st.length), e3, e4, e5, e6]) (st := st0) ⟨⟨_, _, _, _, rfl⟩, B0⟩ fun d hd env s ⟨⟨f3, f4, f5, f6, h0⟩, hB⟩ => by
    subst h0
    obtain ⟨t, ht, rfl⟩ := range_nat hd
    obtain ⟨x, y, z, s', e, B⟩ := turn_ok (a := t) (e0 := some (.rls (xs.map D.int))) (e1 := some (.int k)) (e4 := f4) (e5 := f5) (e6 := f6) ht hB
    exact ⟨_, _, s', rfl, e, ⟨_, _, _, _, rfl⟩, B⟩
  refine ⟨[some (.int k), some (.ptr st.length), f3, f4, f5, f6], st', ?_, rfl⟩
  unfold p_law_12
  refine (seq_nx (set_ok (call_ok (ds := [.rls (xs.map D.int), .int k]) (cons_ok rfl (cons_ok rfl nil_ok)) rfl hb))).trans ?_
  show mFor _ _ _ [some (.rls (xs.map D.int)), some (.int k), some (.ptr st.length), e3, e4, e5, e6] st0 = _
  unfold mFor
  have hr : mItRange (mCons (mC (.int 10)) mNil) [some (.rls (xs.map D.int)), some (.int k), some (.ptr st.length), e3, e4, e5, e6] st0 = .ok (rangeD 0 10) st0 := rfl
  rw [hr]
  exact e
end
theorem law_true (ns : List Int) (hl : ns.length ≤ 63) : ∃ st, f_law [.rls (ns.map D.int)] [] = .ok (.bl true) st := by
  obtain ⟨r, hr⟩ := cells_of ns 5 (by decide) (by decide) [none, none, none, none, none, none] []
  obtain ⟨env', st', e, h0, hl'⟩ := for_inv (t := .nm 1) (body := p_law_12) (fun env _ => env[0]? = some (some (.rls (ns.map D.int))) ∧ env.length = 7) (ds := rangeD 0 r) (env := [some (.rls (ns.map D.int)), none, none, none, none, none, none]) (st := []) ⟨rfl, rfl⟩ fun d hd env st ⟨h0, hl⟩ => by
    obtain ⟨k, _, rfl⟩ := range_nat hd
    match env, hl, h0 with
    | [e0, e1, e2, e3, e4, e5, e6], _, h0 =>
      obtain rfl : e0 = _ := Option.some.inj h0
      obtain ⟨env', st', e, q⟩ := cell_ok (xs := ns) (k := k) (e2 := e2) (e3 := e3) (e4 := e4) (e5 := e5) (e6 := e6) (st := st)
      exact ⟨_, _, st', rfl, e, rfl, by simp [q]⟩
  refine law_end (n := 7) (ms := m_law) (st' := st') ?_
  show m_law [some (.rls (ns.map D.int)), none, none, none, none, none, none] [] = _
  unfold m_law
  have f : mFor (.nm 1) (mItRange (mCons (mApp dMax (mCons (mC (.int 1)) (mCons (mApp dMin (mCons (mC (.int 5)) (mCons (mApp dLen (mCons (mVar 0) mNil)) mNil))) mNil))) mNil)) p_law_12 [some (.rls (ns.map D.int)), none, none, none, none, none, none] [] = .nx env' st' := by
    unfold mFor
    rw [hr]
    exact e
  exact (seq_nx f).trans (ret_ok rfl)
end K
namespace K
open PySem L2 S
theorem all_mk {K : PySem.W.Frag} {h : Heap} {mg : Str → Option Value} (w : World) (X : K.In h) (G : h.Ns mainGlobals mg)
    {C_InvalidRow : Addr} {C_InvalidService : Addr} {C_InvalidBook : Addr} {C_InvalidText : Addr} {C_InvalidTree : Addr} {C_Refused : Addr} {C_NoRow : Addr} {C_NoService : Addr} {C_Mismatch : Addr} {C_InvalidCommand : Addr} {C_TraceError : Addr} {f_InvalidRow_init : Addr} {od_InvalidRow_init an_InvalidRow_init : Option Addr} {sl_InvalidRow_init : Array (Option Value)} {oc_InvalidRow_init kV_InvalidRow_init dc_InvalidRow_init pm_InvalidRow_init ct_InvalidRow_init : Value} {ca_InvalidRow_init cc_InvalidRow_init : Addr} {cl_InvalidRow_init cv_InvalidRow_init : Value} {cld_InvalidRow_init cdd_InvalidRow_init : Option Addr} {csl_InvalidRow_init ccs_InvalidRow_init : Array (Option Value)} {vs_InvalidRow_init : Array Value} {file_InvalidRow_init : Str} {tf_InvalidRow_init : Tok} {f_InvalidService_init : Addr} {od_InvalidService_init an_InvalidService_init : Option Addr} {sl_InvalidService_init : Array (Option Value)} {oc_InvalidService_init kV_InvalidService_init dc_InvalidService_init pm_InvalidService_init ct_InvalidService_init : Value} {ca_InvalidService_init cc_InvalidService_init : Addr} {cl_InvalidService_init cv_InvalidService_init : Value} {cld_InvalidService_init cdd_InvalidService_init : Option Addr} {csl_InvalidService_init ccs_InvalidService_init : Array (Option Value)} {vs_InvalidService_init : Array Value} {file_InvalidService_init : Str} {tf_InvalidService_init : Tok} {f_InvalidBook_init : Addr} {od_InvalidBook_init an_InvalidBook_init : Option Addr} {sl_InvalidBook_init : Array (Option Value)} {oc_InvalidBook_init kV_InvalidBook_init dc_InvalidBook_init pm_InvalidBook_init ct_InvalidBook_init : Value} {ca_InvalidBook_init cc_InvalidBook_init : Addr} {cl_InvalidBook_init cv_InvalidBook_init : Value} {cld_InvalidBook_init cdd_InvalidBook_init : Option Addr} {csl_InvalidBook_init ccs_InvalidBook_init : Array (Option Value)} {vs_InvalidBook_init : Array Value} {file_InvalidBook_init : Str} {tf_InvalidBook_init : Tok} {f_InvalidText_init : Addr} {od_InvalidText_init an_InvalidText_init : Option Addr} {sl_InvalidText_init : Array (Option Value)} {oc_InvalidText_init kV_InvalidText_init dc_InvalidText_init pm_InvalidText_init ct_InvalidText_init : Value} {ca_InvalidText_init cc_InvalidText_init : Addr} {cl_InvalidText_init cv_InvalidText_init : Value} {cld_InvalidText_init cdd_InvalidText_init : Option Addr} {csl_InvalidText_init ccs_InvalidText_init : Array (Option Value)} {vs_InvalidText_init : Array Value} {file_InvalidText_init : Str} {tf_InvalidText_init : Tok} {f_InvalidTree_init : Addr} {od_InvalidTree_init an_InvalidTree_init : Option Addr} {sl_InvalidTree_init : Array (Option Value)} {oc_InvalidTree_init kV_InvalidTree_init dc_InvalidTree_init pm_InvalidTree_init ct_InvalidTree_init : Value} {ca_InvalidTree_init cc_InvalidTree_init : Addr} {cl_InvalidTree_init cv_InvalidTree_init : Value} {cld_InvalidTree_init cdd_InvalidTree_init : Option Addr} {csl_InvalidTree_init ccs_InvalidTree_init : Array (Option Value)} {vs_InvalidTree_init : Array Value} {file_InvalidTree_init : Str} {tf_InvalidTree_init : Tok} {f_Refused_init : Addr} {od_Refused_init an_Refused_init : Option Addr} {sl_Refused_init : Array (Option Value)} {oc_Refused_init kV_Refused_init dc_Refused_init pm_Refused_init ct_Refused_init : Value} {ca_Refused_init cc_Refused_init : Addr} {cl_Refused_init cv_Refused_init : Value} {cld_Refused_init cdd_Refused_init : Option Addr} {csl_Refused_init ccs_Refused_init : Array (Option Value)} {vs_Refused_init : Array Value} {file_Refused_init : Str} {tf_Refused_init : Tok} {f_NoRow_init : Addr} {od_NoRow_init an_NoRow_init : Option Addr} {sl_NoRow_init : Array (Option Value)} {oc_NoRow_init kV_NoRow_init dc_NoRow_init pm_NoRow_init ct_NoRow_init : Value} {ca_NoRow_init cc_NoRow_init : Addr} {cl_NoRow_init cv_NoRow_init : Value} {cld_NoRow_init cdd_NoRow_init : Option Addr} {csl_NoRow_init ccs_NoRow_init : Array (Option Value)} {vs_NoRow_init : Array Value} {file_NoRow_init : Str} {tf_NoRow_init : Tok} {f_NoService_init : Addr} {od_NoService_init an_NoService_init : Option Addr} {sl_NoService_init : Array (Option Value)} {oc_NoService_init kV_NoService_init dc_NoService_init pm_NoService_init ct_NoService_init : Value} {ca_NoService_init cc_NoService_init : Addr} {cl_NoService_init cv_NoService_init : Value} {cld_NoService_init cdd_NoService_init : Option Addr} {csl_NoService_init ccs_NoService_init : Array (Option Value)} {vs_NoService_init : Array Value} {file_NoService_init : Str} {tf_NoService_init : Tok} {f__law_box : Addr} {od__law_box an__law_box : Option Addr} {sl__law_box : Array (Option Value)} {oc__law_box kV__law_box dc__law_box pm__law_box ct__law_box : Value} {cd__law_box : Value} {f__law_take : Addr} {od__law_take an__law_take : Option Addr} {sl__law_take : Array (Option Value)} {oc__law_take kV__law_take dc__law_take pm__law_take ct__law_take : Value} {cd__law_take : Value} {f__law_pick : Addr} {od__law_pick an__law_pick : Option Addr} {sl__law_pick : Array (Option Value)} {oc__law_pick kV__law_pick dc__law_pick pm__law_pick ct__law_pick : Value} {cd__law_pick : Value} {f__law_any : Addr} {od__law_any an__law_any : Option Addr} {sl__law_any : Array (Option Value)} {oc__law_any kV__law_any dc__law_any pm__law_any ct__law_any : Value} {cd__law_any : Value} {f__law_made : Addr} {od__law_made an__law_made : Option Addr} {sl__law_made : Array (Option Value)} {oc__law_made kV__law_made dc__law_made pm__law_made ct__law_made : Value} {cd__law_made : Value} {f__law_sorts : Addr} {od__law_sorts an__law_sorts : Option Addr} {sl__law_sorts : Array (Option Value)} {oc__law_sorts kV__law_sorts dc__law_sorts pm__law_sorts ct__law_sorts : Value} {cd__law_sorts : Value} {f__law_kept : Addr} {od__law_kept an__law_kept : Option Addr} {sl__law_kept : Array (Option Value)} {oc__law_kept kV__law_kept dc__law_kept pm__law_kept ct__law_kept : Value} {cd__law_kept : Value} {f_law : Addr} {od_law an_law : Option Addr} {sl_law : Array (Option Value)} {oc_law kV_law dc_law pm_law ct_law : Value} {cd_law : Value} {xn_InvalidRow xq_InvalidRow : Str} {xN_InvalidRow : Addr} {xb_InvalidRow xs_InvalidRow : List Value} {xsn_InvalidRow : List Str} {xab_InvalidRow : Bool} {xcol_InvalidRow : Option Bool} {xdd_InvalidRow : Option Addr} {x0_InvalidRow x1_InvalidRow x2_InvalidRow x3_InvalidRow x5_InvalidRow : Option Value} {xcd_InvalidRow : ClassData} {xn_InvalidService xq_InvalidService : Str} {xN_InvalidService : Addr} {xb_InvalidService xs_InvalidService : List Value} {xsn_InvalidService : List Str} {xab_InvalidService : Bool} {xcol_InvalidService : Option Bool} {xdd_InvalidService : Option Addr} {x0_InvalidService x1_InvalidService x2_InvalidService x3_InvalidService x5_InvalidService : Option Value} {xcd_InvalidService : ClassData} {xn_InvalidBook xq_InvalidBook : Str} {xN_InvalidBook : Addr} {xb_InvalidBook xs_InvalidBook : List Value} {xsn_InvalidBook : List Str} {xab_InvalidBook : Bool} {xcol_InvalidBook : Option Bool} {xdd_InvalidBook : Option Addr} {x0_InvalidBook x1_InvalidBook x2_InvalidBook x3_InvalidBook x5_InvalidBook : Option Value} {xcd_InvalidBook : ClassData} {xn_InvalidText xq_InvalidText : Str} {xN_InvalidText : Addr} {xb_InvalidText xs_InvalidText : List Value} {xsn_InvalidText : List Str} {xab_InvalidText : Bool} {xcol_InvalidText : Option Bool} {xdd_InvalidText : Option Addr} {x0_InvalidText x1_InvalidText x2_InvalidText x3_InvalidText x5_InvalidText : Option Value} {xcd_InvalidText : ClassData} {xn_InvalidTree xq_InvalidTree : Str} {xN_InvalidTree : Addr} {xb_InvalidTree xs_InvalidTree : List Value} {xsn_InvalidTree : List Str} {xab_InvalidTree : Bool} {xcol_InvalidTree : Option Bool} {xdd_InvalidTree : Option Addr} {x0_InvalidTree x1_InvalidTree x2_InvalidTree x3_InvalidTree x5_InvalidTree : Option Value} {xcd_InvalidTree : ClassData} {xn_Refused xq_Refused : Str} {xN_Refused : Addr} {xb_Refused xs_Refused : List Value} {xsn_Refused : List Str} {xab_Refused : Bool} {xcol_Refused : Option Bool} {xdd_Refused : Option Addr} {x0_Refused x1_Refused x2_Refused x3_Refused x5_Refused : Option Value} {xcd_Refused : ClassData} {xn_NoRow xq_NoRow : Str} {xN_NoRow : Addr} {xb_NoRow xs_NoRow : List Value} {xsn_NoRow : List Str} {xab_NoRow : Bool} {xcol_NoRow : Option Bool} {xdd_NoRow : Option Addr} {x0_NoRow x1_NoRow x2_NoRow x3_NoRow x5_NoRow : Option Value} {xcd_NoRow : ClassData} {xn_NoService xq_NoService : Str} {xN_NoService : Addr} {xb_NoService xs_NoService : List Value} {xsn_NoService : List Str} {xab_NoService : Bool} {xcol_NoService : Option Bool} {xdd_NoService : Option Addr} {x0_NoService x1_NoService x2_NoService x3_NoService x5_NoService : Option Value} {xcd_NoService : ClassData} {kdd_InvalidRow : ClassData} {kdd_InvalidService : ClassData} {kdd_InvalidBook : ClassData} {kdd_InvalidText : ClassData} {kdd_InvalidTree : ClassData} {kdd_Refused : ClassData} {kdd_NoRow : ClassData} {kdd_NoService : ClassData} {kdd_Mismatch : ClassData} {kdd_InvalidCommand : ClassData} {kdd_TraceError : ClassData}
    (aC_InvalidRow : PySem.W.nsIn K mainGlobals "InvalidRow" = some (some (.ref C_InvalidRow)))
    (aC_InvalidService : PySem.W.nsIn K mainGlobals "InvalidService" = some (some (.ref C_InvalidService)))
    (aC_InvalidBook : PySem.W.nsIn K mainGlobals "InvalidBook" = some (some (.ref C_InvalidBook)))
    (aC_InvalidText : PySem.W.nsIn K mainGlobals "InvalidText" = some (some (.ref C_InvalidText)))
    (aC_InvalidTree : PySem.W.nsIn K mainGlobals "InvalidTree" = some (some (.ref C_InvalidTree)))
    (aC_Refused : PySem.W.nsIn K mainGlobals "Refused" = some (some (.ref C_Refused)))
    (aC_NoRow : PySem.W.nsIn K mainGlobals "NoRow" = some (some (.ref C_NoRow)))
    (aC_NoService : PySem.W.nsIn K mainGlobals "NoService" = some (some (.ref C_NoService)))
    (aC_Mismatch : PySem.W.nsIn K mainGlobals "Mismatch" = some (some (.ref C_Mismatch)))
    (aC_InvalidCommand : PySem.W.nsIn K mainGlobals "InvalidCommand" = some (some (.ref C_InvalidCommand)))
    (aC_TraceError : PySem.W.nsIn K mainGlobals "TraceError" = some (some (.ref C_TraceError)))
    (a_InvalidRow_init : PySem.W.findIn K (.ref C_InvalidRow) "__init__" = some (some (.ref f_InvalidRow_init)))
    (i_InvalidRow_init : PySem.W.isFn K (.ref f_InvalidRow_init) = true)
    (l_InvalidRow_init : K.lookup f_InvalidRow_init = some ⟨oc_InvalidRow_init, od_InvalidRow_init, .func (PySem.W.ksFn "__init__" "InvalidRow.__init__" (defArgs s_InvalidRow_init) (defBody s_InvalidRow_init) (defScope s_InvalidRow_init) .none kV_InvalidRow_init dc_InvalidRow_init pm_InvalidRow_init an_InvalidRow_init (.ref ca_InvalidRow_init) ct_InvalidRow_init cc_InvalidRow_init), sl_InvalidRow_init⟩)
    (c_InvalidRow_init : PySem.W.codeIn K (.ref ca_InvalidRow_init) "InvalidRow.__init__" = true)
    (k_InvalidRow_init : PySem.W.keepIn K (.ref f_InvalidRow_init) = true)
    (fi_InvalidRow_init : PySem.W.fnIn K f_InvalidRow_init = true)
    (ce_InvalidRow_init : K.lookup cc_InvalidRow_init = some ⟨cl_InvalidRow_init, cld_InvalidRow_init, .cell (some (.ref C_InvalidRow)), csl_InvalidRow_init⟩)
    (co_InvalidRow_init : K.lookup ca_InvalidRow_init = some ⟨cv_InvalidRow_init, cdd_InvalidRow_init, .fields vs_InvalidRow_init, ccs_InvalidRow_init⟩)
    (cf_InvalidRow_init : vs_InvalidRow_init[2]? = some (.str file_InvalidRow_init tf_InvalidRow_init))
    (cft_InvalidRow_init : ((PG.main.file : Str) == file_InvalidRow_init) = true)
    (a_InvalidService_init : PySem.W.findIn K (.ref C_InvalidService) "__init__" = some (some (.ref f_InvalidService_init)))
    (i_InvalidService_init : PySem.W.isFn K (.ref f_InvalidService_init) = true)
    (l_InvalidService_init : K.lookup f_InvalidService_init = some ⟨oc_InvalidService_init, od_InvalidService_init, .func (PySem.W.ksFn "__init__" "InvalidService.__init__" (defArgs s_InvalidService_init) (defBody s_InvalidService_init) (defScope s_InvalidService_init) .none kV_InvalidService_init dc_InvalidService_init pm_InvalidService_init an_InvalidService_init (.ref ca_InvalidService_init) ct_InvalidService_init cc_InvalidService_init), sl_InvalidService_init⟩)
    (c_InvalidService_init : PySem.W.codeIn K (.ref ca_InvalidService_init) "InvalidService.__init__" = true)
    (k_InvalidService_init : PySem.W.keepIn K (.ref f_InvalidService_init) = true)
    (fi_InvalidService_init : PySem.W.fnIn K f_InvalidService_init = true)
    (ce_InvalidService_init : K.lookup cc_InvalidService_init = some ⟨cl_InvalidService_init, cld_InvalidService_init, .cell (some (.ref C_InvalidService)), csl_InvalidService_init⟩)
    (co_InvalidService_init : K.lookup ca_InvalidService_init = some ⟨cv_InvalidService_init, cdd_InvalidService_init, .fields vs_InvalidService_init, ccs_InvalidService_init⟩)
    (cf_InvalidService_init : vs_InvalidService_init[2]? = some (.str file_InvalidService_init tf_InvalidService_init))
    (cft_InvalidService_init : ((PG.main.file : Str) == file_InvalidService_init) = true)
    (a_InvalidBook_init : PySem.W.findIn K (.ref C_InvalidBook) "__init__" = some (some (.ref f_InvalidBook_init)))
    (i_InvalidBook_init : PySem.W.isFn K (.ref f_InvalidBook_init) = true)
    (l_InvalidBook_init : K.lookup f_InvalidBook_init = some ⟨oc_InvalidBook_init, od_InvalidBook_init, .func (PySem.W.ksFn "__init__" "InvalidBook.__init__" (defArgs s_InvalidBook_init) (defBody s_InvalidBook_init) (defScope s_InvalidBook_init) .none kV_InvalidBook_init dc_InvalidBook_init pm_InvalidBook_init an_InvalidBook_init (.ref ca_InvalidBook_init) ct_InvalidBook_init cc_InvalidBook_init), sl_InvalidBook_init⟩)
    (c_InvalidBook_init : PySem.W.codeIn K (.ref ca_InvalidBook_init) "InvalidBook.__init__" = true)
    (k_InvalidBook_init : PySem.W.keepIn K (.ref f_InvalidBook_init) = true)
    (fi_InvalidBook_init : PySem.W.fnIn K f_InvalidBook_init = true)
    (ce_InvalidBook_init : K.lookup cc_InvalidBook_init = some ⟨cl_InvalidBook_init, cld_InvalidBook_init, .cell (some (.ref C_InvalidBook)), csl_InvalidBook_init⟩)
    (co_InvalidBook_init : K.lookup ca_InvalidBook_init = some ⟨cv_InvalidBook_init, cdd_InvalidBook_init, .fields vs_InvalidBook_init, ccs_InvalidBook_init⟩)
    (cf_InvalidBook_init : vs_InvalidBook_init[2]? = some (.str file_InvalidBook_init tf_InvalidBook_init))
    (cft_InvalidBook_init : ((PG.main.file : Str) == file_InvalidBook_init) = true)
    (a_InvalidText_init : PySem.W.findIn K (.ref C_InvalidText) "__init__" = some (some (.ref f_InvalidText_init)))
    (i_InvalidText_init : PySem.W.isFn K (.ref f_InvalidText_init) = true)
    (l_InvalidText_init : K.lookup f_InvalidText_init = some ⟨oc_InvalidText_init, od_InvalidText_init, .func (PySem.W.ksFn "__init__" "InvalidText.__init__" (defArgs s_InvalidText_init) (defBody s_InvalidText_init) (defScope s_InvalidText_init) .none kV_InvalidText_init dc_InvalidText_init pm_InvalidText_init an_InvalidText_init (.ref ca_InvalidText_init) ct_InvalidText_init cc_InvalidText_init), sl_InvalidText_init⟩)
    (c_InvalidText_init : PySem.W.codeIn K (.ref ca_InvalidText_init) "InvalidText.__init__" = true)
    (k_InvalidText_init : PySem.W.keepIn K (.ref f_InvalidText_init) = true)
    (fi_InvalidText_init : PySem.W.fnIn K f_InvalidText_init = true)
    (ce_InvalidText_init : K.lookup cc_InvalidText_init = some ⟨cl_InvalidText_init, cld_InvalidText_init, .cell (some (.ref C_InvalidText)), csl_InvalidText_init⟩)
    (co_InvalidText_init : K.lookup ca_InvalidText_init = some ⟨cv_InvalidText_init, cdd_InvalidText_init, .fields vs_InvalidText_init, ccs_InvalidText_init⟩)
    (cf_InvalidText_init : vs_InvalidText_init[2]? = some (.str file_InvalidText_init tf_InvalidText_init))
    (cft_InvalidText_init : ((PG.main.file : Str) == file_InvalidText_init) = true)
    (a_InvalidTree_init : PySem.W.findIn K (.ref C_InvalidTree) "__init__" = some (some (.ref f_InvalidTree_init)))
    (i_InvalidTree_init : PySem.W.isFn K (.ref f_InvalidTree_init) = true)
    (l_InvalidTree_init : K.lookup f_InvalidTree_init = some ⟨oc_InvalidTree_init, od_InvalidTree_init, .func (PySem.W.ksFn "__init__" "InvalidTree.__init__" (defArgs s_InvalidTree_init) (defBody s_InvalidTree_init) (defScope s_InvalidTree_init) .none kV_InvalidTree_init dc_InvalidTree_init pm_InvalidTree_init an_InvalidTree_init (.ref ca_InvalidTree_init) ct_InvalidTree_init cc_InvalidTree_init), sl_InvalidTree_init⟩)
    (c_InvalidTree_init : PySem.W.codeIn K (.ref ca_InvalidTree_init) "InvalidTree.__init__" = true)
    (k_InvalidTree_init : PySem.W.keepIn K (.ref f_InvalidTree_init) = true)
    (fi_InvalidTree_init : PySem.W.fnIn K f_InvalidTree_init = true)
    (ce_InvalidTree_init : K.lookup cc_InvalidTree_init = some ⟨cl_InvalidTree_init, cld_InvalidTree_init, .cell (some (.ref C_InvalidTree)), csl_InvalidTree_init⟩)
    (co_InvalidTree_init : K.lookup ca_InvalidTree_init = some ⟨cv_InvalidTree_init, cdd_InvalidTree_init, .fields vs_InvalidTree_init, ccs_InvalidTree_init⟩)
    (cf_InvalidTree_init : vs_InvalidTree_init[2]? = some (.str file_InvalidTree_init tf_InvalidTree_init))
    (cft_InvalidTree_init : ((PG.main.file : Str) == file_InvalidTree_init) = true)
    (a_Refused_init : PySem.W.findIn K (.ref C_Refused) "__init__" = some (some (.ref f_Refused_init)))
    (i_Refused_init : PySem.W.isFn K (.ref f_Refused_init) = true)
    (l_Refused_init : K.lookup f_Refused_init = some ⟨oc_Refused_init, od_Refused_init, .func (PySem.W.ksFn "__init__" "Refused.__init__" (defArgs s_Refused_init) (defBody s_Refused_init) (defScope s_Refused_init) .none kV_Refused_init dc_Refused_init pm_Refused_init an_Refused_init (.ref ca_Refused_init) ct_Refused_init cc_Refused_init), sl_Refused_init⟩)
    (c_Refused_init : PySem.W.codeIn K (.ref ca_Refused_init) "Refused.__init__" = true)
    (k_Refused_init : PySem.W.keepIn K (.ref f_Refused_init) = true)
    (fi_Refused_init : PySem.W.fnIn K f_Refused_init = true)
    (ce_Refused_init : K.lookup cc_Refused_init = some ⟨cl_Refused_init, cld_Refused_init, .cell (some (.ref C_Refused)), csl_Refused_init⟩)
    (co_Refused_init : K.lookup ca_Refused_init = some ⟨cv_Refused_init, cdd_Refused_init, .fields vs_Refused_init, ccs_Refused_init⟩)
    (cf_Refused_init : vs_Refused_init[2]? = some (.str file_Refused_init tf_Refused_init))
    (cft_Refused_init : ((PG.main.file : Str) == file_Refused_init) = true)
    (a_NoRow_init : PySem.W.findIn K (.ref C_NoRow) "__init__" = some (some (.ref f_NoRow_init)))
    (i_NoRow_init : PySem.W.isFn K (.ref f_NoRow_init) = true)
    (l_NoRow_init : K.lookup f_NoRow_init = some ⟨oc_NoRow_init, od_NoRow_init, .func (PySem.W.ksFn "__init__" "NoRow.__init__" (defArgs s_NoRow_init) (defBody s_NoRow_init) (defScope s_NoRow_init) .none kV_NoRow_init dc_NoRow_init pm_NoRow_init an_NoRow_init (.ref ca_NoRow_init) ct_NoRow_init cc_NoRow_init), sl_NoRow_init⟩)
    (c_NoRow_init : PySem.W.codeIn K (.ref ca_NoRow_init) "NoRow.__init__" = true)
    (k_NoRow_init : PySem.W.keepIn K (.ref f_NoRow_init) = true)
    (fi_NoRow_init : PySem.W.fnIn K f_NoRow_init = true)
    (ce_NoRow_init : K.lookup cc_NoRow_init = some ⟨cl_NoRow_init, cld_NoRow_init, .cell (some (.ref C_NoRow)), csl_NoRow_init⟩)
    (co_NoRow_init : K.lookup ca_NoRow_init = some ⟨cv_NoRow_init, cdd_NoRow_init, .fields vs_NoRow_init, ccs_NoRow_init⟩)
    (cf_NoRow_init : vs_NoRow_init[2]? = some (.str file_NoRow_init tf_NoRow_init))
    (cft_NoRow_init : ((PG.main.file : Str) == file_NoRow_init) = true)
    (a_NoService_init : PySem.W.findIn K (.ref C_NoService) "__init__" = some (some (.ref f_NoService_init)))
    (i_NoService_init : PySem.W.isFn K (.ref f_NoService_init) = true)
    (l_NoService_init : K.lookup f_NoService_init = some ⟨oc_NoService_init, od_NoService_init, .func (PySem.W.ksFn "__init__" "NoService.__init__" (defArgs s_NoService_init) (defBody s_NoService_init) (defScope s_NoService_init) .none kV_NoService_init dc_NoService_init pm_NoService_init an_NoService_init (.ref ca_NoService_init) ct_NoService_init cc_NoService_init), sl_NoService_init⟩)
    (c_NoService_init : PySem.W.codeIn K (.ref ca_NoService_init) "NoService.__init__" = true)
    (k_NoService_init : PySem.W.keepIn K (.ref f_NoService_init) = true)
    (fi_NoService_init : PySem.W.fnIn K f_NoService_init = true)
    (ce_NoService_init : K.lookup cc_NoService_init = some ⟨cl_NoService_init, cld_NoService_init, .cell (some (.ref C_NoService)), csl_NoService_init⟩)
    (co_NoService_init : K.lookup ca_NoService_init = some ⟨cv_NoService_init, cdd_NoService_init, .fields vs_NoService_init, ccs_NoService_init⟩)
    (cf_NoService_init : vs_NoService_init[2]? = some (.str file_NoService_init tf_NoService_init))
    (cft_NoService_init : ((PG.main.file : Str) == file_NoService_init) = true)
    (a__law_box : PySem.W.nsIn K mainGlobals "_law_box" = some (some (.ref f__law_box)))
    (l__law_box : K.lookup f__law_box = some ⟨oc__law_box, od__law_box, .func (PySem.W.fnOf "_law_box" "_law_box" (defArgs s__law_box) (defBody s__law_box) (defScope s__law_box) .none kV__law_box dc__law_box pm__law_box an__law_box cd__law_box ct__law_box), sl__law_box⟩)
    (c__law_box : PySem.W.codeIn K cd__law_box "_law_box" = true)
    (k__law_box : PySem.W.keepIn K (.ref f__law_box) = true)
    (a__law_take : PySem.W.nsIn K mainGlobals "_law_take" = some (some (.ref f__law_take)))
    (l__law_take : K.lookup f__law_take = some ⟨oc__law_take, od__law_take, .func (PySem.W.fnOf "_law_take" "_law_take" (defArgs s__law_take) (defBody s__law_take) (defScope s__law_take) .none kV__law_take dc__law_take pm__law_take an__law_take cd__law_take ct__law_take), sl__law_take⟩)
    (c__law_take : PySem.W.codeIn K cd__law_take "_law_take" = true)
    (k__law_take : PySem.W.keepIn K (.ref f__law_take) = true)
    (a__law_pick : PySem.W.nsIn K mainGlobals "_law_pick" = some (some (.ref f__law_pick)))
    (l__law_pick : K.lookup f__law_pick = some ⟨oc__law_pick, od__law_pick, .func (PySem.W.fnOf "_law_pick" "_law_pick" (defArgs s__law_pick) (defBody s__law_pick) (defScope s__law_pick) .none kV__law_pick dc__law_pick pm__law_pick an__law_pick cd__law_pick ct__law_pick), sl__law_pick⟩)
    (c__law_pick : PySem.W.codeIn K cd__law_pick "_law_pick" = true)
    (k__law_pick : PySem.W.keepIn K (.ref f__law_pick) = true)
    (a__law_any : PySem.W.nsIn K mainGlobals "_law_any" = some (some (.ref f__law_any)))
    (l__law_any : K.lookup f__law_any = some ⟨oc__law_any, od__law_any, .func (PySem.W.fnOf "_law_any" "_law_any" (defArgs s__law_any) (defBody s__law_any) (defScope s__law_any) .none kV__law_any dc__law_any pm__law_any an__law_any cd__law_any ct__law_any), sl__law_any⟩)
    (c__law_any : PySem.W.codeIn K cd__law_any "_law_any" = true)
    (k__law_any : PySem.W.keepIn K (.ref f__law_any) = true)
    (a__law_made : PySem.W.nsIn K mainGlobals "_law_made" = some (some (.ref f__law_made)))
    (l__law_made : K.lookup f__law_made = some ⟨oc__law_made, od__law_made, .func (PySem.W.fnOf "_law_made" "_law_made" (defArgs s__law_made) (defBody s__law_made) (defScope s__law_made) .none kV__law_made dc__law_made pm__law_made an__law_made cd__law_made ct__law_made), sl__law_made⟩)
    (c__law_made : PySem.W.codeIn K cd__law_made "_law_made" = true)
    (k__law_made : PySem.W.keepIn K (.ref f__law_made) = true)
    (a__law_sorts : PySem.W.nsIn K mainGlobals "_law_sorts" = some (some (.ref f__law_sorts)))
    (l__law_sorts : K.lookup f__law_sorts = some ⟨oc__law_sorts, od__law_sorts, .func (PySem.W.fnOf "_law_sorts" "_law_sorts" (defArgs s__law_sorts) (defBody s__law_sorts) (defScope s__law_sorts) .none kV__law_sorts dc__law_sorts pm__law_sorts an__law_sorts cd__law_sorts ct__law_sorts), sl__law_sorts⟩)
    (c__law_sorts : PySem.W.codeIn K cd__law_sorts "_law_sorts" = true)
    (k__law_sorts : PySem.W.keepIn K (.ref f__law_sorts) = true)
    (a__law_kept : PySem.W.nsIn K mainGlobals "_law_kept" = some (some (.ref f__law_kept)))
    (l__law_kept : K.lookup f__law_kept = some ⟨oc__law_kept, od__law_kept, .func (PySem.W.fnOf "_law_kept" "_law_kept" (defArgs s__law_kept) (defBody s__law_kept) (defScope s__law_kept) .none kV__law_kept dc__law_kept pm__law_kept an__law_kept cd__law_kept ct__law_kept), sl__law_kept⟩)
    (c__law_kept : PySem.W.codeIn K cd__law_kept "_law_kept" = true)
    (k__law_kept : PySem.W.keepIn K (.ref f__law_kept) = true)
    (a_law : PySem.W.nsIn K mainGlobals "law" = some (some (.ref f_law)))
    (l_law : K.lookup f_law = some ⟨oc_law, od_law, .func (PySem.W.fnOf "law" "law" (defArgs s_law) (defBody s_law) (defScope s_law) .none kV_law dc_law pm_law an_law cd_law ct_law), sl_law⟩)
    (c_law : PySem.W.codeIn K cd_law "law" = true)
    (k_law : PySem.W.keepIn K (.ref f_law) = true)
    (b_len : PySem.W.nsIn K mainGlobals "len" = some none)
    (b_abs : PySem.W.nsIn K mainGlobals "abs" = some none)
    (b_max : PySem.W.nsIn K mainGlobals "max" = some none)
    (b_min : PySem.W.nsIn K mainGlobals "min" = some none)
    (b_int : PySem.W.nsIn K mainGlobals "int" = some none)
    (b_isinstance : PySem.W.nsIn K mainGlobals "isinstance" = some none)
    (b_range : PySem.W.nsIn K mainGlobals "range" = some none)
    (b_tuple : PySem.W.nsIn K mainGlobals "tuple" = some none)
    (b_enumerate : PySem.W.nsIn K mainGlobals "enumerate" = some none)
    (b_repr : PySem.W.nsIn K mainGlobals "repr" = some none)
    (b_ValueError : PySem.W.nsIn K mainGlobals "ValueError" = some none)
    (b_IndexError : PySem.W.nsIn K mainGlobals "IndexError" = some none)
    (b_KeyError : PySem.W.nsIn K mainGlobals "KeyError" = some none)
    (sup_t : (PG.main.scope.names.lookup ("super" : Str)).isSome = false)
    (sup_m : PySem.W.nsIn K mainGlobals "super" = some none)
    (sup_o : PySem.W.nsIn K cStatics "thirdparty.any" = some none)
    (hn_ : PySem.W.specialIn K (.builtin "object.__class__") "__get__" = some (some (.builtin "getset_descriptor.__get__")))
    (htk_ : PySem.W.takesIn K (.builtin "object.__class__") = some true)
    (xl_InvalidRow : K.lookup C_InvalidRow = some (excClassObj xn_InvalidRow xq_InvalidRow C_InvalidRow xN_InvalidRow xb_InvalidRow [.ref C_TraceError, .type "ValueError", .type "Exception", .type "BaseException", .type "object"] true xsn_InvalidRow xs_InvalidRow xab_InvalidRow xcol_InvalidRow xdd_InvalidRow x0_InvalidRow x1_InvalidRow x2_InvalidRow x3_InvalidRow x5_InvalidRow "ValueError.__new__"))
    (xsa_InvalidRow : PySem.W.findIn K (.ref C_InvalidRow) "__setattr__" = some (some (.builtin "object.__setattr__")))
    (xex_InvalidRow : PySem.W.subIn K (.ref C_InvalidRow) (.type "BaseException") = some true)
    (xty_InvalidRow : PySem.W.typeIn K (.ref C_InvalidRow) = some (.type "type"))
    (xk_InvalidRow : PySem.W.keepIn K (.ref C_InvalidRow) = true)
    (xi_InvalidRow : PySem.W.findIn K (.ref C_InvalidRow) "__init__" = some (some (.ref f_InvalidRow_init)))
    (xt_InvalidRow : PySem.W.typeIn K (.ref f_InvalidRow_init) = some (.type "function"))
    (xna_InvalidRow : PySem.W.findIn K (.ref C_InvalidRow) "word" = some none)
    (xs1_InvalidRow : PySem.W.mroIn K C_InvalidRow (.ref C_InvalidRow) = some true)
    (xs2_InvalidRow : PySem.W.ks_superIn K C_InvalidRow C_InvalidRow "__init__" = some (some (.builtin "ValueError.__init__")))
    (xs3_InvalidRow : PySem.W.mroIn K C_InvalidRow (.type "ValueError") = some true)
    (xga_InvalidRow : PySem.W.findIn K (.ref C_InvalidRow) "__getattribute__" = some (some (.builtin "BaseException.__getattribute__")))
    (xgg_InvalidRow : PySem.W.findIn K (.ref C_InvalidRow) "__getattr__" = some none)
    (xhd_InvalidRow : PySem.W.hasDictIn K C_InvalidRow = true)
    (xc_InvalidRow : PySem.W.findIn K (.ref C_InvalidRow) "__class__" = some (some (.builtin "object.__class__")))
    (xm_InvalidRow : PySem.W.mroIn K C_InvalidRow (.type "object") = some true)
    (xcl_InvalidRow : PySem.W.clsIn K C_InvalidRow = some xcd_InvalidRow)
    (xf_InvalidRow_ValueError : PySem.W.subIn K (.ref C_InvalidRow) (.type "ValueError") = some true)
    (xf_InvalidRow_IndexError : PySem.W.subIn K (.ref C_InvalidRow) (.type "IndexError") = some false)
    (xf_InvalidRow_KeyError : PySem.W.subIn K (.ref C_InvalidRow) (.type "KeyError") = some false)
    (xl_InvalidService : K.lookup C_InvalidService = some (excClassObj xn_InvalidService xq_InvalidService C_InvalidService xN_InvalidService xb_InvalidService [.ref C_TraceError, .type "ValueError", .type "Exception", .type "BaseException", .type "object"] true xsn_InvalidService xs_InvalidService xab_InvalidService xcol_InvalidService xdd_InvalidService x0_InvalidService x1_InvalidService x2_InvalidService x3_InvalidService x5_InvalidService "ValueError.__new__"))
    (xsa_InvalidService : PySem.W.findIn K (.ref C_InvalidService) "__setattr__" = some (some (.builtin "object.__setattr__")))
    (xex_InvalidService : PySem.W.subIn K (.ref C_InvalidService) (.type "BaseException") = some true)
    (xty_InvalidService : PySem.W.typeIn K (.ref C_InvalidService) = some (.type "type"))
    (xk_InvalidService : PySem.W.keepIn K (.ref C_InvalidService) = true)
    (xi_InvalidService : PySem.W.findIn K (.ref C_InvalidService) "__init__" = some (some (.ref f_InvalidService_init)))
    (xt_InvalidService : PySem.W.typeIn K (.ref f_InvalidService_init) = some (.type "function"))
    (xna_InvalidService : PySem.W.findIn K (.ref C_InvalidService) "word" = some none)
    (xs1_InvalidService : PySem.W.mroIn K C_InvalidService (.ref C_InvalidService) = some true)
    (xs2_InvalidService : PySem.W.ks_superIn K C_InvalidService C_InvalidService "__init__" = some (some (.builtin "ValueError.__init__")))
    (xs3_InvalidService : PySem.W.mroIn K C_InvalidService (.type "ValueError") = some true)
    (xga_InvalidService : PySem.W.findIn K (.ref C_InvalidService) "__getattribute__" = some (some (.builtin "BaseException.__getattribute__")))
    (xgg_InvalidService : PySem.W.findIn K (.ref C_InvalidService) "__getattr__" = some none)
    (xhd_InvalidService : PySem.W.hasDictIn K C_InvalidService = true)
    (xc_InvalidService : PySem.W.findIn K (.ref C_InvalidService) "__class__" = some (some (.builtin "object.__class__")))
    (xm_InvalidService : PySem.W.mroIn K C_InvalidService (.type "object") = some true)
    (xcl_InvalidService : PySem.W.clsIn K C_InvalidService = some xcd_InvalidService)
    (xf_InvalidService_ValueError : PySem.W.subIn K (.ref C_InvalidService) (.type "ValueError") = some true)
    (xf_InvalidService_IndexError : PySem.W.subIn K (.ref C_InvalidService) (.type "IndexError") = some false)
    (xf_InvalidService_KeyError : PySem.W.subIn K (.ref C_InvalidService) (.type "KeyError") = some false)
    (xl_InvalidBook : K.lookup C_InvalidBook = some (excClassObj xn_InvalidBook xq_InvalidBook C_InvalidBook xN_InvalidBook xb_InvalidBook [.ref C_TraceError, .type "ValueError", .type "Exception", .type "BaseException", .type "object"] true xsn_InvalidBook xs_InvalidBook xab_InvalidBook xcol_InvalidBook xdd_InvalidBook x0_InvalidBook x1_InvalidBook x2_InvalidBook x3_InvalidBook x5_InvalidBook "ValueError.__new__"))
    (xsa_InvalidBook : PySem.W.findIn K (.ref C_InvalidBook) "__setattr__" = some (some (.builtin "object.__setattr__")))
    (xex_InvalidBook : PySem.W.subIn K (.ref C_InvalidBook) (.type "BaseException") = some true)
    (xty_InvalidBook : PySem.W.typeIn K (.ref C_InvalidBook) = some (.type "type"))
    (xk_InvalidBook : PySem.W.keepIn K (.ref C_InvalidBook) = true)
    (xi_InvalidBook : PySem.W.findIn K (.ref C_InvalidBook) "__init__" = some (some (.ref f_InvalidBook_init)))
    (xt_InvalidBook : PySem.W.typeIn K (.ref f_InvalidBook_init) = some (.type "function"))
    (xna_InvalidBook : PySem.W.findIn K (.ref C_InvalidBook) "word" = some none)
    (xs1_InvalidBook : PySem.W.mroIn K C_InvalidBook (.ref C_InvalidBook) = some true)
    (xs2_InvalidBook : PySem.W.ks_superIn K C_InvalidBook C_InvalidBook "__init__" = some (some (.builtin "ValueError.__init__")))
    (xs3_InvalidBook : PySem.W.mroIn K C_InvalidBook (.type "ValueError") = some true)
    (xga_InvalidBook : PySem.W.findIn K (.ref C_InvalidBook) "__getattribute__" = some (some (.builtin "BaseException.__getattribute__")))
    (xgg_InvalidBook : PySem.W.findIn K (.ref C_InvalidBook) "__getattr__" = some none)
    (xhd_InvalidBook : PySem.W.hasDictIn K C_InvalidBook = true)
    (xc_InvalidBook : PySem.W.findIn K (.ref C_InvalidBook) "__class__" = some (some (.builtin "object.__class__")))
    (xm_InvalidBook : PySem.W.mroIn K C_InvalidBook (.type "object") = some true)
    (xcl_InvalidBook : PySem.W.clsIn K C_InvalidBook = some xcd_InvalidBook)
    (xf_InvalidBook_ValueError : PySem.W.subIn K (.ref C_InvalidBook) (.type "ValueError") = some true)
    (xf_InvalidBook_IndexError : PySem.W.subIn K (.ref C_InvalidBook) (.type "IndexError") = some false)
    (xf_InvalidBook_KeyError : PySem.W.subIn K (.ref C_InvalidBook) (.type "KeyError") = some false)
    (xl_InvalidText : K.lookup C_InvalidText = some (excClassObj xn_InvalidText xq_InvalidText C_InvalidText xN_InvalidText xb_InvalidText [.ref C_TraceError, .type "ValueError", .type "Exception", .type "BaseException", .type "object"] true xsn_InvalidText xs_InvalidText xab_InvalidText xcol_InvalidText xdd_InvalidText x0_InvalidText x1_InvalidText x2_InvalidText x3_InvalidText x5_InvalidText "ValueError.__new__"))
    (xsa_InvalidText : PySem.W.findIn K (.ref C_InvalidText) "__setattr__" = some (some (.builtin "object.__setattr__")))
    (xex_InvalidText : PySem.W.subIn K (.ref C_InvalidText) (.type "BaseException") = some true)
    (xty_InvalidText : PySem.W.typeIn K (.ref C_InvalidText) = some (.type "type"))
    (xk_InvalidText : PySem.W.keepIn K (.ref C_InvalidText) = true)
    (xi_InvalidText : PySem.W.findIn K (.ref C_InvalidText) "__init__" = some (some (.ref f_InvalidText_init)))
    (xt_InvalidText : PySem.W.typeIn K (.ref f_InvalidText_init) = some (.type "function"))
    (xna_InvalidText : PySem.W.findIn K (.ref C_InvalidText) "at" = some none)
    (xs1_InvalidText : PySem.W.mroIn K C_InvalidText (.ref C_InvalidText) = some true)
    (xs2_InvalidText : PySem.W.ks_superIn K C_InvalidText C_InvalidText "__init__" = some (some (.builtin "ValueError.__init__")))
    (xs3_InvalidText : PySem.W.mroIn K C_InvalidText (.type "ValueError") = some true)
    (xga_InvalidText : PySem.W.findIn K (.ref C_InvalidText) "__getattribute__" = some (some (.builtin "BaseException.__getattribute__")))
    (xgg_InvalidText : PySem.W.findIn K (.ref C_InvalidText) "__getattr__" = some none)
    (xhd_InvalidText : PySem.W.hasDictIn K C_InvalidText = true)
    (xc_InvalidText : PySem.W.findIn K (.ref C_InvalidText) "__class__" = some (some (.builtin "object.__class__")))
    (xm_InvalidText : PySem.W.mroIn K C_InvalidText (.type "object") = some true)
    (xcl_InvalidText : PySem.W.clsIn K C_InvalidText = some xcd_InvalidText)
    (xf_InvalidText_ValueError : PySem.W.subIn K (.ref C_InvalidText) (.type "ValueError") = some true)
    (xf_InvalidText_IndexError : PySem.W.subIn K (.ref C_InvalidText) (.type "IndexError") = some false)
    (xf_InvalidText_KeyError : PySem.W.subIn K (.ref C_InvalidText) (.type "KeyError") = some false)
    (xl_InvalidTree : K.lookup C_InvalidTree = some (excClassObj xn_InvalidTree xq_InvalidTree C_InvalidTree xN_InvalidTree xb_InvalidTree [.ref C_TraceError, .type "ValueError", .type "Exception", .type "BaseException", .type "object"] true xsn_InvalidTree xs_InvalidTree xab_InvalidTree xcol_InvalidTree xdd_InvalidTree x0_InvalidTree x1_InvalidTree x2_InvalidTree x3_InvalidTree x5_InvalidTree "ValueError.__new__"))
    (xsa_InvalidTree : PySem.W.findIn K (.ref C_InvalidTree) "__setattr__" = some (some (.builtin "object.__setattr__")))
    (xex_InvalidTree : PySem.W.subIn K (.ref C_InvalidTree) (.type "BaseException") = some true)
    (xty_InvalidTree : PySem.W.typeIn K (.ref C_InvalidTree) = some (.type "type"))
    (xk_InvalidTree : PySem.W.keepIn K (.ref C_InvalidTree) = true)
    (xi_InvalidTree : PySem.W.findIn K (.ref C_InvalidTree) "__init__" = some (some (.ref f_InvalidTree_init)))
    (xt_InvalidTree : PySem.W.typeIn K (.ref f_InvalidTree_init) = some (.type "function"))
    (xna_InvalidTree : PySem.W.findIn K (.ref C_InvalidTree) "word" = some none)
    (xs1_InvalidTree : PySem.W.mroIn K C_InvalidTree (.ref C_InvalidTree) = some true)
    (xs2_InvalidTree : PySem.W.ks_superIn K C_InvalidTree C_InvalidTree "__init__" = some (some (.builtin "ValueError.__init__")))
    (xs3_InvalidTree : PySem.W.mroIn K C_InvalidTree (.type "ValueError") = some true)
    (xga_InvalidTree : PySem.W.findIn K (.ref C_InvalidTree) "__getattribute__" = some (some (.builtin "BaseException.__getattribute__")))
    (xgg_InvalidTree : PySem.W.findIn K (.ref C_InvalidTree) "__getattr__" = some none)
    (xhd_InvalidTree : PySem.W.hasDictIn K C_InvalidTree = true)
    (xc_InvalidTree : PySem.W.findIn K (.ref C_InvalidTree) "__class__" = some (some (.builtin "object.__class__")))
    (xm_InvalidTree : PySem.W.mroIn K C_InvalidTree (.type "object") = some true)
    (xcl_InvalidTree : PySem.W.clsIn K C_InvalidTree = some xcd_InvalidTree)
    (xf_InvalidTree_ValueError : PySem.W.subIn K (.ref C_InvalidTree) (.type "ValueError") = some true)
    (xf_InvalidTree_IndexError : PySem.W.subIn K (.ref C_InvalidTree) (.type "IndexError") = some false)
    (xf_InvalidTree_KeyError : PySem.W.subIn K (.ref C_InvalidTree) (.type "KeyError") = some false)
    (xl_Refused : K.lookup C_Refused = some (excClassObj xn_Refused xq_Refused C_Refused xN_Refused xb_Refused [.ref C_TraceError, .type "ValueError", .type "Exception", .type "BaseException", .type "object"] true xsn_Refused xs_Refused xab_Refused xcol_Refused xdd_Refused x0_Refused x1_Refused x2_Refused x3_Refused x5_Refused "ValueError.__new__"))
    (xsa_Refused : PySem.W.findIn K (.ref C_Refused) "__setattr__" = some (some (.builtin "object.__setattr__")))
    (xex_Refused : PySem.W.subIn K (.ref C_Refused) (.type "BaseException") = some true)
    (xty_Refused : PySem.W.typeIn K (.ref C_Refused) = some (.type "type"))
    (xk_Refused : PySem.W.keepIn K (.ref C_Refused) = true)
    (xi_Refused : PySem.W.findIn K (.ref C_Refused) "__init__" = some (some (.ref f_Refused_init)))
    (xt_Refused : PySem.W.typeIn K (.ref f_Refused_init) = some (.type "function"))
    (xna_Refused : PySem.W.findIn K (.ref C_Refused) "word" = some none)
    (xs1_Refused : PySem.W.mroIn K C_Refused (.ref C_Refused) = some true)
    (xs2_Refused : PySem.W.ks_superIn K C_Refused C_Refused "__init__" = some (some (.builtin "ValueError.__init__")))
    (xs3_Refused : PySem.W.mroIn K C_Refused (.type "ValueError") = some true)
    (xga_Refused : PySem.W.findIn K (.ref C_Refused) "__getattribute__" = some (some (.builtin "BaseException.__getattribute__")))
    (xgg_Refused : PySem.W.findIn K (.ref C_Refused) "__getattr__" = some none)
    (xhd_Refused : PySem.W.hasDictIn K C_Refused = true)
    (xc_Refused : PySem.W.findIn K (.ref C_Refused) "__class__" = some (some (.builtin "object.__class__")))
    (xm_Refused : PySem.W.mroIn K C_Refused (.type "object") = some true)
    (xcl_Refused : PySem.W.clsIn K C_Refused = some xcd_Refused)
    (xf_Refused_ValueError : PySem.W.subIn K (.ref C_Refused) (.type "ValueError") = some true)
    (xf_Refused_IndexError : PySem.W.subIn K (.ref C_Refused) (.type "IndexError") = some false)
    (xf_Refused_KeyError : PySem.W.subIn K (.ref C_Refused) (.type "KeyError") = some false)
    (xl_NoRow : K.lookup C_NoRow = some (excClassObj xn_NoRow xq_NoRow C_NoRow xN_NoRow xb_NoRow [.type "IndexError", .type "LookupError", .type "Exception", .type "BaseException", .type "object"] true xsn_NoRow xs_NoRow xab_NoRow xcol_NoRow xdd_NoRow x0_NoRow x1_NoRow x2_NoRow x3_NoRow x5_NoRow "IndexError.__new__"))
    (xsa_NoRow : PySem.W.findIn K (.ref C_NoRow) "__setattr__" = some (some (.builtin "object.__setattr__")))
    (xex_NoRow : PySem.W.subIn K (.ref C_NoRow) (.type "BaseException") = some true)
    (xty_NoRow : PySem.W.typeIn K (.ref C_NoRow) = some (.type "type"))
    (xk_NoRow : PySem.W.keepIn K (.ref C_NoRow) = true)
    (xi_NoRow : PySem.W.findIn K (.ref C_NoRow) "__init__" = some (some (.ref f_NoRow_init)))
    (xt_NoRow : PySem.W.typeIn K (.ref f_NoRow_init) = some (.type "function"))
    (xna_NoRow : PySem.W.findIn K (.ref C_NoRow) "at" = some none)
    (xs1_NoRow : PySem.W.mroIn K C_NoRow (.ref C_NoRow) = some true)
    (xs2_NoRow : PySem.W.ks_superIn K C_NoRow C_NoRow "__init__" = some (some (.builtin "IndexError.__init__")))
    (xs3_NoRow : PySem.W.mroIn K C_NoRow (.type "IndexError") = some true)
    (xga_NoRow : PySem.W.findIn K (.ref C_NoRow) "__getattribute__" = some (some (.builtin "BaseException.__getattribute__")))
    (xgg_NoRow : PySem.W.findIn K (.ref C_NoRow) "__getattr__" = some none)
    (xhd_NoRow : PySem.W.hasDictIn K C_NoRow = true)
    (xc_NoRow : PySem.W.findIn K (.ref C_NoRow) "__class__" = some (some (.builtin "object.__class__")))
    (xm_NoRow : PySem.W.mroIn K C_NoRow (.type "object") = some true)
    (xcl_NoRow : PySem.W.clsIn K C_NoRow = some xcd_NoRow)
    (xf_NoRow_ValueError : PySem.W.subIn K (.ref C_NoRow) (.type "ValueError") = some false)
    (xf_NoRow_IndexError : PySem.W.subIn K (.ref C_NoRow) (.type "IndexError") = some true)
    (xf_NoRow_KeyError : PySem.W.subIn K (.ref C_NoRow) (.type "KeyError") = some false)
    (xl_NoService : K.lookup C_NoService = some (excClassObj xn_NoService xq_NoService C_NoService xN_NoService xb_NoService [.type "KeyError", .type "LookupError", .type "Exception", .type "BaseException", .type "object"] true xsn_NoService xs_NoService xab_NoService xcol_NoService xdd_NoService x0_NoService x1_NoService x2_NoService x3_NoService x5_NoService "LookupError.__new__"))
    (xsa_NoService : PySem.W.findIn K (.ref C_NoService) "__setattr__" = some (some (.builtin "object.__setattr__")))
    (xex_NoService : PySem.W.subIn K (.ref C_NoService) (.type "BaseException") = some true)
    (xty_NoService : PySem.W.typeIn K (.ref C_NoService) = some (.type "type"))
    (xk_NoService : PySem.W.keepIn K (.ref C_NoService) = true)
    (xi_NoService : PySem.W.findIn K (.ref C_NoService) "__init__" = some (some (.ref f_NoService_init)))
    (xt_NoService : PySem.W.typeIn K (.ref f_NoService_init) = some (.type "function"))
    (xna_NoService : PySem.W.findIn K (.ref C_NoService) "name" = some none)
    (xs1_NoService : PySem.W.mroIn K C_NoService (.ref C_NoService) = some true)
    (xs2_NoService : PySem.W.ks_superIn K C_NoService C_NoService "__init__" = some (some (.builtin "KeyError.__init__")))
    (xs3_NoService : PySem.W.mroIn K C_NoService (.type "KeyError") = some true)
    (xga_NoService : PySem.W.findIn K (.ref C_NoService) "__getattribute__" = some (some (.builtin "BaseException.__getattribute__")))
    (xgg_NoService : PySem.W.findIn K (.ref C_NoService) "__getattr__" = some none)
    (xhd_NoService : PySem.W.hasDictIn K C_NoService = true)
    (xc_NoService : PySem.W.findIn K (.ref C_NoService) "__class__" = some (some (.builtin "object.__class__")))
    (xm_NoService : PySem.W.mroIn K C_NoService (.type "object") = some true)
    (xcl_NoService : PySem.W.clsIn K C_NoService = some xcd_NoService)
    (xf_NoService_ValueError : PySem.W.subIn K (.ref C_NoService) (.type "ValueError") = some false)
    (xf_NoService_IndexError : PySem.W.subIn K (.ref C_NoService) (.type "IndexError") = some false)
    (xf_NoService_KeyError : PySem.W.subIn K (.ref C_NoService) (.type "KeyError") = some true)
    (xe_Mismatch : PySem.W.excIn K C_Mismatch [.type "ValueError", .type "Exception", .type "BaseException", .type "object"] "ValueError.__new__" = true)
    (xex_Mismatch : PySem.W.subIn K (.ref C_Mismatch) (.type "BaseException") = some true)
    (xty_Mismatch : PySem.W.typeIn K (.ref C_Mismatch) = some (.type "type"))
    (xk_Mismatch : PySem.W.keepIn K (.ref C_Mismatch) = true)
    (xga_Mismatch : PySem.W.findIn K (.ref C_Mismatch) "__getattribute__" = some (some (.builtin "BaseException.__getattribute__")))
    (xgg_Mismatch : PySem.W.findIn K (.ref C_Mismatch) "__getattr__" = some none)
    (xhd_Mismatch : PySem.W.hasDictIn K C_Mismatch = true)
    (xc_Mismatch : PySem.W.findIn K (.ref C_Mismatch) "__class__" = some (some (.builtin "object.__class__")))
    (xm_Mismatch : PySem.W.mroIn K C_Mismatch (.type "object") = some true)
    (xf_Mismatch_ValueError : PySem.W.subIn K (.ref C_Mismatch) (.type "ValueError") = some true)
    (xf_Mismatch_IndexError : PySem.W.subIn K (.ref C_Mismatch) (.type "IndexError") = some false)
    (xf_Mismatch_KeyError : PySem.W.subIn K (.ref C_Mismatch) (.type "KeyError") = some false)
    (xe_InvalidCommand : PySem.W.excIn K C_InvalidCommand [.type "ValueError", .type "Exception", .type "BaseException", .type "object"] "ValueError.__new__" = true)
    (xex_InvalidCommand : PySem.W.subIn K (.ref C_InvalidCommand) (.type "BaseException") = some true)
    (xty_InvalidCommand : PySem.W.typeIn K (.ref C_InvalidCommand) = some (.type "type"))
    (xk_InvalidCommand : PySem.W.keepIn K (.ref C_InvalidCommand) = true)
    (xga_InvalidCommand : PySem.W.findIn K (.ref C_InvalidCommand) "__getattribute__" = some (some (.builtin "BaseException.__getattribute__")))
    (xgg_InvalidCommand : PySem.W.findIn K (.ref C_InvalidCommand) "__getattr__" = some none)
    (xhd_InvalidCommand : PySem.W.hasDictIn K C_InvalidCommand = true)
    (xc_InvalidCommand : PySem.W.findIn K (.ref C_InvalidCommand) "__class__" = some (some (.builtin "object.__class__")))
    (xm_InvalidCommand : PySem.W.mroIn K C_InvalidCommand (.type "object") = some true)
    (xf_InvalidCommand_ValueError : PySem.W.subIn K (.ref C_InvalidCommand) (.type "ValueError") = some true)
    (xf_InvalidCommand_IndexError : PySem.W.subIn K (.ref C_InvalidCommand) (.type "IndexError") = some false)
    (xf_InvalidCommand_KeyError : PySem.W.subIn K (.ref C_InvalidCommand) (.type "KeyError") = some false)
    (kd_InvalidRow : PySem.W.clsIn K C_InvalidRow = some kdd_InvalidRow)
    (kt_InvalidRow : PySem.W.typeIn K (.ref C_InvalidRow) = some (.type "type"))
    (fk_InvalidRow_InvalidRow : PySem.W.subIn K (.ref C_InvalidRow) (.ref C_InvalidRow) = some true)
    (kd_InvalidService : PySem.W.clsIn K C_InvalidService = some kdd_InvalidService)
    (kt_InvalidService : PySem.W.typeIn K (.ref C_InvalidService) = some (.type "type"))
    (fk_InvalidRow_InvalidService : PySem.W.subIn K (.ref C_InvalidRow) (.ref C_InvalidService) = some false)
    (fn_InvalidRow_InvalidService : ((Value.ref C_InvalidRow) == (Value.ref C_InvalidService)) = false)
    (kd_InvalidBook : PySem.W.clsIn K C_InvalidBook = some kdd_InvalidBook)
    (kt_InvalidBook : PySem.W.typeIn K (.ref C_InvalidBook) = some (.type "type"))
    (fk_InvalidRow_InvalidBook : PySem.W.subIn K (.ref C_InvalidRow) (.ref C_InvalidBook) = some false)
    (fn_InvalidRow_InvalidBook : ((Value.ref C_InvalidRow) == (Value.ref C_InvalidBook)) = false)
    (kd_InvalidText : PySem.W.clsIn K C_InvalidText = some kdd_InvalidText)
    (kt_InvalidText : PySem.W.typeIn K (.ref C_InvalidText) = some (.type "type"))
    (fk_InvalidRow_InvalidText : PySem.W.subIn K (.ref C_InvalidRow) (.ref C_InvalidText) = some false)
    (fn_InvalidRow_InvalidText : ((Value.ref C_InvalidRow) == (Value.ref C_InvalidText)) = false)
    (kd_InvalidTree : PySem.W.clsIn K C_InvalidTree = some kdd_InvalidTree)
    (kt_InvalidTree : PySem.W.typeIn K (.ref C_InvalidTree) = some (.type "type"))
    (fk_InvalidRow_InvalidTree : PySem.W.subIn K (.ref C_InvalidRow) (.ref C_InvalidTree) = some false)
    (fn_InvalidRow_InvalidTree : ((Value.ref C_InvalidRow) == (Value.ref C_InvalidTree)) = false)
    (kd_Refused : PySem.W.clsIn K C_Refused = some kdd_Refused)
    (kt_Refused : PySem.W.typeIn K (.ref C_Refused) = some (.type "type"))
    (fk_InvalidRow_Refused : PySem.W.subIn K (.ref C_InvalidRow) (.ref C_Refused) = some false)
    (fn_InvalidRow_Refused : ((Value.ref C_InvalidRow) == (Value.ref C_Refused)) = false)
    (kd_NoRow : PySem.W.clsIn K C_NoRow = some kdd_NoRow)
    (kt_NoRow : PySem.W.typeIn K (.ref C_NoRow) = some (.type "type"))
    (fk_InvalidRow_NoRow : PySem.W.subIn K (.ref C_InvalidRow) (.ref C_NoRow) = some false)
    (fn_InvalidRow_NoRow : ((Value.ref C_InvalidRow) == (Value.ref C_NoRow)) = false)
    (kd_NoService : PySem.W.clsIn K C_NoService = some kdd_NoService)
    (kt_NoService : PySem.W.typeIn K (.ref C_NoService) = some (.type "type"))
    (fk_InvalidRow_NoService : PySem.W.subIn K (.ref C_InvalidRow) (.ref C_NoService) = some false)
    (fn_InvalidRow_NoService : ((Value.ref C_InvalidRow) == (Value.ref C_NoService)) = false)
    (kd_Mismatch : PySem.W.clsIn K C_Mismatch = some kdd_Mismatch)
    (kt_Mismatch : PySem.W.typeIn K (.ref C_Mismatch) = some (.type "type"))
    (fk_InvalidRow_Mismatch : PySem.W.subIn K (.ref C_InvalidRow) (.ref C_Mismatch) = some false)
    (fn_InvalidRow_Mismatch : ((Value.ref C_InvalidRow) == (Value.ref C_Mismatch)) = false)
    (kd_InvalidCommand : PySem.W.clsIn K C_InvalidCommand = some kdd_InvalidCommand)
    (kt_InvalidCommand : PySem.W.typeIn K (.ref C_InvalidCommand) = some (.type "type"))
    (fk_InvalidRow_InvalidCommand : PySem.W.subIn K (.ref C_InvalidRow) (.ref C_InvalidCommand) = some false)
    (fn_InvalidRow_InvalidCommand : ((Value.ref C_InvalidRow) == (Value.ref C_InvalidCommand)) = false)
    (kd_TraceError : PySem.W.clsIn K C_TraceError = some kdd_TraceError)
    (kt_TraceError : PySem.W.typeIn K (.ref C_TraceError) = some (.type "type"))
    (fk_InvalidRow_TraceError : PySem.W.subIn K (.ref C_InvalidRow) (.ref C_TraceError) = some true)
    (fk_InvalidService_InvalidRow : PySem.W.subIn K (.ref C_InvalidService) (.ref C_InvalidRow) = some false)
    (fn_InvalidService_InvalidRow : ((Value.ref C_InvalidService) == (Value.ref C_InvalidRow)) = false)
    (fk_InvalidService_InvalidService : PySem.W.subIn K (.ref C_InvalidService) (.ref C_InvalidService) = some true)
    (fk_InvalidService_InvalidBook : PySem.W.subIn K (.ref C_InvalidService) (.ref C_InvalidBook) = some false)
    (fn_InvalidService_InvalidBook : ((Value.ref C_InvalidService) == (Value.ref C_InvalidBook)) = false)
    (fk_InvalidService_InvalidText : PySem.W.subIn K (.ref C_InvalidService) (.ref C_InvalidText) = some false)
    (fn_InvalidService_InvalidText : ((Value.ref C_InvalidService) == (Value.ref C_InvalidText)) = false)
    (fk_InvalidService_InvalidTree : PySem.W.subIn K (.ref C_InvalidService) (.ref C_InvalidTree) = some false)
    (fn_InvalidService_InvalidTree : ((Value.ref C_InvalidService) == (Value.ref C_InvalidTree)) = false)
    (fk_InvalidService_Refused : PySem.W.subIn K (.ref C_InvalidService) (.ref C_Refused) = some false)
    (fn_InvalidService_Refused : ((Value.ref C_InvalidService) == (Value.ref C_Refused)) = false)
    (fk_InvalidService_NoRow : PySem.W.subIn K (.ref C_InvalidService) (.ref C_NoRow) = some false)
    (fn_InvalidService_NoRow : ((Value.ref C_InvalidService) == (Value.ref C_NoRow)) = false)
    (fk_InvalidService_NoService : PySem.W.subIn K (.ref C_InvalidService) (.ref C_NoService) = some false)
    (fn_InvalidService_NoService : ((Value.ref C_InvalidService) == (Value.ref C_NoService)) = false)
    (fk_InvalidService_Mismatch : PySem.W.subIn K (.ref C_InvalidService) (.ref C_Mismatch) = some false)
    (fn_InvalidService_Mismatch : ((Value.ref C_InvalidService) == (Value.ref C_Mismatch)) = false)
    (fk_InvalidService_InvalidCommand : PySem.W.subIn K (.ref C_InvalidService) (.ref C_InvalidCommand) = some false)
    (fn_InvalidService_InvalidCommand : ((Value.ref C_InvalidService) == (Value.ref C_InvalidCommand)) = false)
    (fk_InvalidService_TraceError : PySem.W.subIn K (.ref C_InvalidService) (.ref C_TraceError) = some true)
    (fk_InvalidBook_InvalidRow : PySem.W.subIn K (.ref C_InvalidBook) (.ref C_InvalidRow) = some false)
    (fn_InvalidBook_InvalidRow : ((Value.ref C_InvalidBook) == (Value.ref C_InvalidRow)) = false)
    (fk_InvalidBook_InvalidService : PySem.W.subIn K (.ref C_InvalidBook) (.ref C_InvalidService) = some false)
    (fn_InvalidBook_InvalidService : ((Value.ref C_InvalidBook) == (Value.ref C_InvalidService)) = false)
    (fk_InvalidBook_InvalidBook : PySem.W.subIn K (.ref C_InvalidBook) (.ref C_InvalidBook) = some true)
    (fk_InvalidBook_InvalidText : PySem.W.subIn K (.ref C_InvalidBook) (.ref C_InvalidText) = some false)
    (fn_InvalidBook_InvalidText : ((Value.ref C_InvalidBook) == (Value.ref C_InvalidText)) = false)
    (fk_InvalidBook_InvalidTree : PySem.W.subIn K (.ref C_InvalidBook) (.ref C_InvalidTree) = some false)
    (fn_InvalidBook_InvalidTree : ((Value.ref C_InvalidBook) == (Value.ref C_InvalidTree)) = false)
    (fk_InvalidBook_Refused : PySem.W.subIn K (.ref C_InvalidBook) (.ref C_Refused) = some false)
    (fn_InvalidBook_Refused : ((Value.ref C_InvalidBook) == (Value.ref C_Refused)) = false)
    (fk_InvalidBook_NoRow : PySem.W.subIn K (.ref C_InvalidBook) (.ref C_NoRow) = some false)
    (fn_InvalidBook_NoRow : ((Value.ref C_InvalidBook) == (Value.ref C_NoRow)) = false)
    (fk_InvalidBook_NoService : PySem.W.subIn K (.ref C_InvalidBook) (.ref C_NoService) = some false)
    (fn_InvalidBook_NoService : ((Value.ref C_InvalidBook) == (Value.ref C_NoService)) = false)
    (fk_InvalidBook_Mismatch : PySem.W.subIn K (.ref C_InvalidBook) (.ref C_Mismatch) = some false)
    (fn_InvalidBook_Mismatch : ((Value.ref C_InvalidBook) == (Value.ref C_Mismatch)) = false)
    (fk_InvalidBook_InvalidCommand : PySem.W.subIn K (.ref C_InvalidBook) (.ref C_InvalidCommand) = some false)
    (fn_InvalidBook_InvalidCommand : ((Value.ref C_InvalidBook) == (Value.ref C_InvalidCommand)) = false)
    (fk_InvalidBook_TraceError : PySem.W.subIn K (.ref C_InvalidBook) (.ref C_TraceError) = some true)
    (fk_InvalidText_InvalidRow : PySem.W.subIn K (.ref C_InvalidText) (.ref C_InvalidRow) = some false)
    (fn_InvalidText_InvalidRow : ((Value.ref C_InvalidText) == (Value.ref C_InvalidRow)) = false)
    (fk_InvalidText_InvalidService : PySem.W.subIn K (.ref C_InvalidText) (.ref C_InvalidService) = some false)
    (fn_InvalidText_InvalidService : ((Value.ref C_InvalidText) == (Value.ref C_InvalidService)) = false)
    (fk_InvalidText_InvalidBook : PySem.W.subIn K (.ref C_InvalidText) (.ref C_InvalidBook) = some false)
    (fn_InvalidText_InvalidBook : ((Value.ref C_InvalidText) == (Value.ref C_InvalidBook)) = false)
    (fk_InvalidText_InvalidText : PySem.W.subIn K (.ref C_InvalidText) (.ref C_InvalidText) = some true)
    (fk_InvalidText_InvalidTree : PySem.W.subIn K (.ref C_InvalidText) (.ref C_InvalidTree) = some false)
    (fn_InvalidText_InvalidTree : ((Value.ref C_InvalidText) == (Value.ref C_InvalidTree)) = false)
    (fk_InvalidText_Refused : PySem.W.subIn K (.ref C_InvalidText) (.ref C_Refused) = some false)
    (fn_InvalidText_Refused : ((Value.ref C_InvalidText) == (Value.ref C_Refused)) = false)
    (fk_InvalidText_NoRow : PySem.W.subIn K (.ref C_InvalidText) (.ref C_NoRow) = some false)
    (fn_InvalidText_NoRow : ((Value.ref C_InvalidText) == (Value.ref C_NoRow)) = false)
    (fk_InvalidText_NoService : PySem.W.subIn K (.ref C_InvalidText) (.ref C_NoService) = some false)
    (fn_InvalidText_NoService : ((Value.ref C_InvalidText) == (Value.ref C_NoService)) = false)
    (fk_InvalidText_Mismatch : PySem.W.subIn K (.ref C_InvalidText) (.ref C_Mismatch) = some false)
    (fn_InvalidText_Mismatch : ((Value.ref C_InvalidText) == (Value.ref C_Mismatch)) = false)
    (fk_InvalidText_InvalidCommand : PySem.W.subIn K (.ref C_InvalidText) (.ref C_InvalidCommand) = some false)
    (fn_InvalidText_InvalidCommand : ((Value.ref C_InvalidText) == (Value.ref C_InvalidCommand)) = false)
    (fk_InvalidText_TraceError : PySem.W.subIn K (.ref C_InvalidText) (.ref C_TraceError) = some true)
    (fk_InvalidTree_InvalidRow : PySem.W.subIn K (.ref C_InvalidTree) (.ref C_InvalidRow) = some false)
    (fn_InvalidTree_InvalidRow : ((Value.ref C_InvalidTree) == (Value.ref C_InvalidRow)) = false)
    (fk_InvalidTree_InvalidService : PySem.W.subIn K (.ref C_InvalidTree) (.ref C_InvalidService) = some false)
    (fn_InvalidTree_InvalidService : ((Value.ref C_InvalidTree) == (Value.ref C_InvalidService)) = false)
    (fk_InvalidTree_InvalidBook : PySem.W.subIn K (.ref C_InvalidTree) (.ref C_InvalidBook) = some false)
    (fn_InvalidTree_InvalidBook : ((Value.ref C_InvalidTree) == (Value.ref C_InvalidBook)) = false)
    (fk_InvalidTree_InvalidText : PySem.W.subIn K (.ref C_InvalidTree) (.ref C_InvalidText) = some false)
    (fn_InvalidTree_InvalidText : ((Value.ref C_InvalidTree) == (Value.ref C_InvalidText)) = false)
    (fk_InvalidTree_InvalidTree : PySem.W.subIn K (.ref C_InvalidTree) (.ref C_InvalidTree) = some true)
    (fk_InvalidTree_Refused : PySem.W.subIn K (.ref C_InvalidTree) (.ref C_Refused) = some false)
    (fn_InvalidTree_Refused : ((Value.ref C_InvalidTree) == (Value.ref C_Refused)) = false)
    (fk_InvalidTree_NoRow : PySem.W.subIn K (.ref C_InvalidTree) (.ref C_NoRow) = some false)
    (fn_InvalidTree_NoRow : ((Value.ref C_InvalidTree) == (Value.ref C_NoRow)) = false)
    (fk_InvalidTree_NoService : PySem.W.subIn K (.ref C_InvalidTree) (.ref C_NoService) = some false)
    (fn_InvalidTree_NoService : ((Value.ref C_InvalidTree) == (Value.ref C_NoService)) = false)
    (fk_InvalidTree_Mismatch : PySem.W.subIn K (.ref C_InvalidTree) (.ref C_Mismatch) = some false)
    (fn_InvalidTree_Mismatch : ((Value.ref C_InvalidTree) == (Value.ref C_Mismatch)) = false)
    (fk_InvalidTree_InvalidCommand : PySem.W.subIn K (.ref C_InvalidTree) (.ref C_InvalidCommand) = some false)
    (fn_InvalidTree_InvalidCommand : ((Value.ref C_InvalidTree) == (Value.ref C_InvalidCommand)) = false)
    (fk_InvalidTree_TraceError : PySem.W.subIn K (.ref C_InvalidTree) (.ref C_TraceError) = some true)
    (fk_Refused_InvalidRow : PySem.W.subIn K (.ref C_Refused) (.ref C_InvalidRow) = some false)
    (fn_Refused_InvalidRow : ((Value.ref C_Refused) == (Value.ref C_InvalidRow)) = false)
    (fk_Refused_InvalidService : PySem.W.subIn K (.ref C_Refused) (.ref C_InvalidService) = some false)
    (fn_Refused_InvalidService : ((Value.ref C_Refused) == (Value.ref C_InvalidService)) = false)
    (fk_Refused_InvalidBook : PySem.W.subIn K (.ref C_Refused) (.ref C_InvalidBook) = some false)
    (fn_Refused_InvalidBook : ((Value.ref C_Refused) == (Value.ref C_InvalidBook)) = false)
    (fk_Refused_InvalidText : PySem.W.subIn K (.ref C_Refused) (.ref C_InvalidText) = some false)
    (fn_Refused_InvalidText : ((Value.ref C_Refused) == (Value.ref C_InvalidText)) = false)
    (fk_Refused_InvalidTree : PySem.W.subIn K (.ref C_Refused) (.ref C_InvalidTree) = some false)
    (fn_Refused_InvalidTree : ((Value.ref C_Refused) == (Value.ref C_InvalidTree)) = false)
    (fk_Refused_Refused : PySem.W.subIn K (.ref C_Refused) (.ref C_Refused) = some true)
    (fk_Refused_NoRow : PySem.W.subIn K (.ref C_Refused) (.ref C_NoRow) = some false)
    (fn_Refused_NoRow : ((Value.ref C_Refused) == (Value.ref C_NoRow)) = false)
    (fk_Refused_NoService : PySem.W.subIn K (.ref C_Refused) (.ref C_NoService) = some false)
    (fn_Refused_NoService : ((Value.ref C_Refused) == (Value.ref C_NoService)) = false)
    (fk_Refused_Mismatch : PySem.W.subIn K (.ref C_Refused) (.ref C_Mismatch) = some false)
    (fn_Refused_Mismatch : ((Value.ref C_Refused) == (Value.ref C_Mismatch)) = false)
    (fk_Refused_InvalidCommand : PySem.W.subIn K (.ref C_Refused) (.ref C_InvalidCommand) = some false)
    (fn_Refused_InvalidCommand : ((Value.ref C_Refused) == (Value.ref C_InvalidCommand)) = false)
    (fk_Refused_TraceError : PySem.W.subIn K (.ref C_Refused) (.ref C_TraceError) = some true)
    (fk_NoRow_InvalidRow : PySem.W.subIn K (.ref C_NoRow) (.ref C_InvalidRow) = some false)
    (fn_NoRow_InvalidRow : ((Value.ref C_NoRow) == (Value.ref C_InvalidRow)) = false)
    (fk_NoRow_InvalidService : PySem.W.subIn K (.ref C_NoRow) (.ref C_InvalidService) = some false)
    (fn_NoRow_InvalidService : ((Value.ref C_NoRow) == (Value.ref C_InvalidService)) = false)
    (fk_NoRow_InvalidBook : PySem.W.subIn K (.ref C_NoRow) (.ref C_InvalidBook) = some false)
    (fn_NoRow_InvalidBook : ((Value.ref C_NoRow) == (Value.ref C_InvalidBook)) = false)
    (fk_NoRow_InvalidText : PySem.W.subIn K (.ref C_NoRow) (.ref C_InvalidText) = some false)
    (fn_NoRow_InvalidText : ((Value.ref C_NoRow) == (Value.ref C_InvalidText)) = false)
    (fk_NoRow_InvalidTree : PySem.W.subIn K (.ref C_NoRow) (.ref C_InvalidTree) = some false)
    (fn_NoRow_InvalidTree : ((Value.ref C_NoRow) == (Value.ref C_InvalidTree)) = false)
    (fk_NoRow_Refused : PySem.W.subIn K (.ref C_NoRow) (.ref C_Refused) = some false)
    (fn_NoRow_Refused : ((Value.ref C_NoRow) == (Value.ref C_Refused)) = false)
    (fk_NoRow_NoRow : PySem.W.subIn K (.ref C_NoRow) (.ref C_NoRow) = some true)
    (fk_NoRow_NoService : PySem.W.subIn K (.ref C_NoRow) (.ref C_NoService) = some false)
    (fn_NoRow_NoService : ((Value.ref C_NoRow) == (Value.ref C_NoService)) = false)
    (fk_NoRow_Mismatch : PySem.W.subIn K (.ref C_NoRow) (.ref C_Mismatch) = some false)
    (fn_NoRow_Mismatch : ((Value.ref C_NoRow) == (Value.ref C_Mismatch)) = false)
    (fk_NoRow_InvalidCommand : PySem.W.subIn K (.ref C_NoRow) (.ref C_InvalidCommand) = some false)
    (fn_NoRow_InvalidCommand : ((Value.ref C_NoRow) == (Value.ref C_InvalidCommand)) = false)
    (fk_NoRow_TraceError : PySem.W.subIn K (.ref C_NoRow) (.ref C_TraceError) = some false)
    (fn_NoRow_TraceError : ((Value.ref C_NoRow) == (Value.ref C_TraceError)) = false)
    (fk_NoService_InvalidRow : PySem.W.subIn K (.ref C_NoService) (.ref C_InvalidRow) = some false)
    (fn_NoService_InvalidRow : ((Value.ref C_NoService) == (Value.ref C_InvalidRow)) = false)
    (fk_NoService_InvalidService : PySem.W.subIn K (.ref C_NoService) (.ref C_InvalidService) = some false)
    (fn_NoService_InvalidService : ((Value.ref C_NoService) == (Value.ref C_InvalidService)) = false)
    (fk_NoService_InvalidBook : PySem.W.subIn K (.ref C_NoService) (.ref C_InvalidBook) = some false)
    (fn_NoService_InvalidBook : ((Value.ref C_NoService) == (Value.ref C_InvalidBook)) = false)
    (fk_NoService_InvalidText : PySem.W.subIn K (.ref C_NoService) (.ref C_InvalidText) = some false)
    (fn_NoService_InvalidText : ((Value.ref C_NoService) == (Value.ref C_InvalidText)) = false)
    (fk_NoService_InvalidTree : PySem.W.subIn K (.ref C_NoService) (.ref C_InvalidTree) = some false)
    (fn_NoService_InvalidTree : ((Value.ref C_NoService) == (Value.ref C_InvalidTree)) = false)
    (fk_NoService_Refused : PySem.W.subIn K (.ref C_NoService) (.ref C_Refused) = some false)
    (fn_NoService_Refused : ((Value.ref C_NoService) == (Value.ref C_Refused)) = false)
    (fk_NoService_NoRow : PySem.W.subIn K (.ref C_NoService) (.ref C_NoRow) = some false)
    (fn_NoService_NoRow : ((Value.ref C_NoService) == (Value.ref C_NoRow)) = false)
    (fk_NoService_NoService : PySem.W.subIn K (.ref C_NoService) (.ref C_NoService) = some true)
    (fk_NoService_Mismatch : PySem.W.subIn K (.ref C_NoService) (.ref C_Mismatch) = some false)
    (fn_NoService_Mismatch : ((Value.ref C_NoService) == (Value.ref C_Mismatch)) = false)
    (fk_NoService_InvalidCommand : PySem.W.subIn K (.ref C_NoService) (.ref C_InvalidCommand) = some false)
    (fn_NoService_InvalidCommand : ((Value.ref C_NoService) == (Value.ref C_InvalidCommand)) = false)
    (fk_NoService_TraceError : PySem.W.subIn K (.ref C_NoService) (.ref C_TraceError) = some false)
    (fn_NoService_TraceError : ((Value.ref C_NoService) == (Value.ref C_TraceError)) = false)
    (fk_Mismatch_InvalidRow : PySem.W.subIn K (.ref C_Mismatch) (.ref C_InvalidRow) = some false)
    (fn_Mismatch_InvalidRow : ((Value.ref C_Mismatch) == (Value.ref C_InvalidRow)) = false)
    (fk_Mismatch_InvalidService : PySem.W.subIn K (.ref C_Mismatch) (.ref C_InvalidService) = some false)
    (fn_Mismatch_InvalidService : ((Value.ref C_Mismatch) == (Value.ref C_InvalidService)) = false)
    (fk_Mismatch_InvalidBook : PySem.W.subIn K (.ref C_Mismatch) (.ref C_InvalidBook) = some false)
    (fn_Mismatch_InvalidBook : ((Value.ref C_Mismatch) == (Value.ref C_InvalidBook)) = false)
    (fk_Mismatch_InvalidText : PySem.W.subIn K (.ref C_Mismatch) (.ref C_InvalidText) = some false)
    (fn_Mismatch_InvalidText : ((Value.ref C_Mismatch) == (Value.ref C_InvalidText)) = false)
    (fk_Mismatch_InvalidTree : PySem.W.subIn K (.ref C_Mismatch) (.ref C_InvalidTree) = some false)
    (fn_Mismatch_InvalidTree : ((Value.ref C_Mismatch) == (Value.ref C_InvalidTree)) = false)
    (fk_Mismatch_Refused : PySem.W.subIn K (.ref C_Mismatch) (.ref C_Refused) = some false)
    (fn_Mismatch_Refused : ((Value.ref C_Mismatch) == (Value.ref C_Refused)) = false)
    (fk_Mismatch_NoRow : PySem.W.subIn K (.ref C_Mismatch) (.ref C_NoRow) = some false)
    (fn_Mismatch_NoRow : ((Value.ref C_Mismatch) == (Value.ref C_NoRow)) = false)
    (fk_Mismatch_NoService : PySem.W.subIn K (.ref C_Mismatch) (.ref C_NoService) = some false)
    (fn_Mismatch_NoService : ((Value.ref C_Mismatch) == (Value.ref C_NoService)) = false)
    (fk_Mismatch_Mismatch : PySem.W.subIn K (.ref C_Mismatch) (.ref C_Mismatch) = some true)
    (fk_Mismatch_InvalidCommand : PySem.W.subIn K (.ref C_Mismatch) (.ref C_InvalidCommand) = some false)
    (fn_Mismatch_InvalidCommand : ((Value.ref C_Mismatch) == (Value.ref C_InvalidCommand)) = false)
    (fk_Mismatch_TraceError : PySem.W.subIn K (.ref C_Mismatch) (.ref C_TraceError) = some true)
    (fk_InvalidCommand_InvalidRow : PySem.W.subIn K (.ref C_InvalidCommand) (.ref C_InvalidRow) = some false)
    (fn_InvalidCommand_InvalidRow : ((Value.ref C_InvalidCommand) == (Value.ref C_InvalidRow)) = false)
    (fk_InvalidCommand_InvalidService : PySem.W.subIn K (.ref C_InvalidCommand) (.ref C_InvalidService) = some false)
    (fn_InvalidCommand_InvalidService : ((Value.ref C_InvalidCommand) == (Value.ref C_InvalidService)) = false)
    (fk_InvalidCommand_InvalidBook : PySem.W.subIn K (.ref C_InvalidCommand) (.ref C_InvalidBook) = some false)
    (fn_InvalidCommand_InvalidBook : ((Value.ref C_InvalidCommand) == (Value.ref C_InvalidBook)) = false)
    (fk_InvalidCommand_InvalidText : PySem.W.subIn K (.ref C_InvalidCommand) (.ref C_InvalidText) = some false)
    (fn_InvalidCommand_InvalidText : ((Value.ref C_InvalidCommand) == (Value.ref C_InvalidText)) = false)
    (fk_InvalidCommand_InvalidTree : PySem.W.subIn K (.ref C_InvalidCommand) (.ref C_InvalidTree) = some false)
    (fn_InvalidCommand_InvalidTree : ((Value.ref C_InvalidCommand) == (Value.ref C_InvalidTree)) = false)
    (fk_InvalidCommand_Refused : PySem.W.subIn K (.ref C_InvalidCommand) (.ref C_Refused) = some false)
    (fn_InvalidCommand_Refused : ((Value.ref C_InvalidCommand) == (Value.ref C_Refused)) = false)
    (fk_InvalidCommand_NoRow : PySem.W.subIn K (.ref C_InvalidCommand) (.ref C_NoRow) = some false)
    (fn_InvalidCommand_NoRow : ((Value.ref C_InvalidCommand) == (Value.ref C_NoRow)) = false)
    (fk_InvalidCommand_NoService : PySem.W.subIn K (.ref C_InvalidCommand) (.ref C_NoService) = some false)
    (fn_InvalidCommand_NoService : ((Value.ref C_InvalidCommand) == (Value.ref C_NoService)) = false)
    (fk_InvalidCommand_Mismatch : PySem.W.subIn K (.ref C_InvalidCommand) (.ref C_Mismatch) = some false)
    (fn_InvalidCommand_Mismatch : ((Value.ref C_InvalidCommand) == (Value.ref C_Mismatch)) = false)
    (fk_InvalidCommand_InvalidCommand : PySem.W.subIn K (.ref C_InvalidCommand) (.ref C_InvalidCommand) = some true)
    (fk_InvalidCommand_TraceError : PySem.W.subIn K (.ref C_InvalidCommand) (.ref C_TraceError) = some true)
    : ∃ A : Ad, Tx K mg A ∧ A.w = w ∧ (∀ f, A.okk f) := by
  have bd_InvalidRow_init : Binds K (PySem.W.ksFn "__init__" "InvalidRow.__init__" (defArgs s_InvalidRow_init) (defBody s_InvalidRow_init) (defScope s_InvalidRow_init) .none kV_InvalidRow_init dc_InvalidRow_init pm_InvalidRow_init an_InvalidRow_init (.ref ca_InvalidRow_init) ct_InvalidRow_init cc_InvalidRow_init) ["self", "word"] [] := .all fun us hl => match us, hl with | [_, _], _ => rfl
  have bd_InvalidService_init : Binds K (PySem.W.ksFn "__init__" "InvalidService.__init__" (defArgs s_InvalidService_init) (defBody s_InvalidService_init) (defScope s_InvalidService_init) .none kV_InvalidService_init dc_InvalidService_init pm_InvalidService_init an_InvalidService_init (.ref ca_InvalidService_init) ct_InvalidService_init cc_InvalidService_init) ["self", "word"] [] := .all fun us hl => match us, hl with | [_, _], _ => rfl
  have bd_InvalidBook_init : Binds K (PySem.W.ksFn "__init__" "InvalidBook.__init__" (defArgs s_InvalidBook_init) (defBody s_InvalidBook_init) (defScope s_InvalidBook_init) .none kV_InvalidBook_init dc_InvalidBook_init pm_InvalidBook_init an_InvalidBook_init (.ref ca_InvalidBook_init) ct_InvalidBook_init cc_InvalidBook_init) ["self", "word"] [] := .all fun us hl => match us, hl with | [_, _], _ => rfl
  have bd_InvalidText_init : Binds K (PySem.W.ksFn "__init__" "InvalidText.__init__" (defArgs s_InvalidText_init) (defBody s_InvalidText_init) (defScope s_InvalidText_init) .none kV_InvalidText_init dc_InvalidText_init pm_InvalidText_init an_InvalidText_init (.ref ca_InvalidText_init) ct_InvalidText_init cc_InvalidText_init) ["self", "at"] [] := .all fun us hl => match us, hl with | [_, _], _ => rfl
  have bd_InvalidTree_init : Binds K (PySem.W.ksFn "__init__" "InvalidTree.__init__" (defArgs s_InvalidTree_init) (defBody s_InvalidTree_init) (defScope s_InvalidTree_init) .none kV_InvalidTree_init dc_InvalidTree_init pm_InvalidTree_init an_InvalidTree_init (.ref ca_InvalidTree_init) ct_InvalidTree_init cc_InvalidTree_init) ["self", "word"] [] := .all fun us hl => match us, hl with | [_, _], _ => rfl
  have bd_Refused_init : Binds K (PySem.W.ksFn "__init__" "Refused.__init__" (defArgs s_Refused_init) (defBody s_Refused_init) (defScope s_Refused_init) .none kV_Refused_init dc_Refused_init pm_Refused_init an_Refused_init (.ref ca_Refused_init) ct_Refused_init cc_Refused_init) ["self", "word"] [] := .all fun us hl => match us, hl with | [_, _], _ => rfl
  have bd_NoRow_init : Binds K (PySem.W.ksFn "__init__" "NoRow.__init__" (defArgs s_NoRow_init) (defBody s_NoRow_init) (defScope s_NoRow_init) .none kV_NoRow_init dc_NoRow_init pm_NoRow_init an_NoRow_init (.ref ca_NoRow_init) ct_NoRow_init cc_NoRow_init) ["self", "at"] [] := .all fun us hl => match us, hl with | [_, _], _ => rfl
  have bd_NoService_init : Binds K (PySem.W.ksFn "__init__" "NoService.__init__" (defArgs s_NoService_init) (defBody s_NoService_init) (defScope s_NoService_init) .none kV_NoService_init dc_NoService_init pm_NoService_init an_NoService_init (.ref ca_NoService_init) ct_NoService_init cc_NoService_init) ["self", "name"] [] := .all fun us hl => match us, hl with | [_, _], _ => rfl
  have F__law_box := funD_mk (x := "_law_box") (qual := "_law_box") (st := s__law_box) l__law_box c__law_box k__law_box
  have F__law_take := funD_mk (x := "_law_take") (qual := "_law_take") (st := s__law_take) l__law_take c__law_take k__law_take
  have F__law_pick := funD_mk (x := "_law_pick") (qual := "_law_pick") (st := s__law_pick) l__law_pick c__law_pick k__law_pick
  have F__law_any := funD_mk (x := "_law_any") (qual := "_law_any") (st := s__law_any) l__law_any c__law_any k__law_any
  have F__law_made := funD_mk (x := "_law_made") (qual := "_law_made") (st := s__law_made) l__law_made c__law_made k__law_made
  have F__law_sorts := funD_mk (x := "_law_sorts") (qual := "_law_sorts") (st := s__law_sorts) l__law_sorts c__law_sorts k__law_sorts
  have F__law_kept := funD_mk (x := "_law_kept") (qual := "_law_kept") (st := s__law_kept) l__law_kept c__law_kept k__law_kept
  have F_law := funD_mk (x := "law") (qual := "law") (st := s_law) l_law c_law k_law
  exact ⟨{ w := w, okk := fun _ => True, okm := fun _ _ => True.intro, C_InvalidRow := C_InvalidRow, C_InvalidService := C_InvalidService, C_InvalidBook := C_InvalidBook, C_InvalidText := C_InvalidText, C_InvalidTree := C_InvalidTree, C_Refused := C_Refused, C_NoRow := C_NoRow, C_NoService := C_NoService, C_Mismatch := C_Mismatch, C_InvalidCommand := C_InvalidCommand, C_TraceError := C_TraceError, InvalidRow_init := f_InvalidRow_init, InvalidRow_init_d := PySem.W.ksFn "__init__" "InvalidRow.__init__" (defArgs s_InvalidRow_init) (defBody s_InvalidRow_init) (defScope s_InvalidRow_init) .none kV_InvalidRow_init dc_InvalidRow_init pm_InvalidRow_init an_InvalidRow_init (.ref ca_InvalidRow_init) ct_InvalidRow_init cc_InvalidRow_init, InvalidService_init := f_InvalidService_init, InvalidService_init_d := PySem.W.ksFn "__init__" "InvalidService.__init__" (defArgs s_InvalidService_init) (defBody s_InvalidService_init) (defScope s_InvalidService_init) .none kV_InvalidService_init dc_InvalidService_init pm_InvalidService_init an_InvalidService_init (.ref ca_InvalidService_init) ct_InvalidService_init cc_InvalidService_init, InvalidBook_init := f_InvalidBook_init, InvalidBook_init_d := PySem.W.ksFn "__init__" "InvalidBook.__init__" (defArgs s_InvalidBook_init) (defBody s_InvalidBook_init) (defScope s_InvalidBook_init) .none kV_InvalidBook_init dc_InvalidBook_init pm_InvalidBook_init an_InvalidBook_init (.ref ca_InvalidBook_init) ct_InvalidBook_init cc_InvalidBook_init, InvalidText_init := f_InvalidText_init, InvalidText_init_d := PySem.W.ksFn "__init__" "InvalidText.__init__" (defArgs s_InvalidText_init) (defBody s_InvalidText_init) (defScope s_InvalidText_init) .none kV_InvalidText_init dc_InvalidText_init pm_InvalidText_init an_InvalidText_init (.ref ca_InvalidText_init) ct_InvalidText_init cc_InvalidText_init, InvalidTree_init := f_InvalidTree_init, InvalidTree_init_d := PySem.W.ksFn "__init__" "InvalidTree.__init__" (defArgs s_InvalidTree_init) (defBody s_InvalidTree_init) (defScope s_InvalidTree_init) .none kV_InvalidTree_init dc_InvalidTree_init pm_InvalidTree_init an_InvalidTree_init (.ref ca_InvalidTree_init) ct_InvalidTree_init cc_InvalidTree_init, Refused_init := f_Refused_init, Refused_init_d := PySem.W.ksFn "__init__" "Refused.__init__" (defArgs s_Refused_init) (defBody s_Refused_init) (defScope s_Refused_init) .none kV_Refused_init dc_Refused_init pm_Refused_init an_Refused_init (.ref ca_Refused_init) ct_Refused_init cc_Refused_init, NoRow_init := f_NoRow_init, NoRow_init_d := PySem.W.ksFn "__init__" "NoRow.__init__" (defArgs s_NoRow_init) (defBody s_NoRow_init) (defScope s_NoRow_init) .none kV_NoRow_init dc_NoRow_init pm_NoRow_init an_NoRow_init (.ref ca_NoRow_init) ct_NoRow_init cc_NoRow_init, NoService_init := f_NoService_init, NoService_init_d := PySem.W.ksFn "__init__" "NoService.__init__" (defArgs s_NoService_init) (defBody s_NoService_init) (defScope s_NoService_init) .none kV_NoService_init dc_NoService_init pm_NoService_init an_NoService_init (.ref ca_NoService_init) ct_NoService_init cc_NoService_init, _law_box := f__law_box, _law_box_d := PySem.W.fnOf "_law_box" "_law_box" (defArgs s__law_box) (defBody s__law_box) (defScope s__law_box) .none kV__law_box dc__law_box pm__law_box an__law_box cd__law_box ct__law_box, _law_take := f__law_take, _law_take_d := PySem.W.fnOf "_law_take" "_law_take" (defArgs s__law_take) (defBody s__law_take) (defScope s__law_take) .none kV__law_take dc__law_take pm__law_take an__law_take cd__law_take ct__law_take, _law_pick := f__law_pick, _law_pick_d := PySem.W.fnOf "_law_pick" "_law_pick" (defArgs s__law_pick) (defBody s__law_pick) (defScope s__law_pick) .none kV__law_pick dc__law_pick pm__law_pick an__law_pick cd__law_pick ct__law_pick, _law_any := f__law_any, _law_any_d := PySem.W.fnOf "_law_any" "_law_any" (defArgs s__law_any) (defBody s__law_any) (defScope s__law_any) .none kV__law_any dc__law_any pm__law_any an__law_any cd__law_any ct__law_any, _law_made := f__law_made, _law_made_d := PySem.W.fnOf "_law_made" "_law_made" (defArgs s__law_made) (defBody s__law_made) (defScope s__law_made) .none kV__law_made dc__law_made pm__law_made an__law_made cd__law_made ct__law_made, _law_sorts := f__law_sorts, _law_sorts_d := PySem.W.fnOf "_law_sorts" "_law_sorts" (defArgs s__law_sorts) (defBody s__law_sorts) (defScope s__law_sorts) .none kV__law_sorts dc__law_sorts pm__law_sorts an__law_sorts cd__law_sorts ct__law_sorts, _law_kept := f__law_kept, _law_kept_d := PySem.W.fnOf "_law_kept" "_law_kept" (defArgs s__law_kept) (defBody s__law_kept) (defScope s__law_kept) .none kV__law_kept dc__law_kept pm__law_kept an__law_kept cd__law_kept ct__law_kept, law := f_law, law_d := PySem.W.fnOf "law" "law" (defArgs s_law) (defBody s_law) (defScope s_law) .none kV_law dc_law pm_law an_law cd_law ct_law }, { InvalidRow_init := ⟨⟨oc_InvalidRow_init, od_InvalidRow_init, kV_InvalidRow_init, dc_InvalidRow_init, pm_InvalidRow_init, an_InvalidRow_init, ca_InvalidRow_init, ct_InvalidRow_init, sl_InvalidRow_init, cc_InvalidRow_init, cl_InvalidRow_init, cld_InvalidRow_init, csl_InvalidRow_init, cv_InvalidRow_init, cdd_InvalidRow_init, vs_InvalidRow_init, ccs_InvalidRow_init, file_InvalidRow_init, tf_InvalidRow_init, rfl, l_InvalidRow_init, c_InvalidRow_init, ce_InvalidRow_init, co_InvalidRow_init, cf_InvalidRow_init, cft_InvalidRow_init⟩, bd_InvalidRow_init, i_InvalidRow_init, k_InvalidRow_init, fi_InvalidRow_init⟩, InvalidService_init := ⟨⟨oc_InvalidService_init, od_InvalidService_init, kV_InvalidService_init, dc_InvalidService_init, pm_InvalidService_init, an_InvalidService_init, ca_InvalidService_init, ct_InvalidService_init, sl_InvalidService_init, cc_InvalidService_init, cl_InvalidService_init, cld_InvalidService_init, csl_InvalidService_init, cv_InvalidService_init, cdd_InvalidService_init, vs_InvalidService_init, ccs_InvalidService_init, file_InvalidService_init, tf_InvalidService_init, rfl, l_InvalidService_init, c_InvalidService_init, ce_InvalidService_init, co_InvalidService_init, cf_InvalidService_init, cft_InvalidService_init⟩, bd_InvalidService_init, i_InvalidService_init, k_InvalidService_init, fi_InvalidService_init⟩, InvalidBook_init := ⟨⟨oc_InvalidBook_init, od_InvalidBook_init, kV_InvalidBook_init, dc_InvalidBook_init, pm_InvalidBook_init, an_InvalidBook_init, ca_InvalidBook_init, ct_InvalidBook_init, sl_InvalidBook_init, cc_InvalidBook_init, cl_InvalidBook_init, cld_InvalidBook_init, csl_InvalidBook_init, cv_InvalidBook_init, cdd_InvalidBook_init, vs_InvalidBook_init, ccs_InvalidBook_init, file_InvalidBook_init, tf_InvalidBook_init, rfl, l_InvalidBook_init, c_InvalidBook_init, ce_InvalidBook_init, co_InvalidBook_init, cf_InvalidBook_init, cft_InvalidBook_init⟩, bd_InvalidBook_init, i_InvalidBook_init, k_InvalidBook_init, fi_InvalidBook_init⟩, InvalidText_init := ⟨⟨oc_InvalidText_init, od_InvalidText_init, kV_InvalidText_init, dc_InvalidText_init, pm_InvalidText_init, an_InvalidText_init, ca_InvalidText_init, ct_InvalidText_init, sl_InvalidText_init, cc_InvalidText_init, cl_InvalidText_init, cld_InvalidText_init, csl_InvalidText_init, cv_InvalidText_init, cdd_InvalidText_init, vs_InvalidText_init, ccs_InvalidText_init, file_InvalidText_init, tf_InvalidText_init, rfl, l_InvalidText_init, c_InvalidText_init, ce_InvalidText_init, co_InvalidText_init, cf_InvalidText_init, cft_InvalidText_init⟩, bd_InvalidText_init, i_InvalidText_init, k_InvalidText_init, fi_InvalidText_init⟩, InvalidTree_init := ⟨⟨oc_InvalidTree_init, od_InvalidTree_init, kV_InvalidTree_init, dc_InvalidTree_init, pm_InvalidTree_init, an_InvalidTree_init, ca_InvalidTree_init, ct_InvalidTree_init, sl_InvalidTree_init, cc_InvalidTree_init, cl_InvalidTree_init, cld_InvalidTree_init, csl_InvalidTree_init, cv_InvalidTree_init, cdd_InvalidTree_init, vs_InvalidTree_init, ccs_InvalidTree_init, file_InvalidTree_init, tf_InvalidTree_init, rfl, l_InvalidTree_init, c_InvalidTree_init, ce_InvalidTree_init, co_InvalidTree_init, cf_InvalidTree_init, cft_InvalidTree_init⟩, bd_InvalidTree_init, i_InvalidTree_init, k_InvalidTree_init, fi_InvalidTree_init⟩, Refused_init := ⟨⟨oc_Refused_init, od_Refused_init, kV_Refused_init, dc_Refused_init, pm_Refused_init, an_Refused_init, ca_Refused_init, ct_Refused_init, sl_Refused_init, cc_Refused_init, cl_Refused_init, cld_Refused_init, csl_Refused_init, cv_Refused_init, cdd_Refused_init, vs_Refused_init, ccs_Refused_init, file_Refused_init, tf_Refused_init, rfl, l_Refused_init, c_Refused_init, ce_Refused_init, co_Refused_init, cf_Refused_init, cft_Refused_init⟩, bd_Refused_init, i_Refused_init, k_Refused_init, fi_Refused_init⟩, NoRow_init := ⟨⟨oc_NoRow_init, od_NoRow_init, kV_NoRow_init, dc_NoRow_init, pm_NoRow_init, an_NoRow_init, ca_NoRow_init, ct_NoRow_init, sl_NoRow_init, cc_NoRow_init, cl_NoRow_init, cld_NoRow_init, csl_NoRow_init, cv_NoRow_init, cdd_NoRow_init, vs_NoRow_init, ccs_NoRow_init, file_NoRow_init, tf_NoRow_init, rfl, l_NoRow_init, c_NoRow_init, ce_NoRow_init, co_NoRow_init, cf_NoRow_init, cft_NoRow_init⟩, bd_NoRow_init, i_NoRow_init, k_NoRow_init, fi_NoRow_init⟩, NoService_init := ⟨⟨oc_NoService_init, od_NoService_init, kV_NoService_init, dc_NoService_init, pm_NoService_init, an_NoService_init, ca_NoService_init, ct_NoService_init, sl_NoService_init, cc_NoService_init, cl_NoService_init, cld_NoService_init, csl_NoService_init, cv_NoService_init, cdd_NoService_init, vs_NoService_init, ccs_NoService_init, file_NoService_init, tf_NoService_init, rfl, l_NoService_init, c_NoService_init, ce_NoService_init, co_NoService_init, cf_NoService_init, cft_NoService_init⟩, bd_NoService_init, i_NoService_init, k_NoService_init, fi_NoService_init⟩, _law_box := ⟨F__law_box, PySem.W.mg_of X G a__law_box⟩, _law_take := ⟨F__law_take, PySem.W.mg_of X G a__law_take⟩, _law_pick := ⟨F__law_pick, PySem.W.mg_of X G a__law_pick⟩, _law_any := ⟨F__law_any, PySem.W.mg_of X G a__law_any⟩, _law_made := ⟨F__law_made, PySem.W.mg_of X G a__law_made⟩, _law_sorts := ⟨F__law_sorts, PySem.W.mg_of X G a__law_sorts⟩, _law_kept := ⟨F__law_kept, PySem.W.mg_of X G a__law_kept⟩, law := ⟨F_law, PySem.W.mg_of X G a_law⟩, b_len := PySem.W.mg_none_of X G b_len, b_abs := PySem.W.mg_none_of X G b_abs, b_max := PySem.W.mg_none_of X G b_max, b_min := PySem.W.mg_none_of X G b_min, b_int := PySem.W.mg_none_of X G b_int, b_isinstance := PySem.W.mg_none_of X G b_isinstance, b_range := PySem.W.mg_none_of X G b_range, b_tuple := PySem.W.mg_none_of X G b_tuple, b_enumerate := PySem.W.mg_none_of X G b_enumerate, b_repr := PySem.W.mg_none_of X G b_repr, b_ValueError := PySem.W.mg_none_of X G b_ValueError, b_IndexError := PySem.W.mg_none_of X G b_IndexError, b_KeyError := PySem.W.mg_none_of X G b_KeyError, sup := ⟨sup_t, PySem.W.mg_none_of X G sup_m, sup_o⟩, g_TraceError := PySem.W.mg_of X G aC_TraceError, X_InvalidRow := ⟨PySem.W.mg_of X G aC_InvalidRow, ⟨⟨_, _, _, _, _, _, _, _, _, _, _, _, _, _, _, xl_InvalidRow, rfl⟩, xsa_InvalidRow, xex_InvalidRow, xty_InvalidRow, xk_InvalidRow⟩, xi_InvalidRow, xt_InvalidRow, xna_InvalidRow, ⟨xs1_InvalidRow, xs2_InvalidRow, xs3_InvalidRow⟩, ⟨xga_InvalidRow, xgg_InvalidRow, xex_InvalidRow, xhd_InvalidRow, xc_InvalidRow, hn_, htk_, xm_InvalidRow⟩, ⟨_, xcl_InvalidRow⟩⟩, kx_InvalidRow_ValueError := kit_bltT (by decide +kernel) xf_InvalidRow_ValueError, kx_InvalidRow_IndexError := kit_bltF (by decide +kernel) xf_InvalidRow_IndexError, kx_InvalidRow_KeyError := kit_bltF (by decide +kernel) xf_InvalidRow_KeyError, X_InvalidService := ⟨PySem.W.mg_of X G aC_InvalidService, ⟨⟨_, _, _, _, _, _, _, _, _, _, _, _, _, _, _, xl_InvalidService, rfl⟩, xsa_InvalidService, xex_InvalidService, xty_InvalidService, xk_InvalidService⟩, xi_InvalidService, xt_InvalidService, xna_InvalidService, ⟨xs1_InvalidService, xs2_InvalidService, xs3_InvalidService⟩, ⟨xga_InvalidService, xgg_InvalidService, xex_InvalidService, xhd_InvalidService, xc_InvalidService, hn_, htk_, xm_InvalidService⟩, ⟨_, xcl_InvalidService⟩⟩, kx_InvalidService_ValueError := kit_bltT (by decide +kernel) xf_InvalidService_ValueError, kx_InvalidService_IndexError := kit_bltF (by decide +kernel) xf_InvalidService_IndexError, kx_InvalidService_KeyError := kit_bltF (by decide +kernel) xf_InvalidService_KeyError, X_InvalidBook := ⟨PySem.W.mg_of X G aC_InvalidBook, ⟨⟨_, _, _, _, _, _, _, _, _, _, _, _, _, _, _, xl_InvalidBook, rfl⟩, xsa_InvalidBook, xex_InvalidBook, xty_InvalidBook, xk_InvalidBook⟩, xi_InvalidBook, xt_InvalidBook, xna_InvalidBook, ⟨xs1_InvalidBook, xs2_InvalidBook, xs3_InvalidBook⟩, ⟨xga_InvalidBook, xgg_InvalidBook, xex_InvalidBook, xhd_InvalidBook, xc_InvalidBook, hn_, htk_, xm_InvalidBook⟩, ⟨_, xcl_InvalidBook⟩⟩, kx_InvalidBook_ValueError := kit_bltT (by decide +kernel) xf_InvalidBook_ValueError, kx_InvalidBook_IndexError := kit_bltF (by decide +kernel) xf_InvalidBook_IndexError, kx_InvalidBook_KeyError := kit_bltF (by decide +kernel) xf_InvalidBook_KeyError, X_InvalidText := ⟨PySem.W.mg_of X G aC_InvalidText, ⟨⟨_, _, _, _, _, _, _, _, _, _, _, _, _, _, _, xl_InvalidText, rfl⟩, xsa_InvalidText, xex_InvalidText, xty_InvalidText, xk_InvalidText⟩, xi_InvalidText, xt_InvalidText, xna_InvalidText, ⟨xs1_InvalidText, xs2_InvalidText, xs3_InvalidText⟩, ⟨xga_InvalidText, xgg_InvalidText, xex_InvalidText, xhd_InvalidText, xc_InvalidText, hn_, htk_, xm_InvalidText⟩, ⟨_, xcl_InvalidText⟩⟩, kx_InvalidText_ValueError := kit_bltT (by decide +kernel) xf_InvalidText_ValueError, kx_InvalidText_IndexError := kit_bltF (by decide +kernel) xf_InvalidText_IndexError, kx_InvalidText_KeyError := kit_bltF (by decide +kernel) xf_InvalidText_KeyError, X_InvalidTree := ⟨PySem.W.mg_of X G aC_InvalidTree, ⟨⟨_, _, _, _, _, _, _, _, _, _, _, _, _, _, _, xl_InvalidTree, rfl⟩, xsa_InvalidTree, xex_InvalidTree, xty_InvalidTree, xk_InvalidTree⟩, xi_InvalidTree, xt_InvalidTree, xna_InvalidTree, ⟨xs1_InvalidTree, xs2_InvalidTree, xs3_InvalidTree⟩, ⟨xga_InvalidTree, xgg_InvalidTree, xex_InvalidTree, xhd_InvalidTree, xc_InvalidTree, hn_, htk_, xm_InvalidTree⟩, ⟨_, xcl_InvalidTree⟩⟩, kx_InvalidTree_ValueError := kit_bltT (by decide +kernel) xf_InvalidTree_ValueError, kx_InvalidTree_IndexError := kit_bltF (by decide +kernel) xf_InvalidTree_IndexError, kx_InvalidTree_KeyError := kit_bltF (by decide +kernel) xf_InvalidTree_KeyError, X_Refused := ⟨PySem.W.mg_of X G aC_Refused, ⟨⟨_, _, _, _, _, _, _, _, _, _, _, _, _, _, _, xl_Refused, rfl⟩, xsa_Refused, xex_Refused, xty_Refused, xk_Refused⟩, xi_Refused, xt_Refused, xna_Refused, ⟨xs1_Refused, xs2_Refused, xs3_Refused⟩, ⟨xga_Refused, xgg_Refused, xex_Refused, xhd_Refused, xc_Refused, hn_, htk_, xm_Refused⟩, ⟨_, xcl_Refused⟩⟩, kx_Refused_ValueError := kit_bltT (by decide +kernel) xf_Refused_ValueError, kx_Refused_IndexError := kit_bltF (by decide +kernel) xf_Refused_IndexError, kx_Refused_KeyError := kit_bltF (by decide +kernel) xf_Refused_KeyError, X_NoRow := ⟨xb_index, PySem.W.mg_of X G aC_NoRow, ⟨⟨_, _, _, _, _, _, _, _, _, _, _, _, _, _, _, xl_NoRow, rfl⟩, xsa_NoRow, xex_NoRow, xty_NoRow, xk_NoRow⟩, xi_NoRow, xt_NoRow, xna_NoRow, ⟨xs1_NoRow, xs2_NoRow, xs3_NoRow⟩, ⟨xga_NoRow, xgg_NoRow, xex_NoRow, xhd_NoRow, xc_NoRow, hn_, htk_, xm_NoRow⟩, ⟨_, xcl_NoRow⟩⟩, kx_NoRow_ValueError := kit_bltF (by decide +kernel) xf_NoRow_ValueError, kx_NoRow_IndexError := kit_bltT (by decide +kernel) xf_NoRow_IndexError, kx_NoRow_KeyError := kit_bltF (by decide +kernel) xf_NoRow_KeyError, X_NoService := ⟨xb_key, PySem.W.mg_of X G aC_NoService, ⟨⟨_, _, _, _, _, _, _, _, _, _, _, _, _, _, _, xl_NoService, rfl⟩, xsa_NoService, xex_NoService, xty_NoService, xk_NoService⟩, xi_NoService, xt_NoService, xna_NoService, ⟨xs1_NoService, xs2_NoService, xs3_NoService⟩, ⟨xga_NoService, xgg_NoService, xex_NoService, xhd_NoService, xc_NoService, hn_, htk_, xm_NoService⟩, ⟨_, xcl_NoService⟩⟩, kx_NoService_ValueError := kit_bltF (by decide +kernel) xf_NoService_ValueError, kx_NoService_IndexError := kit_bltF (by decide +kernel) xf_NoService_IndexError, kx_NoService_KeyError := kit_bltT (by decide +kernel) xf_NoService_KeyError, X_Mismatch := ⟨PySem.W.mg_of X G aC_Mismatch, xe_Mismatch, xk_Mismatch, xty_Mismatch, ⟨xga_Mismatch, xgg_Mismatch, xex_Mismatch, xhd_Mismatch, xc_Mismatch, hn_, htk_, xm_Mismatch⟩⟩, kx_Mismatch_ValueError := kit_bltT (by decide +kernel) xf_Mismatch_ValueError, kx_Mismatch_IndexError := kit_bltF (by decide +kernel) xf_Mismatch_IndexError, kx_Mismatch_KeyError := kit_bltF (by decide +kernel) xf_Mismatch_KeyError, X_InvalidCommand := ⟨PySem.W.mg_of X G aC_InvalidCommand, xe_InvalidCommand, xk_InvalidCommand, xty_InvalidCommand, ⟨xga_InvalidCommand, xgg_InvalidCommand, xex_InvalidCommand, xhd_InvalidCommand, xc_InvalidCommand, hn_, htk_, xm_InvalidCommand⟩⟩, kx_InvalidCommand_ValueError := kit_bltT (by decide +kernel) xf_InvalidCommand_ValueError, kx_InvalidCommand_IndexError := kit_bltF (by decide +kernel) xf_InvalidCommand_IndexError, kx_InvalidCommand_KeyError := kit_bltF (by decide +kernel) xf_InvalidCommand_KeyError, ki_InvalidRow_InvalidRow := kit_ownT kd_InvalidRow kt_InvalidRow fk_InvalidRow_InvalidRow, ki_InvalidRow_InvalidService := kit_ownF2 fn_InvalidRow_InvalidService kd_InvalidService kt_InvalidService fk_InvalidRow_InvalidService, ki_InvalidRow_InvalidBook := kit_ownF2 fn_InvalidRow_InvalidBook kd_InvalidBook kt_InvalidBook fk_InvalidRow_InvalidBook, ki_InvalidRow_InvalidText := kit_ownF2 fn_InvalidRow_InvalidText kd_InvalidText kt_InvalidText fk_InvalidRow_InvalidText, ki_InvalidRow_InvalidTree := kit_ownF2 fn_InvalidRow_InvalidTree kd_InvalidTree kt_InvalidTree fk_InvalidRow_InvalidTree, ki_InvalidRow_Refused := kit_ownF2 fn_InvalidRow_Refused kd_Refused kt_Refused fk_InvalidRow_Refused, ki_InvalidRow_NoRow := kit_ownF2 fn_InvalidRow_NoRow kd_NoRow kt_NoRow fk_InvalidRow_NoRow, ki_InvalidRow_NoService := kit_ownF2 fn_InvalidRow_NoService kd_NoService kt_NoService fk_InvalidRow_NoService, ki_InvalidRow_Mismatch := kit_ownF2 fn_InvalidRow_Mismatch kd_Mismatch kt_Mismatch fk_InvalidRow_Mismatch, ki_InvalidRow_InvalidCommand := kit_ownF2 fn_InvalidRow_InvalidCommand kd_InvalidCommand kt_InvalidCommand fk_InvalidRow_InvalidCommand, ki_InvalidRow_TraceError := kit_ownT kd_TraceError kt_TraceError fk_InvalidRow_TraceError, ki_InvalidService_InvalidRow := kit_ownF2 fn_InvalidService_InvalidRow kd_InvalidRow kt_InvalidRow fk_InvalidService_InvalidRow, ki_InvalidService_InvalidService := kit_ownT kd_InvalidService kt_InvalidService fk_InvalidService_InvalidService, ki_InvalidService_InvalidBook := kit_ownF2 fn_InvalidService_InvalidBook kd_InvalidBook kt_InvalidBook fk_InvalidService_InvalidBook, ki_InvalidService_InvalidText := kit_ownF2 fn_InvalidService_InvalidText kd_InvalidText kt_InvalidText fk_InvalidService_InvalidText, ki_InvalidService_InvalidTree := kit_ownF2 fn_InvalidService_InvalidTree kd_InvalidTree kt_InvalidTree fk_InvalidService_InvalidTree, ki_InvalidService_Refused := kit_ownF2 fn_InvalidService_Refused kd_Refused kt_Refused fk_InvalidService_Refused, ki_InvalidService_NoRow := kit_ownF2 fn_InvalidService_NoRow kd_NoRow kt_NoRow fk_InvalidService_NoRow, ki_InvalidService_NoService := kit_ownF2 fn_InvalidService_NoService kd_NoService kt_NoService fk_InvalidService_NoService, ki_InvalidService_Mismatch := kit_ownF2 fn_InvalidService_Mismatch kd_Mismatch kt_Mismatch fk_InvalidService_Mismatch, ki_InvalidService_InvalidCommand := kit_ownF2 fn_InvalidService_InvalidCommand kd_InvalidCommand kt_InvalidCommand fk_InvalidService_InvalidCommand, ki_InvalidService_TraceError := kit_ownT kd_TraceError kt_TraceError fk_InvalidService_TraceError, ki_InvalidBook_InvalidRow := kit_ownF2 fn_InvalidBook_InvalidRow kd_InvalidRow kt_InvalidRow fk_InvalidBook_InvalidRow, ki_InvalidBook_InvalidService := kit_ownF2 fn_InvalidBook_InvalidService kd_InvalidService kt_InvalidService fk_InvalidBook_InvalidService, ki_InvalidBook_InvalidBook := kit_ownT kd_InvalidBook kt_InvalidBook fk_InvalidBook_InvalidBook, ki_InvalidBook_InvalidText := kit_ownF2 fn_InvalidBook_InvalidText kd_InvalidText kt_InvalidText fk_InvalidBook_InvalidText, ki_InvalidBook_InvalidTree := kit_ownF2 fn_InvalidBook_InvalidTree kd_InvalidTree kt_InvalidTree fk_InvalidBook_InvalidTree, ki_InvalidBook_Refused := kit_ownF2 fn_InvalidBook_Refused kd_Refused kt_Refused fk_InvalidBook_Refused, ki_InvalidBook_NoRow := kit_ownF2 fn_InvalidBook_NoRow kd_NoRow kt_NoRow fk_InvalidBook_NoRow, ki_InvalidBook_NoService := kit_ownF2 fn_InvalidBook_NoService kd_NoService kt_NoService fk_InvalidBook_NoService, ki_InvalidBook_Mismatch := kit_ownF2 fn_InvalidBook_Mismatch kd_Mismatch kt_Mismatch fk_InvalidBook_Mismatch, ki_InvalidBook_InvalidCommand := kit_ownF2 fn_InvalidBook_InvalidCommand kd_InvalidCommand kt_InvalidCommand fk_InvalidBook_InvalidCommand, ki_InvalidBook_TraceError := kit_ownT kd_TraceError kt_TraceError fk_InvalidBook_TraceError, ki_InvalidText_InvalidRow := kit_ownF2 fn_InvalidText_InvalidRow kd_InvalidRow kt_InvalidRow fk_InvalidText_InvalidRow, ki_InvalidText_InvalidService := kit_ownF2 fn_InvalidText_InvalidService kd_InvalidService kt_InvalidService fk_InvalidText_InvalidService, ki_InvalidText_InvalidBook := kit_ownF2 fn_InvalidText_InvalidBook kd_InvalidBook kt_InvalidBook fk_InvalidText_InvalidBook, ki_InvalidText_InvalidText := kit_ownT kd_InvalidText kt_InvalidText fk_InvalidText_InvalidText, ki_InvalidText_InvalidTree := kit_ownF2 fn_InvalidText_InvalidTree kd_InvalidTree kt_InvalidTree fk_InvalidText_InvalidTree, ki_InvalidText_Refused := kit_ownF2 fn_InvalidText_Refused kd_Refused kt_Refused fk_InvalidText_Refused, ki_InvalidText_NoRow := kit_ownF2 fn_InvalidText_NoRow kd_NoRow kt_NoRow fk_InvalidText_NoRow, ki_InvalidText_NoService := kit_ownF2 fn_InvalidText_NoService kd_NoService kt_NoService fk_InvalidText_NoService, ki_InvalidText_Mismatch := kit_ownF2 fn_InvalidText_Mismatch kd_Mismatch kt_Mismatch fk_InvalidText_Mismatch, ki_InvalidText_InvalidCommand := kit_ownF2 fn_InvalidText_InvalidCommand kd_InvalidCommand kt_InvalidCommand fk_InvalidText_InvalidCommand, ki_InvalidText_TraceError := kit_ownT kd_TraceError kt_TraceError fk_InvalidText_TraceError, ki_InvalidTree_InvalidRow := kit_ownF2 fn_InvalidTree_InvalidRow kd_InvalidRow kt_InvalidRow fk_InvalidTree_InvalidRow, ki_InvalidTree_InvalidService := kit_ownF2 fn_InvalidTree_InvalidService kd_InvalidService kt_InvalidService fk_InvalidTree_InvalidService, ki_InvalidTree_InvalidBook := kit_ownF2 fn_InvalidTree_InvalidBook kd_InvalidBook kt_InvalidBook fk_InvalidTree_InvalidBook, ki_InvalidTree_InvalidText := kit_ownF2 fn_InvalidTree_InvalidText kd_InvalidText kt_InvalidText fk_InvalidTree_InvalidText, ki_InvalidTree_InvalidTree := kit_ownT kd_InvalidTree kt_InvalidTree fk_InvalidTree_InvalidTree, ki_InvalidTree_Refused := kit_ownF2 fn_InvalidTree_Refused kd_Refused kt_Refused fk_InvalidTree_Refused, ki_InvalidTree_NoRow := kit_ownF2 fn_InvalidTree_NoRow kd_NoRow kt_NoRow fk_InvalidTree_NoRow, ki_InvalidTree_NoService := kit_ownF2 fn_InvalidTree_NoService kd_NoService kt_NoService fk_InvalidTree_NoService, ki_InvalidTree_Mismatch := kit_ownF2 fn_InvalidTree_Mismatch kd_Mismatch kt_Mismatch fk_InvalidTree_Mismatch, ki_InvalidTree_InvalidCommand := kit_ownF2 fn_InvalidTree_InvalidCommand kd_InvalidCommand kt_InvalidCommand fk_InvalidTree_InvalidCommand, ki_InvalidTree_TraceError := kit_ownT kd_TraceError kt_TraceError fk_InvalidTree_TraceError, ki_Refused_InvalidRow := kit_ownF2 fn_Refused_InvalidRow kd_InvalidRow kt_InvalidRow fk_Refused_InvalidRow, ki_Refused_InvalidService := kit_ownF2 fn_Refused_InvalidService kd_InvalidService kt_InvalidService fk_Refused_InvalidService, ki_Refused_InvalidBook := kit_ownF2 fn_Refused_InvalidBook kd_InvalidBook kt_InvalidBook fk_Refused_InvalidBook, ki_Refused_InvalidText := kit_ownF2 fn_Refused_InvalidText kd_InvalidText kt_InvalidText fk_Refused_InvalidText, ki_Refused_InvalidTree := kit_ownF2 fn_Refused_InvalidTree kd_InvalidTree kt_InvalidTree fk_Refused_InvalidTree, ki_Refused_Refused := kit_ownT kd_Refused kt_Refused fk_Refused_Refused, ki_Refused_NoRow := kit_ownF2 fn_Refused_NoRow kd_NoRow kt_NoRow fk_Refused_NoRow, ki_Refused_NoService := kit_ownF2 fn_Refused_NoService kd_NoService kt_NoService fk_Refused_NoService, ki_Refused_Mismatch := kit_ownF2 fn_Refused_Mismatch kd_Mismatch kt_Mismatch fk_Refused_Mismatch, ki_Refused_InvalidCommand := kit_ownF2 fn_Refused_InvalidCommand kd_InvalidCommand kt_InvalidCommand fk_Refused_InvalidCommand, ki_Refused_TraceError := kit_ownT kd_TraceError kt_TraceError fk_Refused_TraceError, ki_NoRow_InvalidRow := kit_ownF2 fn_NoRow_InvalidRow kd_InvalidRow kt_InvalidRow fk_NoRow_InvalidRow, ki_NoRow_InvalidService := kit_ownF2 fn_NoRow_InvalidService kd_InvalidService kt_InvalidService fk_NoRow_InvalidService, ki_NoRow_InvalidBook := kit_ownF2 fn_NoRow_InvalidBook kd_InvalidBook kt_InvalidBook fk_NoRow_InvalidBook, ki_NoRow_InvalidText := kit_ownF2 fn_NoRow_InvalidText kd_InvalidText kt_InvalidText fk_NoRow_InvalidText, ki_NoRow_InvalidTree := kit_ownF2 fn_NoRow_InvalidTree kd_InvalidTree kt_InvalidTree fk_NoRow_InvalidTree, ki_NoRow_Refused := kit_ownF2 fn_NoRow_Refused kd_Refused kt_Refused fk_NoRow_Refused, ki_NoRow_NoRow := kit_ownT kd_NoRow kt_NoRow fk_NoRow_NoRow, ki_NoRow_NoService := kit_ownF2 fn_NoRow_NoService kd_NoService kt_NoService fk_NoRow_NoService, ki_NoRow_Mismatch := kit_ownF2 fn_NoRow_Mismatch kd_Mismatch kt_Mismatch fk_NoRow_Mismatch, ki_NoRow_InvalidCommand := kit_ownF2 fn_NoRow_InvalidCommand kd_InvalidCommand kt_InvalidCommand fk_NoRow_InvalidCommand, ki_NoRow_TraceError := kit_ownF2 fn_NoRow_TraceError kd_TraceError kt_TraceError fk_NoRow_TraceError, ki_NoService_InvalidRow := kit_ownF2 fn_NoService_InvalidRow kd_InvalidRow kt_InvalidRow fk_NoService_InvalidRow, ki_NoService_InvalidService := kit_ownF2 fn_NoService_InvalidService kd_InvalidService kt_InvalidService fk_NoService_InvalidService, ki_NoService_InvalidBook := kit_ownF2 fn_NoService_InvalidBook kd_InvalidBook kt_InvalidBook fk_NoService_InvalidBook, ki_NoService_InvalidText := kit_ownF2 fn_NoService_InvalidText kd_InvalidText kt_InvalidText fk_NoService_InvalidText, ki_NoService_InvalidTree := kit_ownF2 fn_NoService_InvalidTree kd_InvalidTree kt_InvalidTree fk_NoService_InvalidTree, ki_NoService_Refused := kit_ownF2 fn_NoService_Refused kd_Refused kt_Refused fk_NoService_Refused, ki_NoService_NoRow := kit_ownF2 fn_NoService_NoRow kd_NoRow kt_NoRow fk_NoService_NoRow, ki_NoService_NoService := kit_ownT kd_NoService kt_NoService fk_NoService_NoService, ki_NoService_Mismatch := kit_ownF2 fn_NoService_Mismatch kd_Mismatch kt_Mismatch fk_NoService_Mismatch, ki_NoService_InvalidCommand := kit_ownF2 fn_NoService_InvalidCommand kd_InvalidCommand kt_InvalidCommand fk_NoService_InvalidCommand, ki_NoService_TraceError := kit_ownF2 fn_NoService_TraceError kd_TraceError kt_TraceError fk_NoService_TraceError, ki_Mismatch_InvalidRow := kit_ownF2 fn_Mismatch_InvalidRow kd_InvalidRow kt_InvalidRow fk_Mismatch_InvalidRow, ki_Mismatch_InvalidService := kit_ownF2 fn_Mismatch_InvalidService kd_InvalidService kt_InvalidService fk_Mismatch_InvalidService, ki_Mismatch_InvalidBook := kit_ownF2 fn_Mismatch_InvalidBook kd_InvalidBook kt_InvalidBook fk_Mismatch_InvalidBook, ki_Mismatch_InvalidText := kit_ownF2 fn_Mismatch_InvalidText kd_InvalidText kt_InvalidText fk_Mismatch_InvalidText, ki_Mismatch_InvalidTree := kit_ownF2 fn_Mismatch_InvalidTree kd_InvalidTree kt_InvalidTree fk_Mismatch_InvalidTree, ki_Mismatch_Refused := kit_ownF2 fn_Mismatch_Refused kd_Refused kt_Refused fk_Mismatch_Refused, ki_Mismatch_NoRow := kit_ownF2 fn_Mismatch_NoRow kd_NoRow kt_NoRow fk_Mismatch_NoRow, ki_Mismatch_NoService := kit_ownF2 fn_Mismatch_NoService kd_NoService kt_NoService fk_Mismatch_NoService, ki_Mismatch_Mismatch := kit_ownT kd_Mismatch kt_Mismatch fk_Mismatch_Mismatch, ki_Mismatch_InvalidCommand := kit_ownF2 fn_Mismatch_InvalidCommand kd_InvalidCommand kt_InvalidCommand fk_Mismatch_InvalidCommand, ki_Mismatch_TraceError := kit_ownT kd_TraceError kt_TraceError fk_Mismatch_TraceError, ki_InvalidCommand_InvalidRow := kit_ownF2 fn_InvalidCommand_InvalidRow kd_InvalidRow kt_InvalidRow fk_InvalidCommand_InvalidRow, ki_InvalidCommand_InvalidService := kit_ownF2 fn_InvalidCommand_InvalidService kd_InvalidService kt_InvalidService fk_InvalidCommand_InvalidService, ki_InvalidCommand_InvalidBook := kit_ownF2 fn_InvalidCommand_InvalidBook kd_InvalidBook kt_InvalidBook fk_InvalidCommand_InvalidBook, ki_InvalidCommand_InvalidText := kit_ownF2 fn_InvalidCommand_InvalidText kd_InvalidText kt_InvalidText fk_InvalidCommand_InvalidText, ki_InvalidCommand_InvalidTree := kit_ownF2 fn_InvalidCommand_InvalidTree kd_InvalidTree kt_InvalidTree fk_InvalidCommand_InvalidTree, ki_InvalidCommand_Refused := kit_ownF2 fn_InvalidCommand_Refused kd_Refused kt_Refused fk_InvalidCommand_Refused, ki_InvalidCommand_NoRow := kit_ownF2 fn_InvalidCommand_NoRow kd_NoRow kt_NoRow fk_InvalidCommand_NoRow, ki_InvalidCommand_NoService := kit_ownF2 fn_InvalidCommand_NoService kd_NoService kt_NoService fk_InvalidCommand_NoService, ki_InvalidCommand_Mismatch := kit_ownF2 fn_InvalidCommand_Mismatch kd_Mismatch kt_Mismatch fk_InvalidCommand_Mismatch, ki_InvalidCommand_InvalidCommand := kit_ownT kd_InvalidCommand kt_InvalidCommand fk_InvalidCommand_InvalidCommand, ki_InvalidCommand_TraceError := kit_ownT kd_TraceError kt_TraceError fk_InvalidCommand_TraceError }, rfl, fun _ => True.intro⟩
theorem law_binds {K : PySem.W.Frag} {f : Addr} {fd : FuncData} (F : FunD K "law" "law" (defArgs s_law) (defBody s_law) (defScope s_law) [] [] f fd) (s : Shared) (u : Value) : BindsTo s fd ⟨[u], []⟩ [("_law_script", u)] := by
  obtain ⟨oc, od, dV, kV, doc, pm, an, cdv, ct, osl, rfl, lk, hcd, hD, hK⟩ := F.ex
  rcases hD with ⟨_, rfl⟩ | ⟨e, _⟩
  · exact .of_eq rfl
  · exact absurd rfl e
theorem walk {l : PySem.W.OpenLaw} {q : Program} {loose : List Str} {XP : (Str → Option Value) → Heap → Prop} {YP : World → Heap → Prop} {d : DefRec} {K : Params → PySem.W.Frag} (hp : l.prog = PG) (hn : l.most = some 63) (hdf : d.params.defaults = []) (hdn : d.name = "law")
    (hY : ∀ (w : World) (h : Heap), YP w h → (K w.params).In h) (F : ∀ (w : World) (mg : Str → Option Value) (h : Heap), (K w.params).In h → h.Ns mainGlobals mg → ∃ A : Ad, Tx (K w.params) mg A ∧ A.w = w ∧ (∀ f, A.okk f)) :
    PySem.W.WalkO q loose XP YP l.row.toRowW d [] (fun f vs => PySem.call f vs) := by
  refine S.lawSG (n := 63) (k := 9) (x := "_law_script") (F := f_law) (K := K) hp hn (by decide) hdf ⟨rfl, by decide, by decide⟩ hY (fun w mg fa h KX G hmg => ?_) law_true
  obtain ⟨A, T, ew, eo⟩ := F w mg h KX G; subst ew
  have e : fa = A.law := by
    have g := T.law.g
    rw [← hdn, hmg] at g
    cases g
    rfl
  subst e
  exact ⟨A.law_d, A.G, eo, law_binds T.law.F, fun base => ok_law T⟩
end K
open PySem PySem.W PyProof.Rows
set_option maxRecDepth 100000 in
set_option maxHeartbeats 0 in
theorem PySem.Challenge.cw_wholetraces_k01_errors_and_what_they_kee_holds : PySem.Challenge.rw_wholetraces_k01_errors_and_what_they_kee.Holds := by
  w_on; o_law; k_head; (case hw => w_witness2)
  k_fill
  refine K.walk (l := PySem.Challenge.rw_wholetraces_k01_errors_and_what_they_kee) rfl rfl rfl rfl (fun w h Y => PySem.W.kIn_of Y) ?F
  case F =>
    intro w mg h KX G
    refine' K.all_mk w KX G ?aC_InvalidRow ?aC_InvalidService ?aC_InvalidBook ?aC_InvalidText ?aC_InvalidTree ?aC_Refused ?aC_NoRow ?aC_NoService ?aC_Mismatch ?aC_InvalidCommand ?aC_TraceError ?a_InvalidRow_init ?i_InvalidRow_init ?l_InvalidRow_init ?c_InvalidRow_init ?k_InvalidRow_init ?fi_InvalidRow_init ?ce_InvalidRow_init ?co_InvalidRow_init ?cf_InvalidRow_init ?cft_InvalidRow_init ?a_InvalidService_init ?i_InvalidService_init ?l_InvalidService_init ?c_InvalidService_init ?k_InvalidService_init ?fi_InvalidService_init ?ce_InvalidService_init ?co_InvalidService_init ?cf_InvalidService_init ?cft_InvalidService_init ?a_InvalidBook_init ?i_InvalidBook_init ?l_InvalidBook_init ?c_InvalidBook_init ?k_InvalidBook_init ?fi_InvalidBook_init ?ce_InvalidBook_init ?co_InvalidBook_init ?cf_InvalidBook_init ?cft_InvalidBook_init ?a_InvalidText_init ?i_InvalidText_init ?l_InvalidText_init ?c_InvalidText_init ?k_InvalidText_init ?fi_InvalidText_init ?ce_InvalidText_init ?co_InvalidText_init ?cf_InvalidText_init ?cft_InvalidText_init ?a_InvalidTree_init ?i_InvalidTree_init ?l_InvalidTree_init ?c_InvalidTree_init ?k_InvalidTree_init ?fi_InvalidTree_init ?ce_InvalidTree_init ?co_InvalidTree_init ?cf_InvalidTree_init ?cft_InvalidTree_init ?a_Refused_init ?i_Refused_init ?l_Refused_init ?c_Refused_init ?k_Refused_init ?fi_Refused_init ?ce_Refused_init ?co_Refused_init ?cf_Refused_init ?cft_Refused_init ?a_NoRow_init ?i_NoRow_init ?l_NoRow_init ?c_NoRow_init ?k_NoRow_init ?fi_NoRow_init ?ce_NoRow_init ?co_NoRow_init ?cf_NoRow_init ?cft_NoRow_init ?a_NoService_init ?i_NoService_init ?l_NoService_init ?c_NoService_init ?k_NoService_init ?fi_NoService_init ?ce_NoService_init ?co_NoService_init ?cf_NoService_init ?cft_NoService_init ?a__law_box ?l__law_box ?c__law_box ?k__law_box ?a__law_take ?l__law_take ?c__law_take ?k__law_take ?a__law_pick ?l__law_pick ?c__law_pick ?k__law_pick ?a__law_any ?l__law_any ?c__law_any ?k__law_any ?a__law_made ?l__law_made ?c__law_made ?k__law_made ?a__law_sorts ?l__law_sorts ?c__law_sorts ?k__law_sorts ?a__law_kept ?l__law_kept ?c__law_kept ?k__law_kept ?a_law ?l_law ?c_law ?k_law ?b_len ?b_abs ?b_max ?b_min ?b_int ?b_isinstance ?b_range ?b_tuple ?b_enumerate ?b_repr ?b_ValueError ?b_IndexError ?b_KeyError ?sup_t ?sup_m ?sup_o ?hn_ ?htk_ ?xl_InvalidRow ?xsa_InvalidRow ?xex_InvalidRow ?xty_InvalidRow ?xk_InvalidRow ?xi_InvalidRow ?xt_InvalidRow ?xna_InvalidRow ?xs1_InvalidRow ?xs2_InvalidRow ?xs3_InvalidRow ?xga_InvalidRow ?xgg_InvalidRow ?xhd_InvalidRow ?xc_InvalidRow ?xm_InvalidRow ?xcl_InvalidRow ?xf_InvalidRow_ValueError ?xf_InvalidRow_IndexError ?xf_InvalidRow_KeyError ?xl_InvalidService ?xsa_InvalidService ?xex_InvalidService ?xty_InvalidService ?xk_InvalidService ?xi_InvalidService ?xt_InvalidService ?xna_InvalidService ?xs1_InvalidService ?xs2_InvalidService ?xs3_InvalidService ?xga_InvalidService ?xgg_InvalidService ?xhd_InvalidService ?xc_InvalidService ?xm_InvalidService ?xcl_InvalidService ?xf_InvalidService_ValueError ?xf_InvalidService_IndexError ?xf_InvalidService_KeyError ?xl_InvalidBook ?xsa_InvalidBook ?xex_InvalidBook ?xty_InvalidBook ?xk_InvalidBook ?xi_InvalidBook ?xt_InvalidBook ?xna_InvalidBook ?xs1_InvalidBook ?xs2_InvalidBook ?xs3_InvalidBook ?xga_InvalidBook ?xgg_InvalidBook ?xhd_InvalidBook ?xc_InvalidBook ?xm_InvalidBook ?xcl_InvalidBook ?xf_InvalidBook_ValueError ?xf_InvalidBook_IndexError ?xf_InvalidBook_KeyError ?xl_InvalidText ?xsa_InvalidText ?xex_InvalidText ?xty_InvalidText ?xk_InvalidText ?xi_InvalidText ?xt_InvalidText ?xna_InvalidText ?xs1_InvalidText ?xs2_InvalidText ?xs3_InvalidText ?xga_InvalidText ?xgg_InvalidText ?xhd_InvalidText ?xc_InvalidText ?xm_InvalidText ?xcl_InvalidText ?xf_InvalidText_ValueError ?xf_InvalidText_IndexError ?xf_InvalidText_KeyError ?xl_InvalidTree ?xsa_InvalidTree ?xex_InvalidTree ?xty_InvalidTree ?xk_InvalidTree ?xi_InvalidTree ?xt_InvalidTree ?xna_InvalidTree ?xs1_InvalidTree ?xs2_InvalidTree ?xs3_InvalidTree ?xga_InvalidTree ?xgg_InvalidTree ?xhd_InvalidTree ?xc_InvalidTree ?xm_InvalidTree ?xcl_InvalidTree ?xf_InvalidTree_ValueError ?xf_InvalidTree_IndexError ?xf_InvalidTree_KeyError ?xl_Refused ?xsa_Refused ?xex_Refused ?xty_Refused ?xk_Refused ?xi_Refused ?xt_Refused ?xna_Refused ?xs1_Refused ?xs2_Refused ?xs3_Refused ?xga_Refused ?xgg_Refused ?xhd_Refused ?xc_Refused ?xm_Refused ?xcl_Refused ?xf_Refused_ValueError ?xf_Refused_IndexError ?xf_Refused_KeyError ?xl_NoRow ?xsa_NoRow ?xex_NoRow ?xty_NoRow ?xk_NoRow ?xi_NoRow ?xt_NoRow ?xna_NoRow ?xs1_NoRow ?xs2_NoRow ?xs3_NoRow ?xga_NoRow ?xgg_NoRow ?xhd_NoRow ?xc_NoRow ?xm_NoRow ?xcl_NoRow ?xf_NoRow_ValueError ?xf_NoRow_IndexError ?xf_NoRow_KeyError ?xl_NoService ?xsa_NoService ?xex_NoService ?xty_NoService ?xk_NoService ?xi_NoService ?xt_NoService ?xna_NoService ?xs1_NoService ?xs2_NoService ?xs3_NoService ?xga_NoService ?xgg_NoService ?xhd_NoService ?xc_NoService ?xm_NoService ?xcl_NoService ?xf_NoService_ValueError ?xf_NoService_IndexError ?xf_NoService_KeyError ?xe_Mismatch ?xex_Mismatch ?xty_Mismatch ?xk_Mismatch ?xga_Mismatch ?xgg_Mismatch ?xhd_Mismatch ?xc_Mismatch ?xm_Mismatch ?xf_Mismatch_ValueError ?xf_Mismatch_IndexError ?xf_Mismatch_KeyError ?xe_InvalidCommand ?xex_InvalidCommand ?xty_InvalidCommand ?xk_InvalidCommand ?xga_InvalidCommand ?xgg_InvalidCommand ?xhd_InvalidCommand ?xc_InvalidCommand ?xm_InvalidCommand ?xf_InvalidCommand_ValueError ?xf_InvalidCommand_IndexError ?xf_InvalidCommand_KeyError ?kd_InvalidRow ?kt_InvalidRow ?fk_InvalidRow_InvalidRow ?kd_InvalidService ?kt_InvalidService ?fk_InvalidRow_InvalidService ?fn_InvalidRow_InvalidService ?kd_InvalidBook ?kt_InvalidBook ?fk_InvalidRow_InvalidBook ?fn_InvalidRow_InvalidBook ?kd_InvalidText ?kt_InvalidText ?fk_InvalidRow_InvalidText ?fn_InvalidRow_InvalidText ?kd_InvalidTree ?kt_InvalidTree ?fk_InvalidRow_InvalidTree ?fn_InvalidRow_InvalidTree ?kd_Refused ?kt_Refused ?fk_InvalidRow_Refused ?fn_InvalidRow_Refused ?kd_NoRow ?kt_NoRow ?fk_InvalidRow_NoRow ?fn_InvalidRow_NoRow ?kd_NoService ?kt_NoService ?fk_InvalidRow_NoService ?fn_InvalidRow_NoService ?kd_Mismatch ?kt_Mismatch ?fk_InvalidRow_Mismatch ?fn_InvalidRow_Mismatch ?kd_InvalidCommand ?kt_InvalidCommand ?fk_InvalidRow_InvalidCommand ?fn_InvalidRow_InvalidCommand ?kd_TraceError ?kt_TraceError ?fk_InvalidRow_TraceError ?fk_InvalidService_InvalidRow ?fn_InvalidService_InvalidRow ?fk_InvalidService_InvalidService ?fk_InvalidService_InvalidBook ?fn_InvalidService_InvalidBook ?fk_InvalidService_InvalidText ?fn_InvalidService_InvalidText ?fk_InvalidService_InvalidTree ?fn_InvalidService_InvalidTree ?fk_InvalidService_Refused ?fn_InvalidService_Refused ?fk_InvalidService_NoRow ?fn_InvalidService_NoRow ?fk_InvalidService_NoService ?fn_InvalidService_NoService ?fk_InvalidService_Mismatch ?fn_InvalidService_Mismatch ?fk_InvalidService_InvalidCommand ?fn_InvalidService_InvalidCommand ?fk_InvalidService_TraceError ?fk_InvalidBook_InvalidRow ?fn_InvalidBook_InvalidRow ?fk_InvalidBook_InvalidService ?fn_InvalidBook_InvalidService ?fk_InvalidBook_InvalidBook ?fk_InvalidBook_InvalidText ?fn_InvalidBook_InvalidText ?fk_InvalidBook_InvalidTree ?fn_InvalidBook_InvalidTree ?fk_InvalidBook_Refused ?fn_InvalidBook_Refused ?fk_InvalidBook_NoRow ?fn_InvalidBook_NoRow ?fk_InvalidBook_NoService ?fn_InvalidBook_NoService ?fk_InvalidBook_Mismatch ?fn_InvalidBook_Mismatch ?fk_InvalidBook_InvalidCommand ?fn_InvalidBook_InvalidCommand ?fk_InvalidBook_TraceError ?fk_InvalidText_InvalidRow ?fn_InvalidText_InvalidRow ?fk_InvalidText_InvalidService ?fn_InvalidText_InvalidService ?fk_InvalidText_InvalidBook ?fn_InvalidText_InvalidBook ?fk_InvalidText_InvalidText ?fk_InvalidText_InvalidTree ?fn_InvalidText_InvalidTree ?fk_InvalidText_Refused ?fn_InvalidText_Refused ?fk_InvalidText_NoRow ?fn_InvalidText_NoRow ?fk_InvalidText_NoService ?fn_InvalidText_NoService ?fk_InvalidText_Mismatch ?fn_InvalidText_Mismatch ?fk_InvalidText_InvalidCommand ?fn_InvalidText_InvalidCommand ?fk_InvalidText_TraceError ?fk_InvalidTree_InvalidRow ?fn_InvalidTree_InvalidRow ?fk_InvalidTree_InvalidService ?fn_InvalidTree_InvalidService ?fk_InvalidTree_InvalidBook ?fn_InvalidTree_InvalidBook ?fk_InvalidTree_InvalidText ?fn_InvalidTree_InvalidText ?fk_InvalidTree_InvalidTree ?fk_InvalidTree_Refused ?fn_InvalidTree_Refused ?fk_InvalidTree_NoRow ?fn_InvalidTree_NoRow ?fk_InvalidTree_NoService ?fn_InvalidTree_NoService ?fk_InvalidTree_Mismatch ?fn_InvalidTree_Mismatch ?fk_InvalidTree_InvalidCommand ?fn_InvalidTree_InvalidCommand ?fk_InvalidTree_TraceError ?fk_Refused_InvalidRow ?fn_Refused_InvalidRow ?fk_Refused_InvalidService ?fn_Refused_InvalidService ?fk_Refused_InvalidBook ?fn_Refused_InvalidBook ?fk_Refused_InvalidText ?fn_Refused_InvalidText ?fk_Refused_InvalidTree ?fn_Refused_InvalidTree ?fk_Refused_Refused ?fk_Refused_NoRow ?fn_Refused_NoRow ?fk_Refused_NoService ?fn_Refused_NoService ?fk_Refused_Mismatch ?fn_Refused_Mismatch ?fk_Refused_InvalidCommand ?fn_Refused_InvalidCommand ?fk_Refused_TraceError ?fk_NoRow_InvalidRow ?fn_NoRow_InvalidRow ?fk_NoRow_InvalidService ?fn_NoRow_InvalidService ?fk_NoRow_InvalidBook ?fn_NoRow_InvalidBook ?fk_NoRow_InvalidText ?fn_NoRow_InvalidText ?fk_NoRow_InvalidTree ?fn_NoRow_InvalidTree ?fk_NoRow_Refused ?fn_NoRow_Refused ?fk_NoRow_NoRow ?fk_NoRow_NoService ?fn_NoRow_NoService ?fk_NoRow_Mismatch ?fn_NoRow_Mismatch ?fk_NoRow_InvalidCommand ?fn_NoRow_InvalidCommand ?fk_NoRow_TraceError ?fn_NoRow_TraceError ?fk_NoService_InvalidRow ?fn_NoService_InvalidRow ?fk_NoService_InvalidService ?fn_NoService_InvalidService ?fk_NoService_InvalidBook ?fn_NoService_InvalidBook ?fk_NoService_InvalidText ?fn_NoService_InvalidText ?fk_NoService_InvalidTree ?fn_NoService_InvalidTree ?fk_NoService_Refused ?fn_NoService_Refused ?fk_NoService_NoRow ?fn_NoService_NoRow ?fk_NoService_NoService ?fk_NoService_Mismatch ?fn_NoService_Mismatch ?fk_NoService_InvalidCommand ?fn_NoService_InvalidCommand ?fk_NoService_TraceError ?fn_NoService_TraceError ?fk_Mismatch_InvalidRow ?fn_Mismatch_InvalidRow ?fk_Mismatch_InvalidService ?fn_Mismatch_InvalidService ?fk_Mismatch_InvalidBook ?fn_Mismatch_InvalidBook ?fk_Mismatch_InvalidText ?fn_Mismatch_InvalidText ?fk_Mismatch_InvalidTree ?fn_Mismatch_InvalidTree ?fk_Mismatch_Refused ?fn_Mismatch_Refused ?fk_Mismatch_NoRow ?fn_Mismatch_NoRow ?fk_Mismatch_NoService ?fn_Mismatch_NoService ?fk_Mismatch_Mismatch ?fk_Mismatch_InvalidCommand ?fn_Mismatch_InvalidCommand ?fk_Mismatch_TraceError ?fk_InvalidCommand_InvalidRow ?fn_InvalidCommand_InvalidRow ?fk_InvalidCommand_InvalidService ?fn_InvalidCommand_InvalidService ?fk_InvalidCommand_InvalidBook ?fn_InvalidCommand_InvalidBook ?fk_InvalidCommand_InvalidText ?fn_InvalidCommand_InvalidText ?fk_InvalidCommand_InvalidTree ?fn_InvalidCommand_InvalidTree ?fk_InvalidCommand_Refused ?fn_InvalidCommand_Refused ?fk_InvalidCommand_NoRow ?fn_InvalidCommand_NoRow ?fk_InvalidCommand_NoService ?fn_InvalidCommand_NoService ?fk_InvalidCommand_Mismatch ?fn_InvalidCommand_Mismatch ?fk_InvalidCommand_InvalidCommand ?fk_InvalidCommand_TraceError
    (case aC_InvalidRow | aC_InvalidService | aC_InvalidBook | aC_InvalidText | aC_InvalidTree | aC_Refused | aC_NoRow | aC_NoService | aC_Mismatch | aC_InvalidCommand | aC_TraceError | a_InvalidRow_init | i_InvalidRow_init | l_InvalidRow_init | c_InvalidRow_init | k_InvalidRow_init | fi_InvalidRow_init | ce_InvalidRow_init | co_InvalidRow_init => k_is)
    (case cf_InvalidRow_init => rfl)
    (case cft_InvalidRow_init => first | rfl | decide +kernel)
    (case a_InvalidService_init | i_InvalidService_init | l_InvalidService_init | c_InvalidService_init | k_InvalidService_init | fi_InvalidService_init | ce_InvalidService_init | co_InvalidService_init => k_is)
    (case cf_InvalidService_init => rfl)
    (case cft_InvalidService_init => first | rfl | decide +kernel)
    (case a_InvalidBook_init | i_InvalidBook_init | l_InvalidBook_init | c_InvalidBook_init | k_InvalidBook_init | fi_InvalidBook_init | ce_InvalidBook_init | co_InvalidBook_init => k_is)
    (case cf_InvalidBook_init => rfl)
    (case cft_InvalidBook_init => first | rfl | decide +kernel)
    (case a_InvalidText_init | i_InvalidText_init | l_InvalidText_init | c_InvalidText_init | k_InvalidText_init | fi_InvalidText_init | ce_InvalidText_init | co_InvalidText_init => k_is)
    (case cf_InvalidText_init => rfl)
    (case cft_InvalidText_init => first | rfl | decide +kernel)
    (case a_InvalidTree_init | i_InvalidTree_init | l_InvalidTree_init | c_InvalidTree_init | k_InvalidTree_init | fi_InvalidTree_init | ce_InvalidTree_init | co_InvalidTree_init => k_is)
    (case cf_InvalidTree_init => rfl)
    (case cft_InvalidTree_init => first | rfl | decide +kernel)
    (case a_Refused_init | i_Refused_init | l_Refused_init | c_Refused_init | k_Refused_init | fi_Refused_init | ce_Refused_init | co_Refused_init => k_is)
    (case cf_Refused_init => rfl)
    (case cft_Refused_init => first | rfl | decide +kernel)
    (case a_NoRow_init | i_NoRow_init | l_NoRow_init | c_NoRow_init | k_NoRow_init | fi_NoRow_init | ce_NoRow_init | co_NoRow_init => k_is)
    (case cf_NoRow_init => rfl)
    (case cft_NoRow_init => first | rfl | decide +kernel)
    (case a_NoService_init | i_NoService_init | l_NoService_init | c_NoService_init | k_NoService_init | fi_NoService_init | ce_NoService_init | co_NoService_init => k_is)
    (case cf_NoService_init => rfl)
    (case cft_NoService_init => first | rfl | decide +kernel)
    (case a__law_box | l__law_box | c__law_box | k__law_box | a__law_take | l__law_take | c__law_take | k__law_take | a__law_pick | l__law_pick | c__law_pick | k__law_pick | a__law_any | l__law_any | c__law_any | k__law_any | a__law_made | l__law_made | c__law_made | k__law_made | a__law_sorts | l__law_sorts | c__law_sorts | k__law_sorts | a__law_kept | l__law_kept | c__law_kept | k__law_kept | a_law | l_law | c_law | k_law | b_len | b_abs | b_max | b_min | b_int | b_isinstance | b_range | b_tuple | b_enumerate | b_repr | b_ValueError | b_IndexError | b_KeyError => k_is)
    (case sup_t => decide +kernel)
    (case sup_m | sup_o | hn_ | htk_ | xl_InvalidRow | xsa_InvalidRow | xex_InvalidRow | xty_InvalidRow | xk_InvalidRow | xi_InvalidRow | xt_InvalidRow | xna_InvalidRow | xs1_InvalidRow => k_is)
    (case xs2_InvalidRow => first | k_is | ks_is)
    (case xs3_InvalidRow | xga_InvalidRow | xgg_InvalidRow | xhd_InvalidRow | xc_InvalidRow | xm_InvalidRow | xcl_InvalidRow | xf_InvalidRow_ValueError | xf_InvalidRow_IndexError | xf_InvalidRow_KeyError | xl_InvalidService | xsa_InvalidService | xex_InvalidService | xty_InvalidService | xk_InvalidService | xi_InvalidService | xt_InvalidService | xna_InvalidService | xs1_InvalidService => k_is)
    (case xs2_InvalidService => first | k_is | ks_is)
    (case xs3_InvalidService | xga_InvalidService | xgg_InvalidService | xhd_InvalidService | xc_InvalidService | xm_InvalidService | xcl_InvalidService | xf_InvalidService_ValueError | xf_InvalidService_IndexError | xf_InvalidService_KeyError | xl_InvalidBook | xsa_InvalidBook | xex_InvalidBook | xty_InvalidBook | xk_InvalidBook | xi_InvalidBook | xt_InvalidBook | xna_InvalidBook | xs1_InvalidBook => k_is)
    (case xs2_InvalidBook => first | k_is | ks_is)
    (case xs3_InvalidBook | xga_InvalidBook | xgg_InvalidBook | xhd_InvalidBook | xc_InvalidBook | xm_InvalidBook | xcl_InvalidBook | xf_InvalidBook_ValueError | xf_InvalidBook_IndexError | xf_InvalidBook_KeyError | xl_InvalidText | xsa_InvalidText | xex_InvalidText | xty_InvalidText | xk_InvalidText | xi_InvalidText | xt_InvalidText | xna_InvalidText | xs1_InvalidText => k_is)
    (case xs2_InvalidText => first | k_is | ks_is)
    (case xs3_InvalidText | xga_InvalidText | xgg_InvalidText | xhd_InvalidText | xc_InvalidText | xm_InvalidText | xcl_InvalidText | xf_InvalidText_ValueError | xf_InvalidText_IndexError | xf_InvalidText_KeyError | xl_InvalidTree | xsa_InvalidTree | xex_InvalidTree | xty_InvalidTree | xk_InvalidTree | xi_InvalidTree | xt_InvalidTree | xna_InvalidTree | xs1_InvalidTree => k_is)
    (case xs2_InvalidTree => first | k_is | ks_is)
    (case xs3_InvalidTree | xga_InvalidTree | xgg_InvalidTree | xhd_InvalidTree | xc_InvalidTree | xm_InvalidTree | xcl_InvalidTree | xf_InvalidTree_ValueError | xf_InvalidTree_IndexError | xf_InvalidTree_KeyError | xl_Refused | xsa_Refused | xex_Refused | xty_Refused | xk_Refused | xi_Refused | xt_Refused | xna_Refused | xs1_Refused => k_is)
    (case xs2_Refused => first | k_is | ks_is)
    (case xs3_Refused | xga_Refused | xgg_Refused | xhd_Refused | xc_Refused | xm_Refused | xcl_Refused | xf_Refused_ValueError | xf_Refused_IndexError | xf_Refused_KeyError | xl_NoRow | xsa_NoRow | xex_NoRow | xty_NoRow | xk_NoRow | xi_NoRow | xt_NoRow | xna_NoRow | xs1_NoRow => k_is)
    (case xs2_NoRow => first | k_is | ks_is)
    (case xs3_NoRow | xga_NoRow | xgg_NoRow | xhd_NoRow | xc_NoRow | xm_NoRow | xcl_NoRow | xf_NoRow_ValueError | xf_NoRow_IndexError | xf_NoRow_KeyError | xl_NoService | xsa_NoService | xex_NoService | xty_NoService | xk_NoService | xi_NoService | xt_NoService | xna_NoService | xs1_NoService => k_is)
    (case xs2_NoService => first | k_is | ks_is)
    (case xs3_NoService | xga_NoService | xgg_NoService | xhd_NoService | xc_NoService | xm_NoService | xcl_NoService | xf_NoService_ValueError | xf_NoService_IndexError | xf_NoService_KeyError => k_is)
    (case xe_Mismatch => k_exc)
    (case xex_Mismatch | xty_Mismatch | xk_Mismatch | xga_Mismatch | xgg_Mismatch | xhd_Mismatch | xc_Mismatch | xm_Mismatch | xf_Mismatch_ValueError | xf_Mismatch_IndexError | xf_Mismatch_KeyError => k_is)
    (case xe_InvalidCommand => k_exc)
    (case xex_InvalidCommand | xty_InvalidCommand | xk_InvalidCommand | xga_InvalidCommand | xgg_InvalidCommand | xhd_InvalidCommand | xc_InvalidCommand | xm_InvalidCommand | xf_InvalidCommand_ValueError | xf_InvalidCommand_IndexError | xf_InvalidCommand_KeyError | kd_InvalidRow | kt_InvalidRow | fk_InvalidRow_InvalidRow | kd_InvalidService | kt_InvalidService | fk_InvalidRow_InvalidService => k_is)
    (case fn_InvalidRow_InvalidService => first | rfl | decide +kernel)
    (case kd_InvalidBook | kt_InvalidBook | fk_InvalidRow_InvalidBook => k_is)
    (case fn_InvalidRow_InvalidBook => first | rfl | decide +kernel)
    (case kd_InvalidText | kt_InvalidText | fk_InvalidRow_InvalidText => k_is)
    (case fn_InvalidRow_InvalidText => first | rfl | decide +kernel)
    (case kd_InvalidTree | kt_InvalidTree | fk_InvalidRow_InvalidTree => k_is)
    (case fn_InvalidRow_InvalidTree => first | rfl | decide +kernel)
    (case kd_Refused | kt_Refused | fk_InvalidRow_Refused => k_is)
    (case fn_InvalidRow_Refused => first | rfl | decide +kernel)
    (case kd_NoRow | kt_NoRow | fk_InvalidRow_NoRow => k_is)
    (case fn_InvalidRow_NoRow => first | rfl | decide +kernel)
    (case kd_NoService | kt_NoService | fk_InvalidRow_NoService => k_is)
    (case fn_InvalidRow_NoService => first | rfl | decide +kernel)
    (case kd_Mismatch | kt_Mismatch | fk_InvalidRow_Mismatch => k_is)
    (case fn_InvalidRow_Mismatch => first | rfl | decide +kernel)
    (case kd_InvalidCommand | kt_InvalidCommand | fk_InvalidRow_InvalidCommand => k_is)
    (case fn_InvalidRow_InvalidCommand => first | rfl | decide +kernel)
    (case kd_TraceError | kt_TraceError | fk_InvalidRow_TraceError | fk_InvalidService_InvalidRow => k_is)
    (case fn_InvalidService_InvalidRow => first | rfl | decide +kernel)
    (case fk_InvalidService_InvalidService | fk_InvalidService_InvalidBook => k_is)
    (case fn_InvalidService_InvalidBook => first | rfl | decide +kernel)
    (case fk_InvalidService_InvalidText => k_is)
    (case fn_InvalidService_InvalidText => first | rfl | decide +kernel)
    (case fk_InvalidService_InvalidTree => k_is)
    (case fn_InvalidService_InvalidTree => first | rfl | decide +kernel)
    (case fk_InvalidService_Refused => k_is)
    (case fn_InvalidService_Refused => first | rfl | decide +kernel)
    (case fk_InvalidService_NoRow => k_is)
    (case fn_InvalidService_NoRow => first | rfl | decide +kernel)
    (case fk_InvalidService_NoService => k_is)
    (case fn_InvalidService_NoService => first | rfl | decide +kernel)
    (case fk_InvalidService_Mismatch => k_is)
    (case fn_InvalidService_Mismatch => first | rfl | decide +kernel)
    (case fk_InvalidService_InvalidCommand => k_is)
    (case fn_InvalidService_InvalidCommand => first | rfl | decide +kernel)
    (case fk_InvalidService_TraceError | fk_InvalidBook_InvalidRow => k_is)
    (case fn_InvalidBook_InvalidRow => first | rfl | decide +kernel)
    (case fk_InvalidBook_InvalidService => k_is)
    (case fn_InvalidBook_InvalidService => first | rfl | decide +kernel)
    (case fk_InvalidBook_InvalidBook | fk_InvalidBook_InvalidText => k_is)
    (case fn_InvalidBook_InvalidText => first | rfl | decide +kernel)
    (case fk_InvalidBook_InvalidTree => k_is)
    (case fn_InvalidBook_InvalidTree => first | rfl | decide +kernel)
    (case fk_InvalidBook_Refused => k_is)
    (case fn_InvalidBook_Refused => first | rfl | decide +kernel)
    (case fk_InvalidBook_NoRow => k_is)
    (case fn_InvalidBook_NoRow => first | rfl | decide +kernel)
    (case fk_InvalidBook_NoService => k_is)
    (case fn_InvalidBook_NoService => first | rfl | decide +kernel)
    (case fk_InvalidBook_Mismatch => k_is)
    (case fn_InvalidBook_Mismatch => first | rfl | decide +kernel)
    (case fk_InvalidBook_InvalidCommand => k_is)
    (case fn_InvalidBook_InvalidCommand => first | rfl | decide +kernel)
    (case fk_InvalidBook_TraceError | fk_InvalidText_InvalidRow => k_is)
    (case fn_InvalidText_InvalidRow => first | rfl | decide +kernel)
    (case fk_InvalidText_InvalidService => k_is)
    (case fn_InvalidText_InvalidService => first | rfl | decide +kernel)
    (case fk_InvalidText_InvalidBook => k_is)
    (case fn_InvalidText_InvalidBook => first | rfl | decide +kernel)
    (case fk_InvalidText_InvalidText | fk_InvalidText_InvalidTree => k_is)
    (case fn_InvalidText_InvalidTree => first | rfl | decide +kernel)
    (case fk_InvalidText_Refused => k_is)
    (case fn_InvalidText_Refused => first | rfl | decide +kernel)
    (case fk_InvalidText_NoRow => k_is)
    (case fn_InvalidText_NoRow => first | rfl | decide +kernel)
    (case fk_InvalidText_NoService => k_is)
    (case fn_InvalidText_NoService => first | rfl | decide +kernel)
    (case fk_InvalidText_Mismatch => k_is)
    (case fn_InvalidText_Mismatch => first | rfl | decide +kernel)
    (case fk_InvalidText_InvalidCommand => k_is)
    (case fn_InvalidText_InvalidCommand => first | rfl | decide +kernel)
    (case fk_InvalidText_TraceError | fk_InvalidTree_InvalidRow => k_is)
    (case fn_InvalidTree_InvalidRow => first | rfl | decide +kernel)
    (case fk_InvalidTree_InvalidService => k_is)
    (case fn_InvalidTree_InvalidService => first | rfl | decide +kernel)
    (case fk_InvalidTree_InvalidBook => k_is)
    (case fn_InvalidTree_InvalidBook => first | rfl | decide +kernel)
    (case fk_InvalidTree_InvalidText => k_is)
    (case fn_InvalidTree_InvalidText => first | rfl | decide +kernel)
    (case fk_InvalidTree_InvalidTree | fk_InvalidTree_Refused => k_is)
    (case fn_InvalidTree_Refused => first | rfl | decide +kernel)
    (case fk_InvalidTree_NoRow => k_is)
    (case fn_InvalidTree_NoRow => first | rfl | decide +kernel)
    (case fk_InvalidTree_NoService => k_is)
    (case fn_InvalidTree_NoService => first | rfl | decide +kernel)
    (case fk_InvalidTree_Mismatch => k_is)
    (case fn_InvalidTree_Mismatch => first | rfl | decide +kernel)
    (case fk_InvalidTree_InvalidCommand => k_is)
    (case fn_InvalidTree_InvalidCommand => first | rfl | decide +kernel)
    (case fk_InvalidTree_TraceError | fk_Refused_InvalidRow => k_is)
    (case fn_Refused_InvalidRow => first | rfl | decide +kernel)
    (case fk_Refused_InvalidService => k_is)
    (case fn_Refused_InvalidService => first | rfl | decide +kernel)
    (case fk_Refused_InvalidBook => k_is)
    (case fn_Refused_InvalidBook => first | rfl | decide +kernel)
    (case fk_Refused_InvalidText => k_is)
    (case fn_Refused_InvalidText => first | rfl | decide +kernel)
    (case fk_Refused_InvalidTree => k_is)
    (case fn_Refused_InvalidTree => first | rfl | decide +kernel)
    (case fk_Refused_Refused | fk_Refused_NoRow => k_is)
    (case fn_Refused_NoRow => first | rfl | decide +kernel)
    (case fk_Refused_NoService => k_is)
    (case fn_Refused_NoService => first | rfl | decide +kernel)
    (case fk_Refused_Mismatch => k_is)
    (case fn_Refused_Mismatch => first | rfl | decide +kernel)
    (case fk_Refused_InvalidCommand => k_is)
    (case fn_Refused_InvalidCommand => first | rfl | decide +kernel)
    (case fk_Refused_TraceError | fk_NoRow_InvalidRow => k_is)
    (case fn_NoRow_InvalidRow => first | rfl | decide +kernel)
    (case fk_NoRow_InvalidService => k_is)
    (case fn_NoRow_InvalidService => first | rfl | decide +kernel)
    (case fk_NoRow_InvalidBook => k_is)
    (case fn_NoRow_InvalidBook => first | rfl | decide +kernel)
    (case fk_NoRow_InvalidText => k_is)
    (case fn_NoRow_InvalidText => first | rfl | decide +kernel)
    (case fk_NoRow_InvalidTree => k_is)
    (case fn_NoRow_InvalidTree => first | rfl | decide +kernel)
    (case fk_NoRow_Refused => k_is)
    (case fn_NoRow_Refused => first | rfl | decide +kernel)
    (case fk_NoRow_NoRow | fk_NoRow_NoService => k_is)
    (case fn_NoRow_NoService => first | rfl | decide +kernel)
    (case fk_NoRow_Mismatch => k_is)
    (case fn_NoRow_Mismatch => first | rfl | decide +kernel)
    (case fk_NoRow_InvalidCommand => k_is)
    (case fn_NoRow_InvalidCommand => first | rfl | decide +kernel)
    (case fk_NoRow_TraceError => k_is)
    (case fn_NoRow_TraceError => first | rfl | decide +kernel)
    (case fk_NoService_InvalidRow => k_is)
    (case fn_NoService_InvalidRow => first | rfl | decide +kernel)
    (case fk_NoService_InvalidService => k_is)
    (case fn_NoService_InvalidService => first | rfl | decide +kernel)
    (case fk_NoService_InvalidBook => k_is)
    (case fn_NoService_InvalidBook => first | rfl | decide +kernel)
    (case fk_NoService_InvalidText => k_is)
    (case fn_NoService_InvalidText => first | rfl | decide +kernel)
    (case fk_NoService_InvalidTree => k_is)
    (case fn_NoService_InvalidTree => first | rfl | decide +kernel)
    (case fk_NoService_Refused => k_is)
    (case fn_NoService_Refused => first | rfl | decide +kernel)
    (case fk_NoService_NoRow => k_is)
    (case fn_NoService_NoRow => first | rfl | decide +kernel)
    (case fk_NoService_NoService | fk_NoService_Mismatch => k_is)
    (case fn_NoService_Mismatch => first | rfl | decide +kernel)
    (case fk_NoService_InvalidCommand => k_is)
    (case fn_NoService_InvalidCommand => first | rfl | decide +kernel)
    (case fk_NoService_TraceError => k_is)
    (case fn_NoService_TraceError => first | rfl | decide +kernel)
    (case fk_Mismatch_InvalidRow => k_is)
    (case fn_Mismatch_InvalidRow => first | rfl | decide +kernel)
    (case fk_Mismatch_InvalidService => k_is)
    (case fn_Mismatch_InvalidService => first | rfl | decide +kernel)
    (case fk_Mismatch_InvalidBook => k_is)
    (case fn_Mismatch_InvalidBook => first | rfl | decide +kernel)
    (case fk_Mismatch_InvalidText => k_is)
    (case fn_Mismatch_InvalidText => first | rfl | decide +kernel)
    (case fk_Mismatch_InvalidTree => k_is)
    (case fn_Mismatch_InvalidTree => first | rfl | decide +kernel)
    (case fk_Mismatch_Refused => k_is)
    (case fn_Mismatch_Refused => first | rfl | decide +kernel)
    (case fk_Mismatch_NoRow => k_is)
    (case fn_Mismatch_NoRow => first | rfl | decide +kernel)
    (case fk_Mismatch_NoService => k_is)
    (case fn_Mismatch_NoService => first | rfl | decide +kernel)
    (case fk_Mismatch_Mismatch | fk_Mismatch_InvalidCommand => k_is)
    (case fn_Mismatch_InvalidCommand => first | rfl | decide +kernel)
    (case fk_Mismatch_TraceError | fk_InvalidCommand_InvalidRow => k_is)
    (case fn_InvalidCommand_InvalidRow => first | rfl | decide +kernel)
    (case fk_InvalidCommand_InvalidService => k_is)
    (case fn_InvalidCommand_InvalidService => first | rfl | decide +kernel)
    (case fk_InvalidCommand_InvalidBook => k_is)
    (case fn_InvalidCommand_InvalidBook => first | rfl | decide +kernel)
    (case fk_InvalidCommand_InvalidText => k_is)
    (case fn_InvalidCommand_InvalidText => first | rfl | decide +kernel)
    (case fk_InvalidCommand_InvalidTree => k_is)
    (case fn_InvalidCommand_InvalidTree => first | rfl | decide +kernel)
    (case fk_InvalidCommand_Refused => k_is)
    (case fn_InvalidCommand_Refused => first | rfl | decide +kernel)
    (case fk_InvalidCommand_NoRow => k_is)
    (case fn_InvalidCommand_NoRow => first | rfl | decide +kernel)
    (case fk_InvalidCommand_NoService => k_is)
    (case fn_InvalidCommand_NoService => first | rfl | decide +kernel)
    (case fk_InvalidCommand_Mismatch => k_is)
    (case fn_InvalidCommand_Mismatch => first | rfl | decide +kernel)
    (case fk_InvalidCommand_InvalidCommand | fk_InvalidCommand_TraceError => k_is)
