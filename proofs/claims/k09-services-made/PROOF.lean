import PyProof.Rows.All
import Wide.All
import OpenK.AllK
import Wide.FinOn
import PySem.Challenge.RW_wholetraces_k09_services_made
import HandS.ForMost
import HandS.IsInst
import HandS.Walk
import HandS.FStr
import HandS.Star
import HandS.TupAny
import HandS.TupMul
import HandS.Style
import HandS.RaiseMore
import HandS.ClsMeth
import KE.KSuper
import HandS.More
import HandS.SlotsOwn
import KE.KCallOwn
import KE.KDictKeyed
import HandS.Lambda
import HandS.ForExc
import HandS.CallSlots
import HandS.Wide
import HandS.Conv
import HandS.MakeKwOnly
import HandS.MakeKw
import HandS.Defaults
import HandS.NoneIn
import HandS.DictComp
import KE.GoesZip
import KE.GoesMore
import HandS.Ends
import HandS.Dict
import PyProof.RulesMatch
import PyProof.Rows.MatchSeqLen
import KE.KUnpack
import HandS.CallLocal
import HandS.Exc
import PyProof.EqAt
import PyProof.NeKinds
import HandS.ExcSuper
import HandS.ExcInit
import HandS.WordsExc
import HandS.ExcIs
import HandS.ExcField
import KE.KExcIs
import KE.KExcSuper
import HandS.TryOnly
import KE.KEqNest
import HandS.Text
import PyProof.StrOps2
import PyProof.DictUpdate
import PyProof.FactsAll.dict_3
import PyProof.FactsAll.dict_4
import PyProof.InstSpecial
import KE.KExcHand
import PyProof.ListStr
import KE.GoesEnum
import HandS.EndBits
import OpenK.KMeth
import KE.KExcInit
import HandS.Iter
import PyProof.ExcBaseAll.ValueError
import HandS.Deep
import KE.KDictZip
import HandS.ExcValue
import KE.KDictCopyH
import HandS.Strs
import KE.KDictPairs
import HandS.TupLen
import HandS.EndTab
import HandS.SetFor
set_option Elab.async false
set_option linter.all false
set_option maxRecDepth 100000
set_option maxHeartbeats 4000000
section
open PySem PySem.W PyProof.Rows
def PySem.W.Fast.tw9523127711282828400 : Nat := 0
def PySem.W.Fast.tw861502493610598483 : Nat := 0
def PySem.W.Fast.tw938635154573522699 : Nat := 0
def PySem.W.Fast.tw11284880096355222998 : Nat := 0
def PySem.W.Fast.tw8215439957894238634 : Nat := 0
def PySem.W.Fast.tw14257035121206530791 : Nat := 0
def PySem.W.Fast.tw15793473763280161150 : Nat := 0
def PySem.W.Fast.tw7155359931933253843 : Nat := 0
def PySem.W.Fast.tw5114918623987374716 : Nat := 0
def PySem.W.Fast.tw2343285291557775378 : Nat := 0
def PySem.W.Fast.tw14196385902569759983 : Nat := 0
def PySem.W.Fast.tw280917380089993231 : Nat := 0
def PySem.W.Fast.tw10374632558016547081 : Nat := 0
def PySem.W.Fast.tw4738809144493168741 : Nat := 0
def PySem.W.Fast.tw10042083083395451092 : Nat := 0
def PySem.W.Fast.tw1773459157877013602 : Nat := 0
def PySem.W.Fast.tw7774113678449685934 : Nat := 0
set_option maxRecDepth 100000 in
set_option maxHeartbeats 0 in
open_top hd for PySem.Challenge.rw_wholetraces_k09_services_made
end
namespace L2
open PySem PySem.Spec PyProof.Rows
/-! ### steps of a reading, by its head -/
section
variable {D : Ends} {σ : St} {H : Hp} {Q : VK} {QT : Bool → Hp → Prop} {QA : List V → Hp → Prop} {ta tb te tc : TE} {tA tr : TA} {t1 t2 : TS} {c u : TT} {v x y : V} {i : Nat} {r r' : R2} {b : Bool} {K : PySem.W.Frag}
theorem Same.new {p : Addr} {o : HO} (h : H p = none) : Same H (upd H p o) := fun a u e => by
  rw [upd_ne (ne_of_none e h)]
  exact e
/-! operators -/
/-! fields, methods -/
end
/-! ### heaps -/
section
variable {H H1 H2 : Hp} {a p : Addr} {o : HO} {K : PySem.W.Frag} {xs : List V}
theorem Same.fresh (e : Same H H1) (h : H1 p = none) : H p = none := e.free h
/-- what never changes once it stands: all but lists of ints -/
def fz : HO → Bool
  | .lst xs => !(xs.all fun v => match v with | .int _ => true | _ => false) || xs.isEmpty
  | .tup _ => true
  | .ins _ _ _ => true
  | .dK _ => true
  | .frz _ _ => true
  | _ => false
def Kp (H H' : Hp) : Prop := ∀ a o, H a = some o → fz o = true → H' a = some o
theorem Kp.refl (H : Hp) : Kp H H := fun _ _ h _ => h
theorem Kp.trans (a : Kp H H1) (b : Kp H1 H2) : Kp H H2 := fun c o h z => b c o (a c o h z) z
theorem Same.kp (e : Same H H1) : Kp H H1 := fun a o h _ => e a o h
theorem Kp.same (a : Kp H H1) (b : Same H1 H2) : Kp H H2 := a.trans b.kp
/-- the script, or a list that stands in the written part -/
def SqF (K : PySem.W.Frag) (H : Hp) (a : Addr) (xs : List V) : Prop := (∃ o, H a = some (.frz o (.lst xs))) ∨ ∃ (o : Obj) (its : Array Value) (n : Nat), K.lookup a = some o ∧ o.cls = .type "list" ∧ o.dict = none ∧ o.data = .seq its n ∧ its.size ≤ sizeLine ∧ Vals xs its.toList
theorem SqF.l (h : SqF K H a xs) : SqL K H a xs := by
  rcases h with ⟨o, h⟩ | h
  · exact .inl (.inr ⟨o, h⟩)
  · exact .inr h
theorem SqF.kp (e : Kp H H1) (h : SqF K H a xs) : SqF K H1 a xs := by
  rcases h with ⟨o, h⟩ | h
  · exact .inl ⟨o, e _ _ h rfl⟩
  · exact .inr h
theorem SqF.of (ho : ∀ b, H b = none ∨ ∃ o xs, H b = some (.frz o (.lst xs))) (h : SqL K H a xs) : SqF K H a xs := by
  rcases h with (h | ⟨o, h⟩) | h
  · rcases ho a with z | ⟨o, ys, z⟩
    · rw [h] at z; cases z
    · rw [h] at z; cases z
  · exact .inl ⟨o, h⟩
  · exact .inr h
end
theorem inV_strs (z : Str) (l : List Str) : inV (.str z) (l.map V.str) = l.contains z := by
  induction l with
  | nil => rfl
  | cons a l ih =>
    show (eqV (.str a) (.str z) || inV (.str z) (l.map V.str)) = _
    rw [ih, List.contains_cons]
    show ((a == z) || _) = _
    rw [show (a == z) = (z == a) from by rw [Bool.eq_iff_iff, beq_iff_eq, beq_iff_eq]; exact eq_comm]
section
variable {K : PySem.W.Frag} {H : Hp} {Q : VK} {p : Addr} {z : Str} {ws : List Str}
end
section
variable {K : PySem.W.Frag} {H H1 : Hp} {σ : St} {Q : VK} {D : Ends} {ta tv : TE} {f : Str} {a C dx : Addr} {fs : List (Str × V)} {v y : V}
theorem TyX.same {t : Value} (e : Same H H1) (h : TyX K H v t) : TyX K H1 v t := by
  cases h with
  | base b =>
    cases b with
    | non => exact .base .non
    | bl x => exact .base (.bl x)
    | int i => exact .base (.int i)
    | str x => exact .base (.str x)
    | flt x => exact .base (.flt x)
    | lst q => exact .base (.lst (e _ _ q))
    | frz q => exact .base (.frz (e _ _ q))
    | tup q => exact .base (.tup (e _ _ q))
    | dK q => exact .base (.dK (e _ _ q))
    | dT q => exact .base (.dT (e _ _ q))
    | ins q cl ha hn htk hm => exact .base (.ins (e _ _ q) cl ha hn htk hm)
  | byt b => exact .byt b
  | set q => exact .set (e _ _ q)
  | kList q c => exact .kList q c
  | kTuple q c => exact .kTuple q c
  | kDict q c => exact .kDict q c
  | fTuple q => exact .fTuple (e _ _ q)
  | fDict q => exact .fDict (e _ _ q)
end
/-! ### comprehensions -/
end L2
namespace L2
open PySem PySem.Spec PyProof.Rows
/-- names of a method that says super(): the parameters first, all local; __class__ alone is free -/
structure FnScopeS (N P : List Str) (sc : Scope) : Prop where
  kind : sc.kind = .function
  co : sc.isCoroutine = false
  gen : sc.isGenerator = false
  nd : N.Nodup
  pre : N.take P.length = P
  par : ∀ x ∈ P, sc.names.lookup x = some .local
  nocell : ∀ y ∈ sc.names, y.2 ≠ .cell
  free : ∀ y ∈ sc.names, y.2 = .free → y.1 = "__class__"
  sup : sc.names.lookup ("super" : Str) = some .globalImplicit
  cls : sc.names.lookup ("__class__" : Str) = some .free
def cxS (CX : CXT) (P : Program) (w : World) (K : PySem.W.Frag) (mg : Str → Option Value) (base : Heap) (N : List Str) (qual : Str) (scope : Scope) (f : Addr) (cd : Value) (cc : Addr) (A : Around) (outer : List Env) (s : Shared) (H : Hp) (E : XK) : Cx where
  prog := P
  w := w
  K := K
  mg := mg
  base := base
  A := A.deeper (PySem.W.ksEnv qual scope s.heap.objs.size f cd cc)
  N := N
  s_0 := s
  H_0 := H
  env := PySem.W.ksEnv qual scope s.heap.objs.size f cd cc
  outer := outer
  stack := PySem.W.ksEnv qual scope s.heap.objs.size f cd cc :: outer
  ex := []
  calm := true
  fn := fun _ => false
  pn := []
  xe := fun e s' => wpAny (model P w) (A.deeper (PySem.W.ksEnv qual scope s.heap.objs.size f cd cc)) (leaving (PySem.W.ksEnv qual scope s.heap.objs.size f cd cc) e) (fun _ s'' => CX outer H s E e s'') (fun e' s'' => CX outer H s E e' s'') s'
theorem zip_lookup {P : List Str} {us : List Value} {i : Nat} {x : Str} {u : Value} (nd : P.Nodup) (h1 : P[i]? = some x) (h2 : us[i]? = some u) : (P.zip us).reverse.lookup x = some u := by
  have nd2 : ((P.zip us).reverse.map (·.1)).Nodup := by
    rw [List.map_reverse]
    show List.Pairwise (· ≠ ·) _
    rw [List.pairwise_reverse]
    refine List.Pairwise.imp (R := (· ≠ ·)) (fun h => h.symm) ?_
    show List.Nodup _
    have e : (P.zip us).map (·.1) = P.take us.length := by
      clear nd h1 h2
      induction P generalizing us with
      | nil => simp
      | cons a P ih =>
        cases us with
        | nil => simp
        | cons b us => simp [ih]
    rw [e]
    exact nd.sublist (List.take_sublist _ _)
  have mem : (x, u) ∈ (P.zip us).reverse := by
    rw [List.mem_reverse]
    have z : (P.zip us)[i]? = some (x, u) := by
      rw [List.getElem?_zip_eq_some]
      exact ⟨h1, h2⟩
    exact List.mem_of_getElem? z
  generalize (P.zip us).reverse = l at nd2 mem
  induction l with
  | nil => cases mem
  | cons p l ih =>
    obtain ⟨y, v⟩ := p
    rw [List.map_cons, List.nodup_cons] at nd2
    rcases List.mem_cons.mp mem with e | e
    · cases e
      simp [List.lookup]
    · have ne : x ≠ y := fun z => nd2.1 (by rw [← z]; exact List.mem_map_of_mem (f := (·.1)) e)
      have q : (x == y) = false := by simpa using ne
      simp only [List.lookup, q]
      exact ih nd2.2 e
/-- what a slot of the start holds is an argument -/
theorem start_arg {N : List Str} {vs : List V} {i : Nat} {v : V} (h : (start N vs)[i]? = some (some v)) : vs[i]? = some v := by
  unfold start at h
  rcases Nat.lt_or_ge i (vs.map some).length with q | q
  · have z := (List.getElem?_append_left q).symm.trans h
    simpa using z
  · have z := (List.getElem?_append_right q).symm.trans h
    simp [List.getElem?_replicate] at z
theorem start_len {N ps : List Str} {vs : List V} (h : N.take ps.length = ps) (hl : vs.length = ps.length) : (start N vs).length = N.length := by
  have q : (N.take ps.length).length = ps.length := by rw [h]
  simp only [List.length_take] at q
  simp [start, hl]
  omega
theorem start_name {N ps : List Str} {vs : List V} {i : Nat} {y : Str} {v : V} (h : N.take ps.length = ps) (hl : vs.length = ps.length) (hv : vs[i]? = some v) (hy : N[i]? = some y) : ps[i]? = some y := by
  have q : i < ps.length := by rw [← hl]; exact (List.getElem?_eq_some_iff.mp hv).1
  have z := List.getElem?_take_of_lt (l := N) q
  rw [h, hy] at z
  exact z
theorem inv_startS {CX : CXT} {P : Program} {w : World} {K : PySem.W.Frag} {mg : Str → Option Value} {base : Heap} {N ps : List Str} {qual : Str} {scope : Scope} {f : Addr} {cd : Value} {cc : Addr} {A : Around} {outer : List Env} {s : Shared} {H : Hp} {E : XK} {us : List Value} {vs : List V} {h1 : Heap} {tk : Nat}
    {cl : Value} {cld : Option Addr} {csl : Array (Option Value)} {cv : Option Value}
    (S : FnScopeS N ps scope) (hd : A.handled = none) (e0 : Env0 P w K mg base A outer s H) (hl : vs.length = ps.length) (r : Vals vs us) (hcc : K.lookup cc = some ⟨cl, cld, .cell cv, csl⟩)
    (hns : h1.Ns s.heap.objs.size (fun x => (ps.zip us).reverse.lookup x)) (hk : ∀ b o, s.heap.get? b = some o → h1.get? b = some o) :
    Inv (cxS CX P w K mg base N qual scope f cd cc A outer s H E) [] (start N vs) H { s with heap := h1, toks := tk } := by
  have noA : ∀ b : Addr, b ∉ (cxS CX P w K mg base N qual scope f cd cc A outer s H E).ex := fun b z => absurd (show b ∈ ([] : List Addr) from z) (by simp)
  have cel : ∀ y c, (cxS CX P w K mg base N qual scope f cd cc A outer s H E).env.cells.lookup y = some c → y = "__class__" ∧ c = cc := fun y c h => by
    have h' : ([(("__class__" : Str), cc)] : List (Str × Addr)).lookup y = some c := h
    by_cases z : y = "__class__"
    · subst z
      have q : ([(("__class__" : Str), cc)] : List (Str × Addr)).lookup ("__class__" : Str) = some cc := by simp [List.lookup]
      rw [q] at h'
      exact ⟨rfl, (Option.some.inj h').symm⟩
    · have q : (y == ("__class__" : Str)) = false := by simpa using z
      simp [List.lookup, q] at h'
  have kcc : base.get? cc = some ⟨cl, cld, .cell cv, csl⟩ := e0.mod.kin _ _ hcc
  refine ⟨⟨e0.mod, S.kind, rfl, rfl, Nat.le_refl _, fun y z c h1 h2 => ?_, fun y hy => ?_, fun y c h _ => ?_, fun _ => hd, Around.frames_deeper e0.frames, .inr ⟨rfl, rfl⟩, fun b z => absurd z (noA b), e0.bs, e0.bsz, fun b _ _ => noA b, fun b z => absurd z (noA b), e0.funs, e0.frf⟩,
    rfl, e0.bare, Un.kept hk, ⟨_, hns, fun i y v h1 h2 h3 => ?_⟩, fun y c h => ?_, e0.hok.fresh (Nat.le_refl _), fun y c h => ?_, fun p hp => absurd (show p ∈ ([] : List (Addr × Obj)) from hp) (by simp), e0.hok.kept hk, ?_⟩
  · rw [(cel y c h1).1, (cel z c h2).1]
  · rcases (show scope.names.lookup y = some .cell ∨ scope.names.lookup y = some .free from hy) with q | q
    · exact (S.nocell _ (PySem.mem_of_lookup q) rfl).elim
    · have e := S.free _ (PySem.mem_of_lookup q) rfl
      have e' : y = "__class__" := e
      subst e'
      exact ⟨cc, by show ([(("__class__" : Str), cc)] : List (Str × Addr)).lookup ("__class__" : Str) = some cc; simp [List.lookup]⟩
  · exact Bool.noConfusion h
  · have ha := start_arg h2
    have hp := start_name S.pre hl ha h1
    obtain ⟨u, hu, rv⟩ := Vals.get r ha
    exact ⟨u, rv, .inl ⟨S.par y (List.mem_of_getElem? hp), zip_lookup (S.pre ▸ S.nd.sublist (List.take_sublist _ N)) hp hu⟩⟩
  · obtain ⟨_, e2⟩ := cel y c h
    subst e2
    exact ⟨cv, _, hk _ _ (e0.bs _ _ kcc).1, rfl⟩
  · obtain ⟨_, e2⟩ := cel y c h
    subst e2
    exact (e0.bs _ _ kcc).2
  · exact start_len S.pre hl
/-! ### blocks at a known activation -/
structure PSA (X : Cx) (c : Code) (st : Stmt) (t : TS) : Prop where
  run : ∀ (pins : List (Addr × Obj)) (s : Shared) (σ : St) (H : Hp) (D : Ends), Inv X pins σ H s → t D σ H → _root_.PySem.wpAt (model X.prog X.w) X.A c (exec st X.env) (SP X pins D) X.xe s
structure PSsA (X : Cx) (c : Code) (st : List Stmt) (t : TS) : Prop where
  run : ∀ (pins : List (Addr × Obj)) (s : Shared) (σ : St) (H : Hp) (D : Ends), Inv X pins σ H s → t D σ H → _root_.PySem.wpAt (model X.prog X.w) X.A c (execs st X.env) (SP X pins D) X.xe s
section
variable {X : Cx} {c : Code} {st : Stmt} {rest : List Stmt} {t u : TS}
theorem psa_of (h : PS X st t) : PSA X c st t := ⟨fun pins s σ H D I q => wpAt_of_wpAny (h.run pins s σ H D I q)⟩
theorem pssa_cons (h1 : PSA X c st t) (h2 : PSsA X c rest u) : PSsA X c (st :: rest) (tSeq t u) := by
  refine ⟨fun pins s σ H D I h => ?_⟩
  refine ks_wpAt_execs_cons (ks_wpAt_mono (h1.run pins s σ H { D with nx := u D } I h) (fun f s1 q => ?_) fun _ _ z => z)
  cases f with
  | next =>
    obtain ⟨σ', H', I', q⟩ := q
    exact h2.run pins s1 σ' H' D I' q
  | ret v => exact q
  | brk => exact q
  | cont => exact q
theorem pssa_one (h1 : PSA X c st t) : PSsA X c [st] t := by
  refine ⟨fun pins s σ H D I h => ?_⟩
  refine ks_wpAt_execs_cons (ks_wpAt_mono (h1.run pins s σ H D I h) (fun f s1 q => ?_) fun _ _ z => z)
  cases f with
  | next => exact wpAt_of_wpAny (wpAny_execs_nil q)
  | ret v => exact q
  | brk => exact q
  | cont => exact q
end
/-- THE RULE for a method that says super() -/
theorem fnS_of {CX : CXT} {P : Program} {w : World} {K : PySem.W.Frag} {mg : Str → Option Value} {base : Heap} {k : Nat} {f : Addr} {name qual : Str} {params : Arguments} {body : List Stmt} {scope : Scope} {dV kV doc pm cdv ct oc : Value} {an od : Option Addr} {cc : Addr}
    {osl : Array (Option Value)} {N ps : List Str} {sp : Sp} {cl : Value} {cld : Option Addr} {csl : Array (Option Value)} {cv : Option Value} (hcc : K.lookup cc = some ⟨cl, cld, .cell cv, csl⟩)
    (lk : K.lookup f = some ⟨oc, od, .func (PySem.W.ksFn name qual params body scope dV kV doc pm an cdv ct cc), osl⟩) (hcd : PySem.W.codeIn K cdv qual = true) (S : FnScopeS N ps scope)
    (len : ∀ vs H Q E, sp vs H Q E → vs.length = ps.length)
    (hbody : ∀ (A : Around) (outer : List Env) (s : Shared) (H : Hp) (vs : List V) (Q : VK) (E : XK), Room k (A.deeper (PySem.W.ksEnv qual scope s.heap.objs.size f cdv cc)) → sp vs H Q E →
      ∃ t, PSsA (cxS CX P w K mg base N qual scope f cdv cc A outer s H E) (.func body (PySem.W.ksEnv qual scope s.heap.objs.size f cdv cc)) body t ∧ t { nx := fun _ H' => Q .non H', rt := Q } (start N vs) H) :
    FnOk P w K mg base CX (k + 1) f (PySem.W.ksFn name qual params body scope dV kV doc pm an cdv ct cc) ps sp := by
  refine ⟨len, fun A outer s H args us vs Q E hr e0 hb rel want => ?_⟩
  have keep := fun (b : Addr) (o : Obj) (e : base.get? b = some o) => (e0.bs b o e).1
  have KX : K.In s.heap := e0.mod.kin.keeps keep
  have lim : s.heap.NoLimit := e0.mod.nolimit.keeps keep
  have hloc : ∀ y ∈ ps.zip us, scope.names.lookup y.1 = some .local := fun ⟨n, v⟩ hy => S.par n (List.of_mem_zip hy).1
  obtain ⟨t, ht, hq⟩ := hbody A outer s H vs Q E (Room.deeper hr _) want
  refine ks_codeAny_call_defAt (fd := PySem.W.ksFn name qual params body scope dV kV doc pm an cdv ct cc) (body := body) (binds := ps.zip us) hr.depth (KX _ _ lk) rfl lim (PySem.W.codeRec_of KX hcd) rfl hb S.nocell hloc (fun h₁ hns hk₁ => ?_) S.co S.gen S.kind
  have I : Inv (cxS CX P w K mg base N qual scope f cdv cc A outer s H E) [] (start N vs) H { s with heap := h₁, toks := s.toks + (ps.zip us).length } := inv_startS S hr.hd e0 (len _ _ _ _ want) rel hcc hns hk₁
  refine ks_wpAt_mono (ht.run [] _ (start N vs) H _ I hq) (fun fl s' hs => ?_) fun e s' hs => hs
  cases fl with
  | ret u => exact let ⟨v, _, H1, J, rv, q⟩ := hs; ⟨v, H1, J.os, J.bare, J.base, J.hok, rv, q⟩
  | next => exact let ⟨_, H1, J, q⟩ := hs; ⟨.non, H1, J.os, J.bare, J.base, J.hok, rfl, q⟩
  | brk =>
    obtain ⟨_, _, _, q⟩ := hs
    exact False.elim q
  | cont =>
    obtain ⟨_, _, _, q⟩ := hs
    exact False.elim q
/-! ### super().m(e, ..) -/
/-- what is known of the running body -/
structure SupX (X : Cx) (D : Addr) (y : Str) : Prop where
  sup : X.env.scope.names.lookup ("super" : Str) = some .globalImplicit
  cls : X.env.scope.names.lookup ("__class__" : Str) = some .free
  kind : X.env.scope.kind = .function
  fn : ∃ (f : Addr) (oc : Value) (od : Option Addr) (fd : FuncData) (osl : Array (Option Value)) (ar : Arg), X.env.func = some f ∧ X.K.lookup f = some ⟨oc, od, .func fd, osl⟩ ∧ (fd.params.posonlyargs ++ fd.params.args).head? = some ar ∧ ar.arg = y
  code : ∃ (cda : Addr) (ccl : Value) (cdd : Option Addr) (vs : Array Value) (ccs : Array (Option Value)) (file : Str) (tf : Tok), X.env.code = .ref cda ∧ X.K.lookup cda = some ⟨ccl, cdd, .fields vs, ccs⟩ ∧ vs[2]? = some (.str file tf) ∧ ((X.prog.main.file : Str) == file) = true
  top : (X.prog.main.scope.names.lookup ("super" : Str)).isSome = false
  mg : X.mg "super" = none
  cell : ∃ (cc : Addr) (cl : Value) (cld : Option Addr) (csl : Array (Option Value)), X.env.cells.lookup ("__class__" : Str) = some cc ∧ X.K.lookup cc = some ⟨cl, cld, .cell (some (.ref D)), csl⟩
  dcl : ∃ cdD, PySem.W.clsIn X.K D = some cdD
  loc : X.env.scope.names.lookup y = some .local
  opq : PySem.W.nsIn X.K cStatics "thirdparty.any" = some none
/-- C's next m behind D is the def at g -/
structure SupM (K : PySem.W.Frag) (C D : Addr) (m : Str) (g : Addr) : Prop where
  sub : PySem.W.mroIn K C (.ref D) = some true
  at_ : PySem.W.ks_superIn K C D m = some (some (.ref g))
  ty : PySem.W.typeIn K (.ref g) = some (.type "function")
  fi : PySem.W.fnIn K g = true
section
variable {X : Cx} {pins : List (Addr × Obj)} {σ : St} {H : Hp} {s : Shared} {D C a dx g : Addr} {fs : List (Str × V)} {y m : Str}
theorem sup_base {body : List Stmt} {p0 p1 : Pos} {whole : Sem Value} {i : Nat} {ox : Obj} {odx : Option Obj} {Q : Value → Shared → Prop} (S : SupX X D y) (I : Inv X pins σ H s) (hN : X.N[i]? = some y) (hv : σ[i]? = some (some (.ref a)))
    (J : PySem.W.InstAt s.heap a ox C odx) (hsub : PySem.W.mroIn X.K C (.ref D) = some true) (hm : (m == ("__class__" : Str)) = false)
    (h : ∀ so s', Inv X ((so, PySem.W.ks_superObj D a C) :: pins) σ H s' → (∀ b o, s.heap.get? b = some o → s'.heap.get? b = some o) → Q (.ref so) s') :
    _root_.PySem.wpAt (model X.prog X.w) X.A (.func body X.env) (attributeBase (.Call (.Name "super" p0) [] [] p1) m X.env whole) Q X.xe s := by
  obtain ⟨f, oc, od, fd, osl, ar, hfu, hf, hp, har⟩ := S.fn
  obtain ⟨cda, ccl, cdd, vs, ccs, file, tf, hco, hcode, hvs, hfile⟩ := S.code
  obtain ⟨cc, cl, cld, csl, hcl, hcell⟩ := S.cell
  obtain ⟨cdD, hD⟩ := S.dcl
  have X1 : X.K.In s.heap := I.kIn
  obtain ⟨mm, hns, hloc⟩ := I.loc
  obtain ⟨oD, hD1, hD2⟩ : ∃ oD, s.heap.get? D = some oD ∧ oD.data = .cls cdD := by
    unfold PySem.W.clsIn at hD
    split at hD
    · rename_i c d cd' sl ho
      cases hD
      exact ⟨_, X1 _ _ ho, rfl⟩
    · cases hD
  subst har
  obtain ⟨u, ru, lk⟩ := hloc i _ _ hN hv (.inl S.loc)
  obtain rfl : u = Value.ref a := ru
  have hself : mm ar.arg = some (.ref a) := by
    rcases lk with ⟨_, e⟩ | ⟨k, _⟩
    · exact e
    · have k' : X.env.scope.names.lookup ar.arg = some .cell ∨ X.env.scope.names.lookup ar.arg = some .free := k
      rw [S.loc] at k'
      rcases k' with z | z <;> cases z
  refine ks_wpAt_super_base (env := X.env) S.sup S.cls hm hfu (X1 _ _ hf) rfl hp hco (X1 _ _ hcode) rfl hvs hfile S.top ?_
  obtain ⟨mb, hb1, hb2⟩ := I.mod.blt
  refine PySem.W.ks_loadName_global S.kind S.sup (PySem.Calls.loadGlobal_builtin (env := X.env) (by rw [I.ok.glob]; exact I.mod.glob.keeps I.bk) S.mg (by rw [I.ok.blt]; exact hb1.keeps I.bk) ((hb2 _ (by decide +kernel)).trans (by first | boot_by_name | rfl | kernel_rfl)) ⟨rfl, ?_⟩)
  refine wpAny_loadName_free S.kind S.cls hcl ⟨_, X1 _ _ hcell, rfl⟩ ?_
  refine wpAny_loadName_local S.kind S.loc hns hself ?_
  refine ks_wpAny_isType_cls hD1 hD2 ⟨rfl, ?_⟩
  obtain ⟨hh, gg, d, t, os⟩ := s
  refine ks_wpAny_call_super hD1 hD2 J.at_ J.cls (fun c e => ?_) (PySem.W.looks_mroIn X1 hsub) (fun h' e k => ?_)
  · have := J.no
    unfold PySem.W.notCls at this
    rw [e] at this
    exact Bool.noConfusion this
  · exact h _ _ (ClX.pin_new (t' := t) I k (Nat.le_refl _) e (fun v z => nomatch z)) k
end
/-- super().m(e, ..) as a statement, the first parameter in slot i -/
def tSup (K : PySem.W.Frag) (D : Addr) (m : Str) (g : Addr) (sp : Sp) (E : XK) (i : Nat) (ta : TA) : TS := fun Dn σ H => ∃ (a C dx : Addr) (fs : List (Str × V)), σ[i]? = some (some (.ref a)) ∧ H a = some (.ins C dx fs) ∧ SupM K C D m g ∧
  ta σ H fun vs H1 => sp (.ref a :: vs) H1 (fun _ H2 => Dn.nx σ H2) E
section
variable {X : Cx} {D g : Addr} {y m : Str} {CX : CXT} {k : Nat} {fd : FuncData} {ps : List Str} {sp : Sp} {E : XK} {e : Expr} {es : List Expr} {ta : TA} {p0 p1 p2 pos pos' : Pos} {i : Nat} {pl : Sem Bool} {body : List Stmt}
theorem psa_super (S : SupX X D y) (F : FnOk X.prog X.w X.K X.mg X.base CX k g fd ps sp) (hr : Room k X.A) (hb : Binds X.K fd ps []) (hx : Passes CX X E) (ha : PA X (e :: es) ta) (hN : X.N[i]? = some y := by rfl) (hm : (m == ("__class__" : Str)) = false := by decide)
    (hi : interactive X.env = false := by rfl) (hs : swapsWith (.Call (.Attribute (.Call (.Name "super" p0) [] [] p1) m p2) (e :: es) [] pos) none pos'.line X.env = pure false := by rfl)
    (hst : starEach (e :: es) X.env = (false, eval e X.env) :: starEach es X.env := by rfl) (hpl : (backTo pos (starEach es X.env)).any (·.1) = false := by rfl)
    (he : eval (.Call (.Attribute (.Call (.Name "super" p0) [] [] p1) m p2) (e :: es) [] pos) X.env = (do
      let ov ← attributeBase (.Call (.Name "super" p0) [] [] p1) m X.env (eval (.Call (.Name "super" p0) [] [] p1) X.env)
      standAt p2.atName
      let (f, first) ← holding [ov] (getMethod ov m pl)
      callWith pos f first (backTo pos (starEach (e :: es) X.env)) []) := by rfl) :
    PSA X (.func body X.env) (.Expr (.Call (.Attribute (.Call (.Name "super" p0) [] [] p1) m p2) (e :: es) [] pos) pos') (tSup X.K D m g sp E i ta) := by
  refine ⟨fun pins s σ H Dn I h => ?_⟩
  obtain ⟨a, C, dx, fs, hv, ea, SM, q⟩ := h
  refine ks_wpAt_Expr_any ?_ hi hs
  refine ks_wpAt_MethodCall ?_ he
  obtain ⟨mA, O, _⟩ := ins_get I.hok ea
  obtain ⟨od, J, _⟩ := O.look
  refine sup_base S I hN hv J SM.sub hm fun so s1 I1 k1 => ?_
  obtain ⟨mA1, O1, _⟩ := ins_get I1.hok ea
  obtain ⟨od1, J1, _⟩ := O1.look
  have hat := SM.at_
  cases hc : PySem.W.clsIn X.K C with
  | none =>
    unfold PySem.W.ks_superIn at hat
    rw [hc] at hat
    cases hat
  | some cd =>
    unfold PySem.W.ks_superIn at hat
    rw [hc] at hat
    obtain ⟨of, hof, hofc⟩ : ∃ of, s1.heap.get? g = some of ∧ of.cls = .type "function" := by
      have ht' : (X.K.lookup g).map (·.cls) = some (.type "function") := SM.ty
      cases z : X.K.lookup g with
      | none => rw [z] at ht'; cases ht'
      | some of => rw [z] at ht'; exact ⟨of, I1.kIn _ _ z, Option.some.inj ht'⟩
    obtain ⟨hh, gg, d, t, os⟩ := s1
    refine ks_wpAny_getMethod_super (ClX.pin_at I1) (PySem.W.looks_opaque I1.kIn S.opq) (l₀ := cd.mro) ?_ rfl I1.kIn hat hof hofc (PySem.W.ks_ne I1.kIn J1 hc) hm ?_
    · exact fun A Q E s k q => wpAny_bind ((PySem.W.looks_clsIn I1.kIn hc) A _ E s k (wpAny_pure q))
    · have I2 := ClX.met_new (g := g) (C := a) I1
      refine ClX.callwith_cm I2 (ClX.base_none I1 (Nat.le_refl _)) SM.fi (thn (ha.run pos _ _ σ H _ I2 q) fun us s3 ⟨vs, H2, I3, rv, q2⟩ => ⟨⟨ClX.pin_at I3, I3.kIn⟩, ?_⟩) hst hpl
      have r2 : Vals (V.ref a :: vs) (Value.ref a :: us) := .cons rfl rv
      have hl : ((Value.ref a :: us) ++ []).length = ps.length := by
        rw [List.append_nil, ← r2.length]
        exact F.len _ _ _ _ q2
      have bt := hb s3 (Value.ref a :: us) I3.kIn hl
      rw [List.append_nil] at bt
      refine wpAny_call (PySem.W.method_call (ClX.pin_at I3) (codeAny_mono (F.run X.A X.stack s3 H2 ⟨Value.ref a :: us, []⟩ (Value.ref a :: us) (V.ref a :: vs) _ E hr I3.env0 bt r2 q2) fun r s' hq => ?_))
      cases r with
      | error er => exact hx _ σ H2 s3 er s' I3 hq
      | ok fl =>
        cases fl with
        | ret u =>
          obtain ⟨v, H', I4, _, q4⟩ := I3.after hq
          exact ⟨σ, H', ClX.unpin (ClX.unpin I4), q4⟩
        | next => exact False.elim hq
        | brk => exact False.elim hq
        | cont => exact False.elim hq
end
end L2
namespace L2
open PySem PySem.Spec PyProof.Rows
section
variable {X : Cx} {pins : List (Addr × Obj)} {σ : St} {H : Hp} {s : Shared}
theorem looks_ty {x : V} {u t : Value} (I : Inv X pins σ H s) (rx : RelV x u) (ty : TyX X.K H x t) : PySem.W.Looks (model X.prog X.w) s.heap (typeOf u) t := by
  obtain ⟨P, Z, p, _⟩ := kit_of I rx ty
  exact Z.ty _ _ I.kIn p
end
/-- the class at C compares by its own __eq__ at g, and has no __ne__ of its own -/
structure EqC (K : PySem.W.Frag) (C g : Addr) : Prop where
  eq : PySem.W.findIn K (.ref C) "__eq__" = some (some (.ref g))
  fn : PySem.W.isFn K (.ref g) = true
  ne : PySem.W.findIn K (.ref C) "__ne__" = some (some (.builtin "object.__ne__"))
  ob : PySem.W.mroIn K C (.type "object") = some true
def rOwnEq (K : PySem.W.Frag) (g : Addr) (sp : Sp) (E : XK) : R2 := fun x y H Q => ∃ (a C dx : Addr) (fs : List (Str × V)) (tb : Value), x = .ref a ∧ H a = some (.ins C dx fs) ∧ EqC K C g ∧ TyX K H y tb ∧ PySem.W.notFirst K C tb = true ∧ sp [x, y] H Q E
def rOwnNe (K : PySem.W.Frag) (g : Addr) (sp : Sp) (E : XK) : R2 := fun x y H Q => ∃ (a C dx : Addr) (fs : List (Str × V)) (tb : Value), x = .ref a ∧ H a = some (.ins C dx fs) ∧ EqC K C g ∧ TyX K H y tb ∧ PySem.W.notFirst K C tb = true ∧ sp [x, y] H (fun z H' => ∃ b, z = .bl b ∧ Q (.bl (!b)) H') E
section
variable {prog : Program} {w : World} {A : Around} {E : Value → Shared → Prop} {s : Shared} {K : PySem.W.Frag} {x C f : Addr} {ox : Obj} {od : Option Obj} {b tb : Value}
open PySem.W in
theorem ifBound_Kb {M : Model} {name : Str} {id : String} {args : List Value} {Q : Option Value → Shared → Prop} (X : K.In s.heap) (I : InstAt s.heap x ox C od) (hs : findIn K (.ref C) name = some (some (.builtin id))) (hb : bindSpecial (.builtin id) (.ref x) = pure (.builtin id, [.ref x]))
    (h : wpAny M A (call (.builtin id) (.ref x :: args)) (fun v => Q (some v)) E s) : wpAny M A (callSpecialIfBound? (.ref x) name args) Q E s := by
  simp only [callSpecialIfBound?, bindSpecialIfBound?]
  refine wpAny_holding (wpAny_bind (wpAny_bind (wpAny_bind (I.type.here ((looks_findIn X hs).here ?_)))))
  refine wpAny_bind (wpAny_askSetting (wpAny_ite ?_))
  have fin : wpAny M A (call (.builtin id) ([.ref x] ++ args) >>= fun v => pure (some v)) Q E s := wpAny_bind (wpAny_mono h (fun v s' h' => wpAny_pure h') fun _ _ h' => h')
  dsimp only
  rw [hb]
  split
  · exact wpAny_bind (wpAny_pure (wpAny_pure fin))
  · exact wpAny_tryCatch (wpAny_bind (wpAny_pure (wpAny_pure fin)))
open PySem.W in
theorem cmpNe_K {Q : Value → Shared → Prop} (hu : A.units + 1 < cLine) (X : K.In s.heap) (I : InstAt s.heap x ox C od) (hb : Looks (model prog w) s.heap (typeOf b) tb) (hn : notFirst K C tb = true) (e : EqC K C f)
    (h : wpAny (model prog w) A.in1 (call (.ref f) [.ref x, b]) (fun v s' => ∃ k, v = .bool k ∧ Q (.bool (!k)) s') E s) : wpAny (model prog w) A (richCompare .NotEq (.ref x) b) Q E s := by
  have hin : Looks (model prog w) s.heap (isInstance (.ref x) (.type "object")) true := I.type.andThen (looks_mroIn X e.ob)
  have body : wpAny (model prog w) A (call (.builtin "object.__ne__") [.ref x, b]) (fun v s' => ∃ k, v = .bool k ∧ Q (.bool k) s') E s := by
    refine wpAny_call (codeAny_call_builtin F.cmp_object.ne.plain F.cmpEntry_ne (check_slot F.cmpKind_ne F.cmpSplit_ne hin (F.cmpArgs_ne _ _) ?_))
    unfold Builtin.«object.__ne__»
    repeat (first
      | with_reducible refine wpAny_cRoomFor (show A.in1.units < cLine from hu) ?_
      | (refine wpAny_bind (m := callSpecialIfBound? (.ref x) (Str.ofString "__eq__") [b])
          (ifBound_K X I e.eq e.fn (wpAny_mono h (fun r s' hr => by
            obtain ⟨k, rfl, hq⟩ := hr
            repeat (first | exact ⟨_, rfl, hq⟩ | exact wpAny_pure ⟨_, rfl, hq⟩ | exact wpAny_truthy_bool ⟨_, rfl, hq⟩ | (refine wpAny_bind (m := truthy (.bool _)) (wpAny_truthy_bool ?_)) | wp_step)) fun _ _ e => e)))
      | wp_step)
  have one : wpAny (model prog w) A (tryCompare (.ref x) (cmpInfo .NotEq).2.1 b) (fun r s' => ∃ v, r = some v ∧ Q v s') E s := by
    unfold tryCompare
    refine wpAny_bind (ifBound_Kb X I e.ne (F.cmp_object.ne.bind _) (wpAny_mono body (fun v s' hv => ?_) fun _ _ e => e))
    obtain ⟨k, rfl, hq⟩ := hv
    exact wpAny_pure ⟨_, rfl, hq⟩
  have step : ∀ k : Option Value → Sem Value, (∀ v s', Q v s' → wpAny (model prog w) A (k (some v)) Q E s') → wpAny (model prog w) A (tryCompare (.ref x) (cmpInfo .NotEq).2.1 b >>= k) Q E s :=
    fun k hk => wpAny_bind (wpAny_mono one (fun r s' ⟨v, er, hq⟩ => er ▸ hk v s' hq) fun _ _ z => z)
  unfold richCompare
  simp only [oneThing_ref]
  refine wpAny_holding (wpAny_bind (wpAny_cRoomFor (Nat.lt_of_succ_lt hu) (wpAny_bind (I.type.here (wpAny_bind (hb.here ?_))))))
  split
  · rename_i q
    have sub : subIn K tb (.ref C) = some false := by
      unfold notFirst at hn
      cases z : (tb == .ref C) with
      | true => rw [beq_iff_eq.mp z] at q; simp at q
      | false => rw [z, Bool.false_or] at hn; exact beq_iff_eq.mp hn
    refine wpAny_bind (Looks.here (looks_subIn X sub) ?_)
    rw [if_neg Bool.false_ne_true]
    exact step _ fun v s' hq => wpAny_pure hq
  · refine wpAny_bind (wpAny_pure (s := s) ?_)
    rw [if_neg Bool.false_ne_true]
    exact step _ fun v s' hq => wpAny_pure hq
end
section
variable {X : Cx} {CX : CXT} {n : Nat} {g : Addr} {sp : Sp} {E : XK}
theorem op_ownEq (F : FnR X.prog X.w X.K X.mg X.base CX n g sp) (hr : Room n X.A) (hx : Passes CX X E) : OpR X (compareOp .Eq) (rOwnEq X.K g sp E) := by
  intro pins s σ H x y v u Q I rx ry h
  obtain ⟨a, C, dx, fs, tb, rfl, ha, e, ty, hn, q⟩ := h
  cases (show v = Value.ref a from rx)
  obtain ⟨mA, O, _⟩ := ins_get I.hok ha
  obtain ⟨od, J, _⟩ := O.look
  obtain ⟨m, hF⟩ := I.fr
  show wpAny _ _ (richCompare .Eq (.ref a) u) _ _ _
  refine PySem.W.cmp_K (op := .Eq) (tb := tb) hr.units0 hF I.ok.mod.kin J (looks_ty I ry ty) hn e.eq e.fn ?_
  refine wpAny_mono (wpAny_call (run_fnR (us := [.ref a, u]) (vs := [.ref a, y]) F hr hx I (.cons rfl (.cons ry .nil)) q)) (fun w s' z => ?_) fun _ _ x => x
  obtain ⟨z', H', I', rz, qz⟩ := z
  exact SlX.cmpback rz ⟨z', H', I', rz, qz⟩
theorem op_ownNe (F : FnR X.prog X.w X.K X.mg X.base CX n g sp) (hr : Room (n + 1) X.A) (hx : Passes CX X E) : OpR X (compareOp .NotEq) (rOwnNe X.K g sp E) := by
  intro pins s σ H x y v u Q I rx ry h
  obtain ⟨a, C, dx, fs, tb, rfl, ha, e, ty, hn, q⟩ := h
  cases (show v = Value.ref a from rx)
  obtain ⟨mA, O, _⟩ := ins_get I.hok ha
  obtain ⟨od, J, _⟩ := O.look
  show wpAny _ _ (richCompare .NotEq (.ref a) u) _ _ _
  refine cmpNe_K (tb := tb) (Nat.lt_of_le_of_lt (Nat.add_le_add_left (by decide : 1 ≤ 64) _) hr.units) I.kIn J (looks_ty I ry ty) hn e ?_
  refine wpAny_mono (wpAny_call (SlX.run_at (us := [.ref a, u]) (ws := [.ref a, y]) F hr.in1 I.env0.in1 hx I (.cons rfl (.cons ry .nil)) q)) (fun w s' z => ?_) fun _ _ x => x
  obtain ⟨z', H', I', rz, b, eb, qz⟩ := z
  subst eb
  cases (show w = Value.bool b from rz)
  exact ⟨b, rfl, .bl (!b), H', I', rfl, qz⟩
/-- str(o), o an instance whose class has its own __str__ at g -/
def rStrOwn (K : PySem.W.Frag) (g : Addr) (sp : Sp) (E : XK) : List V → Hp → VK → Prop := fun xs H Q => ∃ (a C dx : Addr) (fs : List (Str × V)), xs = [V.ref a] ∧ H a = some (.ins C dx fs) ∧ PySem.W.findIn K (.ref C) "__str__" = some (some (.ref g)) ∧ sp [.ref a] H (fun z H' => ∃ t, z = .str t ∧ Q z H') E
theorem call_strOwn (hf : PySem.W.isFn X.K (.ref g) = true) (F : FnR X.prog X.w X.K X.mg X.base CX n g sp) (hr : Room (n + 2) X.A) (hx : Passes CX X E) : CallR X (.type "str") (rStrOwn X.K g sp E) := by
  intro pins s σ H xs us Q I r h
  obtain ⟨a, C, dx, fs, rfl, ha, hs, q⟩ := h
  obtain ⟨u, rfl, ru⟩ := r.one
  cases (show u = Value.ref a from ru)
  obtain ⟨mA, O, _⟩ := ins_get I.hok ha
  obtain ⟨od, J, _⟩ := O.look
  have hr2 : Room n X.A.in1.in1 := (show Room (n + 1) X.A.in1 from Room.in1 hr).in1
  refine PySem.W.kso_call hr2.units0 I.kIn J hs hf (wpAny_mono (wpAny_call (SlX.run_at (us := [.ref a]) (ws := [.ref a]) F hr2 I.env0.in1.in1 hx I (.cons rfl .nil) q)) (fun w s' z => ?_) fun _ _ x => x)
  obtain ⟨z', H', I', rz, t, et, qz⟩ := z
  subst et
  obtain ⟨tk, e⟩ := (show ∃ tk, w = Value.str t tk from rz)
  cases e
  exact ⟨.str t, H', I', ⟨tk, rfl⟩, qz⟩
/-- repr(x), x a list or a tuple of data; of a text; the frame is under no repr -/
def rRepr (K : PySem.W.Frag) : List V → Hp → VK → Prop := fun xs H Q => ∃ (a : Addr) (d : PyData), xs = [V.ref a] ∧ Dp K H (.ref a) d ∧ d.showable = true ∧ d.hasDict = false ∧ d.depth ≤ 50 ∧ d.shown.length ≤ sizeLine ∧ Q (.str d.shown) H
theorem call_repr (hg : X.A.guards = some []) (hr : Room n X.A) : CallR X (.builtin "repr") (rRepr X.K) := by
  intro pins s σ H xs us Q I r h
  obtain ⟨a, d, rfl, dp, hs, hnd, hdep, hsz, q⟩ := h
  obtain ⟨u, rfl, ru⟩ := r.one
  cases (show u = Value.ref a from ru)
  obtain ⟨as, rd⟩ := Dp.reads I d _ _ dp (show RelV (.ref a) (Value.ref a) from rfl)
  have hu := hr.units
  exact repr_of_reads' rd hs (PyData.noDict_hsm hnd) hg (by omega) (fun _ _ e => e) (fun h' u tk hk => ⟨.str d.shown, H, I.kept hk, ⟨u, rfl⟩, q⟩) hsz
end
end L2
namespace L2
open PySem PySem.Spec PyProof.Rows
/-- a def of the module: its text, its name, how it binds -/
structure Dn (K : PySem.W.Frag) (mg : Str → Option Value) (x : Str) (st : Stmt) (ps : List Str) (f : Addr) (fd : FuncData) : Prop where
  F : Fun K x x st f fd
  g : mg x = some (.ref f)
  b : Binds K fd ps []
/-- a method -/
structure Mn (K : PySem.W.Frag) (x qual : Str) (st : Stmt) (ps : List Str) (f : Addr) (fd : FuncData) : Prop where
  F : Fun K x qual st f fd
  b : Binds K fd ps []
  fn : PySem.W.isFn K (.ref f) = true
/-- a method that says super(), written in the class at D -/
structure Sn (P : Program) (K : PySem.W.Frag) (x qual : Str) (st : Stmt) (ps : List Str) (f : Addr) (fd : FuncData) (D : Addr) : Prop where
  ex : ∃ (oc : Value) (od : Option Addr) (kV doc pm : Value) (an : Option Addr) (cda : Addr) (ct : Value) (osl : Array (Option Value)) (cc : Addr) (cl : Value) (cld : Option Addr) (csl : Array (Option Value)) (ccl : Value) (cdd : Option Addr) (vs : Array Value) (ccs : Array (Option Value)) (file : Str) (tf : Tok),
    fd = PySem.W.ksFn x qual (defArgs st) (defBody st) (defScope st) .none kV doc pm an (.ref cda) ct cc ∧ K.lookup f = some ⟨oc, od, .func fd, osl⟩ ∧ PySem.W.codeIn K (.ref cda) qual = true ∧ K.lookup cc = some ⟨cl, cld, .cell (some (.ref D)), csl⟩ ∧
    K.lookup cda = some ⟨ccl, cdd, .fields vs, ccs⟩ ∧ vs[2]? = some (.str file tf) ∧ ((P.main.file : Str) == file) = true
  b : Binds K fd ps []
  fn : PySem.W.isFn K (.ref f) = true
  kp : PySem.W.keepIn K (.ref f) = true
  fi : PySem.W.fnIn K f = true
/-- what super() asks of the module -/
structure SupT (P : Program) (K : PySem.W.Frag) (mg : Str → Option Value) : Prop where
  top : (P.main.scope.names.lookup ("super" : Str)).isSome = false
  mg : mg "super" = none
  opq : PySem.W.nsIn K cStatics "thirdparty.any" = some none
/-- a class, as instances ask for it -/
structure ClsT (K : PySem.W.Frag) (C : Addr) : Prop where
  cl : Cls K C
  ha : PySem.W.findIn K (.ref C) "__class__" = some (some (.builtin "object.__class__"))
  hn : PySem.W.specialIn K (.builtin "object.__class__") "__get__" = some (some (.builtin "getset_descriptor.__get__"))
  htk : PySem.W.takesIn K (.builtin "object.__class__") = some true
  hm : PySem.W.mroIn K C (.type "object") = some true
theorem ClsT.ty {K : PySem.W.Frag} {C a dx : Addr} {H : Hp} {fs : List (Str × V)} (c : ClsT K C) (h : H a = some (.ins C dx fs)) : TyX K H (.ref a) (.ref C) := .base (.ins h c.cl c.ha c.hn c.htk c.hm)
theorem kit_ownT {K : PySem.W.Frag} {t : Value} {C : Addr} {cd : ClassData} (h : PySem.W.clsIn K C = some cd) (ht : PySem.W.typeIn K (.ref C) = some (.type "type")) (hs : PySem.W.subIn K t (.ref C) = some true) : PySem.W.kitOne K t (.ref C) = some true := by
  unfold PySem.W.kitOne
  by_cases e : (t == .ref C) = true
  · rw [if_pos e]
  · rw [if_neg e]
    show (if ((PySem.W.clsIn K C).isSome && PySem.W.typeIn K (.ref C) == some (.type "type")) = true then PySem.W.subIn K t (.ref C) else none) = some true
    rw [h, ht]
    exact (if_pos rfl).trans hs
theorem kit_ownF {K : PySem.W.Frag} {n : String} {C : Addr} {cd : ClassData} (h : PySem.W.clsIn K C = some cd) (ht : PySem.W.typeIn K (.ref C) = some (.type "type")) (hs : PySem.W.subIn K (.type n) (.ref C) = some false) : PySem.W.kitOne K (.type n) (.ref C) = some false := by
  show (if ((PySem.W.clsIn K C).isSome && PySem.W.typeIn K (.ref C) == some (.type "type")) = true then PySem.W.subIn K (.type n) (.ref C) else none) = some false
  rw [h, ht]
  exact (if_pos rfl).trans hs
structure Cn (K : PySem.W.Frag) (mg : Str → Option Value) (x : Str) (C fI : Addr) : Prop where
  g : mg x = some (.ref C)
  t : ClsT K C
  m : Mk K C fI
section
variable {P : Program} {w : World} {K : PySem.W.Frag} {mg : Str → Option Value} {base : Heap}
theorem Sn.okX {CX : CXT} {x qual y : Str} {st : Stmt} {f D : Addr} {fd : FuncData} {N ps : List Str} {k : Nat} {sp : Sp} {ar : Arg} {cdD : ClassData} (F : Sn P K x qual st ps f fd D) (T : SupT P K mg) (S : FnScopeS N ps (defScope st)) (hD : PySem.W.clsIn K D = some cdD)
    (hp : ((defArgs st).posonlyargs ++ (defArgs st).args).head? = some ar) (hy : ar.arg = y) (hl : (defScope st).names.lookup y = some .local) (len : ∀ vs H Q E, sp vs H Q E → vs.length = ps.length)
    (hbody : ∀ (cdv : Value) (cc : Addr) (A : Around) (outer : List Env) (s : Shared) (H : Hp) (vs : List V) (Q : VK) (E : XK), Room k (A.deeper (PySem.W.ksEnv qual (defScope st) s.heap.objs.size f cdv cc)) →
      SupX (cxS CX P w K mg base N qual (defScope st) f cdv cc A outer s H E) D y → sp vs H Q E →
      ∃ t, PSsA (cxS CX P w K mg base N qual (defScope st) f cdv cc A outer s H E) (.func (defBody st) (PySem.W.ksEnv qual (defScope st) s.heap.objs.size f cdv cc)) (defBody st) t ∧ t { nx := fun _ H' => Q .non H', rt := Q } (start N vs) H) :
    FnOk P w K mg base CX (k + 1) f fd ps sp := by
  obtain ⟨oc, od, kV, doc, pm, an, cda, ct, osl, cc, cl, cld, csl, ccl, cdd, vs, ccs, file, tf, rfl, lk, hcd, hcc, hco, hvs, hfile⟩ := F.ex
  refine fnS_of hcc lk hcd S len fun A outer s H ws Q E hr hsp => ?_
  refine hbody (.ref cda) cc A outer s H ws Q E hr ⟨S.sup, S.cls, S.kind, ⟨f, oc, od, _, osl, ar, rfl, lk, hp, hy⟩, ⟨cda, ccl, cdd, vs, ccs, file, tf, rfl, hco, hvs, hfile⟩, T.top, T.mg, ⟨cc, cl, cld, csl, ?_, hcc⟩, ⟨cdD, hD⟩, hl, T.opq⟩ hsp
  show ([(("__class__" : Str), cc)] : List (Str × Addr)).lookup ("__class__" : Str) = some cc
  simp [List.lookup]
end
/-- all but the thing at p is as it was -/
def But (p : Addr) (H H' : Hp) : Prop := ∀ a o, a ≠ p → H a = some o → H' a = some o
theorem But.refl {p : Addr} (H : Hp) : But p H H := fun _ _ _ h => h
theorem But.trans {p : Addr} {H H1 H2 : Hp} (x : But p H H1) (y : But p H1 H2) : But p H H2 := fun a o n e => y a o n (x a o n e)
theorem Same.but {p : Addr} {H H1 : Hp} (e : Same H H1) : But p H H1 := fun a o _ h => e a o h
theorem But.upd {p : Addr} {H : Hp} {o : HO} : But p H (upd H p o) := fun a u n e => by rw [upd_ne n]; exact e
/-! ### the box of draws -/
abbrev boxO (w s c : Int) : HO := .lst [.int w, .int s, .int c]
def BoxAt (H : Hp) (b : Addr) : Prop := ∃ w s c : Int, H b = some (boxO w s c)
theorem BoxAt.same {H H' : Hp} {b : Addr} (e : Same H H') (h : BoxAt H b) : BoxAt H' b := let ⟨w, s, c, q⟩ := h; ⟨w, s, c, e _ _ q⟩
/-- the box at b may have changed, nothing else -/
structure Bx (b : Addr) (H H' : Hp) : Prop where
  kx : ∀ a o, a ≠ b → H a = some o → H' a = some o
  b0 : BoxAt H b
  b1 : BoxAt H' b
section
variable {H H1 H2 : Hp} {a b p : Addr} {o : HO}
theorem Bx.refl (h : BoxAt H b) : Bx b H H := ⟨fun _ _ _ e => e, h, h⟩
theorem Bx.trans (x : Bx b H H1) (y : Bx b H1 H2) : Bx b H H2 := ⟨fun c o n e => y.kx c o n (x.kx c o n e), x.b0, y.b1⟩
theorem Bx.same (x : Bx b H H1) (e : Same H1 H2) : Bx b H H2 := ⟨fun c o n q => e c o (x.kx c o n q), x.b0, x.b1.same e⟩
theorem Bx.upd {w s c : Int} (h : BoxAt H b) : Bx b H (upd H b (boxO w s c)) := ⟨fun a o n e => by rw [upd_ne n]; exact e, h, ⟨w, s, c, upd_same⟩⟩
theorem BoxAt.ne (h : BoxAt H b) (e : H a = some o) (z : fz o = true) : a ≠ b := fun q => by
  obtain ⟨w', s', c', hb⟩ := h
  rw [q, hb] at e
  cases e
  cases z
theorem Bx.kp (x : Bx b H H1) : Kp H H1 := fun a o e z => x.kx a o (x.b0.ne e z) e
theorem Bx.free (x : Bx b H H1) (h : H1 p = none) : H p = none := by
  cases q : H p with
  | none => rfl
  | some u =>
    by_cases hp : p = b
    · obtain ⟨w', s', c', hb⟩ := x.b1
      rw [hp, hb] at h
      cases h
    · rw [x.kx p u hp q] at h
      cases h
end
end L2
/-! values without addresses, and what they stand for -/
namespace S
open PySem L2
inductive D where
  | non
  | bl (b : Bool)
  | int (i : Int)
  | str (x : Str)
  | lst (xs : List D)
  | rls (xs : List D)
  | tup (xs : List D)
  | dct (ks : List Key) (ds : List D)
  | ins (c : Nat) (ns : List Str) (ds : List D)
  | ptr (i : Nat)
  | cls (c : Nat)
  | dkd (ks ds : List D)
  | ptp (xs : List D)
  | fn (a : Addr)
/-- a thing that may still change -/
inductive C where
  | lst (xs : List D)
  | dct (ks : List Key) (ds : List D)
  | dkd (ks ds : List D)
  | ins (c : Nat) (ns : List Str) (ds : List D)
  | tab (q : Str)
  | dead
abbrev Env := List (Option D)
abbrev Sto := List C
/-- the part of the heap that never changes any more; where the changing things lie; what is being made -/
structure Gh where
  fz : Hp
  rho : List Addr
  tmp : Hp
/-- where the classes lie, and the world -/
structure GA where
  at_ : Nat → Addr
  w : World
  ok : Hp → Prop
  mono : ∀ {f f' : Hp}, Same f f' → ok f → ok f'
instance : CoeFun GA fun _ => Nat → Addr := ⟨GA.at_⟩
mutual
/-- a value as a key of a dict by tuples -/
def nkD : D → Option NestedKey
  | .non => some .none
  | .bl b => some (.num (if b = true then 1 else 0))
  | .int i => some (.num i)
  | .str x => some (.text x)
  | .tup ds => (nkL ds).map .tup
  | _ => none
def nkL : List D → Option (List NestedKey)
  | [] => some []
  | d :: ds => (nkD d).bind fun k => (nkL ds).map fun ks => k :: ks
end
def nk8 : D → Option NestedKey
  | .tup ds => (nkD (.tup ds)).bind fun k => if k.depth ≤ 8 then some k else none
  | _ => none
/-- a dict by tuples at a: its keys, where they lie, the values -/
def DkO (w : World) (a : Addr) (xs : List (NestedKey × Addr × V)) : HO := .ext fun h => xs.length ≤ sizeLine ∧ (a == sysModules) = false ∧ (xs.map (·.1)).Nodup ∧
  ∃ us : List Value, Vals (xs.map (·.2.2)) us ∧ ∃ o es ep, h.get? a = some o ∧ o.ExactDict ∧ o.data = .dict es ep ∧ es.toList = (xs.zip us).map fun p => ⟨p.1.1.hash w, .ref p.1.2.1, p.2⟩
section
variable (K : PySem.W.Frag) (G : GA) (Z : Gh)
mutual
def Rep : D → V → Prop
  | .non, v => v = .non
  | .bl b, v => v = .bl b
  | .int i, v => v = .int i
  | .str x, v => v = .str x
  | .lst ds, v => ∃ a vs, v = .ref a ∧ Z.fz a = some (.lst vs) ∧ RepL ds vs
  | .rls ds, v => ∃ a vs, v = .ref a ∧ SqL K Z.fz a vs ∧ RepL ds vs
  | .tup ds, v => ∃ a vs, v = .ref a ∧ SqT K Z.fz a vs ∧ RepL ds vs
  | .dct ks ds, v => ∃ a vs, v = .ref a ∧ Rd Z.fz a (.dK (ks.zip vs)) ∧ ks.length = vs.length ∧ RepL ds vs
  | .ins c ns ds, v => ∃ a dx vs, v = .ref a ∧ Z.fz a = some (.ins (G c) dx (ns.zip vs)) ∧ ns.length = vs.length ∧ RepL ds vs
  | .ptr i, v => ∃ a, Z.rho[i]? = some a ∧ v = .ref a
  | .cls c, v => v = .ref (G c)
  | .dkd ks ds, v => ∃ a o xs, v = .ref a ∧ Z.fz a = some (.frz o (DkO G.w a xs)) ∧ ks.map nk8 = xs.map (fun x => some x.1) ∧ RepL ks (xs.map fun x => .ref x.2.1) ∧ RepL ds (xs.map (·.2.2))
  | .ptp ds, v => ∃ a o vs, v = .ref a ∧ Z.fz a = some (.frz o (.tup vs)) ∧ o.dict = none ∧ RepL ds vs
  | .fn a, v => v = .ref a
def RepL : List D → List V → Prop
  | [], vs => vs = []
  | d :: ds, vs => ∃ v r, vs = v :: r ∧ Rep d v ∧ RepL ds r
end
def RepE : Env → St → Prop
  | [], σ => σ = []
  | o :: r, σ => ∃ x τ, σ = x :: τ ∧ (match o with | some d => ∃ v, x = some v ∧ Rep K G Z d v | none => True) ∧ RepE r τ
def RepC (H : Hp) (a : Addr) : C → Prop
  | .lst ds => ∃ vs, H a = some (.lst vs) ∧ RepL K G Z ds vs
  | .dct ks ds => ∃ vs, H a = some (.dK (ks.zip vs)) ∧ ks.length = vs.length ∧ RepL K G Z ds vs
  | .dkd ks ds => ∃ xs, H a = some (DkO G.w a xs) ∧ ks.map nk8 = xs.map (fun x => some x.1) ∧ RepL K G Z ks (xs.map fun x => .ref x.2.1) ∧ RepL K G Z ds (xs.map (·.2.2))
  | .ins c ns ds => ∃ dx vs, H a = some (.ins (G c) dx (ns.zip vs)) ∧ ns.length = vs.length ∧ RepL K G Z ds vs
  | .tab q => a = G 999999 ∧ ∃ ps : Array Value, H a = some (.tbl ps) ∧ TriplesOk ps.toList ∧ ∀ (pos : Pos) (cv : Value), codeAmong pos ps.toList = some cv → ∃ c, cv = .ref c ∧ Z.fz c = some (LamX.CodeO c q)
  | .dead => True
def C.live : C → Bool
  | .dead => false
  | _ => true
structure RelH (H : Hp) (st : Sto) : Prop where
  fz : Same Z.fz H
  len : Z.rho.length = st.length
  cell : ∀ (i : Nat) (c : C) (a : Addr), st[i]? = some c → Z.rho[i]? = some a → RepC K G Z H a c
  off : ∀ (i : Nat) (c : C) (a : Addr), st[i]? = some c → c.live = true → Z.rho[i]? = some a → Z.fz a = none
  inj : ∀ (i j : Nat) (c c' : C) (a : Addr), st[i]? = some c → st[j]? = some c' → c.live = true → c'.live = true → Z.rho[i]? = some a → Z.rho[j]? = some a → i = j
  tmp : Same Z.tmp H
  tof : ∀ (a : Addr) (o : HO), Z.tmp a = some o → Z.fz a = none ∧ ∀ (i : Nat) (c : C), st[i]? = some c → c.live = true → Z.rho[i]? ≠ some a
  lk : G.ok Z.fz
end
structure Gh.le (Z Z' : Gh) : Prop where
  fz : Same Z.fz Z'.fz
  rho : ∃ r, Z'.rho = Z.rho ++ r
  tmp : Z'.tmp = Z.tmp
theorem Gh.le.refl (Z : Gh) : Z.le Z := ⟨Same.refl _, ⟨[], by simp⟩, rfl⟩
theorem Gh.le.trans {Z Z1 Z2 : Gh} (a : Z.le Z1) (b : Z1.le Z2) : Z.le Z2 := by
  obtain ⟨a1, ⟨r, e⟩, t⟩ := a
  obtain ⟨b1, ⟨r', e'⟩, t'⟩ := b
  exact ⟨a1.trans b1, ⟨r ++ r', by rw [e', e, List.append_assoc]⟩, t'.trans t⟩
/-- as far as values stand -/
structure Gh.ex (Z Z' : Gh) : Prop where
  fz : Same Z.fz Z'.fz
  rho : ∃ r, Z'.rho = Z.rho ++ r
theorem Gh.le.ex {Z Z' : Gh} (l : Z.le Z') : Z.ex Z' := ⟨l.fz, l.rho⟩
theorem Gh.ex.refl (Z : Gh) : Z.ex Z := (Gh.le.refl Z).ex
theorem Gh.ex.trans {Z Z1 Z2 : Gh} (a : Z.ex Z1) (b : Z1.ex Z2) : Z.ex Z2 := by
  obtain ⟨a1, ⟨r, e⟩⟩ := a
  obtain ⟨b1, ⟨r', e'⟩⟩ := b
  exact ⟨a1.trans b1, ⟨r ++ r', by rw [e', e, List.append_assoc]⟩⟩
theorem Same.rd {H H' : Hp} {a : Addr} {u : HO} (e : Same H H') (h : Rd H a u) : Rd H' a u := by
  rcases h with h | ⟨o, h⟩
  · exact .inl (e _ _ h)
  · exact .inr ⟨o, e _ _ h⟩
theorem Same.sqt' {K : PySem.W.Frag} {H H' : Hp} {a : Addr} {xs : List V} (e : Same H H') (h : SqT K H a xs) : SqT K H' a xs := by
  rcases h with (h | ⟨o, h⟩) | h
  · exact .inl (.inl (e _ _ h))
  · exact .inl (.inr ⟨o, e _ _ h⟩)
  · exact .inr h
section
variable {K : PySem.W.Frag} {G : GA} {Z Z' : Gh}
theorem Gh.ex.at (l : Z.ex Z') {i : Nat} {a : Addr} (h : Z.rho[i]? = some a) : Z'.rho[i]? = some a := by
  obtain ⟨_, ⟨r, e⟩⟩ := l
  rw [e, List.getElem?_append_left (List.getElem?_eq_some_iff.mp h).1]
  exact h
theorem Gh.le.at (l : Z.le Z') {i : Nat} {a : Addr} (h : Z.rho[i]? = some a) : Z'.rho[i]? = some a := l.ex.at h
mutual
theorem Rep.ux (l : Z.ex Z') : ∀ (d : D) (v : V), Rep K G Z d v → Rep K G Z' d v
  | .non, _, h => h
  | .bl _, _, h => h
  | .int _, _, h => h
  | .str _, _, h => h
  | .lst ds, _, ⟨a, vs, e, q, r⟩ => ⟨a, vs, e, l.fz _ _ q, RepL.ux l ds vs r⟩
  | .rls ds, _, ⟨a, vs, e, q, r⟩ => ⟨a, vs, e, l.fz.seq q, RepL.ux l ds vs r⟩
  | .tup ds, _, ⟨a, vs, e, q, r⟩ => ⟨a, vs, e, Same.sqt' l.fz q, RepL.ux l ds vs r⟩
  | .dct ks ds, _, ⟨a, vs, e, q, n, r⟩ => ⟨a, vs, e, Same.rd l.fz q, n, RepL.ux l ds vs r⟩
  | .ins c ns ds, _, ⟨a, dx, vs, e, q, n, r⟩ => ⟨a, dx, vs, e, l.fz _ _ q, n, RepL.ux l ds vs r⟩
  | .ptr i, _, ⟨a, q, e⟩ => ⟨a, l.at q, e⟩
  | .cls _, _, h => h
  | .dkd ks ds, _, ⟨a, o, xs, e, q, n, r, t⟩ => ⟨a, o, xs, e, l.fz _ _ q, n, RepL.ux l ks _ r, RepL.ux l ds _ t⟩
  | .ptp ds, _, ⟨a, o, vs, e, q, n, r⟩ => ⟨a, o, vs, e, l.fz _ _ q, n, RepL.ux l ds vs r⟩
  | .fn _, _, h => h
theorem RepL.ux (l : Z.ex Z') : ∀ (ds : List D) (vs : List V), RepL K G Z ds vs → RepL K G Z' ds vs
  | [], _, h => h
  | d :: ds, _, ⟨v, r, e, h, t⟩ => ⟨v, r, e, Rep.ux l d v h, RepL.ux l ds r t⟩
end
theorem RepE.ux (l : Z.ex Z') : ∀ (env : Env) (σ : St), RepE K G Z env σ → RepE K G Z' env σ
  | [], _, h => h
  | o :: r, _, ⟨x, τ, e, h, t⟩ => ⟨x, τ, e, by
      cases o with
      | none => trivial
      | some d => obtain ⟨v, e', q⟩ := h; exact ⟨v, e', q.ux l⟩, RepE.ux l r τ t⟩
theorem Rep.up (l : Z.le Z') (d : D) (v : V) (h : Rep K G Z d v) : Rep K G Z' d v := Rep.ux l.ex d v h
theorem RepL.up (l : Z.le Z') (ds : List D) (vs : List V) (h : RepL K G Z ds vs) : RepL K G Z' ds vs := RepL.ux l.ex ds vs h
theorem RepE.up (l : Z.le Z') (env : Env) (σ : St) (h : RepE K G Z env σ) : RepE K G Z' env σ := RepE.ux l.ex env σ h
theorem RepL.length : ∀ {ds : List D} {vs : List V}, RepL K G Z ds vs → ds.length = vs.length
  | [], _, h => by cases h; rfl
  | d :: ds, _, ⟨v, r, e, h, t⟩ => by cases e; simp [RepL.length t]
theorem RepE.length : ∀ {env : Env} {σ : St}, RepE K G Z env σ → env.length = σ.length
  | [], _, h => by cases h; rfl
  | d :: ds, _, ⟨v, r, e, h, t⟩ => by cases e; simp [RepE.length t]
theorem RepL.get : ∀ {ds : List D} {vs : List V} {i : Nat} {d : D}, RepL K G Z ds vs → ds[i]? = some d → ∃ v, vs[i]? = some v ∧ Rep K G Z d v
  | [], _, i, d, _, e => by simp at e
  | _ :: _, _, 0, _, ⟨v, r, e, h, t⟩, q => by cases e; simp at q; subst q; exact ⟨v, by simp, h⟩
  | _ :: ds, _, i + 1, d, ⟨v, r, e, h, t⟩, q => by
    cases e
    obtain ⟨u, h1, h2⟩ := RepL.get (i := i) (d := d) t (by simpa using q)
    exact ⟨u, by simpa using h1, h2⟩
theorem RepE.get : ∀ {env : Env} {σ : St} {i : Nat} {d : D}, RepE K G Z env σ → env[i]? = some (some d) → ∃ v, σ[i]? = some (some v) ∧ Rep K G Z d v
  | [], _, i, d, _, e => by simp at e
  | _ :: _, _, 0, d, ⟨v, r, e, h, t⟩, q => by
    cases e
    simp at q; subst q
    obtain ⟨v, rfl, q⟩ := h
    exact ⟨v, by simp, q⟩
  | _ :: ds, _, i + 1, d, ⟨v, r, e, h, t⟩, q => by
    cases e
    obtain ⟨u, h1, h2⟩ := RepE.get (i := i) (d := d) t (by simpa using q)
    exact ⟨u, by simpa using h1, h2⟩
theorem RepE.set {d : D} {v : V} (q : Rep K G Z d v) : ∀ {env : Env} {σ : St} (i : Nat), RepE K G Z env σ → RepE K G Z (env.set i (some d)) (σ.set i (some v))
  | [], _, _, h => by cases h; exact rfl
  | _ :: _, _, 0, ⟨x, r, e, h, t⟩ => by cases e; exact ⟨some v, r, rfl, ⟨v, rfl, q⟩, t⟩
  | _ :: _, _, i + 1, ⟨x, r, e, h, t⟩ => by cases e; exact ⟨x, _, rfl, h, RepE.set q i t⟩
theorem RepL.append : ∀ {ds es : List D} {vs us : List V}, RepL K G Z ds vs → RepL K G Z es us → RepL K G Z (ds ++ es) (vs ++ us)
  | [], _, _, _, h, q => by cases h; exact q
  | d :: ds, _, _, _, ⟨v, r, e, h, t⟩, q => by cases e; exact ⟨v, _, rfl, h, RepL.append t q⟩
theorem RepL.set {d : D} {v : V} (q : Rep K G Z d v) : ∀ {ds : List D} {vs : List V} (i : Nat), RepL K G Z ds vs → RepL K G Z (ds.set i d) (vs.set i v)
  | [], _, _, h => by cases h; exact rfl
  | _ :: _, _, 0, ⟨x, r, e, h, t⟩ => by cases e; exact ⟨v, r, rfl, q, t⟩
  | _ :: _, _, i + 1, ⟨x, r, e, h, t⟩ => by cases e; exact ⟨x, _, rfl, h, RepL.set q i t⟩
theorem RepL.take : ∀ {ds : List D} {vs : List V} (n : Nat), RepL K G Z ds vs → RepL K G Z (ds.take n) (vs.take n)
  | _, _, 0, _ => by simp [RepL]
  | [], _, _ + 1, h => by cases h; exact rfl
  | _ :: _, _, n + 1, ⟨v, r, e, h, t⟩ => by cases e; exact ⟨v, _, rfl, h, RepL.take n t⟩
theorem RepL.drop : ∀ {ds : List D} {vs : List V} (n : Nat), RepL K G Z ds vs → RepL K G Z (ds.drop n) (vs.drop n)
  | _, _, 0, h => h
  | [], _, _ + 1, h => by cases h; exact rfl
  | _ :: _, _, n + 1, ⟨v, r, e, h, t⟩ => by cases e; exact RepL.drop n t
theorem RepC.up (l : Z.le Z') {H : Hp} {a : Addr} : ∀ {c : C}, RepC K G Z H a c → RepC K G Z' H a c
  | .dkd ks ds, ⟨xs, e, n, r, t⟩ => ⟨xs, e, n, r.up l, t.up l⟩
  | .lst ds, ⟨vs, e, r⟩ => ⟨vs, e, r.up l⟩
  | .dct ks ds, ⟨vs, e, n, r⟩ => ⟨vs, e, n, r.up l⟩
  | .ins c ns ds, ⟨dx, vs, e, n, r⟩ => ⟨dx, vs, e, n, r.up l⟩
  | .tab q, ⟨e0, ps, e, n, k⟩ => ⟨e0, ps, e, n, fun pos cv z => by obtain ⟨c, e1, e2⟩ := k pos cv z; exact ⟨c, e1, l.fz _ _ e2⟩⟩
  | .dead, _ => trivial
theorem RepC.some_ {H : Hp} {a : Addr} : ∀ {c : C}, RepC K G Z H a c → c.live = true → ∃ o, H a = some o
  | .dkd ks ds, ⟨xs, e, _⟩, _ => ⟨_, e⟩
  | .lst ds, ⟨vs, e, r⟩, _ => ⟨_, e⟩
  | .dct ks ds, ⟨vs, e, n, r⟩, _ => ⟨_, e⟩
  | .ins c ns ds, ⟨dx, vs, e, n, r⟩, _ => ⟨_, e⟩
  | .tab q, ⟨_, _, e, _⟩, _ => ⟨_, e⟩
theorem RepC.congr {H H' : Hp} {a : Addr} (q : H' a = H a) : ∀ {c : C}, RepC K G Z H a c → RepC K G Z H' a c
  | .dkd ks ds, ⟨xs, e, r⟩ => ⟨xs, q.trans e, r⟩
  | .lst ds, ⟨vs, e, r⟩ => ⟨vs, q.trans e, r⟩
  | .dct ks ds, ⟨vs, e, n, r⟩ => ⟨vs, q.trans e, n, r⟩
  | .ins c ns ds, ⟨dx, vs, e, n, r⟩ => ⟨dx, vs, q.trans e, n, r⟩
  | .tab _, ⟨e0, ps, e, r⟩ => ⟨e0, ps, q.trans e, r⟩
  | .dead, _ => trivial
/-- a thing is laid that will never change -/
theorem RelH.lay {H : Hp} {st : Sto} {p : Addr} {o : HO} (R : RelH K G Z H st) (hp : H p = none) : Z.le ⟨upd Z.fz p o, Z.rho, Z.tmp⟩ ∧ RelH K G ⟨upd Z.fz p o, Z.rho, Z.tmp⟩ (upd H p o) st := by
  have zp : Z.fz p = none := R.fz.free hp
  have l : Z.le ⟨upd Z.fz p o, Z.rho, Z.tmp⟩ := ⟨fun b u e => by
    show upd Z.fz p o b = some u
    rw [upd_ne (ne_of_none e zp)]; exact e, ⟨[], by simp⟩, rfl⟩
  refine ⟨l, ⟨fun b u e => ?_, R.len, fun i c a e1 e2 => ?_, fun i c a e1 e2 e3 => ?_, R.inj, fun b u e => ?_, fun a u e => ?_, G.mono l.fz R.lk⟩⟩
  · have e' : upd Z.fz p o b = some u := e
    by_cases hb : b = p
    · subst hb; rw [upd_same] at e' ⊢; exact e'
    · rw [upd_ne hb] at e' ⊢; exact R.fz _ _ e'
  · have q := R.cell i c a e1 e2
    cases hc : c.live with
    | false => cases c <;> first | trivial | cases hc
    | true =>
      obtain ⟨u, hu⟩ := q.some_ hc
      exact (q.congr (upd_ne (ne_of_none hu hp))).up l
  · show upd Z.fz p o a = none
    obtain ⟨u, hu⟩ := (R.cell i c a e1 e3).some_ e2
    rw [upd_ne (ne_of_none hu hp)]; exact R.off i c a e1 e2 e3
  · rw [upd_ne (ne_of_none (R.tmp _ _ e) hp)]; exact R.tmp _ _ e
  · refine ⟨?_, (R.tof a u e).2⟩
    show upd Z.fz p o a = none
    rw [upd_ne (ne_of_none (R.tmp _ _ e) hp)]; exact (R.tof a u e).1
/-- what is new may lie ahead too -/
theorem RelH.more {H : Hp} {st : Sto} {p : Addr} {o : HO} (R : RelH K G Z H st) (hp : H p = none) : RelH K G Z (upd H p o) st := by
  refine ⟨fun b u e => ?_, R.len, fun i c a e1 e2 => ?_, R.off, R.inj, fun b u e => ?_, R.tof, R.lk⟩
  · rw [upd_ne (ne_of_none (R.fz _ _ e) hp)]; exact R.fz _ _ e
  · have q := R.cell i c a e1 e2
    cases hc : c.live with
    | false => cases c <;> first | trivial | cases hc
    | true =>
      obtain ⟨u, hu⟩ := q.some_ hc
      exact q.congr (upd_ne (ne_of_none hu hp))
  · rw [upd_ne (ne_of_none (R.tmp _ _ e) hp)]; exact R.tmp _ _ e
/-- a new thing that may change -/
theorem RelH.add {H : Hp} {st : Sto} {p : Addr} {o : HO} {c : C} (R : RelH K G Z H st) (hp : H p = none) (hc : ∀ Z', Z.le Z' → RepC K G Z' (upd H p o) p c) :
    Z.le ⟨Z.fz, Z.rho ++ [p], Z.tmp⟩ ∧ RelH K G ⟨Z.fz, Z.rho ++ [p], Z.tmp⟩ (upd H p o) (st ++ [c]) := by
  have l : Z.le ⟨Z.fz, Z.rho ++ [p], Z.tmp⟩ := ⟨Same.refl _, ⟨[p], rfl⟩, rfl⟩
  have R2 := R.more (o := o) hp
  have old : ∀ {i : Nat} {u : C}, (st ++ [c])[i]? = some u → st[i]? = some u ∧ (Z.rho ++ [p])[i]? = Z.rho[i]? ∨ i = st.length ∧ u = c := fun {i u} e => by
    by_cases hi : i < st.length
    · rw [List.getElem?_append_left hi] at e
      exact .inl ⟨e, List.getElem?_append_left (by rw [R.len]; exact hi)⟩
    · rw [List.getElem?_append_right (by omega)] at e
      have : i - st.length = 0 := by
        cases q : i - st.length with
        | zero => rfl
        | succ n => rw [q] at e; simp at e
      rw [this] at e
      simp at e
      exact .inr ⟨by omega, e.symm⟩
  have lastR : (Z.rho ++ [p])[st.length]? = some p := by rw [← R.len]; simp
  refine ⟨l, ⟨R2.fz, by simp [R.len], fun i u a e1 e2 => ?_, fun i u a e1 hu e2 => ?_, fun i j u u' a e1 e2 h1 h2 r1 r2 => ?_, R2.tmp, fun a u e => ⟨(R.tof a u e).1, fun i c' e1 hu => ?_⟩, R.lk⟩⟩
  · rcases old e1 with ⟨e, q⟩ | ⟨rfl, rfl⟩
    · exact (R2.cell i u a e (q ▸ e2)).up l
    · have : some p = some a := lastR.symm.trans e2
      cases this
      exact hc _ l
  · rcases old e1 with ⟨e, q⟩ | ⟨rfl, rfl⟩
    · exact R.off i u a e hu (q ▸ e2)
    · have : some p = some a := lastR.symm.trans e2
      cases this
      exact R.fz.free hp
  · have apart : ∀ {i : Nat} {u : C} {a : Addr}, st[i]? = some u → u.live = true → Z.rho[i]? = some a → a ≠ p := fun e h q z => by
      subst z
      obtain ⟨o', ho⟩ := (R.cell _ _ _ e q).some_ h
      rw [hp] at ho; cases ho
    rcases old e1 with ⟨e, q⟩ | ⟨rfl, rfl⟩
    · rcases old e2 with ⟨e', q'⟩ | ⟨rfl, rfl⟩
      · exact R.inj i j u u' a e e' h1 h2 (q ▸ r1) (q' ▸ r2)
      · have : some p = some a := lastR.symm.trans r2
        cases this
        exact (apart e h1 (q ▸ r1) rfl).elim
    · have : some p = some a := lastR.symm.trans r1
      cases this
      rcases old e2 with ⟨e', q'⟩ | ⟨rfl, rfl⟩
      · exact (apart e' h2 (q' ▸ r2) rfl).elim
      · rfl
  · rcases old e1 with ⟨e', q⟩ | ⟨rfl, rfl⟩
    · show (Z.rho ++ [p])[i]? ≠ some a
      rw [q]; exact (R.tof a u e).2 i c' e' hu
    · show (Z.rho ++ [p])[st.length]? ≠ some a
      rw [lastR]
      intro z
      cases z
      rw [R.tmp _ _ e] at hp; cases hp
/-- a changing thing is changed -/
theorem RelH.put {H : Hp} {st : Sto} {i : Nat} {p : Addr} {o : HO} {c c' : C} (R : RelH K G Z H st) (hi : st[i]? = some c) (hl : c.live = true) (hp : Z.rho[i]? = some p) (hc : RepC K G Z (upd H p o) p c') :
    RelH K G Z (upd H p o) (st.set i c') := by
  have lt : i < st.length := (List.getElem?_eq_some_iff.mp hi).1
  have zp := R.off i c p hi hl hp
  have alt : ∀ {j : Nat} {u : C}, (st.set i c')[j]? = some u → (j = i ∧ u = c') ∨ (j ≠ i ∧ st[j]? = some u) := fun {j u} e => by
    by_cases hj : j = i
    · subst hj
      rw [List.getElem?_set_self lt] at e
      cases e
      exact .inl ⟨rfl, rfl⟩
    · rw [List.getElem?_set_ne (Ne.symm hj)] at e
      exact .inr ⟨hj, e⟩
  have tne : ∀ {a : Addr} {u : HO}, Z.tmp a = some u → a ≠ p := fun {a u} e z => (R.tof a u e).2 i c hi hl (z ▸ hp)
  refine ⟨fun b u e => ?_, by rw [R.len]; simp, fun j u a e1 e2 => ?_, fun j u a e1 hu e2 => ?_, fun j k u u' a e1 e2 h1 h2 r1 r2 => ?_, fun b u e => ?_, fun a u e => ⟨(R.tof a u e).1, fun j u' e1 hu => ?_⟩, R.lk⟩
  · rw [upd_ne (ne_of_none e zp)]; exact R.fz _ _ e
  · rcases alt e1 with ⟨rfl, rfl⟩ | ⟨hj, e⟩
    · rw [hp] at e2; cases e2; exact hc
    · have q := R.cell j u a e e2
      cases hu : u.live with
      | false => cases u <;> first | trivial | cases hu
      | true =>
        refine q.congr (upd_ne ?_)
        rintro rfl
        exact hj (R.inj j i u c _ e hi hu hl e2 hp)
  · rcases alt e1 with ⟨rfl, rfl⟩ | ⟨hj, e⟩
    · rw [hp] at e2; cases e2; exact zp
    · exact R.off j u a e hu e2
  · rcases alt e1 with ⟨rfl, rfl⟩ | ⟨hj, e⟩
    · rcases alt e2 with ⟨rfl, rfl⟩ | ⟨hk, e'⟩
      · rfl
      · exact R.inj _ k c u' a hi e' hl h2 r1 r2
    · rcases alt e2 with ⟨rfl, rfl⟩ | ⟨hk, e'⟩
      · exact R.inj j _ u c a e hi h1 hl r1 r2
      · exact R.inj j k u u' a e e' h1 h2 r1 r2
  · rw [upd_ne (tne e)]; exact R.tmp _ _ e
  · rcases alt e1 with ⟨rfl, rfl⟩ | ⟨hj, e'⟩
    · exact (R.tof a u e).2 _ c hi hl
    · exact (R.tof a u e).2 j u' e' hu
end
/-! ### what is being made -/
section
variable {K : PySem.W.Frag} {G : GA} {Z : Gh} {H : Hp} {st : Sto} {p : Addr} {o o' : HO}
theorem RepC.fz {K : PySem.W.Frag} {G : GA} {fz : Hp} {rho : List Addr} {t t' : Hp} {H : Hp} {a : Addr} {c : C} (h : RepC K G ⟨fz, rho, t⟩ H a c) : RepC K G ⟨fz, rho, t'⟩ H a c := by
  have e : Gh.ex ⟨fz, rho, t⟩ ⟨fz, rho, t'⟩ := ⟨Same.refl _, ⟨[], by simp⟩⟩
  cases c with
  | lst ds => obtain ⟨vs, h1, r⟩ := h; exact ⟨vs, h1, RepL.ux e _ _ r⟩
  | dct ks ds => obtain ⟨vs, h1, n, r⟩ := h; exact ⟨vs, h1, n, RepL.ux e _ _ r⟩
  | dkd ks ds => obtain ⟨xs, h1, n, r, t⟩ := h; exact ⟨xs, h1, n, RepL.ux e _ _ r, RepL.ux e _ _ t⟩
  | ins c ns ds => obtain ⟨dx, vs, h1, n, r⟩ := h; exact ⟨dx, vs, h1, n, RepL.ux e _ _ r⟩
  | tab q => exact h
  | dead => trivial
theorem RelH.addTmp (R : RelH K G Z H st) (hp : H p = none) : RelH K G ⟨Z.fz, Z.rho, upd Z.tmp p o⟩ (upd H p o) st := by
  have R2 := R.more (o := o) hp
  refine ⟨R2.fz, R2.len, fun i c a e1 e2 => RepC.fz (R2.cell i c a e1 e2), R2.off, R2.inj, fun b u e => ?_, fun a u e => ?_, R.lk⟩
  · have e' : upd Z.tmp p o b = some u := e
    by_cases hb : b = p
    · subst hb; rw [upd_same] at e' ⊢; exact e'
    · rw [upd_ne hb] at e' ⊢; exact R.tmp _ _ e'
  · have e' : upd Z.tmp p o a = some u := e
    by_cases hb : a = p
    · subst hb
      refine ⟨R.fz.free hp, fun i c e1 hl q => ?_⟩
      obtain ⟨o', ho⟩ := (R.cell i c a e1 q).some_ hl
      rw [hp] at ho; cases ho
    · rw [upd_ne hb] at e'; exact R.tof a u e'
theorem RelH.setTmp (R : RelH K G Z H st) (hp : Z.tmp p = some o) : RelH K G ⟨Z.fz, Z.rho, upd Z.tmp p o'⟩ (upd H p o') st := by
  have off := R.tof p o hp
  refine ⟨fun b u e => ?_, R.len, fun i c a e1 e2 => ?_, R.off, R.inj, fun b u e => ?_, fun a u e => ?_, R.lk⟩
  · rw [upd_ne (ne_of_none e off.1)]; exact R.fz _ _ e
  · have q := R.cell i c a e1 e2
    cases hc : c.live with
    | false => cases c <;> first | trivial | cases hc
    | true =>
      refine RepC.fz (q.congr (upd_ne ?_))
      rintro rfl
      exact off.2 i c e1 hc e2
  · have e' : upd Z.tmp p o' b = some u := e
    by_cases hb : b = p
    · subst hb; rw [upd_same] at e' ⊢; exact e'
    · rw [upd_ne hb] at e' ⊢; exact R.tmp _ _ e'
  · have e' : upd Z.tmp p o' a = some u := e
    by_cases hb : a = p
    · subst hb; exact off
    · rw [upd_ne hb] at e'; exact R.tof a u e'
/-- it is made, and will not change -/
theorem RelH.tmpFz {t : Hp} (R : RelH K G Z H st) (ht : Z.tmp = upd t p o) (hn : t p = none) : RelH K G ⟨upd Z.fz p o, Z.rho, t⟩ H st ∧ Z.ex ⟨upd Z.fz p o, Z.rho, t⟩ := by
  have hp : Z.tmp p = some o := by rw [ht, upd_same]
  have off := R.tof p o hp
  have l : Z.ex ⟨upd Z.fz p o, Z.rho, t⟩ := ⟨fun b u e => by
    show upd Z.fz p o b = some u
    rw [upd_ne (ne_of_none e off.1)]; exact e, ⟨[], by simp⟩⟩
  have tt : ∀ {b : Addr} {u : HO}, t b = some u → Z.tmp b = some u ∧ b ≠ p := fun {b u} e => by
    have ne : b ≠ p := ne_of_none e hn
    exact ⟨by rw [ht, upd_ne ne]; exact e, ne⟩
  refine ⟨⟨fun b u e => ?_, R.len, fun i c a e1 e2 => ?_, fun i c a e1 hl e2 => ?_, R.inj, fun b u e => R.tmp _ _ (tt e).1, fun a u e => ⟨?_, (R.tof a u (tt e).1).2⟩, G.mono l.fz R.lk⟩, l⟩
  · have e' : upd Z.fz p o b = some u := e
    by_cases hb : b = p
    · subst hb; rw [upd_same] at e'; cases e'; exact R.tmp _ _ hp
    · rw [upd_ne hb] at e'; exact R.fz _ _ e'
  · have q := R.cell i c a e1 e2
    cases c with
    | lst ds => obtain ⟨vs, h1, r⟩ := q; exact ⟨vs, h1, RepL.ux l _ _ r⟩
    | dct ks ds => obtain ⟨vs, h1, n, r⟩ := q; exact ⟨vs, h1, n, RepL.ux l _ _ r⟩
    | dkd ks ds => obtain ⟨xs, h1, n, r, t⟩ := q; exact ⟨xs, h1, n, RepL.ux l _ _ r, RepL.ux l _ _ t⟩
    | ins c ns ds => obtain ⟨dx, vs, h1, n, r⟩ := q; exact ⟨dx, vs, h1, n, RepL.ux l _ _ r⟩
    | tab z => obtain ⟨e0, ps, h1, n, k⟩ := q; exact ⟨e0, ps, h1, n, fun pos cv y => by obtain ⟨c, q1, q2⟩ := k pos cv y; exact ⟨c, q1, l.fz _ _ q2⟩⟩
    | dead => trivial
  · show upd Z.fz p o a = none
    have ne : a ≠ p := fun z => off.2 i c e1 hl (by rw [← z]; exact e2)
    rw [upd_ne ne]; exact R.off i c a e1 hl e2
  · show upd Z.fz p o a = none
    rw [upd_ne (tt e).2]; exact (R.tof a u (tt e).1).1
/-- it is made, and may change on -/
theorem RelH.tmpC {t : Hp} {c : C} (R : RelH K G Z H st) (ht : Z.tmp = upd t p o) (hn : t p = none) (hc : ∀ Z', Z.ex Z' → RepC K G Z' H p c) : RelH K G ⟨Z.fz, Z.rho ++ [p], t⟩ H (st ++ [c]) ∧ Z.ex ⟨Z.fz, Z.rho ++ [p], t⟩ := by
  have hp : Z.tmp p = some o := by rw [ht, upd_same]
  have off := R.tof p o hp
  have l : Z.ex ⟨Z.fz, Z.rho ++ [p], t⟩ := ⟨Same.refl _, ⟨[p], rfl⟩⟩
  have tt : ∀ {b : Addr} {u : HO}, t b = some u → Z.tmp b = some u ∧ b ≠ p := fun {b u} e => by
    have ne : b ≠ p := ne_of_none e hn
    exact ⟨by rw [ht, upd_ne ne]; exact e, ne⟩
  have lastR : (Z.rho ++ [p])[st.length]? = some p := by rw [← R.len]; simp
  have old : ∀ {i : Nat} {u : C}, (st ++ [c])[i]? = some u → st[i]? = some u ∧ (Z.rho ++ [p])[i]? = Z.rho[i]? ∨ i = st.length ∧ u = c := fun {i u} e => by
    by_cases hi : i < st.length
    · rw [List.getElem?_append_left hi] at e
      exact .inl ⟨e, List.getElem?_append_left (by rw [R.len]; exact hi)⟩
    · rw [List.getElem?_append_right (by omega)] at e
      have : i - st.length = 0 := by
        cases q : i - st.length with
        | zero => rfl
        | succ n => rw [q] at e; simp at e
      rw [this] at e
      simp at e
      exact .inr ⟨by omega, e.symm⟩
  refine ⟨⟨R.fz, by simp [R.len], fun i u a e1 e2 => ?_, fun i u a e1 hu e2 => ?_, fun i j u u' a e1 e2 h1 h2 r1 r2 => ?_, fun b u e => R.tmp _ _ (tt e).1, fun a u e => ⟨(R.tof a u (tt e).1).1, fun i c' e1 hu => ?_⟩, R.lk⟩, l⟩
  · rcases old e1 with ⟨e, q⟩ | ⟨rfl, rfl⟩
    · have z := R.cell i u a e (q ▸ e2)
      cases u with
      | lst ds => obtain ⟨vs, h1, r⟩ := z; exact ⟨vs, h1, RepL.ux l _ _ r⟩
      | dct ks ds => obtain ⟨vs, h1, n, r⟩ := z; exact ⟨vs, h1, n, RepL.ux l _ _ r⟩
      | dkd ks ds => obtain ⟨xs, h1, n, r, t⟩ := z; exact ⟨xs, h1, n, RepL.ux l _ _ r, RepL.ux l _ _ t⟩
      | ins c ns ds => obtain ⟨dx, vs, h1, n, r⟩ := z; exact ⟨dx, vs, h1, n, RepL.ux l _ _ r⟩
      | tab y => exact z
      | dead => trivial
    · have : some p = some a := lastR.symm.trans e2
      cases this
      exact hc _ l
  · rcases old e1 with ⟨e, q⟩ | ⟨rfl, rfl⟩
    · exact R.off i u a e hu (q ▸ e2)
    · have : some p = some a := lastR.symm.trans e2
      cases this
      exact off.1
  · rcases old e1 with ⟨e, q⟩ | ⟨rfl, rfl⟩
    · rcases old e2 with ⟨e', q'⟩ | ⟨rfl, rfl⟩
      · exact R.inj i j u u' a e e' h1 h2 (q ▸ r1) (q' ▸ r2)
      · have : some p = some a := lastR.symm.trans r2
        cases this
        exact (off.2 i u e h1 (q ▸ r1)).elim
    · have : some p = some a := lastR.symm.trans r1
      cases this
      rcases old e2 with ⟨e', q'⟩ | ⟨rfl, rfl⟩
      · exact (off.2 j u' e' h2 (q' ▸ r2)).elim
      · rfl
  · rcases old e1 with ⟨e', q⟩ | ⟨rfl, rfl⟩
    · show (Z.rho ++ [p])[i]? ≠ some a
      rw [q]; exact (R.tof a u (tt e).1).2 i c' e' hu
    · show (Z.rho ++ [p])[st.length]? ≠ some a
      rw [lastR]
      intro z
      cases z
      exact (tt e).2 rfl
end
/-! ### what is no more reached may be forgotten -/
mutual
def below (n : Nat) : D → Bool
  | .lst xs => belowL n xs
  | .rls xs => belowL n xs
  | .tup xs => belowL n xs
  | .ptp xs => belowL n xs
  | .dct _ xs => belowL n xs
  | .dkd ks xs => belowL n ks && belowL n xs
  | .ins _ _ xs => belowL n xs
  | .ptr i => decide (i < n)
  | _ => true
def belowL (n : Nat) : List D → Bool
  | [] => true
  | d :: ds => below n d && belowL n ds
end
def belowC (n : Nat) : C → Bool
  | .lst xs => belowL n xs
  | .dkd ks xs => belowL n ks && belowL n xs
  | .dct _ xs => belowL n xs
  | .ins _ _ xs => belowL n xs
  | .tab _ => true
  | .dead => true
section
variable {K : PySem.W.Frag} {G : GA} {Z Z' : Gh}
mutual
theorem Rep.cut {n : Nat} (hf : Same Z.fz Z'.fz) (hr : ∀ i : Nat, i < n → Z'.rho[i]? = Z.rho[i]?) : ∀ (d : D) (v : V), below n d = true → Rep K G Z d v → Rep K G Z' d v
  | .non, _, _, h => h
  | .bl _, _, _, h => h
  | .int _, _, _, h => h
  | .str _, _, _, h => h
  | .lst ds, _, b, ⟨a, vs, e, q, r⟩ => ⟨a, vs, e, hf _ _ q, RepL.cut hf hr ds vs b r⟩
  | .rls ds, _, b, ⟨a, vs, e, q, r⟩ => ⟨a, vs, e, hf.seq q, RepL.cut hf hr ds vs b r⟩
  | .tup ds, _, b, ⟨a, vs, e, q, r⟩ => ⟨a, vs, e, Same.sqt' hf q, RepL.cut hf hr ds vs b r⟩
  | .dct ks ds, _, b, ⟨a, vs, e, q, m, r⟩ => ⟨a, vs, e, Same.rd hf q, m, RepL.cut hf hr ds vs b r⟩
  | .ins c ns ds, _, b, ⟨a, dx, vs, e, q, m, r⟩ => ⟨a, dx, vs, e, hf _ _ q, m, RepL.cut hf hr ds vs b r⟩
  | .ptr i, _, b, ⟨a, q, e⟩ => ⟨a, by rw [hr i (by unfold below at b; exact of_decide_eq_true b)]; exact q, e⟩
  | .cls _, _, _, h => h
  | .dkd ks ds, _, b, ⟨a, o, xs, e, q, m, r, t⟩ => by
    unfold below at b
    rw [Bool.and_eq_true] at b
    exact ⟨a, o, xs, e, hf _ _ q, m, RepL.cut hf hr ks _ b.1 r, RepL.cut hf hr ds _ b.2 t⟩
  | .ptp ds, _, b, ⟨a, o, vs, e, q, n, r⟩ => ⟨a, o, vs, e, hf _ _ q, n, RepL.cut hf hr ds vs b r⟩
  | .fn _, _, _, h => h
theorem RepL.cut {n : Nat} (hf : Same Z.fz Z'.fz) (hr : ∀ i : Nat, i < n → Z'.rho[i]? = Z.rho[i]?) : ∀ (ds : List D) (vs : List V), belowL n ds = true → RepL K G Z ds vs → RepL K G Z' ds vs
  | [], _, _, h => h
  | d :: ds, _, b, ⟨v, r, e, h, t⟩ => by
    unfold belowL at b
    rw [Bool.and_eq_true] at b
    exact ⟨v, r, e, Rep.cut hf hr d v b.1 h, RepL.cut hf hr ds r b.2 t⟩
end
theorem RepC.cut {n : Nat} (hf : Same Z.fz Z'.fz) (hr : ∀ i : Nat, i < n → Z'.rho[i]? = Z.rho[i]?) {H : Hp} {a : Addr} : ∀ {c : C}, belowC n c = true → RepC K G Z H a c → RepC K G Z' H a c
  | .dkd ks ds, b, ⟨xs, e, m, r, t⟩ => by
    unfold belowC at b
    rw [Bool.and_eq_true] at b
    exact ⟨xs, e, m, RepL.cut hf hr ks _ b.1 r, RepL.cut hf hr ds _ b.2 t⟩
  | .lst ds, b, ⟨vs, e, r⟩ => ⟨vs, e, RepL.cut hf hr ds vs b r⟩
  | .dct ks ds, b, ⟨vs, e, m, r⟩ => ⟨vs, e, m, RepL.cut hf hr ds vs b r⟩
  | .ins c ns ds, b, ⟨dx, vs, e, m, r⟩ => ⟨dx, vs, e, m, RepL.cut hf hr ds vs b r⟩
  | .tab q, _, ⟨e0, ps, e, m, k⟩ => ⟨e0, ps, e, m, fun pos cv z => by obtain ⟨c, e1, e2⟩ := k pos cv z; exact ⟨c, e1, hf _ _ e2⟩⟩
  | .dead, _, _ => trivial
/-- the changing things from n on are let go -/
theorem RelH.drop {H : Hp} {st : Sto} (R : RelH K G Z H st) (n : Nat) (hb : (st.take n).all (belowC n) = true) : RelH K G ⟨Z.fz, Z.rho.take n, Z.tmp⟩ H (st.take n) := by
  have g : ∀ {i : Nat} {c : C}, (st.take n)[i]? = some c → i < n ∧ st[i]? = some c := fun {i c} e => by
    have hi : i < (st.take n).length := (List.getElem?_eq_some_iff.mp e).1
    have hi' : i < n := by rw [List.length_take] at hi; omega
    rw [List.getElem?_take_of_lt hi'] at e
    exact ⟨hi', e⟩
  have r : ∀ {i : Nat} {a : Addr}, (Z.rho.take n)[i]? = some a → Z.rho[i]? = some a := fun {i a} e => by
    have hi : i < (Z.rho.take n).length := (List.getElem?_eq_some_iff.mp e).1
    have hi' : i < n := by rw [List.length_take] at hi; omega
    rw [List.getElem?_take_of_lt hi'] at e
    exact e
  refine ⟨R.fz, by rw [List.length_take, List.length_take, R.len], fun i c a e1 e2 => ?_, fun i c a e1 hu e2 => R.off i c a (g e1).2 hu (r e2), fun i j c c' a e1 e2 h1 h2 r1 r2 => R.inj i j c c' a (g e1).2 (g e2).2 h1 h2 (r r1) (r r2), R.tmp, fun a o e => ⟨(R.tof a o e).1, fun i c e1 hu q => (R.tof a o e).2 i c (g e1).2 hu (r q)⟩, R.lk⟩
  refine RepC.cut (Z := Z) (Z' := ⟨Z.fz, Z.rho.take n, Z.tmp⟩) (Same.refl _) (fun i hi => List.getElem?_take_of_lt hi) (n := n) ?_ (R.cell i c a (g e1).2 (r e2))
  exact List.all_eq_true.mp hb c (List.mem_of_getElem? e1)
end
end S
/-! what is reckoned with such values, and how readings follow from it -/
namespace S
open PySem L2
inductive R (α : Type) where
  | ok (a : α) (st : Sto)
  | exc (c : Nat) (ns : List Str) (ds : List D) (st : Sto)
  | stuck
def R.bind {α β : Type} (r : R α) (f : α → Sto → R β) : R β := match r with
  | .ok a st => f a st
  | .exc c ns ds st => .exc c ns ds st
  | .stuck => .stuck
inductive RS where
  | nx (env : Env) (st : Sto)
  | rt (d : D) (st : Sto)
  | bk (env : Env) (st : Sto)
  | ct (env : Env) (st : Sto)
  | exc (env : Env) (c : Nat) (ns : List Str) (ds : List D) (st : Sto)
  | stuck
abbrev M := Env → Sto → R D
abbrev MA := Env → Sto → R (List D)
abbrev MB := Env → Sto → R Bool
abbrev MS := Env → Sto → RS
section
variable (K : PySem.W.Frag) (G : GA)
def XOk (Z : Gh) (ns : List Str) (ds : List D) (x : Option Addr) : Prop :=
  (ns = [] ∧ ds = [] ∧ x = none) ∨ ∃ a vs, x = some a ∧ Z.fz a = some (.xd (ns.zip vs)) ∧ ns.length = vs.length ∧ RepL K G Z ds vs
def Post {α β : Type} (P : Gh → α → β → Prop) (E : XK) (Z : Gh) (r : R α) (Q : β → Hp → Prop) : Prop := match r with
  | .ok a st => ∀ Z' b H', Z.le Z' → RelH K G Z' H' st → P Z' a b → Q b H'
  | .exc c ns ds st => ∀ Z' H' x, Z.le Z' → RelH K G Z' H' st → XOk K G Z' ns ds x → E (.ref (G c)) x H'
  | .stuck => False
def tG {α β : Type} (P : Gh → α → β → Prop) (W : WX) (m : Env → Sto → R α) : St → Hp → (β → Hp → Prop) → Prop := fun σ H Q =>
  ∃ Z env st, RelH K G Z H st ∧ RepE K G Z env σ ∧ Post K G P (WE W σ) Z (m env st) Q
def rD : Gh → D → V → Prop := fun Z => Rep K G Z
def rL : Gh → List D → List V → Prop := fun Z => RepL K G Z
def rB : Gh → Bool → Bool → Prop := fun _ a b => a = b
abbrev tS (W : WX) (m : M) : TE := tG K G (rD K G) W m
abbrev tSA (W : WX) (m : MA) : TA := tG K G (rL K G) W m
abbrev tSB (W : WX) (m : MB) : TT := tG K G rB W m
def PostS (W : WX) (Z : Gh) (r : RS) (Dn : Ends) : Prop := match r with
  | .nx env st => ∀ Z' σ H, Z.le Z' → RelH K G Z' H st → RepE K G Z' env σ → Dn.nx σ H
  | .rt d st => ∀ Z' v H, Z.le Z' → RelH K G Z' H st → Rep K G Z' d v → Dn.rt v H
  | .bk env st => ∀ Z' σ H, Z.le Z' → RelH K G Z' H st → RepE K G Z' env σ → Dn.bk σ H
  | .ct env st => ∀ Z' σ H, Z.le Z' → RelH K G Z' H st → RepE K G Z' env σ → Dn.ct σ H
  | .exc env c ns ds st => ∀ Z' σ H x, Z.le Z' → RelH K G Z' H st → RepE K G Z' env σ → XOk K G Z' ns ds x → W (.ref (G c)) x σ H
  | .stuck => False
def tSS (W : WX) (m : MS) : TS := fun Dn σ H => ∃ Z env st, RelH K G Z H st ∧ RepE K G Z env σ ∧ PostS K G W Z (m env st) Dn
end
section
variable {K : PySem.W.Frag} {G : GA} {α β γ δ : Type} {P : Gh → α → β → Prop} {P' : Gh → γ → δ → Prop} {E : XK} {Z Z' : Gh} {W : WX}
theorem Post.up {r : R α} {Q : β → Hp → Prop} (l : Z.le Z') (h : Post K G P E Z r Q) : Post K G P E Z' r Q := by
  cases r with
  | ok a st => exact fun Z2 b H l2 => h Z2 b H (l.trans l2)
  | exc c ns ds st => exact fun Z2 H x l2 => h Z2 H x (l.trans l2)
  | stuck => exact h
theorem PostS.up {r : RS} {Dn : Ends} (l : Z.le Z') (h : PostS K G W Z r Dn) : PostS K G W Z' r Dn := by
  cases r with
  | nx env st => exact fun Z2 b H l2 => h Z2 b H (l.trans l2)
  | rt d st => exact fun Z2 b H l2 => h Z2 b H (l.trans l2)
  | bk env st => exact fun Z2 b H l2 => h Z2 b H (l.trans l2)
  | ct env st => exact fun Z2 b H l2 => h Z2 b H (l.trans l2)
  | exc env c ns ds st => exact fun Z2 σ H x l2 => h Z2 σ H x (l.trans l2)
  | stuck => exact h
/-- one thing behind another -/
theorem Post.bind {r : R α} {f : α → Sto → R γ} {Q : δ → Hp → Prop} {Q1 : β → Hp → Prop} (h : Post K G P' E Z (r.bind f) Q)
    (k : ∀ a st Z' b H', Z.le Z' → RelH K G Z' H' st → P Z' a b → Post K G P' E Z' (f a st) Q → Q1 b H') : Post K G P E Z r Q1 := by
  cases r with
  | ok a st => exact fun Z2 b H l R p => k a st Z2 b H l R p (Post.up l h)
  | exc c ns ds st => exact h
  | stuck => exact h
/-- the thing itself is wanted -/
theorem Post.now {a : α} {st : Sto} {Q : β → Hp → Prop} {b : β} {H : Hp} (h : Post K G P E Z (.ok a st) Q) (R : RelH K G Z H st) (p : P Z a b) : Q b H := h Z b H (Gh.le.refl Z) R p
theorem Post.imp {r : R α} {Q Q1 : β → Hp → Prop} (h : Post K G P E Z r Q) (k : ∀ b H, Q b H → Q1 b H) : Post K G P E Z r Q1 := by
  cases r with
  | ok a st => exact fun Z2 b H l R p => k _ _ (h Z2 b H l R p)
  | exc c ns ds st => exact h
  | stuck => exact h
end
/-! ### readings may be made narrower -/
section
variable {X : Cx} {e : Expr} {es : List Expr}
theorem pe_of {t t' : TE} (h : PE X e t) (k : ∀ σ H Q, t' σ H Q → t σ H Q) : PE X e t' := ⟨fun pins s σ H Q I q => h.run pins s σ H Q I (k σ H Q q)⟩
theorem pt_of {t t' : TT} (h : PT X e t) (k : ∀ σ H Q, t' σ H Q → t σ H Q) : PT X e t' := ⟨fun pins s σ H Q I q => h.run pins s σ H Q I (k σ H Q q)⟩
theorem pw_of {t t' : TT} (h : PW X e t) (k : ∀ σ H Q, t' σ H Q → t σ H Q) : PW X e t' := ⟨fun wh pins s σ H Q I q => h.run wh pins s σ H Q I (k σ H Q q)⟩
theorem pa_of {t t' : TA} (h : PA X es t) (k : ∀ σ H Q, t' σ H Q → t σ H Q) : PA X es t' := ⟨fun pos pins s σ H Q I q => h.run pos pins s σ H Q I (k σ H Q q)⟩
theorem ps_of {st : Stmt} {t t' : TS} (h : PS X st t) (k : ∀ Dn σ H, t' Dn σ H → t Dn σ H) : PS X st t' := ⟨fun pins s σ H Dn I q => h.run pins s σ H Dn I (k Dn σ H q)⟩
theorem pss_of {st : List Stmt} {t t' : TS} (h : PSs X st t) (k : ∀ Dn σ H, t' Dn σ H → t Dn σ H) : PSs X st t' := ⟨fun pins s σ H Dn I q => h.run pins s σ H Dn I (k Dn σ H q)⟩
theorem OpR.or {f : Value → Value → Sem Value} {r r' : R2} (h : OpR X f r) (h' : OpR X f r') : OpR X f (fun x y H Q => r x y H Q ∨ r' x y H Q) := fun pins s σ H x y v u Q I a b q => q.elim (h pins s σ H x y v u Q I a b) (h' pins s σ H x y v u Q I a b)
theorem CallR.or {f : Value} {r r' : List V → Hp → VK → Prop} (h : CallR X f r) (h' : CallR X f r') : CallR X f (fun xs H Q => r xs H Q ∨ r' xs H Q) := fun pins s σ H xs us Q I a q => q.elim (h pins s σ H xs us Q I a) (h' pins s σ H xs us Q I a)
theorem IxR.or' {r r' : R2} (h : IxR X r) (h' : IxR X r') : IxR X (fun x y H Q => r x y H Q ∨ r' x y H Q) := fun a b pins s σ H x y v u Q I p q z => z.elim (h a b pins s σ H x y v u Q I p q) (h' a b pins s σ H x y v u Q I p q)
end
/-! ### names, constants, arguments -/
def mVar (i : Nat) : M := fun env st => match env[i]? with
  | some (some d) => .ok d st
  | _ => .stuck
def mC (d : D) : M := fun _ st => .ok d st
def mNil : MA := fun _ st => .ok [] st
def mCons (m : M) (n : MA) : MA := fun env st => (m env st).bind fun a st1 => (n env st1).bind fun r st2 => .ok (a :: r) st2
section
variable {K : PySem.W.Frag} {G : GA} {W : WX} {σ : St} {H : Hp}
theorem rs_var {i : Nat} {Q : VK} (h : tS K G W (mVar i) σ H Q) : tVar i σ H Q := by
  obtain ⟨Z, env, st, R, S, h⟩ := h
  unfold mVar at h
  split at h
  · rename_i d e
    obtain ⟨v, e1, r⟩ := S.get e
    exact ⟨v, e1, h.now R r⟩
  · exact h.elim
theorem rs_c {d : D} {v : V} {Q : VK} (hv : ∀ Z, Rep K G Z d v) (h : tS K G W (mC d) σ H Q) : tC v σ H Q := by
  obtain ⟨Z, env, st, R, S, h⟩ := h
  exact Post.now (P := rD K G) h R (hv Z)
/-- one behind another, in a reading -/
theorem rs_bind {α β γ δ : Type} {P : Gh → α → β → Prop} {P' : Gh → γ → δ → Prop} {m : Env → Sto → R α} {f : α → Env → Sto → R γ} {Q : δ → Hp → Prop} {Q1 : β → Hp → Prop} (h : tG K G P' W (fun env st => (m env st).bind fun a st1 => f a env st1) σ H Q)
    (k : ∀ a b H1 Z env st, RelH K G Z H1 st → RepE K G Z env σ → P Z a b → Post K G P' (WE W σ) Z (f a env st) Q → Q1 b H1) : tG K G P W m σ H Q1 := by
  obtain ⟨Z, env, st, R, S, h⟩ := h
  exact ⟨Z, env, st, R, S, h.bind fun a st' Z' b H' l R' p q => k a b H' Z' env st' R' (S.up l) p q⟩
theorem rs_nil {Q : List V → Hp → Prop} (h : tSA K G W mNil σ H Q) : tNil σ H Q := by
  obtain ⟨Z, env, st, R, S, h⟩ := h
  exact Post.now (P := rL K G) h R (show RepL K G Z [] [] from rfl)
theorem rs_cons {m : M} {n : MA} {Q : List V → Hp → Prop} (h : tSA K G W (mCons m n) σ H Q) : tCons (tS K G W m) (tSA K G W n) σ H Q := by
  refine rs_bind (f := fun a env st1 => (n env st1).bind fun r st2 => .ok (a :: r) st2) h fun a x H1 Z env st R S p q => ?_
  refine ⟨Z, env, st, R, S, q.bind fun r st' Z' xs H' l R' p' q' => ?_⟩
  exact q'.now R' ⟨x, xs, rfl, Rep.up l a x p, p'⟩
variable {X : Cx} {e : Expr} {es : List Expr}
theorem pS_var (i : Nat) {x : Str} {pos : Pos} (h : PE X (.Name x pos) (tVar i)) : PE X (.Name x pos) (tS K G W (mVar i)) := pe_of h fun _ _ _ => rs_var
theorem pS_int {i j pos} : PE X (.Constant (.int i) j pos) (tS K G W (mC (.int i))) := pe_of pe_int fun _ _ _ => rs_c fun _ => rfl
theorem pS_bl {b j pos} : PE X (.Constant (.bool b) j pos) (tS K G W (mC (.bl b))) := pe_of pe_bl fun _ _ _ => rs_c fun _ => rfl
theorem pS_str {x j pos} : PE X (.Constant (.str x) j pos) (tS K G W (mC (.str x))) := pe_of pe_str fun _ _ _ => rs_c fun _ => rfl
theorem pS_glob {x : Str} {d : D} {v : V} {u : Value} {pos : Pos} (hg : Gl X x) (hm : X.mg x = some u) (r : RelV v u) (hv : ∀ Z, Rep K G Z d v) (hd : (x == ("__debug__" : Str)) = false := by decide) : PE X (.Name x pos) (tS K G W (mC d)) := pe_of (pe_glob hg hm r hd) fun _ _ _ => rs_c hv
theorem pSA_nil : PA X [] (tSA K G W mNil) := pa_of pa_nil fun _ _ _ => rs_nil
theorem pSA_cons {m : M} {n : MA} (h : PE X e (tS K G W m)) (h' : PA X es (tSA K G W n)) (hs : starEach (e :: es) X.env = (false, eval e X.env) :: starEach es X.env := by rfl) : PA X (e :: es) (tSA K G W (mCons m n)) := pa_of (pa_cons h h' hs) fun _ _ _ => rs_cons
end
/-! ### statements -/
def mNext : MS := fun env st => .nx env st
def mSeq (a b : MS) : MS := fun env st => match a env st with
  | .nx env' st' => b env' st'
  | r => r
def mDo (m : M) : MS := fun env st => match m env st with
  | .ok _ st' => .nx env st'
  | .exc c ns ds st' => .exc env c ns ds st'
  | .stuck => .stuck
def mRet (m : M) : MS := fun env st => match m env st with
  | .ok d st' => .rt d st'
  | .exc c ns ds st' => .exc env c ns ds st'
  | .stuck => .stuck
def mIfS (c : MB) (a b : MS) : MS := fun env st => match c env st with
  | .ok k st' => if k = true then a env st' else b env st'
  | .exc c ns ds st' => .exc env c ns ds st'
  | .stuck => .stuck
def mSet (i : Nat) (m : M) : MS := fun env st => match m env st with
  | .ok d st' => .nx (env.set i (some d)) st'
  | .exc c ns ds st' => .exc env c ns ds st'
  | .stuck => .stuck
section
variable {K : PySem.W.Frag} {G : GA} {W : WX} {X : Cx} {e : Expr} {st : Stmt} {rest : List Stmt} {Dn : Ends} {σ : St} {H : Hp}
theorem rs_seq {a b : MS} (h : tSS K G W (mSeq a b) Dn σ H) : tSeq (tSS K G W a) (tSS K G W b) Dn σ H := by
  obtain ⟨Z, env, st, R, S, h⟩ := h
  refine ⟨Z, env, st, R, S, ?_⟩
  unfold mSeq at h
  cases q : a env st with
  | nx env' st' => rw [q] at h; exact fun Z' σ' H' l R' S' => ⟨Z', env', st', R', S', PostS.up l h⟩
  | rt d st' => rw [q] at h; exact h
  | bk env' st' => rw [q] at h; exact h
  | ct env' st' => rw [q] at h; exact h
  | exc env' c ns ds st' => rw [q] at h; exact h
  | stuck => rw [q] at h; exact h
theorem pSs_nil : PSs X [] (tSS K G W mNext) := pss_of pss_nil fun Dn σ H ⟨Z, env, st, R, S, h⟩ => h Z σ H (Gh.le.refl Z) R S
theorem pSs_cons {a b : MS} (h : PS X st (tSS K G W a)) (h' : PSs X rest (tSS K G W b)) : PSs X (st :: rest) (tSS K G W (mSeq a b)) := pss_of (pss_cons h h') fun _ _ _ => rs_seq
theorem pSs_one {a : MS} (h : PS X st (tSS K G W a)) : PSs X [st] (tSS K G W a) := pss_one h
/-- from an expression to what follows it -/
theorem post_stm {m : M} {Q : VK} {f : D → Sto → RS} {env : Env} {st : Sto} {Z : Gh} (S : RepE K G Z env σ) (h : PostS K G W Z (match m env st with
  | .ok d st' => f d st'
  | .exc c ns ds st' => .exc env c ns ds st'
  | .stuck => .stuck) Dn) (k : ∀ d st' Z' v H', Z.le Z' → RelH K G Z' H' st' → Rep K G Z' d v → PostS K G W Z' (f d st') Dn → Q v H') : Post K G (rD K G) (WE W σ) Z (m env st) Q := by
  cases q : m env st with
  | ok d st' => rw [q] at h; exact fun Z' v H' l R' r => k d st' Z' v H' l R' r (PostS.up l h)
  | exc c ns ds st' => rw [q] at h; exact fun Z' H' x l R' r => h Z' σ H' x l R' (S.up l) r
  | stuck => rw [q] at h; exact h
theorem pS_do {m : M} {pos : Pos} (h : PE X e (tS K G W m)) (hs : swapsWith e none pos.line X.env = pure false := by rfl) : PS X (.Expr e pos) (tSS K G W (mDo m)) :=
  ps_of (ps_expr h hs) fun Dn σ H ⟨Z, env, st, R, S, h⟩ => ⟨Z, env, st, R, S, post_stm (f := fun _ st' => .nx env st') S h fun d st' Z' v H' l R' r q => q Z' σ H' (Gh.le.refl _) R' (S.up l)⟩
theorem pS_ret {m : M} {pos : Pos} (h : PE X e (tS K G W m)) : PS X (.Return (some e) pos) (tSS K G W (mRet m)) :=
  ps_of (ps_ret h) fun Dn σ H ⟨Z, env, st, R, S, h⟩ => ⟨Z, env, st, R, S, post_stm (f := fun d st' => .rt d st') S h fun d st' Z' v H' l R' r q => q Z' v H' (Gh.le.refl _) R' r⟩
theorem pS_set {m : M} {i : Nat} {x : Str} {pos pos' : Pos} (hN : X.N.Nodup) (hi : X.N[i]? = some x) (hx : Loc X.env.scope x) (he : PE X e (tS K G W m)) (hs : swapsWith e (some (.Name x pos')) pos.line X.env = pure false := by rfl)
    (hf : X.fn x = true ∨ X.env.scope.names.lookup x = some .local := by first | exact .inl rfl | exact .inr rfl | assumption) : PS X (.Assign [.Name x pos'] e pos) (tSS K G W (mSet i m)) :=
  ps_of (ps_set (i := i) hN hi hx he hs hf) fun Dn σ H ⟨Z, env, st, R, S, h⟩ => ⟨Z, env, st, R, S, post_stm (f := fun d st' => .nx (env.set i (some d)) st') S h fun d st' Z' v H' l R' r q => q Z' _ H' (Gh.le.refl _) R' ((S.up l).set r i)⟩
theorem pS_if {c : Expr} {a b : List Stmt} {mc : MB} {ma mb : MS} {pos : Pos} (hc : PT X c (tSB K G W mc)) (ha : PSs X a (tSS K G W ma)) (hb : PSs X b (tSS K G W mb)) : PS X (.If c a b pos) (tSS K G W (mIfS mc ma mb)) :=
  ps_of (ps_if hc ha hb) fun Dn σ H ⟨Z, env, st, R, S, h⟩ => by
    refine ⟨Z, env, st, R, S, ?_⟩
    unfold mIfS at h
    cases q : mc env st with
    | ok k st' =>
      rw [q] at h
      intro Z' b' H' l R' e
      cases (show k = b' from e)
      cases k with
      | true => exact iteT ⟨Z', env, st', R', S.up l, PostS.up l h⟩
      | false => exact iteF ⟨Z', env, st', R', S.up l, PostS.up l h⟩
    | exc c ns ds st' => rw [q] at h; exact fun Z' H' x l R' r => h Z' σ H' x l R' (S.up l) r
    | stuck => rw [q] at h; exact h
end
/-! ### tests -/
def mTest (m : M) : MB := fun env st => (m env st).bind fun d st' => match d with
  | .bl b => .ok b st'
  | _ => .stuck
def mNotB (m : MB) : MB := fun env st => (m env st).bind fun b st' => .ok (!b) st'
def mAndB (m n : MB) : MB := fun env st => (m env st).bind fun b st' => if b = true then n env st' else .ok false st'
def mOrB (m n : MB) : MB := fun env st => (m env st).bind fun b st' => if b = true then .ok true st' else n env st'
def mIf (c : MB) (a b : M) : M := fun env st => (c env st).bind fun k st' => if k = true then a env st' else b env st'
def mAnd (m n : M) : M := fun env st => (m env st).bind fun d st' => match d with
  | .bl b => if b = true then n env st' else .ok (.bl false) st'
  | _ => .stuck
def mOr (m n : M) : M := fun env st => (m env st).bind fun d st' => match d with
  | .bl b => if b = true then .ok (.bl true) st' else n env st'
  | _ => .stuck
/-- what a changing thing is now -/
def rd (st : Sto) : D → D
  | .ptr i => match st[i]? with
    | some (.lst xs) => .lst xs
    | some (.dct ks ds) => .dct ks ds
    | some (.dkd ks ds) => .dkd ks ds
    | some (.ins c ns ds) => .ins c ns ds
    | _ => .ptr i
  | d => d
def truthD (st : Sto) (d : D) : Option Bool := match rd st d with
  | .non => some false
  | .bl b => some b
  | .int i => some (i != 0)
  | .str x => if x.length ≤ sizeLine then some ((x.length : Int) != 0) else none
  | .lst xs => some (!xs.isEmpty)
  | .rls xs => some (!xs.isEmpty)
  | .tup xs => some (!xs.isEmpty)
  | _ => none
def mTru (m : M) : MB := fun env st => (m env st).bind fun d st' => match truthD st' d with
  | some b => .ok b st'
  | none => .stuck
section
variable {K : PySem.W.Frag} {G : GA} {W : WX} {Z : Gh} {H : Hp} {st : Sto} {d : D} {v : V}
theorem RelH.lst {xs : List D} (R : RelH K G Z H st) (r : Rep K G Z d v) (e : rd st d = .lst xs) : ∃ p vs, v = .ref p ∧ H p = some (.lst vs) ∧ RepL K G Z xs vs := by
  cases d with
  | ptr i =>
    obtain ⟨a, ha, rfl⟩ := r
    unfold rd at e
    dsimp only at e
    split at e <;> first | cases e | skip
    rename_i q
    obtain ⟨vs, h1, h2⟩ := R.cell _ _ _ q ha
    exact ⟨a, vs, rfl, h1, h2⟩
  | lst ys =>
    cases (show D.lst ys = .lst xs from e)
    obtain ⟨a, vs, rfl, h, q⟩ := r
    exact ⟨a, vs, rfl, R.fz _ _ h, q⟩
  | _ => cases e
theorem RelH.ins {c : Nat} {ns : List Str} {ds : List D} (R : RelH K G Z H st) (r : Rep K G Z d v) (e : rd st d = .ins c ns ds) : ∃ p dx vs, v = .ref p ∧ H p = some (.ins (G c) dx (ns.zip vs)) ∧ ns.length = vs.length ∧ RepL K G Z ds vs := by
  cases d with
  | ptr i =>
    obtain ⟨a, ha, rfl⟩ := r
    unfold rd at e
    dsimp only at e
    split at e <;> first | cases e | skip
    rename_i q
    obtain ⟨dx, vs, h1, h2, h3⟩ := R.cell _ _ _ q ha
    exact ⟨a, dx, vs, rfl, h1, h2, h3⟩
  | ins c' ns' ds' =>
    cases (show D.ins c' ns' ds' = .ins c ns ds from e)
    obtain ⟨a, dx, vs, rfl, h, q, r⟩ := r
    exact ⟨a, dx, vs, rfl, R.fz _ _ h, q, r⟩
  | _ => cases e
theorem RelH.dct {ks : List Key} {ds : List D} (R : RelH K G Z H st) (r : Rep K G Z d v) (e : rd st d = .dct ks ds) : ∃ p vs, v = .ref p ∧ Rd H p (.dK (ks.zip vs)) ∧ ks.length = vs.length ∧ RepL K G Z ds vs := by
  cases d with
  | ptr i =>
    obtain ⟨a, ha, rfl⟩ := r
    unfold rd at e
    dsimp only at e
    split at e <;> first | cases e | skip
    rename_i q
    obtain ⟨vs, h1, h2, h3⟩ := R.cell _ _ _ q ha
    exact ⟨a, vs, rfl, .inl h1, h2, h3⟩
  | dct ks' ds' =>
    cases (show D.dct ks' ds' = .dct ks ds from e)
    obtain ⟨a, vs, rfl, h, q, r⟩ := r
    exact ⟨a, vs, rfl, Same.rd R.fz h, q, r⟩
  | _ => cases e
theorem RelH.dkd {ks ds : List D} (R : RelH K G Z H st) (r : Rep K G Z d v) (e : rd st d = .dkd ks ds) : ∃ p xs, v = .ref p ∧ Rd H p (DkO G.w p xs) ∧ ks.map nk8 = xs.map (fun x => some x.1) ∧ RepL K G Z ks (xs.map fun x => .ref x.2.1) ∧ RepL K G Z ds (xs.map (·.2.2)) := by
  cases d with
  | ptr i =>
    obtain ⟨a, ha, rfl⟩ := r
    unfold rd at e
    dsimp only at e
    split at e <;> first | cases e | skip
    rename_i q
    obtain ⟨xs, h1, h2⟩ := R.cell _ _ _ q ha
    exact ⟨a, xs, rfl, .inl h1, h2⟩
  | dkd ks' ds' =>
    cases (show D.dkd ks' ds' = .dkd ks ds from e)
    obtain ⟨a, o, xs, rfl, h, q⟩ := r
    exact ⟨a, xs, rfl, .inr ⟨o, R.fz _ _ h⟩, q⟩
  | _ => cases e
theorem rd_flat (e : rd st d = d') : (∃ i, d = .ptr i) ∨ d = d' := by
  cases d with
  | ptr i => exact .inl ⟨i, rfl⟩
  | _ => exact .inr e
theorem rd_ptr (i : Nat) : (∃ xs, rd st (.ptr i) = .lst xs) ∨ (∃ ks ds, rd st (.ptr i) = .dct ks ds) ∨ (∃ ks ds, rd st (.ptr i) = .dkd ks ds) ∨ (∃ c ns ds, rd st (.ptr i) = .ins c ns ds) ∨ rd st (.ptr i) = .ptr i := by
  unfold rd
  dsimp only
  split
  · exact .inl ⟨_, rfl⟩
  · exact .inr (.inl ⟨_, _, rfl⟩)
  · exact .inr (.inr (.inl ⟨_, _, rfl⟩))
  · exact .inr (.inr (.inr (.inl ⟨_, _, _, rfl⟩)))
  · exact .inr (.inr (.inr (.inr rfl)))
/-- what does not change is told by itself -/
theorem rd_self {d' : D} (e : rd st d = d') (h : (match d' with | .lst _ => false | .dct .. => false | .dkd .. => false | .ins .. => false | .ptr _ => false | _ => true) = true) : d = d' := by
  rcases rd_flat e with ⟨i, rfl⟩ | q
  · rcases rd_ptr (st := st) i with ⟨_, q⟩ | ⟨_, _, q⟩ | ⟨_, _, q⟩ | ⟨_, _, _, q⟩ | q <;> (rw [q] at e; subst e; cases h)
  · exact q
theorem RelH.rls {xs : List D} (R : RelH K G Z H st) (r : Rep K G Z d v) (e : rd st d = .rls xs) : ∃ p vs, v = .ref p ∧ SqL K H p vs ∧ RepL K G Z xs vs := by
  cases rd_self e rfl
  obtain ⟨a, vs, rfl, h, q⟩ := r
  exact ⟨a, vs, rfl, R.fz.seq h, q⟩
theorem RelH.tup {xs : List D} (R : RelH K G Z H st) (r : Rep K G Z d v) (e : rd st d = .tup xs) : ∃ p vs, v = .ref p ∧ SqT K H p vs ∧ RepL K G Z xs vs := by
  cases rd_self e rfl
  obtain ⟨a, vs, rfl, h, q⟩ := r
  exact ⟨a, vs, rfl, Same.sqt' R.fz h, q⟩
theorem RelH.non (r : Rep K G Z d v) (e : rd st d = .non) : v = .non := by cases rd_self e rfl; exact r
theorem RelH.bl {b : Bool} (r : Rep K G Z d v) (e : rd st d = .bl b) : v = .bl b := by cases rd_self e rfl; exact r
theorem RelH.int {i : Int} (r : Rep K G Z d v) (e : rd st d = .int i) : v = .int i := by cases rd_self e rfl; exact r
theorem RelH.str {x : Str} (r : Rep K G Z d v) (e : rd st d = .str x) : v = .str x := by cases rd_self e rfl; exact r
theorem RepL.emp {ds : List D} {vs : List V} (r : RepL K G Z ds vs) : ds.isEmpty = vs.isEmpty := by
  have := r.length
  cases ds <;> cases vs <;> first | rfl | cases this
theorem tru_of {b : Bool} (R : RelH K G Z H st) (r : Rep K G Z d v) (e : truthD st d = some b) : TruV K v H b := by
  unfold truthD at e
  split at e
  · rename_i q; cases e; cases RelH.non r q; rfl
  · rename_i q; cases e; cases RelH.bl r q; rfl
  · rename_i q; cases e; cases RelH.int r q; rfl
  · rename_i q
    split at e <;> cases e
    rename_i hz
    cases RelH.str r q
    exact ⟨hz, rfl⟩
  · rename_i q; cases e
    obtain ⟨p, vs, rfl, h, rl⟩ := R.lst r q
    exact .inl ⟨vs, SqL.of h, by rw [rl.emp]⟩
  · rename_i q; cases e
    obtain ⟨p, vs, rfl, h, rl⟩ := R.rls r q
    exact .inl ⟨vs, h, by rw [rl.emp]⟩
  · rename_i q; cases e
    obtain ⟨p, vs, rfl, h, rl⟩ := R.tup r q
    exact .inr (.inl ⟨vs, h, by rw [rl.emp]⟩)
  · cases e
variable {X : Cx} {e : Expr}
theorem pS_tru {m : M} (h : PE X e (tS X.K G W m)) (hw : ∀ whole : Sem Value, PySem.isTrue e X.env whole = (do
      let z ← whole
      standAt e.pos
      holding [z] (truthy z)) := by intro _; rfl) : PT X e (tSB X.K G W (mTru m)) :=
  pt_of (pt_truth h hw) fun σ H Q h => rs_bind (f := fun d _ st' => match truthD st' d with | some b => .ok b st' | none => .stuck) h fun d v H1 Z env st R S p q => by
    cases t : truthD st d with
    | none => rw [t] at q; exact q.elim
    | some b => rw [t] at q; exact ⟨b, tru_of R p t, Post.now (P := rB) q R rfl⟩
/-- from a value's reading to a bool's -/
theorem rs_test {m : M} {σ : St} {Q : Bool → Hp → Prop} (h : tSB K G W (mTest m) σ H Q) : tS K G W m σ H fun x H1 => ∃ k, x = .bl k ∧ Q k H1 :=
  rs_bind (f := fun d _ st' => match d with | .bl b => .ok b st' | _ => .stuck) h fun d v H1 Z env st R S p q => by
    cases d with
    | bl b => exact ⟨b, p, Post.now (P := rB) q R rfl⟩
    | _ => exact q.elim
theorem pS_not {m : MB} {pos : Pos} (h : PT X e (tSB K G W m)) : PT X (.UnaryOp .Not e pos) (tSB K G W (mNotB m)) :=
  pt_of (pt_not h) fun σ H Q h => rs_bind (f := fun b _ st' => .ok (!b) st') h fun b b' H1 Z env st R S p q => by
    cases (show b = b' from p)
    exact Post.now (P := rB) q R rfl
theorem pS_and {b : Expr} {rest : List Expr} {m n : MB} {pos : Pos} (h : PT X e (tSB K G W m)) (h' : PW X (.BoolOp .And (b :: rest) pos) (tSB K G W n)) : PW X (.BoolOp .And (e :: b :: rest) pos) (tSB K G W (mAndB m n)) :=
  pw_of (pw_and h h') fun σ H Q h => rs_bind (f := fun b env st' => if b = true then n env st' else .ok false st') h fun b b' H1 Z env st R S p q => by
    cases (show b = b' from p)
    cases b with
    | true => exact iteT ⟨Z, env, st, R, S, q⟩
    | false => exact iteF (Post.now (P := rB) q R rfl)
theorem pS_and1 {m : MB} {pos : Pos} (h : PT X e (tSB K G W m)) : PW X (.BoolOp .And [e] pos) (tSB K G W m) := pw_and1 h
theorem pS_or {b : Expr} {rest : List Expr} {m n : MB} {pos : Pos} (h : PT X e (tSB K G W m)) (h' : PW X (.BoolOp .Or (b :: rest) pos) (tSB K G W n)) : PW X (.BoolOp .Or (e :: b :: rest) pos) (tSB K G W (mOrB m n)) :=
  pw_of (pw_or h h') fun σ H Q h => rs_bind (f := fun b env st' => if b = true then .ok true st' else n env st') h fun b b' H1 Z env st R S p q => by
    cases (show b = b' from p)
    cases b with
    | true => exact iteT (Post.now (P := rB) q R rfl)
    | false => exact iteF ⟨Z, env, st, R, S, q⟩
theorem pS_or1 {m : MB} {pos : Pos} (h : PT X e (tSB K G W m)) : PW X (.BoolOp .Or [e] pos) (tSB K G W m) := pw_or1 h
theorem pS_andV {b : Expr} {rest : List Expr} {m n : M} {pos : Pos} (h : PE X e (tS K G W m)) (h' : PE X (.BoolOp .And (b :: rest) pos) (tS K G W n)) : PE X (.BoolOp .And (e :: b :: rest) pos) (tS K G W (mAnd m n)) :=
  pe_of (pe_and h h') fun σ H Q h => rs_bind (f := fun d env st' => match d with | .bl b => if b = true then n env st' else .ok (.bl false) st' | _ => .stuck) h fun d v H1 Z env st R S p q => by
    cases d with
    | bl b =>
      cases b with
      | true => exact ⟨true, p, iteT ⟨Z, env, st, R, S, q⟩⟩
      | false => exact ⟨false, p, iteF (Post.now (P := rD K G) q R rfl)⟩
    | _ => exact q.elim
theorem pS_orV {b : Expr} {rest : List Expr} {m n : M} {pos : Pos} (h : PE X e (tS K G W m)) (h' : PE X (.BoolOp .Or (b :: rest) pos) (tS K G W n)) : PE X (.BoolOp .Or (e :: b :: rest) pos) (tS K G W (mOr m n)) :=
  pe_of (pe_or h h') fun σ H Q h => rs_bind (f := fun d env st' => match d with | .bl b => if b = true then .ok (.bl true) st' else n env st' | _ => .stuck) h fun d v H1 Z env st R S p q => by
    cases d with
    | bl b =>
      cases b with
      | true => exact ⟨true, p, iteT (Post.now (P := rD K G) q R rfl)⟩
      | false => exact ⟨false, p, iteF ⟨Z, env, st, R, S, q⟩⟩
    | _ => exact q.elim
theorem pS_ifE {c b : Expr} {mc : MB} {m n : M} {pos : Pos} (hc : PT X c (tSB K G W mc)) (h : PE X e (tS K G W m)) (h' : PE X b (tS K G W n)) : PE X (.IfExp c e b pos) (tS K G W (mIf mc m n)) :=
  pe_of (pe_ifExp hc h h') fun σ H Q h => rs_bind (f := fun k env st' => if k = true then m env st' else n env st') h fun b b' H1 Z env st R S p q => by
    cases (show b = b' from p)
    cases b with
    | true => exact iteT ⟨Z, env, st, R, S, q⟩
    | false => exact iteF ⟨Z, env, st, R, S, q⟩
end
end S
/-! operators -/
namespace S
open PySem L2
section
variable (K : PySem.W.Frag) (G : GA)
def Ad2 (f : D → D → Sto → R D) (r : R2) : Prop := ∀ (E : XK) (Z : Gh) (H : Hp) (st : Sto) (a b : D) (x y : V) (Q : VK), RelH K G Z H st → Rep K G Z a x → Rep K G Z b y → Post K G (rD K G) E Z (f a b st) Q → r x y H Q
def AdL (f : List D → Sto → R D) (r : List V → Hp → VK → Prop) : Prop := ∀ (E : XK) (Z : Gh) (H : Hp) (st : Sto) (as : List D) (xs : List V) (Q : VK), RelH K G Z H st → RepL K G Z as xs → Post K G (rD K G) E Z (f as st) Q → r xs H Q
end
def mBin (f : D → D → Sto → R D) (m n : M) : M := fun env st => (m env st).bind fun a st1 => (n env st1).bind fun b st2 => f a b st2
def mApp (f : List D → Sto → R D) (m : MA) : M := fun env st => (m env st).bind fun as st1 => f as st1
def mChain (f g : D → D → Sto → R D) (m n o : M) : M := fun env st => (m env st).bind fun a st1 => (n env st1).bind fun b st2 => (f a b st2).bind fun d st3 => match d with
  | .bl k => if k = true then (o env st3).bind fun c st4 => g b c st4 else .ok (.bl false) st3
  | _ => .stuck
section
variable {K : PySem.W.Frag} {G : GA} {W : WX} {X : Cx} {a b c : Expr} {m n o : M} {pos : Pos} {σ : St} {H : Hp}
theorem rs_bin {f : D → D → Sto → R D} {r : R2} {Q : VK} (hf : Ad2 K G f r) (h : tS K G W (mBin f m n) σ H Q) : tOp r (tS K G W m) (tS K G W n) σ H Q := by
  refine rs_bind (f := fun a env st1 => (n env st1).bind fun b st2 => f a b st2) h fun a x H1 Z env st R S p q => ?_
  exact ⟨Z, env, st, R, S, q.bind fun b st' Z' y H' l R' p' q' => hf _ Z' H' st' a b x y Q R' (Rep.up l a x p) p' q'⟩
theorem pS_op {f : D → D → Sto → R D} {r : R2} {op : Operator} (ho : OpR X (binaryOp op) r) (hf : Ad2 X.K G f r) (ha : PE X a (tS X.K G W m)) (hb : PE X b (tS X.K G W n)) : PE X (.BinOp a op b pos) (tS X.K G W (mBin f m n)) :=
  pe_of (pe_op ho ha hb) fun _ _ _ => rs_bin hf
theorem pS_cmp {f : D → D → Sto → R D} {r : R2} {op : CmpOp} (ho : OpR X (compareOp op) r) (hf : Ad2 X.K G f r) (ha : PE X a (tS X.K G W m)) (hb : PE X b (tS X.K G W n)) (hm : behindInMarks op b = false) : PE X (.Compare a [op] [b] pos) (tS X.K G W (mBin f m n)) :=
  pe_of (pe_cmpR ho ha hb hm) fun _ _ _ => rs_bin hf
theorem pS_cmpT {f : D → D → Sto → R D} {r : R2} {op : CmpOp} (ho : OpR X (compareOp op) r) (hf : Ad2 X.K G f r) (ha : PE X a (tS X.K G W m)) (hb : PE X b (tS X.K G W n)) (hm : behindInMarks op b = false) : PT X (.Compare a [op] [b] pos) (tSB X.K G W (mTest (mBin f m n))) :=
  pt_of (pt_cmpR ho ha hb hm) fun σ H Q h => rs_bin hf (rs_test h)
theorem rs_chain {f g : D → D → Sto → R D} {r r' : R2} {Q : VK} (hf : Ad2 K G f r) (hg : Ad2 K G g r') (h : tS K G W (mChain f g m n o) σ H Q) : tChain r r' (tS K G W m) (tS K G W n) (tS K G W o) σ H Q := by
  refine rs_bind (f := fun a env st1 => (n env st1).bind fun b st2 => (f a b st2).bind fun d st3 => match d with
    | .bl k => if k = true then (o env st3).bind fun c st4 => g b c st4 else .ok (.bl false) st3
    | _ => .stuck) h fun a x H1 Z env st R S p q => ?_
  refine ⟨Z, env, st, R, S, q.bind fun b st' Z' y H' l R' p' q' => ?_⟩
  refine hf (WE W σ) Z' H' st' a b x y _ R' (Rep.up l a x p) p' (q'.bind fun d st2 Z2 z H2 l2 R2 p2 q2 => ?_)
  cases d with
  | bl k =>
    refine ⟨k, p2, ?_⟩
    cases k with
    | false => exact iteF (Post.now (P := rD K G) q2 R2 rfl)
    | true => exact iteT ⟨Z2, env, st2, R2, S.up (l.trans l2), q2.bind fun c st4 Z4 w' H4 l4 R4 p4 q4 => hg _ Z4 H4 st4 b c y w' Q R4 (Rep.up (l2.trans l4) b y p') p4 q4⟩
  | _ => exact q2.elim
theorem pS_chainT {f g : D → D → Sto → R D} {r r' : R2} {op op' : CmpOp} (ho : OpR X (compareOp op) r) (ho' : OpR X (compareOp op') r') (hf : Ad2 X.K G f r) (hg : Ad2 X.K G g r') (ha : PE X a (tS X.K G W m)) (hb : PE X b (tS X.K G W n)) (hc : PE X c (tS X.K G W o))
    (hl : lastMarks [op, op'] [b, c] = false := by rfl) : PT X (.Compare a [op, op'] [b, c] pos) (tSB X.K G W (mTest (mChain f g m n o))) := pt_of (pt_chain ho ho' ha hb hc hl) fun σ H Q h => rs_chain hf hg (rs_test h)
theorem pS_ix {f : D → D → Sto → R D} {r : R2} (ho : IxR X r) (hf : Ad2 X.K G f r) (ha : PE X a (tS X.K G W m)) (hb : PE X b (tS X.K G W n)) (hp : PlainIx b) : PE X (.Subscript a b pos) (tS X.K G W (mBin f m n)) :=
  pe_of (pe_ix ho ha hb hp) fun _ _ _ => rs_bin hf
theorem rs_app {f : List D → Sto → R D} {r : List V → Hp → VK → Prop} {k : MA} {Q : VK} (hf : AdL K G f r) (h : tS K G W (mApp f k) σ H Q) : tCB r (tSA K G W k) σ H Q :=
  rs_bind (f := fun as _ st1 => f as st1) h fun as xs H1 Z env st R S p q => hf _ Z H1 st as xs Q R p q
end
/-! ### new things -/
section
variable {K : PySem.W.Frag} {G : GA} {Z : Gh} {H : Hp} {st : Sto} {E : XK} {ds : List D} {vs : List V} {Q : VK}
theorem Post.newL (h : Post K G (rD K G) E Z (.ok (.lst ds) st) Q) (R : RelH K G Z H st) (r : RepL K G Z ds vs) {p : Addr} (hp : H p = none) : Q (.ref p) (upd H p (.lst vs)) := by
  obtain ⟨l, R'⟩ := R.lay (o := .lst vs) hp
  exact h _ _ _ l R' ⟨p, vs, rfl, upd_same, RepL.up l ds vs r⟩
theorem Post.newT (h : Post K G (rD K G) E Z (.ok (.tup ds) st) Q) (R : RelH K G Z H st) (r : RepL K G Z ds vs) {p : Addr} (hp : H p = none) : Q (.ref p) (upd H p (.tup vs)) := by
  obtain ⟨l, R'⟩ := R.lay (o := .tup vs) hp
  exact h _ _ _ l R' ⟨p, vs, rfl, .inl (.inl upd_same), RepL.up l ds vs r⟩
theorem Post.newC (h : Post K G (rD K G) E Z (.ok (.ptr st.length) (st ++ [.lst ds])) Q) (R : RelH K G Z H st) (r : RepL K G Z ds vs) {p : Addr} (hp : H p = none) : Q (.ref p) (upd H p (.lst vs)) := by
  obtain ⟨l, R'⟩ := R.add (o := .lst vs) (c := .lst ds) hp fun Z' l => ⟨vs, upd_same, RepL.up l ds vs r⟩
  exact h _ _ _ l R' ⟨p, by show (Z.rho ++ [p])[st.length]? = some p; rw [← R.len]; simp, rfl⟩
end
/-! ### arithmetic and order -/
def dI (f : Int → Int → D) (a b : D) (st : Sto) : R D := match a, b with
  | .int i, .int j => .ok (f i j) st
  | _, _ => .stuck
def dAdd (a b : D) (st : Sto) : R D := match rd st a, rd st b with
  | .int i, .int j => .ok (.int (i + j)) st
  | .str s, .str t => if s.length + t.length ≤ sizeLine then .ok (.str (s ++ t)) st else .stuck
  | .lst xs, .lst ys => if xs.length + ys.length ≤ sizeLine then .ok (.lst (xs ++ ys)) st else .stuck
  | .tup xs, .tup ys => if xs.length + ys.length ≤ sizeLine then .ok (.tup (xs ++ ys)) st else .stuck
  | _, _ => .stuck
def dSub : D → D → Sto → R D := dI fun i j => .int (i - j)
def dMul (a b : D) (st : Sto) : R D := match a, b with
  | .int i, .int j => if (-(2 ^ 64) < i ∧ i < 2 ^ 64) ∨ (-(2 ^ 64) < j ∧ j < 2 ^ 64) then .ok (.int (i * j)) st else .stuck
  | _, _ => .stuck
def dMod (a b : D) (st : Sto) : R D := match a, b with
  | .int i, .int j => if j ≠ 0 then .ok (.int (i.fmod j)) st else .stuck
  | _, _ => .stuck
def dDiv (a b : D) (st : Sto) : R D := match a, b with
  | .int i, .int j => if j ≠ 0 ∧ j.natAbs < 1073741824 then .ok (.int (i.fdiv j)) st else .stuck
  | _, _ => .stuck
def dPow (a b : D) (st : Sto) : R D := match a, b with
  | .int i, .int j => if 0 ≤ j ∧ j ≤ 1000000 ∧ i.natAbs < 2 ^ 64 then .ok (.int (i ^ j.toNat)) st else .stuck
  | _, _ => .stuck
def dLt (a b : D) (st : Sto) : R D := match a, b with
  | .int i, .int j => .ok (.bl (decide (i < j))) st
  | .str s, .str t => .ok (.bl (decide (s.cps.toList < t.cps.toList))) st
  | _, _ => .stuck
def dLe : D → D → Sto → R D := dI fun i j => .bl (decide (i ≤ j))
def dGt : D → D → Sto → R D := dI fun i j => .bl (decide (j < i))
def dGe : D → D → Sto → R D := dI fun i j => .bl (decide (j ≤ i))
section
variable {K : PySem.W.Frag} {G : GA}
theorem ad_I {f : Int → Int → D} {g : Int → Int → V} (hfg : ∀ Z i j, Rep K G Z (f i j) (g i j)) : Ad2 K G (dI f) (rI0 g) := by
  intro E Z H st a b x y Q R p q h
  unfold dI at h
  split at h
  · cases (show x = _ from p); cases (show y = _ from q)
    exact ⟨_, _, rfl, rfl, Post.now (P := rD K G) h R (hfg Z _ _)⟩
  · exact h.elim
theorem ad_sub : Ad2 K G dSub (rI0 fun i j => .int (i - j)) := ad_I fun _ _ _ => rfl
theorem ad_le : Ad2 K G dLe (rI0 fun i j => .bl (decide (i ≤ j))) := ad_I fun _ _ _ => rfl
theorem ad_gt : Ad2 K G dGt (rI0 fun i j => .bl (decide (j < i))) := ad_I fun _ _ _ => rfl
theorem ad_ge : Ad2 K G dGe (rI0 fun i j => .bl (decide (j ≤ i))) := ad_I fun _ _ _ => rfl
theorem ad_mul : Ad2 K G dMul (rI CMul fun i j => .int (i * j)) := by
  intro E Z H st a b x y Q R p q h
  unfold dMul at h
  split at h
  · cases (show x = _ from p); cases (show y = _ from q)
    split at h
    · rename_i hc; exact ⟨_, _, rfl, rfl, hc, Post.now (P := rD K G) h R rfl⟩
    · exact h.elim
  · exact h.elim
theorem ad_mod : Ad2 K G dMod (rI (fun _ j => j ≠ 0) fun i j => .int (i.fmod j)) := by
  intro E Z H st a b x y Q R p q h
  unfold dMod at h
  split at h
  · cases (show x = _ from p); cases (show y = _ from q)
    split at h
    · rename_i hc; exact ⟨_, _, rfl, rfl, hc, Post.now (P := rD K G) h R rfl⟩
    · exact h.elim
  · exact h.elim
theorem ad_div : Ad2 K G dDiv (rI CDivN fun i j => .int (i.fdiv j)) := by
  intro E Z H st a b x y Q R p q h
  unfold dDiv at h
  split at h
  · cases (show x = _ from p); cases (show y = _ from q)
    split at h
    · rename_i hc; exact ⟨_, _, rfl, rfl, hc, Post.now (P := rD K G) h R rfl⟩
    · exact h.elim
  · exact h.elim
theorem ad_pow : Ad2 K G dPow (rI CPow fun i j => .int (i ^ j.toNat)) := by
  intro E Z H st a b x y Q R p q h
  unfold dPow at h
  split at h
  · cases (show x = _ from p); cases (show y = _ from q)
    split at h
    · rename_i hc; exact ⟨_, _, rfl, rfl, hc, Post.now (P := rD K G) h R rfl⟩
    · exact h.elim
  · exact h.elim
abbrev rLt : R2 := fun x y H Q => rI0 (fun i j => .bl (decide (i < j))) x y H Q ∨ ∃ i j, x = V.str i ∧ y = V.str j ∧ Q (V.bl (decide (i.cps.toList < j.cps.toList))) H
theorem op_ltS {X : Cx} : OpR X (compareOp .Lt) rLt := OpR.or op_lt op_lt_str
theorem ad_lt : Ad2 K G dLt rLt := by
  intro E Z H st a b x y Q R p q h
  unfold dLt at h
  split at h
  · cases (show x = _ from p); cases (show y = _ from q)
    exact .inl ⟨_, _, rfl, rfl, Post.now (P := rD K G) h R rfl⟩
  · cases (show x = _ from p); cases (show y = _ from q)
    exact .inr ⟨_, _, rfl, rfl, Post.now (P := rD K G) h R rfl⟩
  · exact h.elim
abbrev rAdd (K : PySem.W.Frag) : R2 := fun x y H Q => (rI0 (fun i j => .int (i + j)) x y H Q ∨ ∃ i j, x = V.str i ∧ y = V.str j ∧ i.length + j.length ≤ sizeLine ∧ Q (V.str (i ++ j)) H) ∨ (rCat x y H Q ∨ rCatA K x y H Q)
theorem op_addS {X : Cx} : OpR X (binaryOp .Add) (rAdd X.K) := OpR.or (OpR.or op_add op_add_str) (OpR.or op_cat op_catA)
theorem ad_add : Ad2 K G dAdd (rAdd K) := by
  intro E Z H st a b x y Q R p q h
  unfold dAdd at h
  split at h
  · rename_i e1 e2
    cases RelH.int p e1; cases RelH.int q e2
    exact .inl (.inl ⟨_, _, rfl, rfl, Post.now (P := rD K G) h R rfl⟩)
  · rename_i e1 e2
    cases RelH.str p e1; cases RelH.str q e2
    split at h
    · rename_i hz; exact .inl (.inr ⟨_, _, rfl, rfl, hz, Post.now (P := rD K G) h R rfl⟩)
    · exact h.elim
  · rename_i e1 e2
    obtain ⟨l, xs, rfl, h1, r1⟩ := R.lst p e1
    obtain ⟨l', ys, rfl, h2, r2⟩ := R.lst q e2
    split at h
    · rename_i hz
      refine .inr (.inl ⟨l, l', xs, ys, rfl, rfl, h1, h2, by rw [← r1.length, ← r2.length]; exact hz, fun p hp => h.newL R (r1.append r2) hp⟩)
    · exact h.elim
  · rename_i e1 e2
    obtain ⟨l, xs, rfl, h1, r1⟩ := R.tup p e1
    obtain ⟨l', ys, rfl, h2, r2⟩ := R.tup q e2
    split at h
    · rename_i hz
      cases rd_self e1 rfl
      cases rd_self e2 rfl
      refine .inr (.inr ⟨l, l', xs, ys, rfl, rfl, h1, h2, by rw [← r1.length, ← r2.length]; exact hz, fun e => ?_, fun _ e => ?_, fun _ _ p hp => h.newT R (r1.append r2) hp⟩)
      · subst e
        have := r1.length
        cases List.length_eq_zero_iff.mp (by simpa using this)
        exact Post.now (P := rD K G) h R q
      · subst e
        have := r2.length
        cases List.length_eq_zero_iff.mp (by simpa using this)
        rw [List.append_nil] at h
        exact Post.now (P := rD K G) h R p
    · exact h.elim
  · exact h.elim
end
/-! ### items, lengths, slices -/
def dIx (a b : D) (st : Sto) : R D := match rd st a, b with
  | .lst xs, .int i => match atI xs i with | some d => .ok d st | none => .stuck
  | .rls xs, .int i => match atI xs i with | some d => .ok d st | none => .stuck
  | .tup xs, .int i => match atI xs i with | some d => .ok d st | none => .stuck
  | .str z, .int i => if z.length ≤ sizeLine then (match atI z.cps.toList i with | some c => .ok (.str ⟨#[c]⟩) st | none => .stuck) else .stuck
  | _, _ => .stuck
def dLen (as : List D) (st : Sto) : R D := match as with
  | [a] => match rd st a with
    | .lst xs => .ok (.int xs.length) st
    | .rls xs => .ok (.int xs.length) st
    | .tup xs => .ok (.int xs.length) st
    | .str z => if z.length ≤ sizeLine then .ok (.int z.length) st else .stuck
    | .dct ks _ => .ok (.int ks.length) st
    | _ => .stuck
  | _ => .stuck
section
variable {K : PySem.W.Frag} {G : GA} {X : Cx}
theorem RepL.atI {Z : Gh} {ds : List D} {vs : List V} {i : Int} {d : D} (r : RepL K G Z ds vs) (e : atI ds i = some d) : ∃ v, atI vs i = some v ∧ Rep K G Z d v := by
  unfold L2.atI at e ⊢
  rw [← r.length]
  cases q : ixN ds.length i with
  | none => rw [q] at e; cases e
  | some j =>
    rw [q] at e
    exact r.get e
abbrev rIx (K : PySem.W.Frag) : R2 := fun x y H Q => (rIxL K x y H Q ∨ rIxT K x y H Q) ∨ rIxS x y H Q
theorem ix_S : IxR X (rIx X.K) := IxR.or' (IxR.or' ix_list ix_tup) ix_str
theorem ad_ix : Ad2 K G dIx (rIx K) := by
  intro E Z H st a b x y Q R p q h
  unfold dIx at h
  split at h
  · rename_i e1
    obtain ⟨l, xs, rfl, h1, r1⟩ := R.lst p e1
    cases (show y = _ from q)
    split at h
    · rename_i e2
      obtain ⟨v, e3, rv⟩ := r1.atI e2
      exact .inl (.inl ⟨l, xs, _, v, rfl, rfl, SqL.of h1, e3, Post.now (P := rD K G) h R rv⟩)
    · exact h.elim
  · rename_i e1
    obtain ⟨l, xs, rfl, h1, r1⟩ := R.rls p e1
    cases (show y = _ from q)
    split at h
    · rename_i e2
      obtain ⟨v, e3, rv⟩ := r1.atI e2
      exact .inl (.inl ⟨l, xs, _, v, rfl, rfl, h1, e3, Post.now (P := rD K G) h R rv⟩)
    · exact h.elim
  · rename_i e1
    obtain ⟨l, xs, rfl, h1, r1⟩ := R.tup p e1
    cases (show y = _ from q)
    split at h
    · rename_i e2
      obtain ⟨v, e3, rv⟩ := r1.atI e2
      exact .inl (.inr ⟨l, xs, _, v, rfl, rfl, h1, e3, Post.now (P := rD K G) h R rv⟩)
    · exact h.elim
  · rename_i e1
    cases RelH.str p e1
    cases (show y = _ from q)
    split at h
    · rename_i hz
      split at h
      · rename_i c e2
        exact .inr ⟨_, _, c, rfl, rfl, hz, e2, Post.now (P := rD K G) h R rfl⟩
      · exact h.elim
    · exact h.elim
  · exact h.elim
abbrev rLen (K : PySem.W.Frag) : List V → Hp → VK → Prop := fun xs H Q => (∃ p ys, xs = [V.ref p] ∧ (SqL K H p ys ∨ SqT K H p ys) ∧ Q (V.int ↑ys.length) H) ∨ ((∃ z, xs = [V.str z] ∧ z.length ≤ sizeLine ∧ Q (V.int ↑z.length) H) ∨ (∃ a kvs, xs = [V.ref a] ∧ Rd H a (HO.dK kvs) ∧ Q (V.int ↑kvs.length) H))
theorem len_rdD : CallR X (.builtin "len") (fun xs H Q => ∃ a kvs, xs = [V.ref a] ∧ Rd H a (HO.dK kvs) ∧ Q (.int kvs.length) H) := fun pins s σ H xs us Q I r h => by
  obtain ⟨a, kvs, rfl, ha, q⟩ := h
  obtain ⟨u, rfl, ru⟩ := vals1 r
  cases ru
  exact d_len I ha fun t s' I' => ⟨.int kvs.length, H, I', ⟨t, rfl⟩, q⟩
theorem cr_lenS : CallR X (.builtin "len") (rLen X.K) := CallR.or call_len_seq (CallR.or call_len_str len_rdD)
theorem RepL.one {Z : Gh} {a : D} {xs : List V} (r : RepL K G Z [a] xs) : ∃ x, xs = [x] ∧ Rep K G Z a x := by
  obtain ⟨x, t, rfl, p, q⟩ := r
  cases (show t = [] from q)
  exact ⟨x, rfl, p⟩
theorem RepL.two {Z : Gh} {a b : D} {xs : List V} (r : RepL K G Z [a, b] xs) : ∃ x y, xs = [x, y] ∧ Rep K G Z a x ∧ Rep K G Z b y := by
  obtain ⟨x, t, rfl, p, q⟩ := r
  obtain ⟨y, rfl, q2⟩ := RepL.one q
  exact ⟨x, y, rfl, p, q2⟩
theorem ad_len : AdL K G dLen (rLen K) := by
  intro E Z H st as xs Q R r h
  unfold dLen at h
  split at h
  · rename_i a
    obtain ⟨x, rfl, p⟩ := RepL.one r
    split at h
    · rename_i e1
      obtain ⟨l, xs, rfl, h1, r1⟩ := R.lst p e1
      exact .inl ⟨l, xs, rfl, .inl (SqL.of h1), Post.now (P := rD K G) h R (by rw [r1.length]; rfl)⟩
    · rename_i e1
      obtain ⟨l, xs, rfl, h1, r1⟩ := R.rls p e1
      exact .inl ⟨l, xs, rfl, .inl h1, Post.now (P := rD K G) h R (by rw [r1.length]; rfl)⟩
    · rename_i e1
      obtain ⟨l, xs, rfl, h1, r1⟩ := R.tup p e1
      exact .inl ⟨l, xs, rfl, .inr h1, Post.now (P := rD K G) h R (by rw [r1.length]; rfl)⟩
    · rename_i e1
      cases RelH.str p e1
      split at h
      · rename_i hz; exact .inr (.inl ⟨_, rfl, hz, Post.now (P := rD K G) h R rfl⟩)
      · exact h.elim
    · rename_i e1
      obtain ⟨l, vs, rfl, h1, hn, r1⟩ := R.dct p e1
      exact .inr (.inr ⟨l, _, rfl, h1, Post.now (P := rD K G) h R (by rw [List.length_zip, ← hn, Nat.min_self]; rfl)⟩)
    · exact h.elim
  · exact h.elim
end
end S
/-! data: ==, in, displays, slices, built-in calls -/
namespace S
open PySem L2
/-! ### flat things -/
def isFl : D → Bool
  | .non | .bl _ | .int _ | .str _ => true
  | _ => false
def fl : D → V
  | .bl b => .bl b
  | .int i => .int i
  | .str x => .str x
  | _ => .non
/-- the items of a list or a tuple -/
def items (st : Sto) (d : D) : Option (List D) := match rd st d with
  | .lst xs => some xs
  | .rls xs => some xs
  | .tup xs => some xs
  | _ => none
section
variable {K : PySem.W.Frag} {G : GA} {Z : Gh} {H : Hp} {st : Sto}
theorem rep_fl {d : D} {v : V} (h : isFl d = true) (r : Rep K G Z d v) : v = fl d := by
  cases d <;> first | exact r | cases h
theorem rep_fls : ∀ {ds : List D} {vs : List V}, ds.all isFl = true → RepL K G Z ds vs → vs = ds.map fl
  | [], _, _, r => r
  | d :: ds, _, h, ⟨v, t, e, p, q⟩ => by
    subst e
    rw [List.all_cons, Bool.and_eq_true] at h
    rw [List.map_cons, ← rep_fl h.1 p, ← rep_fls h.2 q]
theorem flat_fl {d : D} (h : isFl d = true) : flatV (fl d) = true := by cases d <;> first | rfl | cases h
theorem flat_fls : ∀ {ds : List D}, ds.all isFl = true → (ds.map fl).all flatV = true
  | [], _ => rfl
  | d :: ds, h => by
    rw [List.all_cons, Bool.and_eq_true] at h
    rw [List.map_cons, List.all_cons, flat_fl h.1, flat_fls h.2]; rfl
theorem RelH.items {d : D} {v : V} {xs : List D} (R : RelH K G Z H st) (r : Rep K G Z d v) (e : items st d = some xs) : ∃ p vs, v = .ref p ∧ (SqL K H p vs ∨ SqT K H p vs) ∧ RepL K G Z xs vs := by
  unfold S.items at e
  split at e <;> cases e
  · rename_i q; obtain ⟨p, vs, h1, h2, h3⟩ := R.lst r q; exact ⟨p, vs, h1, .inl (SqL.of h2), h3⟩
  · rename_i q; obtain ⟨p, vs, h1, h2, h3⟩ := R.rls r q; exact ⟨p, vs, h1, .inl h2, h3⟩
  · rename_i q; obtain ⟨p, vs, h1, h2, h3⟩ := R.tup r q; exact ⟨p, vs, h1, .inr h2, h3⟩
end
/-! ### data -/
mutual
def toPy : D → Option PyData
  | .non => some .none
  | .bl b => some (.bool b)
  | .int i => some (.int i)
  | .str x => some (.str x)
  | .lst xs => (toPyL xs).map .list
  | .rls xs => (toPyL xs).map .list
  | .tup xs => (toPyL xs).map .tuple
  | _ => none
def toPyL : List D → Option (List PyData)
  | [] => some []
  | d :: ds => (toPy d).bind fun p => (toPyL ds).map fun r => p :: r
end
section
variable {K : PySem.W.Frag} {G : GA} {Z : Gh} {H : Hp}
mutual
theorem dp_of (e : Same Z.fz H) : ∀ (d : D) (v : V) (p : PyData), Rep K G Z d v → toPy d = some p → Dp K H v p
  | .non, _, _, r, h => by cases (show _ = _ from r); cases h; exact .non
  | .bl _, _, _, r, h => by cases (show _ = _ from r); cases h; exact .bl _
  | .int _, _, _, r, h => by cases (show _ = _ from r); cases h; exact .int _
  | .str _, _, _, r, h => by cases (show _ = _ from r); cases h; exact .str _
  | .lst xs, _, _, ⟨a, vs, q, s, r⟩, h => by
    subst q
    unfold toPy at h
    cases t : toPyL xs with
    | none => rw [t] at h; cases h
    | some ps => rw [t] at h; cases h; exact .lst (SqL.of (e _ _ s)) (dps_of e xs vs ps r t)
  | .rls xs, _, _, ⟨a, vs, q, s, r⟩, h => by
    subst q
    unfold toPy at h
    cases t : toPyL xs with
    | none => rw [t] at h; cases h
    | some ps => rw [t] at h; cases h; exact .lst (e.seq s) (dps_of e xs vs ps r t)
  | .tup xs, _, _, ⟨a, vs, q, s, r⟩, h => by
    subst q
    unfold toPy at h
    cases t : toPyL xs with
    | none => rw [t] at h; cases h
    | some ps => rw [t] at h; cases h; exact .tup (Same.sqt' e s) (dps_of e xs vs ps r t)
  | .dct _ _, _, _, _, h => by unfold toPy at h; cases h
  | .ins _ _ _, _, _, _, h => by unfold toPy at h; cases h
  | .ptr _, _, _, _, h => by unfold toPy at h; cases h
  | .cls _, _, _, _, h => by unfold toPy at h; cases h
  | .dkd _ _, _, _, _, h => by unfold toPy at h; cases h
  | .ptp _, _, _, _, h => by unfold toPy at h; cases h
  | .fn _, _, _, _, h => by unfold toPy at h; cases h
theorem dps_of (e : Same Z.fz H) : ∀ (ds : List D) (vs : List V) (ps : List PyData), RepL K G Z ds vs → toPyL ds = some ps → DpAll K H vs ps
  | [], _, _, r, h => by cases (show _ = _ from r); unfold toPyL at h; cases h; exact .nil
  | d :: ds, _, _, ⟨v, t, q, p, r⟩, h => by
    subst q
    unfold toPyL at h
    cases h1 : toPy d with
    | none => rw [h1] at h; cases h
    | some y =>
      cases h2 : toPyL ds with
      | none => rw [h1, h2] at h; cases h
      | some ys => rw [h1, h2] at h; cases h; exact .cons (dp_of e d v y p h1) (dps_of e ds t ys r h2)
end
theorem dp_rd {st : Sto} {d : D} {v : V} {p : PyData} (R : RelH K G Z H st) (r : Rep K G Z d v) (h : toPy (rd st d) = some p) : Dp K H v p := by
  rcases rd_flat (st := st) (d := d) rfl with ⟨i, rfl⟩ | q
  · rcases rd_ptr (st := st) i with ⟨xs, q⟩ | ⟨_, _, q⟩ | ⟨_, _, q⟩ | ⟨_, _, _, q⟩ | q
    · obtain ⟨l, vs, rfl, h1, h2⟩ := R.lst r q
      rw [q] at h
      unfold toPy at h
      cases t : toPyL xs with
      | none => rw [t] at h; cases h
      | some ps => rw [t] at h; cases h; exact .lst (SqL.of h1) (dps_of R.fz xs vs ps h2 t)
    · rw [q] at h; unfold toPy at h; cases h
    · rw [q] at h; unfold toPy at h; cases h
    · rw [q] at h; unfold toPy at h; cases h
    · rw [q] at h; unfold toPy at h; cases h
  · rw [← q] at h; exact dp_of R.fz d v p r h
end
/-- whether two things are equal, as far as they are data -/
def eqD (st : Sto) (a b : D) : Option Bool :=
  if isFl a && isFl b && scal (fl a) (fl b) then some (decide (fl a = fl b)) else
  match toPy (rd st a), toPy (rd st b) with
  | some p, some q => if SeqAt.shaped p && SeqAt.shaped q then some (PyData.eqv p q) else none
  | _, _ => none
def dEq (a b : D) (st : Sto) : R D := match eqD st a b with
  | some k => .ok (.bl k) st
  | none => .stuck
def dNe (a b : D) (st : Sto) : R D := match eqD st a b with
  | some k => .ok (.bl (!k)) st
  | none => .stuck
def dIn (a b : D) (st : Sto) : R D := match items st b with
  | some ys => if isFl a && ys.all isFl then .ok (.bl (inV (fl a) (ys.map fl))) st else .stuck
  | none => match a, b with
    | .str s, .str z => if s.cps.size = 1 then .ok (.bl (decide (s.cps.toList.headD 0 ∈ z.cps.toList))) st else .ok (.bl (!(Builtin.Str.occurrences z s 0 z.length 1).isEmpty)) st
    | _, _ => .stuck
def dNotIn (a b : D) (st : Sto) : R D := match items st b with
  | some ys => if isFl a && ys.all isFl then .ok (.bl (!inV (fl a) (ys.map fl))) st else .stuck
  | none => match a, b with
    | .str s, .str z => if s.cps.size = 1 then .ok (.bl (!decide (s.cps.toList.headD 0 ∈ z.cps.toList))) st else .stuck
    | _, _ => .stuck
section
variable {K : PySem.W.Frag} {G : GA} {X : Cx}
abbrev rEqS (K : PySem.W.Frag) : R2 := fun x y H Q => rEq x y H Q ∨ rEqD K x y H Q
abbrev rNeS (K : PySem.W.Frag) : R2 := fun x y H Q => rNe x y H Q ∨ rNeD K x y H Q
theorem op_eqS (hu : X.A.units + 64 < cLine) : OpR X (compareOp .Eq) (rEqS X.K) := OpR.or op_eq (op_eqD hu)
theorem op_neS (hu : X.A.units + 64 < cLine) : OpR X (compareOp .NotEq) (rNeS X.K) := OpR.or op_ne (op_neD hu)
theorem eqD_of {Z : Gh} {H : Hp} {st : Sto} {a b : D} {x y : V} {k : Bool} (R : RelH K G Z H st) (p : Rep K G Z a x) (q : Rep K G Z b y) (h : eqD st a b = some k) :
    (scal x y = true ∧ k = decide (x = y)) ∨ ∃ d e, Dp K H x d ∧ Dp K H y e ∧ SeqAt.shaped d = true ∧ SeqAt.shaped e = true ∧ k = PyData.eqv d e := by
  unfold eqD at h
  split at h
  · rename_i hc
    rw [Bool.and_eq_true, Bool.and_eq_true] at hc
    cases h
    rw [rep_fl hc.1.1 p, rep_fl hc.1.2 q]
    exact .inl ⟨hc.2, rfl⟩
  · split at h
    · rename_i d e h1 h2
      split at h <;> cases h
      rename_i hs
      rw [Bool.and_eq_true] at hs
      exact .inr ⟨d, e, dp_rd R p h1, dp_rd R q h2, hs.1, hs.2, rfl⟩
    · cases h
theorem ad_eq : Ad2 K G dEq (rEqS K) := by
  intro E Z H st a b x y Q R p q h
  unfold dEq at h
  split at h
  · rename_i k e
    rcases eqD_of R p q e with ⟨h1, rfl⟩ | ⟨d, e', h1, h2, h3, h4, rfl⟩
    · exact .inl ⟨h1, Post.now (P := rD K G) h R rfl⟩
    · exact .inr ⟨d, e', h1, h2, h3, h4, Post.now (P := rD K G) h R rfl⟩
  · exact h.elim
theorem ad_ne : Ad2 K G dNe (rNeS K) := by
  intro E Z H st a b x y Q R p q h
  unfold dNe at h
  split at h
  · rename_i k e
    rcases eqD_of R p q e with ⟨h1, rfl⟩ | ⟨d, e', h1, h2, h3, h4, rfl⟩
    · exact .inl ⟨h1, Post.now (P := rD K G) h R rfl⟩
    · exact .inr ⟨d, e', h1, h2, h3, h4, Post.now (P := rD K G) h R rfl⟩
  · exact h.elim
abbrev rSign : R2 := fun x y H Q => ∃ c z, x = V.str { cps := #[c] } ∧ y = V.str z ∧ Q (V.bl (decide (c ∈ z.cps.toList))) H
abbrev rSubs : R2 := fun x y H Q => ∃ i j, x = V.str i ∧ y = V.str j ∧ Q (V.bl !(Builtin.Str.occurrences j i 0 j.length 1).isEmpty) H
abbrev rInS (K : PySem.W.Frag) : R2 := fun x y H Q => rIn K false x y H Q ∨ (rSign x y H Q ∨ rSubs x y H Q)
abbrev rNotSign : R2 := fun x y H Q => ∃ c z, x = V.str { cps := #[c] } ∧ y = V.str z ∧ Q (V.bl (!decide (c ∈ z.cps.toList))) H
abbrev rNotInS (K : PySem.W.Frag) : R2 := fun x y H Q => rIn K true x y H Q ∨ rNotSign x y H Q
theorem op_inS : OpR X (compareOp .In) (rInS X.K) := OpR.or op_in_seq (OpR.or op_in_sign op_in_str)
theorem op_notInS : OpR X (compareOp .NotIn) (rNotInS X.K) := OpR.or op_notIn_seq op_notIn_sign
theorem one_sign {s : Str} (h : s.cps.size = 1) : s = ⟨#[s.cps.toList.headD 0]⟩ := by
  obtain ⟨⟨l⟩⟩ := s
  match l, h with
  | [c], _ => rfl
theorem ad_in : Ad2 K G dIn (rInS K) := by
  intro E Z H st a b x y Q R p q h
  unfold dIn at h
  split at h
  · rename_i ys e
    split at h
    · rename_i hc
      rw [Bool.and_eq_true] at hc
      obtain ⟨l, vs, rfl, hs, r⟩ := R.items q e
      rw [rep_fl hc.1 p]
      refine .inl ⟨l, vs, rfl, hs, flat_fl hc.1, by rw [rep_fls hc.2 r]; exact flat_fls hc.2, ?_⟩
      rw [if_neg Bool.false_ne_true, rep_fls hc.2 r]
      exact Post.now (P := rD K G) h R rfl
    · exact h.elim
  · split at h
    · rename_i s z _
      cases (show x = _ from p); cases (show y = _ from q)
      split at h
      · rename_i h1
        exact .inr (.inl ⟨_, z, by rw [← one_sign h1], rfl, Post.now (P := rD K G) h R rfl⟩)
      · exact .inr (.inr ⟨_, _, rfl, rfl, Post.now (P := rD K G) h R rfl⟩)
    · exact h.elim
theorem ad_notIn : Ad2 K G dNotIn (rNotInS K) := by
  intro E Z H st a b x y Q R p q h
  unfold dNotIn at h
  split at h
  · rename_i ys e
    split at h
    · rename_i hc
      rw [Bool.and_eq_true] at hc
      obtain ⟨l, vs, rfl, hs, r⟩ := R.items q e
      rw [rep_fl hc.1 p]
      refine .inl ⟨l, vs, rfl, hs, flat_fl hc.1, by rw [rep_fls hc.2 r]; exact flat_fls hc.2, ?_⟩
      rw [if_pos rfl, rep_fls hc.2 r]
      exact Post.now (P := rD K G) h R rfl
    · exact h.elim
  · split at h
    · rename_i s z _
      cases (show x = _ from p); cases (show y = _ from q)
      split at h
      · rename_i h1
        exact .inr ⟨_, z, by rw [← one_sign h1], rfl, Post.now (P := rD K G) h R rfl⟩
      · exact h.elim
    · exact h.elim
end
/-! ### displays -/
def mTup (m : MA) : M := fun env st => (m env st).bind fun ds st1 => if ds.length ≤ sizeLine then .ok (.tup ds) st1 else .stuck
def mLst (m : MA) : M := fun env st => (m env st).bind fun ds st1 => if ds.length ≤ sizeLine then .ok (.lst ds) st1 else .stuck
def mLstC (m : MA) : M := fun env st => (m env st).bind fun ds st1 => if ds.length ≤ sizeLine then .ok (.ptr st1.length) (st1 ++ [.lst ds]) else .stuck
def mStar (m : M) (n : MA) : MA := fun env st => (m env st).bind fun a st1 => match items st1 a with
  | some xs => (n env st1).bind fun r st2 => .ok (xs ++ r) st2
  | none => .stuck
section
variable {K : PySem.W.Frag} {G : GA} {W : WX} {X : Cx} {e : Expr} {es : List Expr} {m : MA} {pos : Pos}
theorem pS_tup {k} (h : PA X es (tSA K G W m)) : PE X (.Tuple es k pos) (tS K G W (mTup m)) :=
  pe_of (pe_tup h) fun σ H Q h => rs_bind (f := fun ds _ st1 => if ds.length ≤ sizeLine then R.ok (D.tup ds) st1 else .stuck) h fun ds vs H1 Z env st R S p q => by
    split at q
    · rename_i hz; exact ⟨by rw [← RepL.length p]; exact hz, fun l hl => q.newT R p hl⟩
    · exact q.elim
theorem pS_lst (h : PA X es (tSA K G W m)) : PE X (.List es pos) (tS K G W (mLst m)) :=
  pe_of (pe_lst h) fun σ H Q h => rs_bind (f := fun ds _ st1 => if ds.length ≤ sizeLine then R.ok (D.lst ds) st1 else .stuck) h fun ds vs H1 Z env st R S p q => by
    split at q
    · rename_i hz; exact ⟨by rw [← RepL.length p]; exact hz, fun l hl => q.newL R p hl⟩
    · exact q.elim
theorem pS_lstC (h : PA X es (tSA K G W m)) : PE X (.List es pos) (tS K G W (mLstC m)) :=
  pe_of (pe_lst h) fun σ H Q h => rs_bind (f := fun ds _ st1 => if ds.length ≤ sizeLine then R.ok (D.ptr st1.length) (st1 ++ [.lst ds]) else .stuck) h fun ds vs H1 Z env st R S p q => by
    split at q
    · rename_i hz; exact ⟨by rw [← RepL.length p]; exact hz, fun l hl => q.newC R p hl⟩
    · exact q.elim
theorem pSA_star {n : M} {p : Pos} (h : PE X e (tS X.K G W n)) (h' : PA X es (tSA X.K G W m)) (hs : starEach (.Starred e p :: es) X.env = (true, eval e X.env) :: starEach es X.env := by rfl) : PA X (.Starred e p :: es) (tSA X.K G W (mStar n m)) :=
  pa_of (StX.pa_star h h' hs) fun σ H Q h => rs_bind (f := fun a env st1 => match items st1 a with | some xs => (m env st1).bind fun r st2 => .ok (xs ++ r) st2 | none => .stuck) h fun a v H1 Z env st R S p q => by
    split at q
    · rename_i xs e
      obtain ⟨l, vs, rfl, hs, r⟩ := R.items p e
      refine ⟨l, vs, rfl, hs.symm, Z, env, st, R, S, q.bind fun ys st2 Z2 us H2 l2 R2 p2 q2 => ?_⟩
      exact Post.now (P := rL X.K G) q2 R2 ((RepL.up l2 _ _ r).append p2)
    · exact q.elim
end
/-! ### slices -/
def cutD (xs : List D) (lo hi : Option Int) : List D := (xs.drop (HT.sIx xs.length 0 lo)).take (HT.sIx xs.length xs.length hi - HT.sIx xs.length 0 lo)
abbrev MO := Env → Sto → R (Option Int)
def mNoPart : MO := fun _ st => .ok none st
def mPart (m : M) : MO := fun env st => (m env st).bind fun d st1 => match d with
  | .int i => .ok (some i) st1
  | _ => .stuck
def dSl (a : D) (lo hi : Option Int) (st : Sto) : R D := match rd st a with
  | .lst xs => .ok (.lst (cutD xs lo hi)) st
  | .rls xs => .ok (.lst (cutD xs lo hi)) st
  | .tup xs => .ok (.tup (cutD xs lo hi)) st
  | .str z => if z.length ≤ sizeLine then .ok (.str (cutS z lo hi)) st else .stuck
  | _ => .stuck
def mSl (m : M) (lo hi : MO) : M := fun env st => (m env st).bind fun a st1 => (lo env st1).bind fun l st2 => (hi env st2).bind fun h st3 => dSl a l h st3
section
variable {K : PySem.W.Frag} {G : GA} {W : WX} {X : Cx} {e : Expr} {pos : Pos}
def rO : Gh → Option Int → Option Int → Prop := fun _ a b => a = b
abbrev tSO (K : PySem.W.Frag) (G : GA) (W : WX) (m : MO) : TO := tG K G rO W m
theorem po_of {o : Option Expr} {t t' : TO} (h : PO X o t) (k : ∀ σ H Q, t' σ H Q → t σ H Q) : PO X o t' := ⟨fun pins s σ H Q I q => h.run pins s σ H Q I (k σ H Q q)⟩
theorem pSO_none : PO X none (tSO K G W mNoPart) := po_of po_none fun σ H Q ⟨Z, env, st, R, S, h⟩ => Post.now (P := rO) h R rfl
theorem pSO_some {m : M} (h : PE X e (tS K G W m)) : PO X (some e) (tSO K G W (mPart m)) :=
  po_of (po_some h) fun σ H Q h => rs_bind (f := fun d _ st1 => match d with | .int i => .ok (some i) st1 | _ => .stuck) h fun d v H1 Z env st R S p q => by
    cases d with
    | int i => exact ⟨i, p, Post.now (P := rO) q R rfl⟩
    | _ => exact q.elim
theorem SlR.or {r r' : V → Option Int → Option Int → Hp → VK → Prop} (h : SlR X r) (h' : SlR X r') : SlR X (fun x l u H Q => r x l u H Q ∨ r' x l u H Q) := by
  intro pins s σ H x v vl vu lo hi sl Q I rv c1 c2 c3 q
  exact q.elim (h pins s σ H x v vl vu lo hi sl Q I rv c1 c2 c3) (h' pins s σ H x v vl vu lo hi sl Q I rv c1 c2 c3)
abbrev rSl (K : PySem.W.Frag) : V → Option Int → Option Int → Hp → VK → Prop := fun x l u H Q => (rSlL K x l u H Q ∨ rSlA K x l u H Q) ∨ rSlS x l u H Q
theorem sl_S : SlR X (rSl X.K) := SlR.or (SlR.or sl_list sl_tupA) sl_str
theorem RepL.slc {Z : Gh} {ds : List D} {vs : List V} (r : RepL K G Z ds vs) (lo hi : Option Int) : RepL K G Z (cutD ds lo hi) (cutV vs lo hi) := by
  unfold cutD cutV
  rw [r.length]
  exact (r.drop _).take _
theorem ad_sl {E : XK} {Z : Gh} {H : Hp} {st : Sto} {a : D} {lo hi : Option Int} {x : V} {Q : VK} (R : RelH K G Z H st) (p : Rep K G Z a x) (h : Post K G (rD K G) E Z (dSl a lo hi st) Q) : rSl K x lo hi H Q := by
  unfold dSl at h
  split at h
  · rename_i e1
    obtain ⟨l, xs, rfl, h1, r1⟩ := R.lst p e1
    exact .inl (.inl ⟨l, xs, rfl, SqL.of h1, fun q hq => h.newL R (r1.slc lo hi) hq⟩)
  · rename_i e1
    obtain ⟨l, xs, rfl, h1, r1⟩ := R.rls p e1
    exact .inl (.inl ⟨l, xs, rfl, h1, fun q hq => h.newL R (r1.slc lo hi) hq⟩)
  · rename_i e1
    obtain ⟨l, xs, rfl, h1, r1⟩ := R.tup p e1
    refine .inl (.inr ⟨l, xs, rfl, h1, fun hw => ?_, fun _ q hq => h.newT R (r1.slc lo hi) hq⟩)
    have e : cutD _ lo hi = _ := show cutD _ lo hi = _ from by
      unfold cutD
      rw [r1.length, hw.1, hw.2, List.drop_zero, Nat.sub_zero, ← r1.length, List.take_length]
    rw [e] at h
    cases rd_self e1 rfl
    exact Post.now (P := rD K G) h R p
  · rename_i e1
    cases RelH.str p e1
    split at h
    · rename_i hz; exact .inr ⟨_, rfl, hz, Post.now (P := rD K G) h R rfl⟩
    · exact h.elim
  · exact h.elim
theorem pS_sl {m : M} {lo hi : Option Expr} {ml mh : MO} {p2 : Pos} (h : PE X e (tS X.K G W m)) (h1 : PO X lo (tSO X.K G W ml)) (h2 : PO X hi (tSO X.K G W mh)) : PE X (.Subscript e (.Slice lo hi none p2) pos) (tS X.K G W (mSl m ml mh)) :=
  pe_of (pe_slice sl_S h h1 h2) fun σ H Q h => rs_bind (f := fun a env st1 => (ml env st1).bind fun l st2 => (mh env st2).bind fun h st3 => dSl a l h st3) h fun a x H1 Z env st R S p q => by
    refine ⟨Z, env, st, R, S, q.bind fun l st2 Z2 l' H2 l2 R2 p2 q2 => ?_⟩
    cases (show l = l' from p2)
    refine ⟨Z2, env, st2, R2, S.up l2, q2.bind fun u st3 Z3 u' H3 l3 R3 p3 q3 => ?_⟩
    cases (show u = u' from p3)
    exact ad_sl R3 (Rep.up (l2.trans l3) a x p) q3
end
end S
/-! calls of built-in things, methods, fields, texts -/
namespace S
open PySem PySem.Spec L2
def isS : D → Bool
  | .str _ => true
  | _ => false
def sOf : D → Str
  | .str x => x
  | _ => Str.empty
def isB : D → Bool
  | .bl _ => true
  | _ => false
def bOf : D → Bool
  | .bl x => x
  | _ => false
section
variable {K : PySem.W.Frag} {G : GA} {Z : Gh}
theorem rep_strs : ∀ {ds : List D} {vs : List V}, ds.all isS = true → RepL K G Z ds vs → vs = (ds.map sOf).map V.str
  | [], _, _, r => r
  | d :: ds, _, h, ⟨v, t, e, p, q⟩ => by
    subst e
    rw [List.all_cons, Bool.and_eq_true] at h
    rw [List.map_cons, List.map_cons, ← rep_strs h.2 q]
    cases d <;> first | (cases (show v = _ from p); rfl) | cases h.1
theorem rep_bls : ∀ {ds : List D} {vs : List V}, ds.all isB = true → RepL K G Z ds vs → vs = (ds.map bOf).map V.bl
  | [], _, _, r => r
  | d :: ds, _, h, ⟨v, t, e, p, q⟩ => by
    subst e
    rw [List.all_cons, Bool.and_eq_true] at h
    rw [List.map_cons, List.map_cons, ← rep_bls h.2 q]
    cases d <;> first | (cases (show v = _ from p); rfl) | cases h.1
theorem reps_str : ∀ ss : List Str, RepL K G Z (ss.map D.str) (ss.map V.str)
  | [] => rfl
  | s :: r => ⟨_, _, rfl, rfl, reps_str r⟩
end
/-! ### f(..), f a built-in -/
section
variable {G : GA} {W : WX} {X : Cx} {x : Str} {p pos : Pos} {e : Expr} {es : List Expr} {id T : String} {r : List V → Hp → VK → Prop} {f : List D → Sto → R D} {m : MA}
theorem pS_callB (hc : CallR X (.builtin id) r) (hf : AdL X.K G f r) (hg : Gl X x) (hm : X.mg x = none) (hv : bootBuiltins x = some (.builtin id)) (ha : PA X (e :: es) (tSA X.K G W m)) (hn : x ≠ "__name__" := by decide) (hdb : (x == ("__debug__" : Str)) = false := by decide)
    (he : starEach (e :: es) X.env = (false, eval e X.env) :: starEach es X.env := by rfl) (hpl : (backTo pos (starEach es X.env)).any (·.1) = false := by rfl) : PE X (.Call (.Name x p) (e :: es) [] pos) (tS X.K G W (mApp f m)) :=
  pe_of (pe_callB hc hg hm hv ha hn hdb he hpl) fun _ _ _ => rs_app hf
theorem pS_callTy (hc : CallR X (.type T) r) (hf : AdL X.K G f r) (hg : Gl X x) (hm : X.mg x = none) (hv : bootBuiltins x = some (.type T)) (ha : PA X (e :: es) (tSA X.K G W m)) (hn : x ≠ "__name__" := by decide) (hdb : (x == ("__debug__" : Str)) = false := by decide)
    (he : starEach (e :: es) X.env = (false, eval e X.env) :: starEach es X.env := by rfl) (hpl : (backTo pos (starEach es X.env)).any (·.1) = false := by rfl) : PE X (.Call (.Name x p) (e :: es) [] pos) (tS X.K G W (mApp f m)) :=
  pe_of (pe_callTy hc hg hm hv ha hn hdb he hpl) fun _ _ _ => rs_app hf
end
/-- the items of a list -/
def itemsL (st : Sto) (d : D) : Option (List D) := match rd st d with
  | .lst xs => some xs
  | .rls xs => some xs
  | _ => none
def dAll (as : List D) (st : Sto) : R D := match as with
  | [a] => match itemsL st a with
    | some xs => if xs.all isB then .ok (.bl ((xs.map bOf).all id)) st else .stuck
    | none => .stuck
  | _ => .stuck
def dTuple (as : List D) (st : Sto) : R D := match as with
  | [a] => match items st a with
    | some xs => .ok (.tup xs) st
    | none => .stuck
  | _ => .stuck
def dList (as : List D) (st : Sto) : R D := match as with
  | [a] => match items st a with
    | some xs => .ok (.lst xs) st
    | none => .stuck
  | _ => .stuck
def dListC (as : List D) (st : Sto) : R D := match as with
  | [a] => match items st a with
    | some xs => .ok (.ptr st.length) (st ++ [.lst xs])
    | none => .stuck
  | _ => .stuck
def dStr (as : List D) (st : Sto) : R D := match as with
  | [.int i] => if i.natAbs.log2 < 1920 then .ok (.str (toString i)) st else .stuck
  | [.str s] => .ok (.str s) st
  | _ => .stuck
def dInt (as : List D) (st : Sto) : R D := match as with
  | [.int i] => .ok (.int i) st
  | [.bl k] => .ok (.int (if k = true then 1 else 0)) st
  | _ => .stuck
def dAbs (as : List D) (st : Sto) : R D := match as with
  | [.int i] => .ok (.int (if i < 0 then -i else i)) st
  | _ => .stuck
def dMax (as : List D) (st : Sto) : R D := match as with
  | [.int i, .int j] => .ok (.int (if j > i then j else i)) st
  | _ => .stuck
def dMin (as : List D) (st : Sto) : R D := match as with
  | [.int i, .int j] => .ok (.int (if j < i then j else i)) st
  | _ => .stuck
/-- texts in order -/
def insS (x : Str) : List Str → List Str
  | [] => [x]
  | y :: r => if PySem.Spec.ltCps y.cps.toList x.cps.toList then y :: insS x r else x :: y :: r
def sortS : List Str → List Str
  | [] => []
  | x :: r => insS x (sortS r)
def dSorted (as : List D) (st : Sto) : R D := match as with
  | [a] => match itemsL st a with
    | some xs => if xs.all isS && decide (xs.length < 64) then .ok (.lst ((sortS (xs.map sOf)).map .str)) st else .stuck
    | none => .stuck
  | _ => .stuck
section
variable {K : PySem.W.Frag} {G : GA} {X : Cx}
theorem RelH.itemsL {Z : Gh} {H : Hp} {st : Sto} {d : D} {v : V} {xs : List D} (R : RelH K G Z H st) (r : Rep K G Z d v) (e : itemsL st d = some xs) : ∃ p vs, v = .ref p ∧ SqL K H p vs ∧ RepL K G Z xs vs := by
  unfold S.itemsL at e
  split at e <;> cases e
  · rename_i q; obtain ⟨p, vs, h1, h2, h3⟩ := R.lst r q; exact ⟨p, vs, h1, SqL.of h2, h3⟩
  · rename_i q; obtain ⟨p, vs, h1, h2, h3⟩ := R.rls r q; exact ⟨p, vs, h1, h2, h3⟩
theorem ad_all : AdL K G dAll (rAll K) := by
  intro E Z H st as xs Q R r h
  unfold dAll at h
  split at h
  · obtain ⟨x, rfl, p⟩ := RepL.one r
    split at h
    · rename_i e1
      obtain ⟨l, vs, rfl, h1, r1⟩ := R.itemsL p e1
      split at h
      · rename_i hb; exact ⟨l, _, rfl, by rw [← rep_bls hb r1]; exact h1, Post.now (P := rD K G) h R rfl⟩
      · exact h.elim
    · exact h.elim
  · exact h.elim
abbrev rTuple (K : PySem.W.Frag) : List V → Hp → VK → Prop := fun xs H Q => ∃ p ys, xs = [V.ref p] ∧ ((SqL K H p ys ∧ ∀ (l : Addr), H l = none → Q (V.ref l) (upd H l (HO.tup ys))) ∨ SqT K H p ys ∧ Q (V.ref p) H)
theorem ad_tuple : AdL K G dTuple (rTuple K) := by
  intro E Z H st as xs Q R r h
  unfold dTuple at h
  split at h
  · obtain ⟨x, rfl, p⟩ := RepL.one r
    split at h
    · rename_i e1
      unfold items at e1
      split at e1 <;> cases e1
      · rename_i q; obtain ⟨l, vs, rfl, h2, h3⟩ := R.lst p q; exact ⟨l, vs, rfl, .inl ⟨SqL.of h2, fun l hl => h.newT R h3 hl⟩⟩
      · rename_i q; obtain ⟨l, vs, rfl, h2, h3⟩ := R.rls p q; exact ⟨l, vs, rfl, .inl ⟨h2, fun l hl => h.newT R h3 hl⟩⟩
      · rename_i q
        obtain ⟨l, vs, rfl, h2, h3⟩ := R.tup p q
        cases rd_self q rfl
        exact ⟨l, vs, rfl, .inr ⟨h2, Post.now (P := rD K G) h R p⟩⟩
    · exact h.elim
  · exact h.elim
abbrev rList (K : PySem.W.Frag) : List V → Hp → VK → Prop := fun xs H Q => ∃ p ys, xs = [V.ref p] ∧ (SqL K H p ys ∨ SqT K H p ys) ∧ ∀ (l : Addr), H l = none → Q (V.ref l) (upd H l (HO.lst ys))
theorem ad_list : AdL K G dList (rList K) := by
  intro E Z H st as xs Q R r h
  unfold dList at h
  split at h
  · obtain ⟨x, rfl, p⟩ := RepL.one r
    split at h
    · rename_i e1
      obtain ⟨l, vs, rfl, h1, r1⟩ := R.items p e1
      exact ⟨l, vs, rfl, h1, fun q hq => h.newL R r1 hq⟩
    · exact h.elim
  · exact h.elim
theorem ad_listC : AdL K G dListC (rList K) := by
  intro E Z H st as xs Q R r h
  unfold dListC at h
  split at h
  · obtain ⟨x, rfl, p⟩ := RepL.one r
    split at h
    · rename_i e1
      obtain ⟨l, vs, rfl, h1, r1⟩ := R.items p e1
      exact ⟨l, vs, rfl, h1, fun q hq => h.newC R r1 hq⟩
    · exact h.elim
  · exact h.elim
abbrev rStr : List V → Hp → VK → Prop := fun xs H Q => (∃ i, xs = [.int i] ∧ i.natAbs.log2 < 1920 ∧ Q (.str (toString i)) H) ∨ ∃ a, xs = [.str a] ∧ Q (.str a) H
theorem cr_str : CallR X (.type "str") rStr := CallR.or call_str_int SkE.call_str_str
theorem ad_str : AdL K G dStr rStr := by
  intro E Z H st as xs Q R r h
  unfold dStr at h
  split at h
  · obtain ⟨x, rfl, p⟩ := RepL.one r
    cases (show x = _ from p)
    split at h
    · rename_i hz; exact .inl ⟨_, rfl, hz, Post.now (P := rD K G) h R rfl⟩
    · exact h.elim
  · obtain ⟨x, rfl, p⟩ := RepL.one r
    cases (show x = _ from p)
    exact .inr ⟨_, rfl, Post.now (P := rD K G) h R rfl⟩
  · exact h.elim
abbrev rInt : List V → Hp → VK → Prop := fun xs H Q => (∃ i, xs = [V.int i] ∧ Q (V.int i) H) ∨ ∃ k, xs = [V.bl k] ∧ Q (V.int (if k = true then 1 else 0)) H
theorem ad_int : AdL K G dInt rInt := by
  intro E Z H st as xs Q R r h
  unfold dInt at h
  split at h
  · obtain ⟨x, rfl, p⟩ := RepL.one r
    cases (show x = _ from p)
    exact .inl ⟨_, rfl, Post.now (P := rD K G) h R rfl⟩
  · obtain ⟨x, rfl, p⟩ := RepL.one r
    cases (show x = _ from p)
    exact .inr ⟨_, rfl, Post.now (P := rD K G) h R rfl⟩
  · exact h.elim
theorem ad_abs : AdL K G dAbs (fun xs H Q => ∃ i, xs = [V.int i] ∧ Q (V.int (if i < 0 then -i else i)) H) := by
  intro E Z H st as xs Q R r h
  unfold dAbs at h
  split at h
  · obtain ⟨x, rfl, p⟩ := RepL.one r
    cases (show x = _ from p)
    exact ⟨_, rfl, Post.now (P := rD K G) h R rfl⟩
  · exact h.elim
theorem ad_max : AdL K G dMax (fun xs H Q => ∃ i j, xs = [V.int i, V.int j] ∧ Q (V.int (if j > i then j else i)) H) := by
  intro E Z H st as xs Q R r h
  unfold dMax at h
  split at h
  · obtain ⟨x, y, rfl, p, q⟩ := RepL.two r
    cases (show x = _ from p); cases (show y = _ from q)
    exact ⟨_, _, rfl, Post.now (P := rD K G) h R rfl⟩
  · exact h.elim
theorem ad_min : AdL K G dMin (fun xs H Q => ∃ i j, xs = [V.int i, V.int j] ∧ Q (V.int (if j < i then j else i)) H) := by
  intro E Z H st as xs Q R r h
  unfold dMin at h
  split at h
  · obtain ⟨x, y, rfl, p, q⟩ := RepL.two r
    cases (show x = _ from p); cases (show y = _ from q)
    exact ⟨_, _, rfl, Post.now (P := rD K G) h R rfl⟩
  · exact h.elim
/-! sorting -/
theorem ltCps_iff (a b : List Nat) : PySem.Spec.ltCps a b = true ↔ a < b := by rw [PyProof.Rows.ltCps_eq, decide_eq_true_iff]
theorem ltCps_asym {a b : Str} (h : PySem.Spec.ltCps b.cps.toList a.cps.toList = false) (h' : PySem.Spec.ltCps a.cps.toList b.cps.toList = false) : a = b := by
  have e1 : ¬ b.cps.toList < a.cps.toList := fun q => by rw [(ltCps_iff _ _).mpr q] at h; cases h
  have e2 : ¬ a.cps.toList < b.cps.toList := fun q => by rw [(ltCps_iff _ _).mpr q] at h'; cases h'
  have : a.cps.toList = b.cps.toList := List.le_antisymm (List.not_lt.mp e1) (List.not_lt.mp e2)
  obtain ⟨⟨l⟩⟩ := a
  obtain ⟨⟨k⟩⟩ := b
  cases (show l = k from this)
  rfl
abbrev LeS (a b : Str) : Prop := PySem.Spec.ltCps b.cps.toList a.cps.toList = false
theorem LeS.trans {a b c : Str} (h : LeS a b) (h' : LeS b c) : LeS a c := by
  cases q : PySem.Spec.ltCps c.cps.toList a.cps.toList with
  | false => exact q
  | true =>
    have h1 : ¬ b.cps.toList < a.cps.toList := fun z => by rw [LeS, (ltCps_iff _ _).mpr z] at h; cases h
    have h2 : ¬ c.cps.toList < b.cps.toList := fun z => by rw [LeS, (ltCps_iff _ _).mpr z] at h'; cases h'
    exact absurd ((ltCps_iff _ _).mp q) (List.not_lt.mpr (List.le_trans (List.not_lt.mp h1) (List.not_lt.mp h2)))
theorem insS_perm (x : Str) : ∀ l : List Str, (insS x l).Perm (x :: l)
  | [] => .refl _
  | y :: r => by
    unfold insS
    split
    · exact ((insS_perm x r).cons y).trans (.swap x y r)
    · exact .refl _
theorem sortS_perm : ∀ l : List Str, (sortS l).Perm l
  | [] => .refl _
  | x :: r => (insS_perm x _).trans ((sortS_perm r).cons x)
theorem insS_sorted (x : Str) : ∀ l : List Str, l.Pairwise LeS → (insS x l).Pairwise LeS
  | [], _ => by simp [insS]
  | y :: r, h => by
    unfold insS
    rw [List.pairwise_cons] at h
    split
    · rename_i q
      refine List.pairwise_cons.mpr ⟨fun z hz => ?_, insS_sorted x r h.2⟩
      rcases List.mem_cons.mp ((insS_perm x r).mem_iff.mp hz) with rfl | hz
      · show PySem.Spec.ltCps _ _ = false
        cases q' : PySem.Spec.ltCps z.cps.toList y.cps.toList with
        | false => rfl
        | true => exact absurd ((ltCps_iff _ _).mp q) (List.not_lt.mpr (List.le_of_lt ((ltCps_iff _ _).mp q')))
      · exact h.1 z hz
    · rename_i q
      have q : LeS x y := by
        show PySem.Spec.ltCps _ _ = false
        cases e : PySem.Spec.ltCps y.cps.toList x.cps.toList with
        | false => rfl
        | true => exact absurd e q
      refine List.pairwise_cons.mpr ⟨fun z hz => ?_, List.pairwise_cons.mpr h⟩
      rcases List.mem_cons.mp hz with rfl | hz
      · exact q
      · exact q.trans (h.1 z hz)
theorem sortS_sorted : ∀ l : List Str, (sortS l).Pairwise LeS
  | [] => .nil
  | x :: r => insS_sorted x _ (sortS_sorted r)
theorem rising_pair : ∀ (l : List Str) (p : Str), PyProof.Rows.risingS p l = true → (p :: l).Pairwise LeS
  | [], p, _ => by simp
  | x :: r, p, h => by
    unfold PyProof.Rows.risingS at h
    rw [Bool.and_eq_true] at h
    have hx : LeS p x := by
      show PySem.Spec.ltCps _ _ = false
      cases e : PySem.Spec.ltCps x.cps.toList p.cps.toList with
      | false => rfl
      | true => rw [e] at h; cases h.1
    have ih := rising_pair r x h.2
    refine List.pairwise_cons.mpr ⟨fun z hz => ?_, ih⟩
    rcases List.mem_cons.mp hz with rfl | hz
    · exact hx
    · exact hx.trans ((List.pairwise_cons.mp ih).1 z hz)
theorem sorted_pair {l : List Str} (h : PyProof.Rows.sortedS l = true) : l.Pairwise LeS := by
  cases l with
  | nil => exact .nil
  | cons x r => exact rising_pair r x h
theorem sortS_uniq {l ys : List Str} (hp : ys.Perm l) (hs : PyProof.Rows.sortedS ys = true) : ys = sortS l :=
  (hp.trans (sortS_perm l).symm).eq_of_pairwise (fun a b _ _ h1 h2 => ltCps_asym h1 h2) (sorted_pair hs) (sortS_sorted l)
theorem ad_sorted : AdL K G dSorted (rSortedS K) := by
  intro E Z H st as xs Q R r h
  unfold dSorted at h
  split at h
  · obtain ⟨x, rfl, p⟩ := RepL.one r
    split at h
    · rename_i e1
      obtain ⟨l, vs, rfl, h1, r1⟩ := R.itemsL p e1
      split at h
      · rename_i hb
        rw [Bool.and_eq_true, decide_eq_true_iff] at hb
        refine ⟨l, _, rfl, by rw [← rep_strs hb.1 r1]; exact h1, by rw [List.length_map]; exact hb.2, fun ys p hp hs hn => ?_⟩
        rw [sortS_uniq hp hs]
        exact h.newL R (reps_str _) hn
      · exact h.elim
    · exact h.elim
  · exact h.elim
end
/-! ### texts -/
def dJoin (a b : D) (st : Sto) : R D := match a, items st b with
  | .str z, some ys => if ys.all isS && decide (((ys.map sOf).map fun x => x.length).sum + ys.length * z.length ≤ 16777216) then .ok (.str (Txt.join z (ys.map sOf))) st else .stuck
  | _, _ => .stuck
def dSplit (a b : D) (st : Sto) : R D := match a, b with
  | .str z, .str s => if (s.length == 0) = false ∧ z.length + 2 ≤ sizeLine then .ok (.lst ((Txt.split z s).map .str)) st else .stuck
  | _, _ => .stuck
def mTxt (f : D → D → Sto → R D) (m n : M) : M := fun env st => (m env st).bind fun a st1 => if isS a then (n env st1).bind fun b st2 => f a b st2 else .stuck
def mFmt (m : M) : M := fun env st => (m env st).bind fun a st1 => match a with
  | .str z => if z.length ≤ sizeLine then .ok (.str z) st1 else .stuck
  | .int i => if i.natAbs.log2 < 1920 then .ok (.str (toString i)) st1 else .stuck
  | _ => .stuck
def mJs : List M → Str → Env → Sto → R D
  | [], acc, _, st => .ok (.str acc) st
  | m :: ms, acc, env, st => (m env st).bind fun a st1 => match a with
    | .str y => if (acc ++ y).length ≤ sizeLine then mJs ms (acc ++ y) env st1 else .stuck
    | _ => .stuck
section
variable {K : PySem.W.Frag} {G : GA} {W : WX} {X : Cx} {o e : Expr} {m n : M} {pos apos : Pos} {σ : St} {H : Hp}
theorem rs_txt {f : D → D → Sto → R D} {r : V → List V → Hp → VK → Prop} {Q : VK} (hf : Ad2 K G f (fun x y H Q => r x [y] H Q)) (h : tS K G W (mTxt f m n) σ H Q) : tM1 r (tS K G W m) (tS K G W n) σ H Q :=
  rs_bind (f := fun a env st1 => if isS a then (n env st1).bind fun b st2 => f a b st2 else .stuck) h fun a x H1 Z env st R S p q => by
    cases a with
    | str z => exact ⟨⟨z, p⟩, Z, env, st, R, S, Post.bind (P := rD K G) (show Post K G (rD K G) _ Z ((n env st).bind fun b st2 => f (.str z) b st2) Q from q) fun b st' Z' y H' l R' p' q' => hf _ Z' H' st' (.str z) b x y Q R' p p' q'⟩
    | _ => exact q.elim
theorem ad_join : Ad2 K G dJoin (fun x y H Q => ∃ a p ys, x = V.str a ∧ [y] = [V.ref p] ∧ (SqL K H p (List.map V.str ys) ∨ SqT K H p (List.map V.str ys)) ∧ (List.map (fun x => x.length) ys).sum + ys.length * a.length ≤ 16777216 ∧ Q (V.str (Txt.join a ys)) H) := by
  intro E Z H st a b x y Q R p q h
  unfold dJoin at h
  split at h
  · rename_i e
    cases (show x = _ from p)
    obtain ⟨l, vs, rfl, hs, r⟩ := R.items q e
    split at h
    · rename_i hb
      rw [Bool.and_eq_true, decide_eq_true_iff] at hb
      refine ⟨_, l, _, rfl, rfl, by rw [← rep_strs hb.1 r]; exact hs, ?_, Post.now (P := rD K G) h R rfl⟩
      rw [List.length_map]; exact hb.2
    · exact h.elim
  · exact h.elim
theorem ad_split : Ad2 K G dSplit (fun x y H Q => ∃ a b, x = V.str a ∧ [y] = [V.str b] ∧ (b.length == 0) = false ∧ a.length + 2 ≤ sizeLine ∧ rNewStrs (Txt.split a b) H Q) := by
  intro E Z H st a b x y Q R p q h
  unfold dSplit at h
  split at h
  · cases (show x = _ from p); cases (show y = _ from q)
    split at h
    · rename_i hc; exact ⟨_, _, rfl, rfl, hc.1, hc.2, fun l hl => h.newL R (reps_str _) hl⟩
    · exact h.elim
  · exact h.elim
theorem pS_join (ho : PE X o (tS X.K G W m)) (he : PE X e (tS X.K G W n)) (h1 : starEach [e] X.env = [(false, eval e X.env)] := by rfl) (h2 : attributeBase o (Str.ofString "join") X.env (eval o X.env) = eval o X.env := by rfl) (h3 : (apos.endLine == pos.line) = true := by rfl) :
    PE X (.Call (.Attribute o (Str.ofString "join") apos) [e] [] pos) (tS X.K G W (mTxt dJoin m n)) := pe_of (pe_join ho he h1 h2 h3) fun _ _ _ => rs_txt ad_join
theorem pS_split (ho : PE X o (tS X.K G W m)) (he : PE X e (tS X.K G W n)) (h1 : starEach [e] X.env = [(false, eval e X.env)] := by rfl) (h2 : attributeBase o (Str.ofString "split") X.env (eval o X.env) = eval o X.env := by rfl) (h3 : (apos.endLine == pos.line) = true := by rfl) :
    PE X (.Call (.Attribute o (Str.ofString "split") apos) [e] [] pos) (tS X.K G W (mTxt dSplit m n)) := pe_of (pe_split ho he h1 h2 h3) fun _ _ _ => rs_txt ad_split
theorem pS_fmt (h : PE X e (tS K G W m)) : PE X (.FormattedValue e (-1) none pos) (tS K G W (mFmt m)) :=
  pe_of (pe_fmt h) fun σ H Q h => rs_bind (f := fun (a : D) _ st1 => match a with
    | .str z => if z.length ≤ sizeLine then R.ok (D.str z) st1 else .stuck
    | .int i => if i.natAbs.log2 < 1920 then .ok (.str (toString i)) st1 else .stuck
    | _ => .stuck) h fun a x H1 Z env st R S p q => by
    cases a with
    | str z =>
      dsimp only at q
      split at q
      · rename_i hz; exact .inl ⟨z, p, hz, Post.now (P := rD K G) q R rfl⟩
      · exact q.elim
    | int i =>
      dsimp only at q
      split at q
      · rename_i hz; exact .inr ⟨i, p, hz, Post.now (P := rD K G) q R rfl⟩
      · exact q.elim
    | _ => exact q.elim
theorem rs_js : ∀ (ms : List M) (acc : Str) (H : Hp) (Q : VK), tS K G W (mJs ms acc) σ H Q → tJs (ms.map (tS K G W)) acc σ H fun out H1 => Q (.str out) H1
  | [], acc, H, Q, ⟨Z, env, st, R, S, h⟩ => Post.now (P := rD K G) h R rfl
  | m :: ms, acc, H, Q, h => rs_bind (f := fun (a : D) env st1 => match a with
    | .str y => if (acc ++ y).length ≤ sizeLine then mJs ms (acc ++ y) env st1 else .stuck
    | _ => .stuck) h fun a x H1 Z env st R S p q => by
    cases a with
    | str y =>
      dsimp only at q
      split at q
      · rename_i hz; exact ⟨y, p, hz, rs_js ms (acc ++ y) H1 Q ⟨Z, env, st, R, S, q⟩⟩
      · exact q.elim
    | _ => exact q.elim
theorem pS_js {v1 v2 : Expr} {rest : List Expr} {ms : List M} (h : PJ X (v1 :: v2 :: rest) (ms.map (tS K G W))) : PE X (.JoinedStr (v1 :: v2 :: rest) pos) (tS K G W (mJs ms Str.empty)) :=
  pe_of (pe_joined h) fun σ H Q h => rs_js ms Str.empty H Q h
theorem pS_js1 (h : PE X e (tS K G W m)) : PE X (.JoinedStr [e] pos) (tS K G W m) := pe_joined1 h
theorem pj_cons {ms : List M} {es : List Expr} (h : PE X e (tS K G W m)) (h' : PJ X es (ms.map (tS K G W))) : PJ X (e :: es) ((m :: ms).map (tS K G W)) := .cons h h'
theorem pj_nil : PJ X [] (([] : List M).map (tS K G W)) := .nil
end
/-! ### fields -/
def look (f : Str) : List Str → List D → Option D
  | g :: r, d :: ds => if f == g then some d else look f r ds
  | _, _ => none
def putN (f : Str) : List Str → List Str
  | [] => [f]
  | g :: r => if g = f then g :: r else g :: putN f r
def putX {α : Type} (f : Str) (x : α) : List Str → List α → List α
  | [], _ => [x]
  | g :: r, d :: ds => if g = f then x :: ds else d :: putX f x r ds
  | _ :: _, [] => []
def dFld (ok : Nat → Bool) (f : Str) (a : D) (st : Sto) : R D := match rd st a with
  | .ins c ns ds => if ok c = true then (match look f ns ds with | some d => .ok d st | none => .stuck) else .stuck
  | _ => .stuck
def mFld (ok : Nat → Bool) (f : Str) (m : M) : M := fun env st => (m env st).bind fun a st1 => dFld ok f a st1
def dPutF (ok : Nat → Bool) (f : Str) (d o : D) (st : Sto) : R D := match o with
  | .ptr i => (match st[i]? with
    | some (.ins c ns ds) => if ok c = true ∧ ns.length < 1000 then .ok D.non (st.set i (.ins c (putN f ns) (putX f d ns ds))) else .stuck
    | _ => .stuck)
  | _ => .stuck
def mSetF (ok : Nat → Bool) (f : Str) (mo mv : M) : MS := mDo (mBin (dPutF ok f) mv mo)
section
variable {K : PySem.W.Frag} {G : GA} {W : WX} {X : Cx} {Z : Gh} {o e : Expr} {m n : M} {pos pos' : Pos} {σ : St} {H : Hp}
theorem look_of {f : Str} {d : D} : ∀ {ns : List Str} {ds : List D} {vs : List V}, ns.length = vs.length → RepL K G Z ds vs → look f ns ds = some d → ∃ v, (ns.zip vs).lookup f = some v ∧ Rep K G Z d v
  | [], _, _, _, _, h => by unfold look at h; cases h
  | _ :: _, [], _, _, _, h => by unfold look at h; cases h
  | g :: r, x :: ds, _, hl, ⟨v, t, e, p, q⟩, h => by
    subst e
    unfold look at h
    rw [List.zip_cons_cons, List.lookup_cons]
    cases hg : f == g with
    | true => rw [hg] at h; cases h; exact ⟨v, rfl, p⟩
    | false => rw [hg] at h; exact look_of (by simpa using hl) q (by simpa using h)
theorem putF_zip {f : Str} {v : V} : ∀ {ns : List Str} {vs : List V}, ns.length = vs.length → putF f v (ns.zip vs) = (putN f ns).zip (putX f v ns vs) ∧ (putN f ns).length = (putX f v ns vs).length
  | [], vs, h => by cases vs with | nil => exact ⟨rfl, rfl⟩ | cons _ _ => cases h
  | g :: r, [], h => by cases h
  | g :: r, u :: us, h => by
    have ih := putF_zip (f := f) (v := v) (ns := r) (vs := us) (by simpa using h)
    rw [List.zip_cons_cons]
    unfold putF putN putX
    split
    · exact ⟨rfl, by simpa using h⟩
    · exact ⟨by rw [List.zip_cons_cons, ih.1], by simp [ih.2]⟩
theorem RepL.putX {f : Str} {d : D} {v : V} (p : Rep K G Z d v) : ∀ {ns : List Str} {ds : List D} {vs : List V}, RepL K G Z ds vs → RepL K G Z (S.putX f d ns ds) (S.putX f v ns vs)
  | [], _, _, _ => ⟨v, [], rfl, p, rfl⟩
  | _ :: _, [], _, r => by cases (show _ = _ from r); exact rfl
  | g :: r, x :: ds, _, ⟨u, t, e, q, s⟩ => by
    subst e
    unfold S.putX
    split
    · exact ⟨v, t, rfl, p, s⟩
    · exact ⟨u, _, rfl, q, RepL.putX p s⟩
theorem pS_fld {ok : Nat → Bool} {f : Str} (hA : ∀ c, ok c = true → Cls X.K (G c) ∧ NoAttr X.K (G c) f) (h : PE X e (tS X.K G W m)) (ha : attributeBase e f X.env (eval e X.env) = eval e X.env := by rfl) : PE X (.Attribute e f pos) (tS X.K G W (mFld ok f m)) :=
  pe_of (pe_fld h ha) fun σ H Q h => rs_bind (f := fun a _ st1 => dFld ok f a st1) h fun a x H1 Z env st R S p q => by
    unfold dFld at q
    split at q
    · rename_i c ns ds e1
      obtain ⟨l, dx, vs, rfl, h1, hn, r⟩ := R.ins p e1
      split at q
      · rename_i hc
        split at q
        · rename_i d e2
          obtain ⟨v, e3, rv⟩ := look_of hn r e2
          exact ⟨l, _, dx, _, v, rfl, h1, (hA c hc).1, (hA c hc).2, e3, Post.now (P := rD X.K G) q R rv⟩
        · exact q.elim
      · exact q.elim
    · exact q.elim
theorem pS_setF {ok : Nat → Bool} {f : Str} (hA : ∀ c, ok c = true → Cls X.K (G c) ∧ NoAttr X.K (G c) f) (ho : PE X o (tS X.K G W m)) (hv : PE X e (tS X.K G W n)) (hs : swapsWith e (some (.Attribute o f pos')) pos.line X.env = pure false := by rfl) :
    PS X (.Assign [.Attribute o f pos'] e pos) (tSS X.K G W (mSetF ok f m n)) :=
  ps_of (ps_fld ho hv hs) fun Dn σ H ⟨Z, env, st, R, S, h⟩ => by
    have h' : Post X.K G (rD X.K G) (WE W σ) Z (mBin (dPutF ok f) n m env st) fun _ H' => Dn.nx σ H' :=
      post_stm (f := fun _ st' => .nx env st') S h fun d st' Z' v H' l R' r q => q Z' σ H' (Gh.le.refl _) R' (S.up l)
    refine ⟨Z, env, st, R, S, h'.bind fun d st1 Z1 y H1 l1 R1 p1 q1 => ?_⟩
    refine ⟨Z1, env, st1, R1, S.up l1, q1.bind fun a st2 Z2 x H2 l2 R2 p2 q2 => ?_⟩
    unfold dPutF at q2
    split at q2
    · rename_i i
      split at q2
      · rename_i c ns ds e1
        split at q2
        · rename_i hc
          obtain ⟨l, hl, rfl⟩ := p2
          obtain ⟨dx, vs, h1, hn, r⟩ := R2.cell _ _ _ e1 hl
          refine ⟨l, _, dx, _, rfl, h1, (hA c hc.1).1, (hA c hc.1).2, ?_, ?_⟩
          · rw [List.length_zip, ← hn, Nat.min_self]; exact hc.2
          · have z := putF_zip (f := f) (v := y) hn
            rw [z.1]
            refine Post.now (P := rD X.K G) (b := .non) q2 (R2.put (c' := .ins c (putN f ns) (putX f d ns ds)) e1 rfl hl ?_) rfl
            exact ⟨dx, _, upd_same, z.2, RepL.putX (Rep.up l2 d y p1) r⟩
        · exact q2.elim
      · exact q2.elim
    · exact q2.elim
end
end S
/-! calls of own defs, of methods, of classes; what changes; loops -/
namespace S
open PySem L2
/-! ### what does not change any more -/
section
variable {K : PySem.W.Frag} {G : GA} {Z : Gh} {H : Hp} {st : Sto}
theorem RelH.frz {i : Nat} {c : C} {p : Addr} {o : HO} (R : RelH K G Z H st) (hi : st[i]? = some c) (hl : c.live = true) (hp : Z.rho[i]? = some p) (ho : H p = some o) :
    Z.le ⟨upd Z.fz p o, Z.rho, Z.tmp⟩ ∧ RelH K G ⟨upd Z.fz p o, Z.rho, Z.tmp⟩ H (st.set i .dead) := by
  have zp := R.off i c p hi hl hp
  have lt : i < st.length := (List.getElem?_eq_some_iff.mp hi).1
  have l : Z.le ⟨upd Z.fz p o, Z.rho, Z.tmp⟩ := ⟨fun b u e => by
    show upd Z.fz p o b = some u
    rw [upd_ne (ne_of_none e zp)]; exact e, ⟨[], by simp⟩, rfl⟩
  have alt : ∀ {j : Nat} {u : C}, (st.set i .dead)[j]? = some u → u.live = true → j ≠ i ∧ st[j]? = some u := fun {j u} e hu => by
    by_cases hj : j = i
    · subst hj
      rw [List.getElem?_set_self lt] at e
      cases e; cases hu
    · rw [List.getElem?_set_ne (Ne.symm hj)] at e
      exact ⟨hj, e⟩
  refine ⟨l, ⟨fun b u e => ?_, by rw [List.length_set]; exact R.len, fun j u a e1 e2 => ?_, fun j u a e1 hu e2 => ?_, fun j k u u' a e1 e2 h1 h2 r1 r2 => ?_, R.tmp, fun a u e => ⟨?_, fun j u' e1 hu => (R.tof a u e).2 j u' (alt e1 hu).2 hu⟩, G.mono l.fz R.lk⟩⟩
  · have e' : upd Z.fz p o b = some u := e
    by_cases hb : b = p
    · subst hb; rw [upd_same] at e'; cases e'; exact ho
    · rw [upd_ne hb] at e'; exact R.fz _ _ e'
  · cases hu : u.live with
    | false => cases u <;> first | trivial | cases hu
    | true => exact (R.cell j u a (alt e1 hu).2 e2).up l
  · obtain ⟨hj, e⟩ := alt e1 hu
    show upd Z.fz p o a = none
    have ne : a ≠ p := fun z => hj (R.inj j i u c p e hi hu hl (by rw [e2, z]) hp)
    rw [upd_ne ne]
    exact R.off j u a e hu e2
  · obtain ⟨_, e⟩ := alt e1 h1
    obtain ⟨_, e'⟩ := alt e2 h2
    exact R.inj j k u u' a e e' h1 h2 r1 r2
  · show upd Z.fz p o a = none
    have ne : a ≠ p := fun z => (R.tof a u e).2 i c hi hl (by rw [z]; exact hp)
    rw [upd_ne ne]; exact (R.tof a u e).1
end
def dFrz (d : D) (st : Sto) : R D := match d with
  | .ptr i => (match st[i]? with
    | some (.lst xs) => .ok (.lst xs) (st.set i .dead)
    | some (.dct ks ds) => .ok (.dct ks ds) (st.set i .dead)
    | some (.ins c ns ds) => .ok (.ins c ns ds) (st.set i .dead)
    | _ => .stuck)
  | d => .ok d st
section
variable {K : PySem.W.Frag} {G : GA} {W : WX} {X : Cx} {e : Expr} {m : M} {E : XK} {Z : Gh} {H : Hp} {st : Sto} {d : D} {v : V} {Q : VK}
theorem Post.frz (h : Post K G (rD K G) E Z (dFrz d st) Q) (R : RelH K G Z H st) (r : Rep K G Z d v) : Q v H := by
  unfold dFrz at h
  split at h
  · rename_i i
    obtain ⟨p, hp, rfl⟩ := r
    split at h
    · rename_i xs e1
      obtain ⟨vs, h1, h2⟩ := R.cell _ _ _ e1 hp
      obtain ⟨l, R'⟩ := R.frz e1 rfl hp h1
      exact h _ _ _ l R' ⟨p, vs, rfl, upd_same, RepL.up l _ _ h2⟩
    · rename_i ks ds e1
      obtain ⟨vs, h1, hn, h2⟩ := R.cell _ _ _ e1 hp
      obtain ⟨l, R'⟩ := R.frz e1 rfl hp h1
      exact h _ _ _ l R' ⟨p, vs, rfl, (.inl upd_same), hn, RepL.up l _ _ h2⟩
    · rename_i c ns ds e1
      obtain ⟨dx, vs, h1, hn, h2⟩ := R.cell _ _ _ e1 hp
      obtain ⟨l, R'⟩ := R.frz e1 rfl hp h1
      exact h _ _ _ l R' ⟨p, dx, vs, rfl, upd_same, hn, RepL.up l _ _ h2⟩
    · exact h.elim
  · exact Post.now (P := rD K G) h R r
end
/-! ### lists that change -/
def dAppend (a : D) (as : List D) (st : Sto) : R D := match a, as with
  | .ptr i, [d] => (match st[i]? with
    | some (.lst xs) => if xs.length < sizeLine then .ok .non (st.set i (.lst (xs ++ [d]))) else .stuck
    | _ => .stuck)
  | _, _ => .stuck
def dExtend (a : D) (as : List D) (st : Sto) : R D := match a, as with
  | .ptr i, [d] => (match st[i]?, rd st d with
    | some (.lst xs), .lst ys => if xs.length + ys.length ≤ sizeLine then .ok .non (st.set i (.lst (xs ++ ys))) else .stuck
    | _, _ => .stuck)
  | _, _ => .stuck
/-- the thing is a list of whatever sort -/
def isLst (st : Sto) (d : D) : Bool := match rd st d with
  | .lst _ => true
  | .rls _ => true
  | _ => false
def mLm (f : D → List D → Sto → R D) (m : M) (n : MA) : M := fun env st => (m env st).bind fun a st1 => if isLst st1 a = true then (n env st1).bind fun as st2 => f a as st2 else .stuck
def dSetIx (v o i : D) (st : Sto) : R D := match o, i with
  | .ptr j, .int k => (match st[j]? with
    | some (.lst xs) => (match ixN xs.length k with
      | some n => .ok .non (st.set j (.lst (xs.set n v)))
      | none => .stuck)
    | _ => .stuck)
  | _, _ => .stuck
def mSetIx (mo mi mv : M) : MS := mDo fun env st => (mv env st).bind fun v st1 => (mo env st1).bind fun o st2 => (mi env st2).bind fun i st3 => dSetIx v o i st3
section
variable {K : PySem.W.Frag} {G : GA} {W : WX} {X : Cx} {o e i : Expr} {es : List Expr} {m n k : M} {pos apos : Pos} {σ : St} {H : Hp}
def AdM (K : PySem.W.Frag) (G : GA) (f : D → List D → Sto → R D) (r : V → List V → Hp → VK → Prop) : Prop := ∀ (E : XK) (Z : Gh) (H : Hp) (st : Sto) (a : D) (as : List D) (x : V) (xs : List V) (Q : VK), RelH K G Z H st → Rep K G Z a x → RepL K G Z as xs → Post K G (rD K G) E Z (f a as st) Q → r x xs H Q
theorem ad_append : AdM K G dAppend rAppend := by
  intro E Z H st a as x xs Q R p r h
  unfold dAppend at h
  split at h
  · obtain ⟨l, hl, rfl⟩ := p
    obtain ⟨y, rfl, q⟩ := RepL.one r
    split at h
    · rename_i ys e1
      split at h
      · rename_i hz
        obtain ⟨vs, h1, h2⟩ := R.cell _ _ _ e1 hl
        refine ⟨l, vs, y, rfl, rfl, h1, by rw [← h2.length]; exact hz, ?_⟩
        exact Post.now (P := rD K G) (b := .non) h (R.put e1 rfl hl ⟨_, upd_same, h2.append ⟨y, [], rfl, q, rfl⟩⟩) rfl
      · exact h.elim
    · exact h.elim
  · exact h.elim
theorem ad_extend : AdM K G dExtend rExtend := by
  intro E Z H st a as x xs Q R p r h
  unfold dExtend at h
  split at h
  · obtain ⟨l, hl, rfl⟩ := p
    obtain ⟨y, rfl, q⟩ := RepL.one r
    split at h
    · rename_i ys zs e1 e2
      split at h
      · rename_i hz
        obtain ⟨vs, h1, h2⟩ := R.cell _ _ _ e1 hl
        obtain ⟨b, us, rfl, h3, h4⟩ := R.lst q e2
        refine ⟨l, b, vs, us, rfl, rfl, h1, h3, by rw [← h2.length, ← h4.length]; exact hz, ?_⟩
        exact Post.now (P := rD K G) (b := .non) h (R.put e1 rfl hl ⟨_, upd_same, h2.append h4⟩) rfl
      · exact h.elim
    · exact h.elim
  · exact h.elim
theorem RelH.isLst {Z : Gh} {st : Sto} {d : D} {v : V} (R : RelH K G Z H st) (r : Rep K G Z d v) (e : isLst st d = true) : tyV K "list" v H := by
  unfold S.isLst at e
  split at e
  · rename_i q; obtain ⟨p, vs, rfl, h2, h3⟩ := R.lst r q; exact .inl ⟨rfl, vs, SqL.of h2⟩
  · rename_i q; obtain ⟨p, vs, rfl, h2, h3⟩ := R.rls r q; exact .inl ⟨rfl, vs, h2⟩
  · cases e
theorem rs_lm {f : D → List D → Sto → R D} {r : V → List V → Hp → VK → Prop} {n : MA} {Q : VK} (hf : AdM K G f r) (h : tS K G W (mLm f m n) σ H Q) : tBM K "list" r (tS K G W m) (tSA K G W n) σ H Q :=
  rs_bind (f := fun a env st1 => if isLst st1 a = true then (n env st1).bind fun as st2 => f a as st2 else .stuck) h fun a x H1 Z env st R S p q => by
    split at q
    · rename_i hc
      exact ⟨R.isLst p hc, Z, env, st, R, S, q.bind fun as st' Z' xs H' l R' p' q' => hf _ Z' H' st' a as x xs Q R' (Rep.up l a x p) p' q'⟩
    · exact q.elim
theorem pS_lm {f : D → List D → Sto → R D} {r : V → List V → Hp → VK → Prop} {n : MA} {t : TE} (hf : AdM X.K G f r) (h : PE X e (tBM X.K "list" r (tS X.K G W m) (tSA X.K G W n))) : PE X e (tS X.K G W (mLm f m n)) := pe_of h fun _ _ _ => rs_lm hf
theorem pS_setIx {p1 : Pos} (ho : PE X o (tS K G W m)) (hi : PE X i (tS K G W n)) (hv : PE X e (tS K G W k))
    (hp : ∀ v : Value, assign (o.Subscript i p1) X.env v = (do
                let ov ← holding [v] (eval o X.env)
                let iv ← holding [v, ov] (eval i X.env)
                standAt p1
                holding [v, ov, iv] (setItem ov iv v)
                release [v, ov, iv] []) := by intro _; rfl)
    (h1 : swapsWithSole [o.Subscript i p1] e pos.line X.env = pure false := by rfl) (h2 : swappedStores [o.Subscript i p1] e X.env = pure none := by rfl)
    (h3 : List.map (fun x => x.snd) (assignEach [o.Subscript i p1] X.env) = [assign (o.Subscript i p1) X.env] := by rfl) :
    PS X (.Assign [o.Subscript i p1] e pos) (tSS K G W (mSetIx m n k)) :=
  ps_of (ps_asg hv (pg_sub ho hi set_list hp) h1 h2 h3) fun Dn σ H ⟨Z, env, st, R, S, h⟩ => by
    have h' : Post K G (rD K G) (WE W σ) Z ((k env st).bind fun v st1 => (m env st1).bind fun o st2 => (n env st2).bind fun i st3 => dSetIx v o i st3) fun _ H' => Dn.nx σ H' :=
      post_stm (m := fun env st => (k env st).bind fun v st1 => (m env st1).bind fun o st2 => (n env st2).bind fun i st3 => dSetIx v o i st3) (f := fun _ st' => .nx env st') S h fun d st' Z' v H' l R' r q => q Z' σ H' (Gh.le.refl _) R' (S.up l)
    refine ⟨Z, env, st, R, S, h'.bind fun d st1 Z1 y H1 l1 R1 p1 q1 => ?_⟩
    refine ⟨Z1, env, st1, R1, S.up l1, q1.bind fun a st2 Z2 x H2 l2 R2 p2 q2 => ?_⟩
    refine ⟨Z2, env, st2, R2, S.up (l1.trans l2), q2.bind fun b st3 Z3 z H3 l3 R3 p3 q3 => ?_⟩
    unfold dSetIx at q3
    split at q3
    · obtain ⟨l, hl, rfl⟩ := p2
      cases (show z = _ from p3)
      split at q3
      · rename_i xs e1
        split at q3
        · rename_i j e2
          obtain ⟨vs, h1, h2⟩ := R3.cell _ _ _ e1 (l3.at hl)
          refine ⟨l, vs, _, j, rfl, rfl, h1, by rw [← h2.length]; exact e2, ?_⟩
          exact Post.now (P := rD K G) (b := .non) q3 (R3.put e1 rfl (l3.at hl) ⟨_, upd_same, h2.set (Rep.up (l2.trans l3) d y p1) j⟩) rfl
        · exact q3.elim
      · exact q3.elim
    · exact q3.elim
end
/-- what was made within and is not reached any more is forgotten -/
def gc (n : Nat) (d : D) (st : Sto) : R D := if below n d && (st.take n).all (belowC n) then .ok d (st.take n) else .ok d st
section
variable {K : PySem.W.Frag} {G : GA} {Z : Gh}
theorem gc_le {Z' : Gh} (l : Z.le Z') : Z.le ⟨Z'.fz, Z'.rho.take Z.rho.length, Z'.tmp⟩ := by
  obtain ⟨h1, ⟨r, e⟩, h2⟩ := l
  refine ⟨h1, ⟨[], ?_⟩, h2⟩
  show Z'.rho.take Z.rho.length = Z.rho ++ []
  rw [e, List.take_left, List.append_nil]
theorem gc_cut {Z' : Gh} {n : Nat} {d : D} {v : V} (b : below n d = true) (r : Rep K G Z' d v) : Rep K G ⟨Z'.fz, Z'.rho.take n, Z'.tmp⟩ d v := Rep.cut (Z := Z') (Z' := ⟨Z'.fz, Z'.rho.take n, Z'.tmp⟩) (Same.refl _) (fun i hi => List.getElem?_take_of_lt hi) d v b r
theorem gc_cutL {Z' : Gh} {n : Nat} {ds : List D} {vs : List V} (b : belowL n ds = true) (r : RepL K G Z' ds vs) : RepL K G ⟨Z'.fz, Z'.rho.take n, Z'.tmp⟩ ds vs := RepL.cut (Z := Z') (Z' := ⟨Z'.fz, Z'.rho.take n, Z'.tmp⟩) (Same.refl _) (fun i hi => List.getElem?_take_of_lt hi) ds vs b r
theorem gc_post {E : XK} {n : Nat} {d : D} {v : V} {st : Sto} {Q : VK} {Z' : Gh} {H : Hp} (hn : n = Z.rho.length) (h : Post K G (rD K G) E Z (gc n d st) Q) (l : Z.le Z') (R : RelH K G Z' H st) (r : Rep K G Z' d v) : Q v H := by
  subst hn
  unfold gc at h
  split at h
  · rename_i hb
    rw [Bool.and_eq_true] at hb
    exact h _ _ _ (gc_le l) (R.drop _ hb.2) (gc_cut hb.1 r)
  · exact h _ _ _ l R r
theorem frz_gc {E : XK} {n : Nat} {d : D} {v : V} {st : Sto} {Q : VK} {Z' : Gh} {H : Hp} (hn : n = Z.rho.length) (h : Post K G (rD K G) E Z ((dFrz d st).bind fun d' st2 => gc n d' st2) Q) (l : Z.le Z') (R : RelH K G Z' H st) (r : Rep K G Z' d v) : Q v H := by
  have h2 : Post K G (rD K G) E Z' (dFrz d st) fun v H => Q v H := by
    cases e : dFrz d st with
    | ok d' st2 => rw [e] at h; exact fun Z2 v2 H2 l2 R2 r2 => gc_post hn h (l.trans l2) R2 r2
    | exc c ns ds st2 =>
      unfold dFrz at e
      split at e
      · split at e <;> cases e
      · cases e
    | stuck => rw [e] at h; exact h
  exact h2.frz R r
end
/-! ### what no changing thing takes part in -/
/-- run with no changing thing in sight, where none is handed in and none comes out -/
def pur (f : List D → Sto → R D) (ds : List D) (st : Sto) : R D := if belowL 0 ds = true then (match f ds [] with
  | .ok d _ => if below 0 d = true then .ok d st else f ds st
  | .exc c ns es _ => if belowL 0 es = true then .exc c ns es st else f ds st
  | .stuck => .stuck) else f ds st
section
variable {K : PySem.W.Frag} {G : GA} {Z : Gh}
open Classical in
/-- the changing things, set aside -/
noncomputable def aside (Z : Gh) (H : Hp) (st : Sto) : Hp := fun a => if ∃ (i : Nat) (c : C), st[i]? = some c ∧ c.live = true ∧ Z.rho[i]? = some a then H a else Z.tmp a
theorem aside_in {H : Hp} {st : Sto} {i : Nat} {c : C} {a : Addr} (h1 : st[i]? = some c) (h2 : c.live = true) (h3 : Z.rho[i]? = some a) : aside Z H st a = H a := if_pos ⟨i, c, h1, h2, h3⟩
theorem aside_tmp {H : Hp} {st : Sto} (R : RelH K G Z H st) {a : Addr} {o : HO} (h : Z.tmp a = some o) : aside Z H st a = some o := by
  unfold aside
  rw [if_neg]
  · exact h
  · rintro ⟨i, c, h1, h2, h3⟩
    exact (R.tof a o h).2 i c h1 h2 h3
theorem aside_go {H : Hp} {st : Sto} (R : RelH K G Z H st) : RelH K G ⟨Z.fz, [], aside Z H st⟩ H [] := by
  refine ⟨R.fz, rfl, fun i c a e _ => by simp at e, fun i c a e _ _ => by simp at e, fun i j c c' a e _ _ _ _ _ => by simp at e, fun a o e => ?_, fun a o e => ⟨?_, fun i c e _ => by simp at e⟩, R.lk⟩
  · have e' : aside Z H st a = some o := e
    unfold aside at e'
    split at e'
    · exact e'
    · exact R.tmp _ _ e'
  · have e' : aside Z H st a = some o := e
    unfold aside at e'
    split at e'
    · rename_i h
      obtain ⟨i, c, h1, h2, h3⟩ := h
      exact R.off i c a h1 h2 h3
    · exact (R.tof a o e').1
theorem aside_back {H H1 : Hp} {st st1 : Sto} {Z1 : Gh} (R : RelH K G Z H st) (l : Gh.le ⟨Z.fz, [], aside Z H st⟩ Z1) (R1 : RelH K G Z1 H1 st1) : Z.le ⟨Z1.fz, Z.rho, Z.tmp⟩ ∧ RelH K G ⟨Z1.fz, Z.rho, Z.tmp⟩ H1 st := by
  have le : Z.le ⟨Z1.fz, Z.rho, Z.tmp⟩ := ⟨l.fz, ⟨[], (List.append_nil _).symm⟩, rfl⟩
  have tm : ∀ {a : Addr} {o : HO}, aside Z H st a = some o → Z1.tmp a = some o := fun {a o} e => by rw [l.tmp]; exact e
  have cellv : ∀ {i : Nat} {c : C} {a : Addr} {o : HO}, st[i]? = some c → c.live = true → Z.rho[i]? = some a → H a = some o → H1 a = some o ∧ Z1.fz a = none := fun {i c a o} h1 h2 h3 h4 => by
    have e := tm ((aside_in h1 h2 h3).trans h4)
    exact ⟨R1.tmp _ _ e, (R1.tof _ _ e).1⟩
  have some_of : ∀ {i : Nat} {c : C} {a : Addr}, st[i]? = some c → c.live = true → Z.rho[i]? = some a → ∃ o, H a = some o := fun {i c a} h1 h2 h3 => by
    have q := R.cell i c a h1 h3
    cases c with
    | lst xs => obtain ⟨vs, e, _⟩ := q; exact ⟨_, e⟩
    | dct ks ds => obtain ⟨vs, e, _⟩ := q; exact ⟨_, e⟩
    | dkd ks ds => obtain ⟨vs, e, _⟩ := q; exact ⟨_, e⟩
    | ins c ns ds => obtain ⟨dx, vs, e, _⟩ := q; exact ⟨_, e⟩
    | tab z => obtain ⟨_, ps, e, _⟩ := q; exact ⟨_, e⟩
    | dead => cases h2
  refine ⟨le, ⟨R1.fz, R.len, fun i c a h1 h3 => ?_, fun i c a h1 h2 h3 => ?_, R.inj, fun a o e => R1.tmp _ _ (tm (aside_tmp R e)), fun a o e => ⟨(R1.tof _ _ (tm (aside_tmp R e))).1, (R.tof a o e).2⟩, R1.lk⟩⟩
  · have q := R.cell i c a h1 h3
    cases c with
    | lst xs => obtain ⟨vs, e, r⟩ := q; exact ⟨vs, (cellv h1 rfl h3 e).1, RepL.up le _ _ r⟩
    | dct ks ds => obtain ⟨vs, e, n, r⟩ := q; exact ⟨vs, (cellv h1 rfl h3 e).1, n, RepL.up le _ _ r⟩
    | dkd ks ds => obtain ⟨xs, e, n, r, t⟩ := q; exact ⟨xs, (cellv h1 rfl h3 e).1, n, RepL.up le _ _ r, RepL.up le _ _ t⟩
    | ins c ns ds => obtain ⟨dx, vs, e, n, r⟩ := q; exact ⟨dx, vs, (cellv h1 rfl h3 e).1, n, RepL.up le _ _ r⟩
    | tab z => obtain ⟨e0, ps, e, n, k⟩ := q; exact ⟨e0, ps, (cellv h1 rfl h3 e).1, n, fun pos cv y => by obtain ⟨c, q1, q2⟩ := k pos cv y; exact ⟨c, q1, le.fz _ _ q2⟩⟩
    | dead => trivial
  · obtain ⟨o, e⟩ := some_of h1 h2 h3
    exact (cellv h1 h2 h3 e).2
theorem pur_post {f : List D → Sto → R D} {E : XK} {H : Hp} {st : Sto} {ds : List D} {vs : List V} {Q : VK} (R : RelH K G Z H st) (r : RepL K G Z ds vs) (h : Post K G (rD K G) E Z (pur f ds st) Q) : ∃ Z' st', RelH K G Z' H st' ∧ RepL K G Z' ds vs ∧ Post K G (rD K G) E Z' (f ds st') Q := by
  unfold pur at h
  split at h
  · rename_i hb
    have r0 : RepL K G ⟨Z.fz, [], aside Z H st⟩ ds vs := RepL.cut (Z := Z) (Z' := ⟨Z.fz, [], aside Z H st⟩) (n := 0) (Same.refl _) (fun i hi => absurd hi (Nat.not_lt_zero _)) ds vs hb r
    cases e1 : f ds [] with
    | ok d st1 =>
      rw [e1] at h
      dsimp only at h
      split at h
      · rename_i hd
        refine ⟨_, [], aside_go R, r0, ?_⟩
        rw [e1]
        intro Z1 v H1 l R1 p
        obtain ⟨l2, R2⟩ := aside_back R l R1
        exact h _ v H1 l2 R2 (Rep.cut (Z := Z1) (Z' := ⟨Z1.fz, Z.rho, Z.tmp⟩) (n := 0) (Same.refl _) (fun i hi => absurd hi (Nat.not_lt_zero _)) d v hd p)
      · exact ⟨Z, st, R, r, h⟩
    | exc c ns es st1 =>
      rw [e1] at h
      dsimp only at h
      split at h
      · rename_i hd
        refine ⟨_, [], aside_go R, r0, ?_⟩
        rw [e1]
        intro Z1 H1 x l R1 p
        obtain ⟨l2, R2⟩ := aside_back R l R1
        refine h _ H1 x l2 R2 ?_
        rcases p with p | ⟨a, us, p1, p2, p3, p4⟩
        · exact .inl p
        · exact .inr ⟨a, us, p1, p2, p3, RepL.cut (Z := Z1) (Z' := ⟨Z1.fz, Z.rho, Z.tmp⟩) (n := 0) (Same.refl _) (fun i hi => absurd hi (Nat.not_lt_zero _)) es us hd p4⟩
      · exact ⟨Z, st, R, r, h⟩
    | stuck => rw [e1] at h; exact h.elim
  · exact ⟨Z, st, R, r, h⟩
end
/-! ### promises -/
section
variable (K : PySem.W.Frag) (G : GA)
def spS (n : Nat) (F : List D → Sto → R D) : Sp := fun vs H Q E => vs.length = n ∧ ∃ Z ds st, RelH K G Z H st ∧ RepL K G Z ds vs ∧ Post K G (rD K G) E Z (F ds st) Q
end
theorem spS_pur {K : PySem.W.Frag} {G : GA} {n : Nat} {F : List D → Sto → R D} {vs : List V} {H : Hp} {Q : VK} {E : XK} (h : spS K G n (pur F) vs H Q E) : spS K G n F vs H Q E := by
  obtain ⟨hn, Z, ds, st, R, r, q⟩ := h
  obtain ⟨Z', st', R', r', q'⟩ := pur_post R r q
  exact ⟨hn, Z', ds, st', R', r', q'⟩
theorem okPur {P : Program} {w : World} {K : PySem.W.Frag} {mg : Str → Option Value} {base : Heap} {CX : CXT} {k n : Nat} {f : Addr} {fd : FuncData} {ps : List Str} {G : GA} {F : List D → Sto → R D} (h : FnOk P w K mg base CX k f fd ps (spS K G n F)) : FnOk P w K mg base CX k f fd ps (spS K G n (pur F)) := h.imp fun _ _ _ _ q => spS_pur q
abbrev wE (E : XK) : WX := fun cls d _ H => E cls d H
def mCall (n : Nat) (F : List D → Sto → R D) (dds : List D) (m : MA) : M := fun env st => (m env st).bind fun ds st1 => if (ds ++ dds).length = n then F (ds ++ dds) st1 else .stuck
/-- a new instance, which may change on -/
def dNew (c n : Nat) (F : List D → Sto → R D) (ds : List D) (st : Sto) : R D :=
  if (D.ptr st.length :: ds).length = n then (F (.ptr st.length :: ds) (st ++ [.ins c [] []])).bind fun r st2 => match r with
    | .non => .ok (.ptr st.length) st2
    | _ => .stuck
  else .stuck
/-- a new instance, which will not change any more -/
def dNewF (c n : Nat) (F : List D → Sto → R D) (ds : List D) (st : Sto) : R D := (dNew c n F ds st).bind fun d st2 => (dFrz d st2).bind fun d' st3 => gc st.length d' st3
section
variable {G : GA} {W : WX} {X : Cx} {k n : Nat} {f C : Addr} {fd : FuncData} {ps : List Str} {F : List D → Sto → R D} {dds : List D} {dvs : List V} {ds : List Value} {E : XK} {x : Str} {p pos apos : Pos} {e o : Expr} {es : List Expr} {m : MA} {mo : M}
theorem pS_call (Fk : FnOk X.prog X.w X.K X.mg X.base (L2.CX X.prog X.w) k f fd ps (spS X.K G n F)) (hr : Room k X.A) (hg : Gl X x) (hm : X.mg x = some (.ref f)) (hk : PySem.W.keepIn X.K (.ref f) = true) (hb : Binds X.K fd ps ds) (hd : Vals dvs ds) (hdv : ∀ Z, RepL X.K G Z dds dvs) (tk : Takes X W)
    (ha : PA X (e :: es) (tSA X.K G W m)) (hdb : (x == ("__debug__" : Str)) = false := by decide) (he : starEach (e :: es) X.env = (false, eval e X.env) :: starEach es X.env := by rfl) (hpl : (backTo pos (starEach es X.env)).any (·.1) = false := by rfl) :
    PE X (.Call (.Name x p) (e :: es) [] pos) (tS X.K G W (mCall n F dds m)) :=
  pe_of (pe_callSD (E := WE W) Fk hr hg hm hk hb hd (fun σ => passAt tk σ) ha hdb he hpl) fun σ H Q h => rs_bind (f := fun ds _ st1 => if (ds ++ dds).length = n then F (ds ++ dds) st1 else .stuck) h fun ds vs H1 Z env st R S p q => by
    split at q
    · rename_i hl
      have r : RepL X.K G Z (ds ++ dds) (vs ++ dvs) := RepL.append p (hdv Z)
      exact ⟨r.length ▸ hl, Z, _, st, R, r, q⟩
    · exact q.elim
theorem rs_new {c : Nat} {K : PySem.W.Frag} {Z : Gh} {H : Hp} {st : Sto} {ds : List D} {vs : List V} {Q : VK} (R : RelH K G Z H st) (r : RepL K G Z ds vs) (h : Post K G (rD K G) E Z (dNew c n F ds st) Q) {x dx : Addr} (hx : H x = none) (hdx : H dx = none) (hne : dx ≠ x) :
    spS K G n F (.ref x :: vs) (upd (upd H dx (.own x)) x (.ins (G c) dx [])) (fun v H2 => v = .non ∧ Q (.ref x) H2) E := by
  unfold dNew at h
  split at h
  · rename_i hl
    have R1 := R.more (o := .own x) hdx
    have hx1 : upd H dx (.own x) x = none := by rw [upd_ne (Ne.symm hne)]; exact hx
    obtain ⟨l, R2⟩ := R1.add (o := .ins (G c) dx []) (c := .ins c [] []) hx1 fun Z' _ => ⟨dx, [], upd_same, rfl, rfl⟩
    have hat : (Z.rho ++ [x])[st.length]? = some x := by rw [← R.len]; simp
    have r2 : RepL K G ⟨Z.fz, Z.rho ++ [x], Z.tmp⟩ (.ptr st.length :: ds) (.ref x :: vs) := ⟨_, _, rfl, ⟨x, hat, rfl⟩, RepL.up l _ _ r⟩
    refine ⟨r2.length ▸ hl, _, _, _, R2, r2, (Post.up l h).bind fun d st2 Z2 v H2 l2 R3 p2 q2 => ?_⟩
    cases d with
    | non => exact ⟨p2, Post.now (P := rD K G) q2 R3 ⟨x, l2.at hat, rfl⟩⟩
    | _ => exact q2.elim
  · exact h.elim
def mMakeF (c n : Nat) (F : List D → Sto → R D) (dds : List D) (m : MA) : M := fun env st => (m env st).bind fun ds st1 => pur (dNewF c n F) (ds ++ dds) st1
theorem newF_new {c : Nat} {K : PySem.W.Frag} {Z : Gh} {st : Sto} {ds : List D} {Q : VK} (hz : Z.rho.length = st.length) (h : Post K G (rD K G) E Z (dNewF c n F ds st) Q) : Post K G (rD K G) E Z (dNew c n F ds st) Q := by
  unfold dNewF at h
  cases e : dNew c n F ds st with
  | ok d st2 => rw [e] at h; exact fun Z2 v2 H2 l2 R2 r2 => frz_gc hz.symm h l2 R2 r2
  | exc c' ns ds' st2 => rw [e] at h; exact h
  | stuck => rw [e] at h; exact h
theorem pS_makeF {c : Nat} (Mk' : Mk X.K (G c) f) (Fk : FnOk X.prog X.w X.K X.mg X.base (L2.CX X.prog X.w) k f fd ps (spS X.K G n F)) (hr : Room (k + 1) X.A) (hg : Gl X x) (hm : X.mg x = some (.ref (G c))) (hb : Binds X.K fd ps ds) (hd : Vals dvs ds) (hdv : ∀ Z, RepL X.K G Z dds dvs) (hx : Passes (L2.CX X.prog X.w) X E)
    (ha : PA X (e :: es) (tSA X.K G (wE E) m)) (hdb : (x == ("__debug__" : Str)) = false := by decide) (he : starEach (e :: es) X.env = (false, eval e X.env) :: starEach es X.env := by rfl) (hpl : (backTo pos (starEach es X.env)).any (·.1) = false := by rfl) :
    PE X (.Call (.Name x p) (e :: es) [] pos) (tS X.K G (wE E) (mMakeF c n F dds m)) :=
  pe_of (pe_make Mk' Fk hr hg hm hb hd hx ha hdb he hpl) fun σ H Q h => rs_bind (f := fun ds _ st1 => pur (dNewF c n F) (ds ++ dds) st1) h fun ds vs H1 Z env st R S p q => fun x dx hx hdx hne => by
    obtain ⟨Z', st', R', r', q'⟩ := pur_post R (RepL.append p (hdv Z)) q
    exact rs_new R' r' (newF_new R'.len q') hx hdx hne
/-- keywords' values -/
theorem pk_of {kws : List Keyword} {t t' : TA} (h : PK X kws t) (k : ∀ σ H Q, t' σ H Q → t σ H Q) : PK X kws t' := ⟨fun pos pins s σ H Q I q => h.run pos pins s σ H Q I (k σ H Q q)⟩
theorem pSK_nil {K : PySem.W.Frag} : PK X [] (tSA K G W mNil) := pk_of pk_nil fun _ _ _ => rs_nil
end
/-! ### a def -/
def gcX (n : Nat) (c : Nat) (ns : List Str) (ds : List D) (st : Sto) : R D := if belowL n ds && (st.take n).all (belowC n) then .exc c ns ds (st.take n) else .exc c ns ds st
def mFun (fz : Bool) (n : Nat) (ms : MS) : List D → Sto → R D := fun ds st => match ms (ds.map some ++ List.replicate (n - ds.length) none) st with
  | .nx _ st' => gc st.length .non st'
  | .rt d st' => if fz = true then (dFrz d st').bind fun d' st2 => gc st.length d' st2 else gc st.length d st'
  | .exc _ c ns ds st' => gcX st.length c ns ds st'
  | _ => .stuck
section
variable {K : PySem.W.Frag} {G : GA} {Z : Gh}
theorem repE_none : ∀ n : Nat, RepE K G Z (List.replicate n none) (List.replicate n none)
  | 0 => rfl
  | n + 1 => ⟨none, _, rfl, trivial, repE_none n⟩
theorem repE_start {k : Nat} : ∀ {ds : List D} {vs : List V}, RepL K G Z ds vs → RepE K G Z (ds.map some ++ List.replicate k none) (vs.map some ++ List.replicate k none)
  | [], _, r => by cases (show _ = _ from r); exact repE_none k
  | d :: ds, _, ⟨v, t, e, p, q⟩ => by subst e; exact ⟨some v, _, rfl, ⟨v, rfl, p⟩, repE_start q⟩
theorem gcX_post {E : XK} {n c : Nat} {ns : List Str} {ds : List D} {x : Option Addr} {st : Sto} {Q : VK} {Z' : Gh} {H : Hp} (hn : n = Z.rho.length) (h : Post K G (rD K G) E Z (gcX n c ns ds st) Q) (l : Z.le Z') (R : RelH K G Z' H st) (r : XOk K G Z' ns ds x) : E (.ref (G c)) x H := by
  subst hn
  unfold gcX at h
  split at h
  · rename_i hb
    rw [Bool.and_eq_true] at hb
    refine h _ _ _ (gc_le l) (R.drop _ hb.2) ?_
    rcases r with r | ⟨a, vs, h1, h2, h3, h4⟩
    · exact .inl r
    · exact .inr ⟨a, vs, h1, h2, h3, gc_cutL hb.1 h4⟩
  · exact h _ _ _ l R r
theorem fun_post {fz : Bool} {E : XK} {n : Nat} {ms : MS} {ds : List D} {st : Sto} {Q : VK} (hz : Z.rho.length = st.length) (h : Post K G (rD K G) E Z (mFun fz n ms ds st) Q) :
    PostS K G (wE E) Z (ms (ds.map some ++ List.replicate (n - ds.length) none) st) { nx := fun _ H' => Q .non H', rt := Q } := by
  unfold mFun at h
  cases q : ms (ds.map some ++ List.replicate (n - ds.length) none) st with
  | nx env st' => rw [q] at h; exact fun Z' σ H l R S => gc_post hz.symm h l R rfl
  | rt d st' =>
    rw [q] at h
    cases fz with
    | true => exact fun Z' v H l R r => frz_gc hz.symm h l R r
    | false => exact fun Z' v H l R r => gc_post hz.symm h l R r
  | bk env st' => rw [q] at h; exact h.elim
  | ct env st' => rw [q] at h; exact h.elim
  | exc env c ns ds st' => rw [q] at h; exact fun Z' σ H x l R S r => gcX_post hz.symm h l R r
  | stuck => rw [q] at h; exact h
theorem sp_body {fz : Bool} {N : List Str} {n : Nat} {ms : MS} {vs : List V} {H : Hp} {Q : VK} {E : XK} (h : spS K G n (mFun fz N.length ms) vs H Q E) : tSS K G (wE E) ms { nx := fun _ H' => Q .non H', rt := Q } (L2.start N vs) H := by
  obtain ⟨_, Z, ds, st, R, r, h⟩ := h
  refine ⟨Z, _, st, R, ?_, fun_post R.len h⟩
  unfold L2.start
  rw [r.length]
  exact repE_start r
end
section
variable {P : Program} {w : World} {K : PySem.W.Frag} {mg : Str → Option Value} {base : Heap} {G : GA}
end
end S
/-! targets, loops, comprehensions -/
namespace S
open PySem L2
/-! ### targets -/
inductive Tg where
  | nm (i : Nat)
  | tp (ts : List Tg)
mutual
def Tg.at (t : Tg) (d : D) (env : Env) (st : Sto) : Option Env := match t with
  | .nm i => some (env.set i (some d))
  | .tp ts => match items st d with
    | some ds => if ds.length = ts.length then Tg.ats ts ds env st else none
    | none => none
def Tg.ats (ts : List Tg) (ds : List D) (env : Env) (st : Sto) : Option Env := match ts, ds with
  | [], [] => some env
  | t :: r, d :: ds => match Tg.at t d env st with
    | some env1 => Tg.ats r ds env1 st
    | none => none
  | _, _ => none
end
mutual
def Tg.slots : Tg → List Nat
  | .nm i => [i]
  | .tp ts => Tg.slotss ts
def Tg.slotss : List Tg → List Nat
  | [] => []
  | t :: r => Tg.slots t ++ Tg.slotss r
end
abbrev gSq (K : PySem.W.Frag) (n : Nat) (t : TGs) : TG := fun v σ H Q => gTup K n t v σ H Q ∨ gUnl K n t v σ H Q
mutual
def gOf (K : PySem.W.Frag) : Tg → TG
  | .nm i => gName i
  | .tp ts => gSq K ts.length (gsOf K ts)
def gsOf (K : PySem.W.Frag) : List Tg → TGs
  | [] => gNil
  | t :: r => gCons (gOf K t) (gsOf K r)
end
/-- the same but for some slots -/
def Off (vs : List Nat) (σ σ' : St) : Prop := σ.length = σ'.length ∧ ∀ j : Nat, j ∉ vs → σ[j]? = σ'[j]?
theorem Off.refl (vs : List Nat) (σ : St) : Off vs σ σ := ⟨rfl, fun _ _ => rfl⟩
theorem Off.trans {vs : List Nat} {a b c : St} (h : Off vs a b) (h' : Off vs b c) : Off vs a c := ⟨h.1.trans h'.1, fun j hj => (h.2 j hj).trans (h'.2 j hj)⟩
theorem Off.set {vs : List Nat} {σ : St} {i : Nat} {x : Option V} (h : i ∈ vs) : Off vs (σ.set i x) σ := ⟨by simp, fun j hj => List.getElem?_set_ne (fun e => hj (by rw [← e]; exact h))⟩
theorem wipe_in {σ : St} {i : Nat} : ∀ {vs : List Nat}, i ∈ vs → i < σ.length → (wipe σ vs)[i]? = some none
  | v :: vs, h, hl => by
    unfold wipe
    by_cases e : v = i
    · subst e; rw [List.getElem?_set_self (by rw [wipe_length]; exact hl)]
    · rw [List.getElem?_set_ne e]
      exact wipe_in ((List.mem_cons.mp h).resolve_left fun z => e z.symm) hl
theorem Off.wipe {vs : List Nat} {a b : St} (h : Off vs a b) : L2.wipe a vs = L2.wipe b vs := by
  apply List.ext_getElem?
  intro j
  by_cases hj : j ∈ vs
  · by_cases hl : j < a.length
    · rw [wipe_in hj hl, wipe_in hj (h.1 ▸ hl)]
    · rw [List.getElem?_eq_none (by rw [wipe_length]; omega), List.getElem?_eq_none (by rw [wipe_length, ← h.1]; omega)]
  · rw [wipe_out hj, wipe_out hj]; exact h.2 j hj
theorem off_wipe (vs : List Nat) (σ : St) : Off vs (L2.wipe σ vs) σ := ⟨wipe_length σ vs, fun _ hj => wipe_out hj⟩
section
variable {K : PySem.W.Frag} {G : GA} {Z : Gh} {H : Hp} {st : Sto}
mutual
theorem Tg.run (R : RelH K G Z H st) : ∀ (t : Tg) (d : D) (v : V) (env env' : Env) (σ : St) (Q : St → Hp → Prop), RepE K G Z env σ → Rep K G Z d v → t.at d env st = some env' → (∀ σ', RepE K G Z env' σ' → Off t.slots σ' σ → Q σ' H) → gOf K t v σ H Q
  | .nm i, d, v, env, env', σ, Q, S, p, e, k => by
    unfold Tg.at at e
    cases e
    unfold gOf
    exact k _ (S.set p i) (Off.set (by simp [Tg.slots]))
  | .tp ts, d, v, env, env', σ, Q, S, p, e, k => by
    unfold Tg.at at e
    split at e
    · rename_i ds e1
      split at e
      · rename_i hl
        obtain ⟨l, vs, rfl, hs, r⟩ := R.items p e1
        have z := Tg.runs R ts ds vs env env' σ Q S r e (fun σ' S' o => k σ' S' (by unfold Tg.slots; exact o))
        unfold gOf
        rcases hs with hs | hs
        · exact .inr ⟨l, vs, rfl, hs, by rw [← r.length]; exact hl, z⟩
        · exact .inl ⟨l, vs, rfl, hs, by rw [← r.length]; exact hl, z⟩
      · cases e
    · cases e
theorem Tg.runs (R : RelH K G Z H st) : ∀ (ts : List Tg) (ds : List D) (vs : List V) (env env' : Env) (σ : St) (Q : St → Hp → Prop), RepE K G Z env σ → RepL K G Z ds vs → Tg.ats ts ds env st = some env' → (∀ σ', RepE K G Z env' σ' → Off (Tg.slotss ts) σ' σ → Q σ' H) → gsOf K ts vs σ H Q
  | [], [], _, env, env', σ, Q, S, p, e, k => by
    unfold Tg.ats at e
    cases e
    cases (show _ = _ from p)
    unfold gsOf
    exact ⟨rfl, k σ S (Off.refl _ _)⟩
  | [], _ :: _, _, env, env', σ, Q, S, p, e, k => by unfold Tg.ats at e; cases e
  | _ :: _, [], _, env, env', σ, Q, S, p, e, k => by unfold Tg.ats at e; cases e
  | t :: r, d :: ds, _, env, env', σ, Q, S, ⟨v, us, q, p, pr⟩, e, k => by
    subst q
    unfold Tg.ats at e
    split at e
    · rename_i env1 e1
      unfold gsOf
      refine ⟨v, us, rfl, Tg.run R t d v env env1 σ _ S p e1 fun σ1 S1 o1 => ?_⟩
      refine Tg.runs R r ds us env1 env' σ1 Q S1 pr e fun σ2 S2 o2 => k σ2 S2 ?_
      unfold Tg.slotss
      exact Off.trans ⟨o2.1, fun j hj => o2.2 j fun z => hj (List.mem_append_right _ z)⟩ ⟨o1.1, fun j hj => o1.2 j fun z => hj (List.mem_append_left _ z)⟩
    · cases e
end
variable {X : Cx} {pos : Pos}
theorem pG_nm {i : Nat} {x : Str} (hN : X.N.Nodup) (hi : X.N[i]? = some x) (hx : Loc X.env.scope x) (hf : X.fn x = true ∨ X.env.scope.names.lookup x = some .local := by first | exact .inl rfl | exact .inr rfl | assumption) : PG X (.Name x pos) (gOf K (.nm i)) := by
  unfold gOf
  exact pg_name hN hi hx hf
theorem pG_tp {es : List Expr} {k : Nat} {ts : List Tg} (hc : X.calm = true) (h : PGs X es (gsOf X.K ts)) (hn : (assignEach es X.env).length = ts.length := by rfl) (hst : (assignEach es X.env).findIdx? (·.1) = none := by rfl) : PG X (.Tuple es k pos) (gOf X.K (.tp ts)) := by
  unfold gOf
  refine ⟨fun pins s σ H v u Q I r q => ?_⟩
  rcases q with q | q
  · exact (pg_tup hc h hn hst).run pins s σ H v u Q I r q
  · exact (pg_unl hc h hn hst).run pins s σ H v u Q I r q
theorem pGs_nil : PGs X [] (gsOf K []) := by unfold gsOf; exact pgs_nil
theorem pGs_cons {e : Expr} {es : List Expr} {t : Tg} {ts : List Tg} (h1 : PG X e (gOf K t)) (h2 : PGs X es (gsOf K ts)) (hs : (assignEach (e :: es) X.env).map (·.2) = assign e X.env :: (assignEach es X.env).map (·.2) := by rfl) : PGs X (e :: es) (gsOf K (t :: ts)) := by unfold gsOf; exact pgs_cons h1 h2 hs
end
/-- a, b = e -/
def mAsg (t : Tg) (m : M) : MS := fun env st => match m env st with
  | .ok d st' => (match t.at d env st' with
    | some env' => .nx env' st'
    | none => .stuck)
  | .exc c ns ds st' => .exc env c ns ds st'
  | .stuck => .stuck
theorem pS_asg {K : PySem.W.Frag} {G : GA} {W : WX} {X : Cx} {tg e : Expr} {pos : Pos} {t : Tg} {m : M} (he : PE X e (tS K G W m)) (hg : PG X tg (gOf K t)) (h1 : swapsWithSole [tg] e pos.line X.env = pure false := by rfl) (h2 : swappedStores [tg] e X.env = pure none := by rfl)
    (h3 : List.map (fun x => x.snd) (assignEach [tg] X.env) = [assign tg X.env] := by rfl) : PS X (.Assign [tg] e pos) (tSS K G W (mAsg t m)) :=
  ps_of (ps_asg he hg h1 h2 h3) fun Dn σ H ⟨Z, env, st, R, S, h⟩ => ⟨Z, env, st, R, S, post_stm (f := fun d st' => match t.at d env st' with | some env' => .nx env' st' | none => .stuck) S h fun d st' Z' v H' l R' r q => by
    cases e : t.at d env st' with
    | none => rw [e] at q; exact q.elim
    | some env' => rw [e] at q; exact Tg.run R' t d v env env' σ _ (S.up l) r e fun σ' S' _ => q Z' σ' H' (Gh.le.refl _) R' S'⟩
/-! ### what is walked -/
section
variable (K : PySem.W.Frag) (G : GA)
def rI : Gh → List D → It → Prop := fun Z ds J => ∃ (Gd : Hp → Prop) (Y : Nat → Hp → V → Hp → Prop), Walk J ds.length Gd Y ∧ (∀ Z' H st, Z.ex Z' → RelH K G Z' H st → Gd H) ∧
  ∀ (i : Nat) x H H' Z' st, Z.ex Z' → RelH K G Z' H st → i < ds.length → Y i H x H' → ∃ Z'' d, Z'.le Z'' ∧ RelH K G Z'' H' st ∧ ds[i]? = some d ∧ Rep K G Z'' d x
abbrev tSI (W : WX) (m : MA) : TI := tG K G (rI K G) W m
end
theorem pi_of {X : Cx} {tg e : Expr} {t t' : TI} (h : PI X tg e t) (k : ∀ σ H Q, t' σ H Q → t σ H Q) : PI X tg e t' := ⟨fun pins s σ H R I q => h.run pins s σ H R I (k σ H R q)⟩
/-- the items of a list or tuple that will not change -/
def itemsF : D → Option (List D)
  | .lst xs => some xs
  | .rls xs => some xs
  | .tup xs => some xs
  | _ => none
def mItSeq (m : M) : MA := fun env st => (m env st).bind fun d st1 => match itemsF d with
  | some xs => .ok xs st1
  | none => .stuck
def signs (z : Str) : List D := z.cps.toList.map fun c => .str ⟨#[c]⟩
def mItStr (m : M) : MA := fun env st => (m env st).bind fun d st1 => match d with
  | .str z => .ok (signs z) st1
  | _ => .stuck
def rangeD (lo : Int) (n : Nat) : List D := (List.range n).map fun (i : Nat) => D.int (lo + i)
def mItRange (m : MA) : MA := fun env st => (m env st).bind fun ds st1 => match ds with
  | [.int j] => if -(2 ^ 62) ≤ j ∧ j < 2 ^ 62 then .ok (rangeD 0 j.toNat) st1 else .stuck
  | _ => .stuck
section
variable {K : PySem.W.Frag} {G : GA} {W : WX} {X : Cx} {tg e : Expr} {m : M} {pos p : Pos}
theorem walkL {Z : Gh} {a : Addr} {vs : List V} {ds : List D} (hs : SqL K Z.fz a vs) (r : RepL K G Z ds vs) : rI K G Z ds (Itl K a) := by
  refine ⟨_, _, r.length ▸ walk_list (xs := vs), fun Z' H st l R => R.fz.seq (l.fz.seq hs), fun i x H H' Z' st l R hi y => ?_⟩
  obtain ⟨rfl, y⟩ := y
  obtain ⟨d, hd⟩ : ∃ d, ds[i]? = some d := ⟨_, List.getElem?_eq_getElem hi⟩
  obtain ⟨v, h1, h2⟩ := (RepL.ux l _ _ r).get hd
  rw [y] at h1; cases h1
  exact ⟨Z', d, Gh.le.refl _, R, hd, h2⟩
theorem walkT {Z : Gh} {a : Addr} {vs : List V} {ds : List D} (hs : SqT K Z.fz a vs) (r : RepL K G Z ds vs) : rI K G Z ds (Itt K a) := by
  refine ⟨_, _, r.length ▸ walk_tup (xs := vs), fun Z' H st l R => Same.sqt' R.fz (Same.sqt' l.fz hs), fun i x H H' Z' st l R hi y => ?_⟩
  obtain ⟨rfl, y⟩ := y
  obtain ⟨d, hd⟩ : ∃ d, ds[i]? = some d := ⟨_, List.getElem?_eq_getElem hi⟩
  obtain ⟨v, h1, h2⟩ := (RepL.ux l _ _ r).get hd
  rw [y] at h1; cases h1
  exact ⟨Z', d, Gh.le.refl _, R, hd, h2⟩
theorem pI_seq (h : PE X e (tS X.K G W m)) : PI X tg e (tSI X.K G W (mItSeq m)) := by
  refine ⟨fun pins s σ H Rr I q => ?_⟩
  obtain ⟨Z, env, st, R, S, h0⟩ := q
  have lst : ∀ d st1, m env st = .ok d st1 → (∃ xs, (d = .lst xs ∨ d = .rls xs)) → iList X.K (tS X.K G W m) σ H Rr := fun d st1 e1 hd => by
    refine ⟨Z, env, st, R, S, ?_⟩
    unfold mItSeq at h0
    rw [e1] at h0 ⊢
    obtain ⟨xs, ed | ed⟩ := hd <;> subst ed
    · intro Z' v H' l R' r
      obtain ⟨a, vs, rfl, hs, rl⟩ := id r
      exact ⟨a, rfl, ⟨vs, SqL.of (R'.fz _ _ hs)⟩, (Post.up l h0).now R' (walkL (SqL.of hs) rl)⟩
    · intro Z' v H' l R' r
      obtain ⟨a, vs, rfl, hs, rl⟩ := id r
      exact ⟨a, rfl, ⟨vs, R'.fz.seq hs⟩, (Post.up l h0).now R' (walkL hs rl)⟩
  cases e1 : m env st with
  | ok d st1 =>
    cases d with
    | tup xs =>
      refine (pi_tup h).run pins s σ H Rr I ⟨Z, env, st, R, S, ?_⟩
      unfold mItSeq at h0
      rw [e1] at h0 ⊢
      intro Z' v H' l R' r
      obtain ⟨a, vs, rfl, hs, rl⟩ := id r
      exact ⟨a, rfl, ⟨vs, Same.sqt' R'.fz hs⟩, (Post.up l h0).now R' (walkT hs rl)⟩
    | lst xs => exact (pi_list h).run pins s σ H Rr I (lst _ _ e1 ⟨xs, .inl rfl⟩)
    | rls xs => exact (pi_list h).run pins s σ H Rr I (lst _ _ e1 ⟨xs, .inr rfl⟩)
    | _ => unfold mItSeq at h0; rw [e1] at h0; exact h0.elim
  | exc c ns ds st1 =>
    refine (pi_list h).run pins s σ H Rr I ⟨Z, env, st, R, S, ?_⟩
    unfold mItSeq at h0
    rw [e1] at h0 ⊢
    exact h0
  | stuck => unfold mItSeq at h0; rw [e1] at h0; exact h0.elim
theorem walkS {Z : Gh} {z : Str} : rI K G Z (signs z) (Its z) := by
  have hl : (signs z).length = z.cps.size := by simp [signs]
  refine ⟨_, _, hl ▸ walk_str, fun _ _ _ _ _ => trivial, fun i x H H' Z' st l R hi y => ?_⟩
  obtain ⟨rfl, c, hc, rfl⟩ := y
  refine ⟨Z', .str ⟨#[c]⟩, Gh.le.refl _, R, ?_, rfl⟩
  unfold signs
  rw [List.getElem?_map, Array.getElem?_toList, hc]
  rfl
theorem pI_str (h : PE X e (tS K G W m)) : PI X tg e (tSI K G W (mItStr m)) :=
  pi_of (pi_str h) fun σ H Q h => rs_bind (f := fun d _ st1 => match d with | .str z => .ok (signs z) st1 | _ => .stuck) h fun d v H1 Z env st R S r q => by
    cases d with
    | str z => exact ⟨z, r, Post.now (P := rI K G) q R walkS⟩
    | _ => exact q.elim
theorem walkR {Z : Gh} {lo : Int} {n : Nat} : rI K G Z (rangeD lo n) (Itr lo n) := by
  have hl : (rangeD lo n).length = n := by simp [rangeD]
  refine ⟨_, _, (by rw [hl]; exact walk_range : Walk (Itr lo n) (rangeD lo n).length (fun _ => True) (YFn fun i => V.int (lo + (i : Nat)))), fun _ _ _ _ _ => trivial, fun i x H H' Z' st l R hi y => ?_⟩
  obtain ⟨rfl, rfl⟩ := y
  refine ⟨Z', .int (lo + i), Gh.le.refl _, R, ?_, rfl⟩
  unfold rangeD
  rw [List.getElem?_map, List.getElem?_range (hl ▸ hi)]
  rfl
theorem RepL.n1 {Z : Gh} {vs : List V} {j : Int} (r : RepL K G Z [.int j] vs) : vs = [.int j] := by
  obtain ⟨x, rfl, p⟩ := RepL.one r
  cases (show x = _ from p); rfl
theorem pI_range1 {a : Expr} {m : MA} (hg : Gl X "range") (hm : X.mg "range" = none) (ha : PA X [a] (tSA K G W m)) (hs : starEach [a] X.env = [(false, eval a X.env)] := by rfl) : PI X tg (.Call (.Name "range" p) [a] [] pos) (tSI K G W (mItRange m)) :=
  pi_of (pi_range1 hg hm ha hs) fun σ H Q h => rs_bind (f := fun ds _ st1 => match ds with
    | [.int j] => if -(2 ^ 62) ≤ j ∧ j < 2 ^ 62 then .ok (rangeD 0 j.toNat) st1 else .stuck
    | _ => .stuck) h fun ds vs H1 Z env st R S r q => by
    split at q
    · cases r.n1
      split at q
      · rename_i hc; exact ⟨_, rfl, hc.1, hc.2, Post.now (P := rI K G) q R walkR⟩
      · exact q.elim
    · exact q.elim
end
end S
/-! for, comprehensions -/
namespace S
open PySem L2
/-! ### for -/
def mForGo (t : Tg) (body : MS) : List D → Env → Sto → RS
  | [], env, st => .nx env st
  | d :: ds, env, st => match t.at d env st with
    | none => .stuck
    | some env1 => match body env1 st with
      | .nx env2 st2 => mForGo t body ds env2 st2
      | .ct env2 st2 => mForGo t body ds env2 st2
      | .bk env2 st2 => .nx env2 st2
      | r => r
def mFor (t : Tg) (mi : MA) (body : MS) : MS := fun env st => match mi env st with
  | .ok ds st1 => mForGo t body ds env st1
  | .exc c ns ds st1 => .exc env c ns ds st1
  | .stuck => .stuck
section
variable {K : PySem.W.Frag} {G : GA} {W : WX} {X : Cx} {tg iter : Expr} {body : List Stmt} {pos : Pos} {t : Tg} {mi : MA} {mb : MS}
theorem for_run {Dn : Ends} {σ : St} {H : Hp} {Z : Gh} {env : Env} {st : Sto} {ds : List D} {J : It} (R : RelH K G Z H st) (S : RepE K G Z env σ) (w : rI K G Z ds J) (h : PostS K G W Z (mForGo t mb ds env st) Dn) :
    ∃ W' : Nat → Nat → St → Hp → Prop, (∃ m, W' 0 m σ H) ∧ ∀ i m σ H, W' i m σ H →
      (J.stop i H ∧ Dn.nx σ H) ∨ (J.go i H ∧ ∃ N : St → Hp → Prop, (∀ σ' H', N σ' H' → ∃ m', m' < m ∧ W' (i + 1) m' σ' H') ∧ ∀ x H', J.yld i H x H' → gOf K t x σ H' fun σ2 H2 => tSS K G W mb { Dn with nx := N, ct := N, bk := Dn.nx } σ2 H2) := by
  obtain ⟨Gd, Y, wk, hG, hY⟩ := w
  refine for_it wk (fun i σ H => ∃ Z1 env st, Z.le Z1 ∧ RelH K G Z1 H st ∧ RepE K G Z1 env σ ∧ PostS K G W Z1 (mForGo t mb (ds.drop i) env st) Dn) ⟨Z, env, st, Gh.le.refl _, R, S, h⟩ (fun i σ H _ ⟨Z1, _, _, l, R1, _⟩ => hG Z1 H _ l.ex R1) (fun i x σ H H' hi ⟨Z1, env1, st1, l, R1, S1, h1⟩ y => ?_) fun σ H ⟨Z1, env1, st1, l, R1, S1, h1⟩ => ?_
  · obtain ⟨Z2, d, l2, R2, hd, rd⟩ := hY i x H H' Z1 st1 l.ex R1 hi y
    have e : ds.drop i = d :: ds.drop (i + 1) := by
      rw [List.getElem?_eq_getElem hi] at hd
      cases hd
      exact List.drop_eq_getElem_cons hi
    rw [e] at h1
    unfold mForGo at h1
    cases e1 : t.at d env1 st1 with
    | none => rw [e1] at h1; exact h1.elim
    | some env2 =>
      rw [e1] at h1
      refine Tg.run R2 t d x env1 env2 σ _ (S1.up l2) rd e1 fun σ2 S2 _ => ⟨Z2, env2, st1, R2, S2, ?_⟩
      dsimp only at h1
      cases e2 : mb env2 st1 with
      | nx env3 st3 => rw [e2] at h1; exact fun Z3 σ3 H3 l3 R3 S3 => ⟨Z3, env3, st3, l.trans (l2.trans l3), R3, S3, PostS.up (l2.trans l3) h1⟩
      | ct env3 st3 => rw [e2] at h1; exact fun Z3 σ3 H3 l3 R3 S3 => ⟨Z3, env3, st3, l.trans (l2.trans l3), R3, S3, PostS.up (l2.trans l3) h1⟩
      | bk env3 st3 => rw [e2] at h1; exact fun Z3 σ3 H3 l3 R3 S3 => h1 Z3 σ3 H3 (l2.trans l3) R3 S3
      | rt d' st3 => rw [e2] at h1; exact fun Z3 v H3 l3 R3 S3 => h1 Z3 v H3 (l2.trans l3) R3 S3
      | exc env3 c ns ds' st3 => rw [e2] at h1; exact fun Z3 σ3 H3 x l3 R3 S3 => h1 Z3 σ3 H3 x (l2.trans l3) R3 S3
      | stuck => rw [e2] at h1; exact h1
  · rw [List.drop_length] at h1
    exact h1 Z1 σ H (Gh.le.refl _) R1 S1
theorem pS_for (hp : PassesOwn (model X.prog X.w) X.A X.env X.xe) (hc : X.calm = true) (hi : PI X tg iter (tSI K G W mi)) (hg : PG X tg (gOf K t)) (hb : PSs X body (tSS K G W mb)) (hf : ∀ x : Value, foldedSetIterable iter X.env x = pure x := by intro _; rfl) :
    PS X (.For tg iter body [] pos) (tSS K G W (mFor t mi mb)) :=
  ps_of (ps_for hp hc hi hg hb hf) fun Dn σ H ⟨Z, env, st, R, S, h⟩ => by
    refine ⟨Z, env, st, R, S, ?_⟩
    unfold mFor at h
    cases q : mi env st with
    | ok ds st1 =>
      rw [q] at h
      exact fun Z1 J H1 l R1 w => for_run R1 (S.up l) w (PostS.up l h)
    | exc c ns ds st1 => rw [q] at h; exact fun Z1 H1 x l R1 r => h Z1 σ H1 x l R1 (S.up l) r
    | stuck => rw [q] at h; exact h
end
/-! ### list comprehensions -/
def wipeE (env : Env) : List Nat → Env
  | [] => env
  | v :: vs => (wipeE env vs).set v none
/-- nothing may be raised within -/
def R.only {α β : Type} (r : R α) (f : α → Sto → R β) : R β := match r with
  | .ok a st => f a st
  | _ => .stuck
def mLcGo (t : Tg) (vs : List Nat) (mt : MB) (me : M) : List D → Env → Sto → List D → R (List D)
  | [], _, st, acc => .ok acc st
  | d :: ds, env, st, acc => match t.at d (wipeE env vs) st with
    | none => .stuck
    | some env1 => (mt env1 st).only fun b st1 => if b = true then (me env1 st1).only fun y st2 => (if acc.length < sizeLine then mLcGo t vs mt me ds env st2 (acc ++ [y]) else .stuck) else mLcGo t vs mt me ds env st1 acc
def mLc (t : Tg) (vs : List Nat) (mi : MA) (mt : MB) (me : M) : M := fun env st => (mi env st).bind fun ds st1 => (mLcGo t vs mt me ds env st1 []).bind fun acc st2 => .ok (.lst acc) st2
def mLcC (t : Tg) (vs : List Nat) (mi : MA) (mt : MB) (me : M) : M := fun env st => (mi env st).bind fun ds st1 => (mLcGo t vs mt me ds env st1 []).bind fun acc st2 => .ok (.ptr st2.length) (st2 ++ [.lst acc])
def mYes : MB := fun _ st => .ok true st
abbrev W0 : WX := wE E0
section
variable {K : PySem.W.Frag} {G : GA} {Z : Gh}
theorem RepE.setN : ∀ {env : Env} {σ : St} (i : Nat) (x : Option V), RepE K G Z env σ → RepE K G Z (env.set i none) (σ.set i x)
  | [], _, _, _, h => by cases (show _ = _ from h); exact rfl
  | _ :: _, _, 0, x, ⟨y, r, e, h, t⟩ => by cases e; exact ⟨x, r, rfl, trivial, t⟩
  | _ :: _, _, i + 1, x, ⟨y, r, e, h, t⟩ => by cases e; exact ⟨y, _, rfl, h, RepE.setN i x t⟩
theorem RepE.wipe {env : Env} {σ : St} (h : RepE K G Z env σ) : ∀ vs : List Nat, RepE K G Z (wipeE env vs) (L2.wipe σ vs)
  | [] => h
  | v :: vs => (RepE.wipe h vs).setN v none
end
/-- how far a comprehension has come: D is being made -/
structure LcAt (K : PySem.W.Frag) (G : GA) (Z0 : Gh) (Dd : Addr) (acc : List D) (Z : Gh) (st : Sto) (H : Hp) : Prop where
  ex : Z0.ex Z
  rel : RelH K G Z H st
  at_ : ∃ vs, Z.tmp = upd Z0.tmp Dd (.lst vs) ∧ RepL K G Z acc vs
section
variable {K : PySem.W.Frag} {G : GA} {W : WX} {X : Cx} {tg iter elt : Expr} {ifs : List Expr} {pos : Pos} {t : Tg} {vs : List Nat} {mi : MA} {mt : MB} {me : M} {Z0 Z : Gh} {Dd : Addr} {acc : List D} {st : Sto} {H : Hp} {σ : St}
theorem LcAt.le {Z' : Gh} {st' : Sto} {H' : Hp} (L : LcAt K G Z0 Dd acc Z st H) (l : Z.le Z') (R : RelH K G Z' H' st') : LcAt K G Z0 Dd acc Z' st' H' := by
  obtain ⟨e, _, vs, h1, h2⟩ := L
  exact ⟨e.trans l.ex, R, vs, l.tmp.trans h1, RepL.up l _ _ h2⟩
theorem LcAt.add {y : D} {v : V} (L : LcAt K G Z0 Dd acc Z st H) (hz : acc.length < sizeLine) (r : Rep K G Z y v) : ∃ vs, H Dd = some (.lst vs) ∧ vs.length < sizeLine ∧ ∃ Z', LcAt K G Z0 Dd (acc ++ [y]) Z' st (upd H Dd (.lst (vs ++ [v]))) ∧ Z.ex Z' := by
  obtain ⟨e, R, vs, h1, h2⟩ := L
  have hp : Z.tmp Dd = some (.lst vs) := by rw [h1, upd_same]
  have ex : Z.ex ⟨Z.fz, Z.rho, upd Z.tmp Dd (.lst (vs ++ [v]))⟩ := ⟨Same.refl _, ⟨[], by simp⟩⟩
  refine ⟨vs, R.tmp _ _ hp, by rw [← h2.length]; exact hz, ⟨Z.fz, Z.rho, upd Z.tmp Dd (.lst (vs ++ [v]))⟩, ⟨e.trans ex, R.setTmp hp, vs ++ [v], ?_, ?_⟩, ex⟩
  · show upd Z.tmp Dd _ = upd Z0.tmp Dd _
    rw [h1, upd_upd]
  · exact (RepL.ux ex _ _ h2).append ⟨v, [], rfl, Rep.ux ex _ _ r, rfl⟩
theorem LcAt.start (R : RelH K G Z0 H st) (hn : H Dd = none) : ∃ Z, LcAt K G Z0 Dd [] Z st (upd H Dd (.lst [])) ∧ Z0.ex Z :=
  ⟨⟨Z0.fz, Z0.rho, upd Z0.tmp Dd (.lst [])⟩, ⟨⟨Same.refl _, ⟨[], by simp⟩⟩, R.addTmp hn, [], rfl, rfl⟩, ⟨Same.refl _, ⟨[], by simp⟩⟩⟩
theorem LcAt.fin {E : XK} {Q : VK} (L : LcAt K G Z0 Dd acc Z st H) (hn : Z0.tmp Dd = none) (h : Post K G (rD K G) E Z0 (.ok (.lst acc) st) Q) : Q (.ref Dd) H := by
  obtain ⟨e, R, vs, h1, h2⟩ := L
  obtain ⟨R', ex⟩ := R.tmpFz h1 hn
  have e2 := e.trans ex
  exact h _ _ _ ⟨e2.fz, e2.rho, rfl⟩ R' ⟨Dd, vs, rfl, upd_same, RepL.ux ex _ _ h2⟩
theorem LcAt.finC {E : XK} {Q : VK} (L : LcAt K G Z0 Dd acc Z st H) (hn : Z0.tmp Dd = none) (h : Post K G (rD K G) E Z0 (.ok (.ptr st.length) (st ++ [.lst acc])) Q) : Q (.ref Dd) H := by
  obtain ⟨e, R, vs, h1, h2⟩ := L
  have hp : Z.tmp Dd = some (.lst vs) := by rw [h1, upd_same]
  obtain ⟨R', ex⟩ := R.tmpC (c := .lst acc) h1 hn fun Z' l => ⟨vs, R.tmp _ _ hp, RepL.ux l _ _ h2⟩
  have e2 := e.trans ex
  exact h _ _ _ ⟨e2.fz, e2.rho, rfl⟩ R' ⟨Dd, by show (Z.rho ++ [Dd])[st.length]? = some Dd; rw [← R.len]; simp, rfl⟩
/-- one turn: the target, the tests, the element -/
theorem lc_turn {Fin : Sto → List D → Prop} {Nx : Hp → Prop} {env : Env} {env1 : Env} {σ2 : St} {k : R (List D)} (L : LcAt K G Z0 Dd acc Z st H) (S : RepE K G Z env1 σ2)
    (hk : ∀ st2 acc2, Fin st2 acc2 → ∀ Z2 H2, LcAt K G Z0 Dd acc2 Z2 st2 H2 → Nx H2)
    (h : ∀ b st1, mt env1 st = .ok b st1 → if b = true then ∀ y st2, me env1 st1 = .ok y st2 → acc.length < sizeLine ∧ Fin st2 (acc ++ [y]) else Fin st1 acc)
    (hm : ∃ b st1, mt env1 st = .ok b st1 ∧ (b = true → ∃ y st2, me env1 st1 = .ok y st2)) :
    tSB K G W0 mt σ2 H fun b H3 => if b = true then tS K G W0 me σ2 H3 fun y H4 => ∃ acc, H4 Dd = some (.lst acc) ∧ acc.length < sizeLine ∧ Nx (upd H4 Dd (.lst (acc ++ [y]))) else Nx H3 := by
  obtain ⟨b, st1, e1, hm⟩ := hm
  have h1 := h b st1 e1
  refine ⟨Z, env1, st, L.rel, S, ?_⟩
  rw [e1]
  intro Z1 b' H1 l1 R1 eb
  cases (show b = b' from eb)
  cases b with
  | false => exact iteF (hk _ _ h1 Z1 H1 (L.le l1 R1))
  | true =>
    obtain ⟨y, st2, e2⟩ := hm rfl
    have h2 := h1 y st2 e2
    refine iteT ⟨Z1, env1, st1, R1, S.up l1, ?_⟩
    rw [e2]
    intro Z2 v H2 l2 R2 r
    obtain ⟨vs, hd, hl, Z3, L3, _⟩ := ((L.le l1 R1).le l2 R2).add h2.1 r
    exact ⟨vs, hd, hl, hk _ _ h2.2 Z3 _ L3⟩
end
end S
/-! comprehensions, put together -/
namespace S
open PySem L2
section
variable {K : PySem.W.Frag} {G : GA} {W : WX} {X : Cx} {tg iter elt : Expr} {ifs : List Expr} {pos : Pos} {t : Tg} {vs : List Nat} {mi : MA} {mt : MB} {me : M} {Z : Gh} {Dd : Addr} {σ : St}
theorem drop_cons {α : Type} {ds : List α} {i : Nat} {d : α} (hi : i < ds.length) (hd : ds[i]? = some d) : ds.drop i = d :: ds.drop (i + 1) := by
  rw [List.getElem?_eq_getElem hi] at hd
  cases hd
  exact List.drop_eq_getElem_cons hi
theorem Off.sub {us vs : List Nat} {a b : St} (h : Off us a b) (hs : ∀ i ∈ us, i ∈ vs) : Off vs a b := ⟨h.1, fun j hj => h.2 j fun z => hj (hs j z)⟩
/-- what a turn asks, from what is wanted at the end -/
theorem turn_of {γ δ : Type} {P' : Gh → γ → δ → Prop} {E : XK} {Q : δ → Hp → Prop} {env1 : Env} {st : Sto} {acc : List D} {go : Sto → List D → R (List D)} {f : List D → Sto → R γ}
    (h : Post K G P' E Z (((mt env1 st).only fun b st1 => if b = true then (me env1 st1).only fun y st2 => (if acc.length < sizeLine then go st2 (acc ++ [y]) else .stuck) else go st1 acc).bind f) Q) :
    (∀ b st1, mt env1 st = .ok b st1 → if b = true then ∀ y st2, me env1 st1 = .ok y st2 → acc.length < sizeLine ∧ Post K G P' E Z ((go st2 (acc ++ [y])).bind f) Q else Post K G P' E Z ((go st1 acc).bind f) Q) ∧
    ∃ b st1, mt env1 st = .ok b st1 ∧ (b = true → ∃ y st2, me env1 st1 = .ok y st2) := by
  cases e1 : mt env1 st with
  | ok b st1 =>
    rw [e1] at h
    cases b with
    | false => exact ⟨fun b' st' e => by cases e; exact iteF h, false, st1, rfl, fun z => by cases z⟩
    | true =>
      replace h : Post K G P' E Z (((me env1 st1).only fun y st2 => (if acc.length < sizeLine then go st2 (acc ++ [y]) else .stuck)).bind f) Q := h
      cases e2 : me env1 st1 with
      | ok y st2 =>
        rw [e2] at h
        replace h : Post K G P' E Z ((if acc.length < sizeLine then go st2 (acc ++ [y]) else .stuck).bind f) Q := h
        split at h
        · rename_i hz
          refine ⟨fun b' st' e => ?_, true, st1, rfl, fun _ => ⟨y, st2, e2⟩⟩
          cases e
          refine iteT fun y' st3 e3 => ?_
          rw [e2] at e3; cases e3
          exact ⟨hz, h⟩
        · exact h.elim
      | exc c ns ds st2 => rw [e2] at h; exact h.elim
      | stuck => rw [e2] at h; exact h.elim
  | exc c ns ds st1 => rw [e1] at h; exact h.elim
  | stuck => rw [e1] at h; exact h.elim
theorem lc_run {H : Hp} {env : Env} {st : Sto} {ds : List D} {J : It} {E : XK} {Q : VK} {f : List D → Sto → R D} (R : RelH K G Z H st) (S : RepE K G Z env σ) (w : rI K G Z ds J) (hsl : ∀ i ∈ t.slots, i ∈ vs) (hD : H Dd = none)
    (hf : ∀ acc Z1 st1 H1, LcAt K G Z Dd acc Z1 st1 H1 → Post K G (rD K G) E Z (f acc st1) Q → Q (.ref Dd) H1)
    (h : Post K G (rD K G) E Z ((mLcGo t vs mt me ds env st []).bind f) Q) :
    ∃ W' : Nat → Nat → Hp → Prop, (∃ m, W' 0 m (upd H Dd (.lst []))) ∧ ∀ i m H, W' i m H →
      (J.stop i H ∧ Q (.ref Dd) H) ∨ (J.go i H ∧ ∃ Nx : Hp → Prop, (∀ H', Nx H' → ∃ m', m' < m ∧ W' (i + 1) m' H') ∧ ∀ x H', J.yld i H x H' → gOf K t x (wipe σ vs) H' fun σ2 H2 => wipe σ2 vs = wipe σ vs ∧ tSB K G W0 mt σ2 H2 fun b H3 =>
        if b = true then tS K G W0 me σ2 H3 fun y H4 => ∃ acc, H4 Dd = some (.lst acc) ∧ acc.length < sizeLine ∧ Nx (upd H4 Dd (.lst (acc ++ [y]))) else Nx H3) := by
  obtain ⟨Gd, Y, wk, hG, hY⟩ := w
  obtain ⟨Z1, L0, _⟩ := LcAt.start (Dd := Dd) R hD
  refine lc_it wk (fun i H => ∃ Z1 st1 acc, LcAt K G Z Dd acc Z1 st1 H ∧ Post K G (rD K G) E Z ((mLcGo t vs mt me (ds.drop i) env st1 acc).bind f) Q) ⟨Z1, st, [], L0, h⟩ (fun i H _ ⟨Z1, _, _, L, _⟩ => hG Z1 H _ L.ex L.rel) (fun i x H H' hi ⟨Z1, st1, acc, L, h1⟩ y => ?_) fun H ⟨Z1, st1, acc, L, h1⟩ => ?_
  · obtain ⟨Z2, d, l2, R2, hd, rd⟩ := hY i x H H' Z1 st1 L.ex L.rel hi y
    have L2 := L.le l2 R2
    rw [drop_cons hi hd] at h1
    unfold mLcGo at h1
    cases e1 : t.at d (wipeE env vs) st1 with
    | none => rw [e1] at h1; exact h1.elim
    | some env2 =>
      rw [e1] at h1
      refine Tg.run R2 t d x (wipeE env vs) env2 (wipe σ vs) _ ((RepE.ux L2.ex _ _ S).wipe vs) rd e1 fun σ2 S2 off => ⟨(Off.trans (off.sub hsl) (off_wipe vs σ)).wipe, ?_⟩
      obtain ⟨ha, hb⟩ := turn_of (go := fun st acc => mLcGo t vs mt me (ds.drop (i + 1)) env st acc) h1
      exact lc_turn (env := env) (k := .stuck) L2 S2 (Fin := fun st2 acc2 => Post K G (rD K G) E Z ((mLcGo t vs mt me (ds.drop (i + 1)) env st2 acc2).bind f) Q) (fun st2 acc2 F Z3 H3 L3 => ⟨Z3, st2, acc2, L3, F⟩) ha hb
  · rw [List.drop_length] at h1
    exact hf acc Z1 st1 H L h1
theorem rs_lc {H : Hp} {Q : VK} (hsl : ∀ i ∈ t.slots, i ∈ vs) (h : tS K G W (mLc t vs mi mt me) σ H Q) : tLc (tSI K G W mi) (gOf K t) (tSB K G W0 mt) (tS K G W0 me) vs σ H Q :=
  rs_bind (f := fun ds env st1 => (mLcGo t vs mt me ds env st1 []).bind fun acc st2 => .ok (D.lst acc) st2) h fun ds J H1 Z env st R S w q => fun Dd hD => lc_run R S w hsl hD (fun acc Z1 st1 H1 L h => L.fin (R.tmp.free hD) h) q
theorem rs_lcC {H : Hp} {Q : VK} (hsl : ∀ i ∈ t.slots, i ∈ vs) (h : tS K G W (mLcC t vs mi mt me) σ H Q) : tLc (tSI K G W mi) (gOf K t) (tSB K G W0 mt) (tS K G W0 me) vs σ H Q :=
  rs_bind (f := fun ds env st1 => (mLcGo t vs mt me ds env st1 []).bind fun acc st2 => .ok (D.ptr st2.length) (st2 ++ [.lst acc])) h fun ds J H1 Z env st R S w q => fun Dd hD => lc_run R S w hsl hD (fun acc Z1 st1 H1 L h => L.finC (R.tmp.free hD) h) q
theorem pTs_nil : PTs X [] (tSB K G W mYes) := ⟨fun pins s σ H Q I ⟨Z, env, st, R, S, h⟩ => pts_nil.run pins s σ H Q I (Post.now (P := rB) h R rfl)⟩
theorem pTs_one {c : Expr} (h : PT X c (tSB K G W mt)) : PTs X [c] (tSB K G W mt) := pts_one h
variable {scope : Scope} {own : List (Str × Nat)}
theorem pS_lc (hc : X.calm = true) (hN : X.N.Nodup) (hi : PI X tg iter (tSI X.K G W mi)) (ok : BlkOk X.N X.env.scope scope own)
    (hg : ∀ (s : Shared) (H : Hp) (C : Addr) (cl : List (Str × Addr)) (fp : List Addr), PG (X.blk s H scope (compEnvC scope cl C X.env) fp) tg (gOf X.K t))
    (ht : ∀ (s : Shared) (H : Hp) (C : Addr) (cl : List (Str × Addr)) (fp : List Addr), PTs (X.blk s H scope (compEnvC scope cl C X.env) fp) ifs (tSB X.K G W0 mt))
    (he : ∀ (s : Shared) (H : Hp) (C : Addr) (cl : List (Str × Addr)) (fp : List Addr), PE (X.blk s H scope (compEnvC scope cl C X.env) fp) elt (tS X.K G W0 me))
    (hvs : own.map (·.2) = vs := by rfl) (hsl : ∀ i ∈ t.slots, i ∈ vs := by decide) (hf : ∀ x : Value, foldedSetIterable iter X.env x = pure x := by intro _; rfl) :
    PE X (.ListComp elt [⟨tg, iter, ifs, 0⟩] scope pos) (tS X.K G W (mLc t vs mi mt me)) :=
  by subst hvs; exact pe_of (pe_lc hc hN hi ok hg ht he hf) fun σ H Q h => rs_lc hsl h
theorem pS_lcC (hc : X.calm = true) (hN : X.N.Nodup) (hi : PI X tg iter (tSI X.K G W mi)) (ok : BlkOk X.N X.env.scope scope own)
    (hg : ∀ (s : Shared) (H : Hp) (C : Addr) (cl : List (Str × Addr)) (fp : List Addr), PG (X.blk s H scope (compEnvC scope cl C X.env) fp) tg (gOf X.K t))
    (ht : ∀ (s : Shared) (H : Hp) (C : Addr) (cl : List (Str × Addr)) (fp : List Addr), PTs (X.blk s H scope (compEnvC scope cl C X.env) fp) ifs (tSB X.K G W0 mt))
    (he : ∀ (s : Shared) (H : Hp) (C : Addr) (cl : List (Str × Addr)) (fp : List Addr), PE (X.blk s H scope (compEnvC scope cl C X.env) fp) elt (tS X.K G W0 me))
    (hvs : own.map (·.2) = vs := by rfl) (hsl : ∀ i ∈ t.slots, i ∈ vs := by decide) (hf : ∀ x : Value, foldedSetIterable iter X.env x = pure x := by intro _; rfl) :
    PE X (.ListComp elt [⟨tg, iter, ifs, 0⟩] scope pos) (tS X.K G W (mLcC t vs mi mt me)) :=
  by subst hvs; exact pe_of (pe_lc hc hN hi ok hg ht he hf) fun σ H Q h => rs_lcC hsl h
/-- y = [..] -/
theorem pS_setLc {i : Nat} {y : Str} {py spos : Pos} (hc : X.calm = true) (hN : X.N.Nodup) (hy : X.N[i]? = some y) (hl : X.env.scope.names.lookup y = some .local)
    (hw : swapsWith (.ListComp elt [⟨tg, iter, ifs, 0⟩] scope pos) (some (.Name y py)) spos.line X.env = pure true) (hi : PI X tg iter (tSI X.K G W mi)) (ok : BlkOk X.N X.env.scope scope own)
    (hg : ∀ (s : Shared) (H : Hp) (C : Addr) (cl : List (Str × Addr)) (fp : List Addr), PG (X.blk s H scope (compEnvC scope cl C X.env) fp) tg (gOf X.K t))
    (ht : ∀ (s : Shared) (H : Hp) (C : Addr) (cl : List (Str × Addr)) (fp : List Addr), PTs (X.blk s H scope (compEnvC scope cl C X.env) fp) ifs (tSB X.K G W0 mt))
    (he : ∀ (s : Shared) (H : Hp) (C : Addr) (cl : List (Str × Addr)) (fp : List Addr), PE (X.blk s H scope (compEnvC scope cl C X.env) fp) elt (tS X.K G W0 me))
    (hvs : own.map (·.2) = vs := by rfl) (hsl : ∀ i ∈ t.slots, i ∈ vs := by decide) (hf : ∀ x : Value, foldedSetIterable iter X.env x = pure x := by intro _; rfl) :
    PS X (.Assign [.Name y py] (.ListComp elt [⟨tg, iter, ifs, 0⟩] scope pos) spos) (tSS X.K G W (mSet i (mLc t vs mi mt me))) :=
  by subst hvs; exact ps_of (ps_setLc (i := i) hc hN hy hl hw hi ok hg ht he hf) fun Dn σ H ⟨Z, env, st, R, S, h⟩ => rs_lc hsl ⟨Z, env, st, R, S, post_stm (f := fun d st' => .nx (env.set i (some d)) st') S h fun d st' Z' v H' l R' r q => q Z' _ H' (Gh.le.refl _) R' ((S.up l).set r i)⟩
end
end S
/-! comprehensions of two clauses; of dicts; dicts -/
namespace S
open PySem L2
/-! ### two clauses -/
def mLc2Go (t : Tg) (vs : List Nat) (mt : MB) (t1 : Tg) (vs1 : List Nat) (mi1 : MA) (mt1 : MB) (me : M) : List D → Env → Sto → List D → R (List D)
  | [], _, st, acc => .ok acc st
  | d :: ds, env, st, acc => match t.at d (wipeE env vs) st with
    | none => .stuck
    | some env1 => (mt env1 st).only fun b st1 => if b = true then (mi1 env1 st1).only fun ds1 st2 => (mLcGo t1 vs1 mt1 me ds1 env1 st2 acc).only fun acc2 st3 => mLc2Go t vs mt t1 vs1 mi1 mt1 me ds env st3 acc2 else mLc2Go t vs mt t1 vs1 mi1 mt1 me ds env st1 acc
def mLc2 (t : Tg) (vs : List Nat) (mi : MA) (mt : MB) (t1 : Tg) (vs1 : List Nat) (mi1 : MA) (mt1 : MB) (me : M) : M := fun env st => (mi env st).bind fun ds st1 => (mLc2Go t vs mt t1 vs1 mi1 mt1 me ds env st1 []).bind fun acc st2 => .ok (.lst acc) st2
section
variable {K : PySem.W.Frag} {G : GA} {W : WX} {X : Cx} {tg iter tg1 iter1 elt : Expr} {ifs ifs1 : List Expr} {pos : Pos} {t t1 : Tg} {vs vs1 : List Nat} {mi mi1 : MA} {mt mt1 : MB} {me : M} {Z0 Z : Gh} {Dd : Addr} {σ : St}
theorem Post.only {α β γ δ : Type} {P : Gh → α → β → Prop} {P' : Gh → γ → δ → Prop} {E : XK} {r : R α} {f : α → Sto → R γ} {Q : δ → Hp → Prop} (h : Post K G P' E Z (r.only f) Q) : ∃ a st, r = .ok a st ∧ Post K G P' E Z (f a st) Q := by
  cases r with
  | ok a st => exact ⟨a, st, rfl, h⟩
  | exc c ns ds st => exact h.elim
  | stuck => exact h.elim
/-- a walk within a walk: the list grows, then Nx -/
theorem lc1_it {J : It} {n : Nat} {Gd : Hp → Prop} {Y : Nat → Hp → V → Hp → Prop} (w : Walk J n Gd Y) {g : TG} {tt : TT} {te : TE} {σ : St} {H : Hp} {Dd : Addr} {Nx : Hp → Prop} (Pv : Nat → Hp → Prop) (h0 : Pv 0 H) (hG : ∀ i H, i ≤ n → Pv i H → Gd H)
    (hs : ∀ i x H H', i < n → Pv i H → Y i H x H' → g x (wipe σ vs) H' fun σ2 H2 => wipe σ2 vs = wipe σ vs ∧ tt σ2 H2 fun b H3 =>
      if b = true then te σ2 H3 fun y H4 => ∃ acc, H4 Dd = some (.lst acc) ∧ acc.length < sizeLine ∧ Pv (i + 1) (upd H4 Dd (.lst (acc ++ [y]))) else Pv (i + 1) H3) (hd : ∀ H, Pv n H → Nx H) :
    ∃ W' : Nat → Nat → Hp → Prop, (∃ m, W' 0 m H) ∧ ∀ j k H, W' j k H →
      (J.stop j H ∧ Nx H) ∨ (J.go j H ∧ ∃ Nx1 : Hp → Prop, (∀ H', Nx1 H' → ∃ k', k' < k ∧ W' (j + 1) k' H') ∧ ∀ x H', J.yld j H x H' → g x (wipe σ vs) H' fun σ3 H5 => wipe σ3 vs = wipe σ vs ∧ tt σ3 H5 fun b H6 =>
        if b = true then te σ3 H6 fun y H7 => ∃ acc, H7 Dd = some (.lst acc) ∧ acc.length < sizeLine ∧ Nx1 (upd H7 Dd (.lst (acc ++ [y]))) else Nx1 H6) := by
  refine ⟨fun i m H => m = n - i ∧ i ≤ n ∧ Pv i H, ⟨n, by simp, Nat.zero_le _, h0⟩, ?_⟩
  rintro i m H ⟨rfl, hi, p⟩
  have q := hG i H hi p
  rcases Nat.lt_or_ge i n with hlt | hge
  · exact .inr ⟨w.goes i H hlt q, Pv (i + 1), fun H' p' => ⟨n - (i + 1), by omega, rfl, hlt, p'⟩, fun x H' y => hs i x H H' hlt p (w.yields i H x H' hlt q y)⟩
  · obtain rfl : i = n := by omega
    exact .inl ⟨w.stops H q, hd H p⟩
theorem in_run {H : Hp} {env : Env} {st : Sto} {ds : List D} {J : It} {acc acc' : List D} {st' : Sto} {Nx : Hp → Prop} (L : LcAt K G Z0 Dd acc Z st H) (S : RepE K G Z env σ) (w : rI K G Z ds J) (hsl : ∀ i ∈ t.slots, i ∈ vs)
    (h : mLcGo t vs mt me ds env st acc = .ok acc' st') (hn : ∀ Z' H', LcAt K G Z0 Dd acc' Z' st' H' → Nx H') :
    ∃ W' : Nat → Nat → Hp → Prop, (∃ m, W' 0 m H) ∧ ∀ j k H, W' j k H →
      (J.stop j H ∧ Nx H) ∨ (J.go j H ∧ ∃ Nx1 : Hp → Prop, (∀ H', Nx1 H' → ∃ k', k' < k ∧ W' (j + 1) k' H') ∧ ∀ x H', J.yld j H x H' → gOf K t x (wipe σ vs) H' fun σ3 H5 => wipe σ3 vs = wipe σ vs ∧ tSB K G W0 mt σ3 H5 fun b H6 =>
        if b = true then tS K G W0 me σ3 H6 fun y H7 => ∃ acc, H7 Dd = some (.lst acc) ∧ acc.length < sizeLine ∧ Nx1 (upd H7 Dd (.lst (acc ++ [y]))) else Nx1 H6) := by
  obtain ⟨Gd, Y, wk, hG, hY⟩ := w
  refine lc1_it wk (fun i H => ∃ Z1 st1 acc1, Z.ex Z1 ∧ LcAt K G Z0 Dd acc1 Z1 st1 H ∧ mLcGo t vs mt me (ds.drop i) env st1 acc1 = .ok acc' st') ⟨Z, st, acc, Gh.ex.refl _, L, h⟩ (fun i H _ ⟨Z1, _, _, x1, L1, _⟩ => hG Z1 H _ x1 L1.rel) (fun i x H H' hi ⟨Z1, st1, acc1, x1, L1, h1⟩ y => ?_) fun H ⟨Z1, st1, acc1, x1, L1, h1⟩ => ?_
  · obtain ⟨Z2, d, l2, R2, hd, rd⟩ := hY i x H H' Z1 st1 x1 L1.rel hi y
    have L2 := L1.le l2 R2
    rw [drop_cons hi hd] at h1
    unfold mLcGo at h1
    cases e1 : t.at d (wipeE env vs) st1 with
    | none => rw [e1] at h1; cases h1
    | some env2 =>
      rw [e1] at h1
      refine Tg.run R2 t d x (wipeE env vs) env2 (wipe σ vs) _ ((RepE.ux (x1.trans l2.ex) _ _ S).wipe vs) rd e1 fun σ2 S2 off => ⟨(Off.trans (off.sub hsl) (off_wipe vs σ)).wipe, ?_⟩
      dsimp only at h1
      -- the turn by itself
      refine ⟨Z2, env2, st1, R2, S2, ?_⟩
      cases e2 : mt env2 st1 with
      | ok b st2 =>
        rw [e2] at h1
        intro Z3 b' H3 l3 R3 eb
        cases (show b = b' from eb)
        cases b with
        | false => exact iteF ⟨Z3, st2, acc1, (x1.trans l2.ex).trans l3.ex, L2.le l3 R3, h1⟩
        | true =>
          replace h1 : ((me env2 st2).only fun y st3 => if acc1.length < sizeLine then mLcGo t vs mt me (ds.drop (i + 1)) env st3 (acc1 ++ [y]) else .stuck) = .ok acc' st' := h1
          refine iteT ⟨Z3, env2, st2, R3, S2.up l3, ?_⟩
          cases e3 : me env2 st2 with
          | ok y' st3 =>
            rw [e3] at h1
            replace h1 : (if acc1.length < sizeLine then mLcGo t vs mt me (ds.drop (i + 1)) env st3 (acc1 ++ [y']) else .stuck) = .ok acc' st' := h1
            split at h1
            · rename_i hz
              intro Z4 v H4 l4 R4 r
              obtain ⟨us, hd', hl, Z5, L5, x5⟩ := ((L2.le l3 R3).le l4 R4).add hz r
              exact ⟨us, hd', hl, Z5, st3, _, (((x1.trans l2.ex).trans l3.ex).trans l4.ex).trans x5, L5, h1⟩
            · cases h1
          | exc c ns ds' st3 => rw [e3] at h1; cases h1
          | stuck => rw [e3] at h1; cases h1
      | exc c ns ds' st2 => rw [e2] at h1; cases h1
      | stuck => rw [e2] at h1; cases h1
  · rw [List.drop_length] at h1
    unfold mLcGo at h1
    cases h1
    exact hn Z1 H L1
theorem rs_lc2 {H : Hp} {Q : VK} (hsl : ∀ i ∈ t.slots, i ∈ vs) (hsl1 : ∀ i ∈ t1.slots, i ∈ vs1) (h : tS K G W (mLc2 t vs mi mt t1 vs1 mi1 mt1 me) σ H Q) : tLc2 (tSI K G W mi) (gOf K t) (tSB K G W0 mt) (tSI K G W0 mi1) (gOf K t1) (tSB K G W0 mt1) (tS K G W0 me) vs vs1 σ H Q := by
  refine rs_bind (f := fun ds env st1 => (mLc2Go t vs mt t1 vs1 mi1 mt1 me ds env st1 []).bind fun acc st2 => .ok (D.lst acc) st2) h fun ds J H1 Z env st R S w q => fun Dd hD => ?_
  obtain ⟨Gd, Y, wk, hG, hY⟩ := w
  obtain ⟨Z1, L0, _⟩ := LcAt.start (Dd := Dd) R hD
  let Fin : Nat → Sto → List D → Prop := fun i st1 acc => Post K G (rD K G) (WE W σ) Z ((mLc2Go t vs mt t1 vs1 mi1 mt1 me (ds.drop i) env st1 acc).bind fun acc st2 => .ok (D.lst acc) st2) Q
  let Pv : Nat → Hp → Prop := fun i H => ∃ Z1 st1 acc, LcAt K G Z Dd acc Z1 st1 H ∧ Fin i st1 acc
  refine ⟨fun i m H => m = ds.length - i ∧ i ≤ ds.length ∧ Pv i H, ⟨ds.length, by simp, Nat.zero_le _, Z1, st, [], L0, q⟩, ?_⟩
  rintro i m H ⟨rfl, hi, Z1, st1, acc, L, F⟩
  have g1 := hG Z1 H _ L.ex L.rel
  rcases Nat.lt_or_ge i ds.length with hlt | hge
  · refine .inr ⟨wk.goes i H hlt g1, Pv (i + 1), fun H' p' => ⟨ds.length - (i + 1), by omega, rfl, hlt, p'⟩, fun x H' y => ?_⟩
    obtain ⟨Z2, d, l2, R2, hd, rd⟩ := hY i x H H' Z1 st1 L.ex L.rel hlt (wk.yields i H x H' hlt g1 y)
    have L2 := L.le l2 R2
    have F : Post K G (rD K G) (WE W σ) Z ((mLc2Go t vs mt t1 vs1 mi1 mt1 me (ds.drop i) env st1 acc).bind fun acc st2 => .ok (D.lst acc) st2) Q := F
    rw [drop_cons hlt hd] at F
    unfold mLc2Go at F
    cases e1 : t.at d (wipeE env vs) st1 with
    | none => rw [e1] at F; exact F.elim
    | some env2 =>
      rw [e1] at F
      refine Tg.run R2 t d x (wipeE env vs) env2 (wipe σ vs) _ ((RepE.ux L2.ex _ _ S).wipe vs) rd e1 fun σ2 S2 off => ⟨(Off.trans (off.sub hsl) (off_wipe vs σ)).wipe, ?_⟩
      refine ⟨Z2, env2, st1, R2, S2, ?_⟩
      dsimp only at F
      cases e2 : mt env2 st1 with
      | ok b st2 =>
        rw [e2] at F
        intro Z3 b' H3 l3 R3 eb
        cases (show b = b' from eb)
        cases b with
        | false => exact iteF ⟨Z3, st2, acc, L2.le l3 R3, F⟩
        | true =>
          replace F : Post K G (rD K G) (WE W σ) Z (((mi1 env2 st2).only fun ds1 st2 => (mLcGo t1 vs1 mt1 me ds1 env2 st2 acc).only fun acc2 st3 => mLc2Go t vs mt t1 vs1 mi1 mt1 me (ds.drop (i + 1)) env st3 acc2).bind fun acc st2 => .ok (D.lst acc) st2) Q := F
          refine iteT ⟨Z3, env2, st2, R3, S2.up l3, ?_⟩
          cases e3 : mi1 env2 st2 with
          | ok ds1 st3 =>
            rw [e3] at F
            replace F : Post K G (rD K G) (WE W σ) Z (((mLcGo t1 vs1 mt1 me ds1 env2 st3 acc).only fun acc2 st3 => mLc2Go t vs mt t1 vs1 mi1 mt1 me (ds.drop (i + 1)) env st3 acc2).bind fun acc st2 => .ok (D.lst acc) st2) Q := F
            intro Z4 J1 H4 l4 R4 w1
            cases e4 : mLcGo t1 vs1 mt1 me ds1 env2 st3 acc with
            | ok acc2 st4 =>
              rw [e4] at F
              exact in_run (Z0 := Z) ((L2.le l3 R3).le l4 R4) (S2.up (l3.trans l4)) w1 hsl1 e4 fun Z' H' L' => ⟨Z', st4, acc2, L', F⟩
            | exc c ns ds' st4 => rw [e4] at F; exact F.elim
            | stuck => rw [e4] at F; exact F.elim
          | exc c ns ds' st3 => rw [e3] at F; exact F.elim
          | stuck => rw [e3] at F; exact F.elim
      | exc c ns ds' st2 => rw [e2] at F; exact F.elim
      | stuck => rw [e2] at F; exact F.elim
  · obtain rfl : i = ds.length := by omega
    have F : Post K G (rD K G) (WE W σ) Z ((mLc2Go t vs mt t1 vs1 mi1 mt1 me (ds.drop ds.length) env st1 acc).bind fun acc st2 => .ok (D.lst acc) st2) Q := F
    rw [List.drop_length] at F
    exact .inl ⟨wk.stops H g1, L.fin (R.tmp.free hD) F⟩
variable {scope : Scope} {own : List (Str × Nat)}
theorem pS_lc2 (hc : X.calm = true) (hN : X.N.Nodup) (hi : PI X tg iter (tSI X.K G W mi)) (ok : BlkOk X.N X.env.scope scope own) (hv : ∀ i ∈ vs1, i ∈ own.map (·.2))
    (hg : ∀ (s : Shared) (H : Hp) (C : Addr) (cl : List (Str × Addr)) (fp : List Addr), PG (X.blk s H scope (compEnvC scope cl C X.env) fp) tg (gOf X.K t))
    (ht : ∀ (s : Shared) (H : Hp) (C : Addr) (cl : List (Str × Addr)) (fp : List Addr), PTs (X.blk s H scope (compEnvC scope cl C X.env) fp) ifs (tSB X.K G W0 mt))
    (hi1 : ∀ (s : Shared) (H : Hp) (C : Addr) (cl : List (Str × Addr)) (fp : List Addr), PI (X.blk s H scope (compEnvC scope cl C X.env) fp) tg1 iter1 (tSI X.K G W0 mi1))
    (hg1 : ∀ (s : Shared) (H : Hp) (C : Addr) (cl : List (Str × Addr)) (fp : List Addr), PG (X.blk s H scope (compEnvC scope cl C X.env) fp) tg1 (gOf X.K t1))
    (ht1 : ∀ (s : Shared) (H : Hp) (C : Addr) (cl : List (Str × Addr)) (fp : List Addr), PTs (X.blk s H scope (compEnvC scope cl C X.env) fp) ifs1 (tSB X.K G W0 mt1))
    (he : ∀ (s : Shared) (H : Hp) (C : Addr) (cl : List (Str × Addr)) (fp : List Addr), PE (X.blk s H scope (compEnvC scope cl C X.env) fp) elt (tS X.K G W0 me))
    (hvs : own.map (·.2) = vs := by rfl) (hsl : ∀ i ∈ t.slots, i ∈ vs := by decide) (hsl1 : ∀ i ∈ t1.slots, i ∈ vs1 := by decide) (hf : ∀ x : Value, foldedSetIterable iter X.env x = pure x := by intro _; rfl) (hf1 : ∀ (env : PySem.Env) (x : Value), foldedSetIterable iter1 env x = pure x := by intro _ _; rfl) :
    PE X (.ListComp elt [⟨tg, iter, ifs, 0⟩, ⟨tg1, iter1, ifs1, 0⟩] scope pos) (tS X.K G W (mLc2 t vs mi mt t1 vs1 mi1 mt1 me)) :=
  by subst hvs; exact pe_of (pe_lc2 hc hN hi ok hv hg ht hi1 hg1 ht1 he hf hf1) fun σ H Q h => rs_lc2 hsl hsl1 h
end
end S
/-! comprehensions of dicts -/
namespace S
open PySem L2
def kOf : D → Option Key
  | .int i => some (.inl i)
  | .str x => some (.inr x)
  | _ => none
def kD : Key → D
  | .inl i => .int i
  | .inr x => .str x
def putKs (k : Key) (ks : List Key) : List Key := if ks.any (fun x => decide (x = k)) = true then ks else ks ++ [k]
def repl {α : Type} (k : Key) (x : α) : List Key → List α → List α
  | k' :: r, y :: ys => (if k' = k then x else y) :: repl k x r ys
  | _, _ => []
def putKd {α : Type} (k : Key) (x : α) (ks : List Key) (ds : List α) : List α := if ks.any (fun x => decide (x = k)) = true then repl k x ks ds else ds ++ [x]
section
variable {K : PySem.W.Frag} {G : GA} {Z : Gh}
theorem kOf_rep {d : D} {v : V} {k : Key} (e : kOf d = some k) (r : Rep K G Z d v) : v = kV k := by
  cases d <;> first | (cases e; exact r) | cases e
theorem rep_kD (k : Key) : Rep K G Z (kD k) (kV k) := by cases k <;> exact rfl
theorem any_zip {k : Key} : ∀ {ks : List Key} {vs : List V}, ks.length = vs.length → ((ks.zip vs).any fun kv => decide (kv.1 = k)) = ks.any fun x => decide (x = k)
  | [], _, _ => rfl
  | _ :: _, [], h => by cases h
  | k' :: r, v :: vs, h => by
    rw [List.zip_cons_cons, List.any_cons, List.any_cons, any_zip (by simpa using h)]
theorem repl_zip {k : Key} {v : V} : ∀ {ks : List Key} {vs : List V}, ks.length = vs.length → (ks.zip vs).map (fun kv => if kv.1 = k then (kv.1, v) else kv) = ks.zip (repl k v ks vs) ∧ (repl k v ks vs).length = vs.length
  | [], [], _ => ⟨rfl, rfl⟩
  | [], _ :: _, h => by cases h
  | _ :: _, [], h => by cases h
  | k' :: r, u :: us, h => by
    have ih := repl_zip (k := k) (v := v) (ks := r) (vs := us) (by simpa using h)
    unfold repl
    rw [List.zip_cons_cons, List.map_cons, List.zip_cons_cons, ih.1]
    refine ⟨?_, by simp [ih.2]⟩
    split <;> rfl
theorem putK_zip {k : Key} {v : V} {ks : List Key} {vs : List V} (h : ks.length = vs.length) : putK (ks.zip vs) k v = (putKs k ks).zip (putKd k v ks vs) ∧ (putKs k ks).length = (putKd k v ks vs).length := by
  unfold putK putKs putKd
  rw [any_zip h]
  split
  · have z := repl_zip (k := k) (v := v) h
    exact ⟨z.1, h.trans z.2.symm⟩
  · refine ⟨?_, by simp [h]⟩
    rw [List.zip_append h]
    rfl
theorem RepL.repl {k : Key} {d : D} {v : V} (p : Rep K G Z d v) : ∀ {ks : List Key} {ds : List D} {vs : List V}, RepL K G Z ds vs → RepL K G Z (S.repl k d ks ds) (S.repl k v ks vs)
  | [], ds, vs, r => by cases ds <;> cases vs <;> exact rfl
  | _ :: _, [], _, r => by cases (show _ = _ from r); exact rfl
  | k' :: r, x :: ds, _, ⟨u, t, e, q, s⟩ => by
    subst e
    unfold S.repl
    refine ⟨_, _, rfl, ?_, RepL.repl p s⟩
    split
    · exact p
    · exact q
theorem RepL.putKd {k : Key} {d : D} {v : V} (p : Rep K G Z d v) {ks : List Key} {ds : List D} {vs : List V} (r : RepL K G Z ds vs) : RepL K G Z (S.putKd k d ks ds) (S.putKd k v ks vs) := by
  unfold S.putKd
  split
  · exact RepL.repl p r
  · exact r.append ⟨v, [], rfl, p, rfl⟩
end
def mDcGo (t : Tg) (vs : List Nat) (mt : MB) (mk mv : M) : List D → Env → Sto → List Key → List D → R (List Key × List D)
  | [], _, st, ks, ds => .ok (ks, ds) st
  | d :: r, env, st, ks, ds => match t.at d (wipeE env vs) st with
    | none => .stuck
    | some env1 => (mt env1 st).only fun b st1 => if b = true then (mk env1 st1).only fun y st2 => (mv env1 st2).only fun z st3 => (match kOf y with
        | some k => if ks.length < sizeLine then mDcGo t vs mt mk mv r env st3 (putKs k ks) (putKd k z ks ds) else .stuck
        | none => .stuck) else mDcGo t vs mt mk mv r env st1 ks ds
def mDc (t : Tg) (vs : List Nat) (mi : MA) (mt : MB) (mk mv : M) : M := fun env st => (mi env st).bind fun ds st1 => (mDcGo t vs mt mk mv ds env st1 [] []).bind fun p st2 => .ok (.dct p.1 p.2) st2
/-- the keys, walked -/
def mItDc (t : Tg) (vs : List Nat) (mi : MA) (mt : MB) (mk mv : M) : MA := fun env st => (mi env st).bind fun ds st1 => (mDcGo t vs mt mk mv ds env st1 [] []).bind fun p st2 => .ok (p.1.map kD) st2
structure DcAt (K : PySem.W.Frag) (G : GA) (Z0 : Gh) (Dd : Addr) (ks : List Key) (ds : List D) (Z : Gh) (st : Sto) (H : Hp) : Prop where
  ex : Z0.ex Z
  rel : RelH K G Z H st
  at_ : ∃ vs, Z.tmp = upd Z0.tmp Dd (.dK (ks.zip vs)) ∧ ks.length = vs.length ∧ RepL K G Z ds vs
section
variable {K : PySem.W.Frag} {G : GA} {W : WX} {X : Cx} {tg iter kx vx : Expr} {ifs : List Expr} {pos : Pos} {t : Tg} {vs : List Nat} {mi : MA} {mt : MB} {mk mv : M} {Z0 Z : Gh} {Dd : Addr} {st : Sto} {H : Hp} {σ : St} {ks : List Key} {ds : List D}
theorem DcAt.le {Z' : Gh} {st' : Sto} {H' : Hp} (L : DcAt K G Z0 Dd ks ds Z st H) (l : Z.le Z') (R : RelH K G Z' H' st') : DcAt K G Z0 Dd ks ds Z' st' H' := by
  obtain ⟨e, _, vs, h1, hn, h2⟩ := L
  exact ⟨e.trans l.ex, R, vs, l.tmp.trans h1, hn, RepL.up l _ _ h2⟩
theorem DcAt.add {k : Key} {z : D} {v : V} (L : DcAt K G Z0 Dd ks ds Z st H) (hz : ks.length < sizeLine) (r : Rep K G Z z v) : ∃ kvs, H Dd = some (.dK kvs) ∧ kvs.length < sizeLine ∧ ∃ Z', DcAt K G Z0 Dd (putKs k ks) (putKd k z ks ds) Z' st (upd H Dd (.dK (putK kvs k v))) := by
  obtain ⟨e, R, vs, h1, hn, h2⟩ := L
  have hp : Z.tmp Dd = some (.dK (ks.zip vs)) := by rw [h1, upd_same]
  have pz := putK_zip (k := k) (v := v) hn
  have ex : Z.ex ⟨Z.fz, Z.rho, upd Z.tmp Dd (.dK (putK (ks.zip vs) k v))⟩ := ⟨Same.refl _, ⟨[], by simp⟩⟩
  refine ⟨_, R.tmp _ _ hp, by rw [List.length_zip, ← hn, Nat.min_self]; exact hz, ⟨Z.fz, Z.rho, upd Z.tmp Dd (.dK (putK (ks.zip vs) k v))⟩, ⟨e.trans ex, R.setTmp hp, _, ?_, pz.2, ?_⟩⟩
  · show upd Z.tmp Dd _ = upd Z0.tmp Dd _
    rw [h1, upd_upd, pz.1]
  · exact RepL.putKd (Rep.ux ex _ _ r) (RepL.ux ex _ _ h2)
theorem DcAt.start (R : RelH K G Z0 H st) (hn : H Dd = none) : ∃ Z, DcAt K G Z0 Dd [] [] Z st (upd H Dd (.dK [])) :=
  ⟨⟨Z0.fz, Z0.rho, upd Z0.tmp Dd (.dK [])⟩, ⟨⟨Same.refl _, ⟨[], by simp⟩⟩, R.addTmp hn, [], rfl, rfl, rfl⟩⟩
theorem dc_run {H : Hp} {env : Env} {st : Sto} {ds : List D} {J : It} {γ δ : Type} {P' : Gh → γ → δ → Prop} {E : XK} {Q : δ → Hp → Prop} {Qd : Hp → Prop} {f : List Key × List D → Sto → R γ} (R : RelH K G Z H st) (S : RepE K G Z env σ) (w : rI K G Z ds J) (hsl : ∀ i ∈ t.slots, i ∈ vs) (hD : H Dd = none)
    (hf : ∀ ks ds Z1 st1 H1, DcAt K G Z Dd ks ds Z1 st1 H1 → Post K G P' E Z (f (ks, ds) st1) Q → Qd H1)
    (h : Post K G P' E Z ((mDcGo t vs mt mk mv ds env st [] []).bind f) Q) :
    ∃ W' : Nat → Nat → Hp → Prop, (∃ m, W' 0 m (upd H Dd (.dK []))) ∧ ∀ i m H, W' i m H →
      (J.stop i H ∧ Qd H) ∨ (J.go i H ∧ ∃ Nx : Hp → Prop, (∀ H', Nx H' → ∃ m', m' < m ∧ W' (i + 1) m' H') ∧ ∀ x H', J.yld i H x H' → gOf K t x (wipe σ vs) H' fun σ2 H2 => wipe σ2 vs = wipe σ vs ∧ tSB K G W0 mt σ2 H2 fun b H3 =>
        if b = true then tS K G W0 mk σ2 H3 fun y H4 => tS K G W0 mv σ2 H4 fun z H5 => ∃ kvs k, y = kV k ∧ H5 Dd = some (.dK kvs) ∧ kvs.length < sizeLine ∧ Nx (upd H5 Dd (.dK (putK kvs k z))) else Nx H3) := by
  obtain ⟨Gd, Y, wk, hG, hY⟩ := w
  obtain ⟨Z1, L0⟩ := DcAt.start (Dd := Dd) R hD
  let Pv : Nat → Hp → Prop := fun i H => ∃ Z1 st1 ks1 ds1, DcAt K G Z Dd ks1 ds1 Z1 st1 H ∧ Post K G P' E Z ((mDcGo t vs mt mk mv (ds.drop i) env st1 ks1 ds1).bind f) Q
  refine ⟨fun i m H => m = ds.length - i ∧ i ≤ ds.length ∧ Pv i H, ⟨ds.length, by simp, Nat.zero_le _, Z1, st, [], [], L0, h⟩, ?_⟩
  rintro i m H ⟨rfl, hi, Z1, st1, ks1, ds1, L, F⟩
  have g1 := hG Z1 H _ L.ex L.rel
  rcases Nat.lt_or_ge i ds.length with hlt | hge
  · refine .inr ⟨wk.goes i H hlt g1, Pv (i + 1), fun H' p' => ⟨ds.length - (i + 1), by omega, rfl, hlt, p'⟩, fun x H' y => ?_⟩
    obtain ⟨Z2, d, l2, R2, hd, rd⟩ := hY i x H H' Z1 st1 L.ex L.rel hlt (wk.yields i H x H' hlt g1 y)
    have L2 := L.le l2 R2
    rw [drop_cons hlt hd] at F
    unfold mDcGo at F
    cases e1 : t.at d (wipeE env vs) st1 with
    | none => rw [e1] at F; exact F.elim
    | some env2 =>
      rw [e1] at F
      refine Tg.run R2 t d x (wipeE env vs) env2 (wipe σ vs) _ ((RepE.ux L2.ex _ _ S).wipe vs) rd e1 fun σ2 S2 off => ⟨(Off.trans (off.sub hsl) (off_wipe vs σ)).wipe, ?_⟩
      refine ⟨Z2, env2, st1, R2, S2, ?_⟩
      dsimp only at F
      cases e2 : mt env2 st1 with
      | ok b st2 =>
        rw [e2] at F
        intro Z3 b' H3 l3 R3 eb
        cases (show b = b' from eb)
        cases b with
        | false => exact iteF ⟨Z3, st2, ks1, ds1, L2.le l3 R3, F⟩
        | true =>
          refine iteT ⟨Z3, env2, st2, R3, S2.up l3, ?_⟩
          replace F : Post K G P' E Z (((mk env2 st2).only fun y st2 => (mv env2 st2).only fun z st3 => (match kOf y with
            | some k => if ks1.length < sizeLine then mDcGo t vs mt mk mv (ds.drop (i + 1)) env st3 (putKs k ks1) (putKd k z ks1 ds1) else .stuck
            | none => .stuck)).bind f) Q := F
          cases e3 : mk env2 st2 with
          | ok y' st3 =>
            rw [e3] at F
            replace F : Post K G P' E Z (((mv env2 st3).only fun z st3 => (match kOf y' with
              | some k => if ks1.length < sizeLine then mDcGo t vs mt mk mv (ds.drop (i + 1)) env st3 (putKs k ks1) (putKd k z ks1 ds1) else .stuck
              | none => .stuck)).bind f) Q := F
            intro Z4 yv H4 l4 R4 ry
            refine ⟨Z4, env2, st3, R4, S2.up (l3.trans l4), ?_⟩
            cases e4 : mv env2 st3 with
            | ok z' st4 =>
              rw [e4] at F
              replace F : Post K G P' E Z ((match kOf y' with
                | some k => if ks1.length < sizeLine then mDcGo t vs mt mk mv (ds.drop (i + 1)) env st4 (putKs k ks1) (putKd k z' ks1 ds1) else .stuck
                | none => .stuck).bind f) Q := F
              intro Z5 zv H5 l5 R5 rz
              cases e5 : kOf y' with
              | none => rw [e5] at F; exact F.elim
              | some k =>
                rw [e5] at F
                dsimp only at F
                split at F
                · rename_i hz
                  obtain ⟨kvs, hk, hl, Z6, L6⟩ := (((L2.le l3 R3).le l4 R4).le l5 R5).add (k := k) hz rz
                  exact ⟨kvs, k, kOf_rep e5 ry, hk, hl, Z6, st4, _, _, L6, F⟩
                · exact F.elim
            | exc c ns ds' st4 => rw [e4] at F; exact F.elim
            | stuck => rw [e4] at F; exact F.elim
          | exc c ns ds' st3 => rw [e3] at F; exact F.elim
          | stuck => rw [e3] at F; exact F.elim
      | exc c ns ds' st2 => rw [e2] at F; exact F.elim
      | stuck => rw [e2] at F; exact F.elim
  · obtain rfl : i = ds.length := by omega
    rw [List.drop_length] at F
    exact .inl ⟨wk.stops H g1, hf ks1 ds1 Z1 st1 H L F⟩
variable {scope : Scope} {own : List (Str × Nat)}
theorem pS_dc (hc : X.calm = true) (hN : X.N.Nodup) (hi : PI X tg iter (tSI X.K G W mi)) (ok : BlkOk X.N X.env.scope scope own)
    (hg : ∀ (s : Shared) (H : Hp) (C : Addr) (cl : List (Str × Addr)) (fp : List Addr), PG (X.blk s H scope (compEnvC scope cl C X.env) fp) tg (gOf X.K t))
    (ht : ∀ (s : Shared) (H : Hp) (C : Addr) (cl : List (Str × Addr)) (fp : List Addr), PTs (X.blk s H scope (compEnvC scope cl C X.env) fp) ifs (tSB X.K G W0 mt))
    (hk : ∀ (s : Shared) (H : Hp) (C : Addr) (cl : List (Str × Addr)) (fp : List Addr), PE (X.blk s H scope (compEnvC scope cl C X.env) fp) kx (tS X.K G W0 mk))
    (hv : ∀ (s : Shared) (H : Hp) (C : Addr) (cl : List (Str × Addr)) (fp : List Addr), PE (X.blk s H scope (compEnvC scope cl C X.env) fp) vx (tS X.K G W0 mv))
    (hvs : own.map (·.2) = vs := by rfl) (hsl : ∀ i ∈ t.slots, i ∈ vs := by decide) (hf : ∀ x : Value, foldedSetIterable iter X.env x = pure x := by intro _; rfl) :
    PE X (.DictComp kx vx [⟨tg, iter, ifs, 0⟩] scope pos) (tS X.K G W (mDc t vs mi mt mk mv)) := by
  subst hvs
  exact pe_of (pe_dc hc hN hi ok hg ht hk hv hf) fun σ H Q h => rs_bind (f := fun ds env st1 => (mDcGo t (own.map (·.2)) mt mk mv ds env st1 [] []).bind fun p st2 => .ok (D.dct p.1 p.2) st2) h fun ds J H1 Z env st R S w q => fun Dd hD =>
    dc_run R S w hsl hD (fun ks ds Z1 st1 H1 L h => by
      obtain ⟨e, R1, vs, h1, hn, h2⟩ := L
      obtain ⟨R', ex⟩ := R1.tmpFz h1 (R.tmp.free hD)
      have e2 := e.trans ex
      exact h _ _ _ ⟨e2.fz, e2.rho, rfl⟩ R' ⟨Dd, vs, rfl, .inl upd_same, hn, RepL.ux ex _ _ h2⟩) q
/-- evaluated, then locked for good -/
theorem pe_locked {e : Expr} {t : TE} (h : PE X e t) : PE X e (fun σ H Q => t σ H fun x H1 => ∃ d kvs, x = .ref d ∧ H1 d = some (.dK kvs) ∧ ∀ od, Q x (upd H1 d (.frz od (.dK kvs)))) := by
  refine ⟨fun pins s σ H Q I q => thn (h.run pins s σ H _ I q) fun u s1 ⟨x, H1, I1, rx, d, kvs, ex, hd, k⟩ => ?_⟩
  obtain ⟨od, I2⟩ := I1.lock hd trivial
  exact ⟨x, _, I2, rx, k od⟩
theorem walkK {Z : Gh} {d : Addr} {o : Obj} {ks : List Key} {us : List V} (hl : ks.length = us.length) (hd : Z.fz d = some (.frz o (.dK (ks.zip us)))) : rI K G Z (ks.map kD) (Itk d o (ks.zip us)) := by
  have hn : (ks.map kD).length = (ks.zip us).length := by rw [List.length_map, List.length_zip, ← hl, Nat.min_self]
  refine ⟨_, _, hn ▸ walk_keys, fun Z' H st l R => R.fz _ _ (l.fz _ _ hd), fun i x H H' Z' st l R hi y => ?_⟩
  obtain ⟨rfl, k, v, e, rfl⟩ := y
  refine ⟨Z', kD k, Gh.le.refl _, R, ?_, rep_kD k⟩
  rw [List.getElem?_zip_eq_some] at e
  rw [List.getElem?_map, e.1]
  rfl
theorem pI_dc (hc : X.calm = true) (hN : X.N.Nodup) {tg0 : Expr} (hi : PI X tg iter (tSI X.K G W mi)) (ok : BlkOk X.N X.env.scope scope own)
    (hg : ∀ (s : Shared) (H : Hp) (C : Addr) (cl : List (Str × Addr)) (fp : List Addr), PG (X.blk s H scope (compEnvC scope cl C X.env) fp) tg (gOf X.K t))
    (ht : ∀ (s : Shared) (H : Hp) (C : Addr) (cl : List (Str × Addr)) (fp : List Addr), PTs (X.blk s H scope (compEnvC scope cl C X.env) fp) ifs (tSB X.K G W0 mt))
    (hk : ∀ (s : Shared) (H : Hp) (C : Addr) (cl : List (Str × Addr)) (fp : List Addr), PE (X.blk s H scope (compEnvC scope cl C X.env) fp) kx (tS X.K G W0 mk))
    (hv : ∀ (s : Shared) (H : Hp) (C : Addr) (cl : List (Str × Addr)) (fp : List Addr), PE (X.blk s H scope (compEnvC scope cl C X.env) fp) vx (tS X.K G W0 mv))
    (hvs : own.map (·.2) = vs := by rfl) (hsl : ∀ i ∈ t.slots, i ∈ vs := by decide) (hf : ∀ x : Value, foldedSetIterable iter X.env x = pure x := by intro _; rfl) :
    PI X tg0 (.DictComp kx vx [⟨tg, iter, ifs, 0⟩] scope pos) (tSI X.K G W (mItDc t vs mi mt mk mv)) := by
  subst hvs
  refine pi_of (pi_keys (pe_locked (pe_dc hc hN hi ok hg ht hk hv hf))) fun σ H Q h => rs_bind (f := fun ds env st1 => (mDcGo t (own.map (·.2)) mt mk mv ds env st1 [] []).bind fun p st2 => .ok (p.1.map kD) st2) h fun ds J H1 Z env st R S w q => fun Dd hD => ?_
  refine dc_run (P' := rI X.K G) R S w hsl hD (fun ks ds Z1 st1 H1 L h => ?_) q
  obtain ⟨e, R1, vs, h1, hn, h2⟩ := L
  have hp : Z1.tmp Dd = some (.dK (ks.zip vs)) := by rw [h1, upd_same]
  refine ⟨Dd, ks.zip vs, rfl, R1.tmp _ _ hp, fun od => ⟨Dd, od, rfl, .inl ⟨ks.zip vs, upd_same, ?_⟩⟩⟩
  have R2 := R1.setTmp (o' := .frz od (.dK (ks.zip vs))) hp
  obtain ⟨R', ex⟩ := R2.tmpFz (t := Z.tmp) (p := Dd) (o := .frz od (.dK (ks.zip vs))) (by show upd Z1.tmp Dd _ = _; rw [h1, upd_upd]) (R.tmp.free hD)
  have e2 : Z.ex _ := (e.trans (⟨Same.refl _, ⟨[], by simp⟩⟩ : Z1.ex ⟨Z1.fz, Z1.rho, upd Z1.tmp Dd (.frz od (.dK (ks.zip vs)))⟩)).trans ex
  exact h _ _ _ ⟨e2.fz, e2.rho, rfl⟩ R' (walkK hn upd_same)
end
end S
/-! sorts of things: isinstance, own ==, own str -/
namespace S
open PySem L2
inductive Ty where
  | non | bl | int | str | lst | tup | dct | cls (c : Nat) | bad
  deriving DecidableEq
def tyD : D → Ty
  | .non => .non
  | .bl _ => .bl
  | .int _ => .int
  | .str _ => .str
  | .lst _ => .lst
  | .rls _ => .lst
  | .tup _ => .tup
  | .dct _ _ => .dct
  | .ins c _ _ => .cls c
  | .ptr _ => .bad
  | .cls _ => .bad
  | .dkd _ _ => .bad
  | .ptp _ => .bad
  | .fn _ => .bad
def tyW (G : GA) : Ty → Value
  | .non => .type "NoneType"
  | .bl => .type "bool"
  | .int => .type "int"
  | .str => .type "str"
  | .lst => .type "list"
  | .tup => .type "tuple"
  | .dct => .type "dict"
  | .cls c => .ref (G c)
  | .bad => .none
/-- what is known of the own classes -/
def TyOk (K : PySem.W.Frag) (G : GA) : Ty → Prop
  | .cls c => ClsT K (G c)
  | .bad => False
  | .dct => False
  | _ => True
section
variable {K : PySem.W.Frag} {G : GA} {Z : Gh} {H : Hp} {st : Sto} {d : D} {v : V}
theorem RelH.tyx (R : RelH K G Z H st) (r : Rep K G Z d v) (ok : TyOk K G (tyD (rd st d))) : TyX K H v (tyW G (tyD (rd st d))) := by
  cases e : rd st d with
  | non => cases RelH.non r e; exact .base .non
  | bl b => cases RelH.bl r e; exact .base (.bl _)
  | int b => cases RelH.int r e; exact .base (.int _)
  | str b => cases RelH.str r e; exact .base (.str _)
  | lst xs => obtain ⟨p, vs, rfl, h, _⟩ := R.lst r e; exact .base (.lst h)
  | rls xs =>
    obtain ⟨p, vs, rfl, h, _⟩ := R.rls r e
    rcases h with (h | ⟨o, h⟩) | ⟨o, its, n, h1, h2, h3, h4⟩
    · exact .base (.lst h)
    · exact .base (.frz h)
    · exact .kList h1 h2
  | tup xs =>
    obtain ⟨p, vs, rfl, h, _⟩ := R.tup r e
    rcases h with (h | ⟨o, h⟩) | ⟨o, its, n, h1, h2, h3⟩
    · exact .base (.tup h)
    · exact .fTuple h
    · exact .kTuple h1 h2
  | dct ks xs =>
    rw [e] at ok
    exact False.elim ok
  | ins c ns xs =>
    rw [e] at ok
    obtain ⟨p, dx, vs, rfl, h, _⟩ := R.ins r e
    exact ClsT.ty ok h
  | ptr i => rw [e] at ok; exact ok.elim
  | cls c => rw [e] at ok; exact ok.elim
  | dkd ks ds => rw [e] at ok; exact ok.elim
  | ptp xs => rw [e] at ok; exact ok.elim
  | fn a => rw [e] at ok; exact ok.elim
end
/-- isinstance(x, ..) by a table -/
def dIsi (ki : Ty → Option Bool) (a : D) (st : Sto) : R D := match ki (tyD (rd st a)) with
  | some b => .ok (.bl b) st
  | none => .stuck
def mIsi (ki : Ty → Option Bool) (m : M) : M := fun env st => (m env st).bind fun a st1 => dIsi ki a st1
section
variable {G : GA} {W : WX} {X : Cx} {e : Expr} {m : M} {p pos : Pos} {ki : Ty → Option Bool}
theorem pS_isi {ce : Expr} {cl : V} {u : Value} (hc : PE X ce (tC cl)) (hcl : ClsV cl u) (hk : ∀ t b, ki t = some b → TyOk X.K G t ∧ PySem.W.kitOne X.K (tyW G t) u = some b) (hg : Gl X "isinstance") (hm : X.mg "isinstance" = none) (h : PE X e (tS X.K G W m))
    (he : starEach [e, ce] X.env = (false, eval e X.env) :: starEach [ce] X.env := by rfl) (he1 : starEach [ce] X.env = [(false, eval ce X.env)] := by rfl) (hpl : (backTo pos (starEach [ce] X.env)).any (·.1) = false := by rfl) :
    PE X (.Call (.Name "isinstance" p) [e, ce] [] pos) (tS X.K G W (mIsi ki m)) :=
  pe_of (pe_callB call_isi hg hm (by decide +kernel) (pa_cons h (pa_cons hc pa_nil he1) he) (by decide) (by decide) he hpl) fun σ H Q h => rs_bind (f := fun a _ st1 => dIsi ki a st1) h fun a x H1 Z env st R S r q => by
    unfold dIsi at q
    split at q
    · rename_i b e1
      obtain ⟨ok, k1⟩ := hk _ b e1
      exact ⟨x, cl, _, u, b, rfl, hcl, R.tyx r ok, k1, Post.now (P := rD X.K G) q R rfl⟩
    · exact q.elim
/-- isinstance(x, (T1, T2)) -/
theorem pS_isiT {ces : List Expr} {cls : List V} {us : List Value} {k : Nat} {tpos : Pos} {tc : TA} (hc : PA X ces tc) (htc : ∀ σ H Q, Q cls H → tc σ H Q) (hcl : Paired ClsV cls us) (hl : cls.length ≤ sizeLine) (hk : ∀ t b, ki t = some b → TyOk X.K G t ∧ PySem.W.kitAny X.K (tyW G t) us = some b) (hg : Gl X "isinstance") (hm : X.mg "isinstance" = none) (h : PE X e (tS X.K G W m))
    (he : starEach [e, .Tuple ces k tpos] X.env = (false, eval e X.env) :: starEach [.Tuple ces k tpos] X.env := by rfl) (he1 : starEach [.Tuple ces k tpos] X.env = [(false, eval (.Tuple ces k tpos) X.env)] := by rfl) (hpl : (backTo pos (starEach [.Tuple ces k tpos] X.env)).any (·.1) = false := by rfl) :
    PE X (.Call (.Name "isinstance" p) [e, .Tuple ces k tpos] [] pos) (tS X.K G W (mIsi ki m)) :=
  pe_of (pe_callB call_isiT hg hm (by decide +kernel) (pa_cons h (pa_cons (pe_tup hc) pa_nil he1) he) (by decide) (by decide) he hpl) fun σ H Q h => rs_bind (f := fun a _ st1 => dIsi ki a st1) h fun a x H1 Z env st R S r q => by
    unfold dIsi at q
    split at q
    · rename_i b e1
      obtain ⟨ok, k1⟩ := hk _ b e1
      refine htc σ H1 _ ⟨hl, fun tp htp => ?_⟩
      obtain ⟨l, R'⟩ := R.lay (o := .tup cls) htp
      exact ⟨x, tp, cls, _, us, b, rfl, upd_same, hcl, R'.tyx (Rep.up l _ _ r) ok, k1, Post.now (P := rD X.K G) (Post.up l q) R' rfl⟩
    · exact q.elim
end
/-! ### own == -/
def Ad2E (K : PySem.W.Frag) (G : GA) (E : XK) (f : D → D → Sto → R D) (r : R2) : Prop := ∀ (Z : Gh) (H : Hp) (st : Sto) (a b : D) (x y : V) (Q : VK), RelH K G Z H st → Rep K G Z a x → Rep K G Z b y → Post K G (rD K G) E Z (f a b st) Q → r x y H Q
theorem Ad2.e {K : PySem.W.Frag} {G : GA} {E : XK} {f : D → D → Sto → R D} {r : R2} (h : Ad2 K G f r) : Ad2E K G E f r := fun Z H st a b x y Q => h E Z H st a b x y Q
/-- a group of classes that compare by the same def; f for all else -/
def dOwnEq (cs : List Nat) (nf : Nat → Ty → Bool) (F : List D → Sto → R D) (f : D → D → Sto → R D) (a b : D) (st : Sto) : R D := match rd st a with
  | .ins c _ _ => if cs.contains c = true then (if nf c (tyD (rd st b)) = true then F [a, b] st else .stuck) else f a b st
  | _ => f a b st
def notD (r : R D) : R D := r.bind fun d st => match d with
  | .bl b => .ok (.bl (!b)) st
  | _ => .stuck
def dOwnNe (cs : List Nat) (nf : Nat → Ty → Bool) (F : List D → Sto → R D) (f : D → D → Sto → R D) (a b : D) (st : Sto) : R D := match rd st a with
  | .ins c _ _ => if cs.contains c = true then (if nf c (tyD (rd st b)) = true then notD (F [a, b] st) else .stuck) else f a b st
  | _ => f a b st
section
variable {K : PySem.W.Frag} {G : GA} {E : XK} {X : Cx} {cs : List Nat} {nf : Nat → Ty → Bool} {F : List D → Sto → R D} {f : D → D → Sto → R D} {g : Addr} {r : R2}
theorem ad_ownEq (hc : ∀ c, cs.contains c = true → EqC K (G c) g) (hn : ∀ c t, nf c t = true → TyOk K G t ∧ PySem.W.notFirst K (G c) (tyW G t) = true) (hf : Ad2E K G E f r) : Ad2E K G E (dOwnEq cs nf F f) (fun x y H Q => r x y H Q ∨ rOwnEq K g (spS K G 2 F) E x y H Q) := by
  intro Z H st a b x y Q R p q h
  unfold dOwnEq at h
  split at h
  · rename_i c ns ds e1
    split at h
    · rename_i hcc
      split at h
      · rename_i hnn
        obtain ⟨l, dx, vs, rfl, h1, hl, rl⟩ := R.ins p e1
        exact .inr ⟨l, _, dx, _, _, rfl, h1, hc c hcc, R.tyx q (hn _ _ hnn).1, (hn _ _ hnn).2, rfl, Z, [a, b], st, R, ⟨_, _, rfl, p, _, _, rfl, q, rfl⟩, h⟩
      · exact h.elim
    · exact .inl (hf Z H st a b x y Q R p q h)
  · exact .inl (hf Z H st a b x y Q R p q h)
theorem ad_ownNe (hc : ∀ c, cs.contains c = true → EqC K (G c) g) (hn : ∀ c t, nf c t = true → TyOk K G t ∧ PySem.W.notFirst K (G c) (tyW G t) = true) (hf : Ad2E K G E f r) : Ad2E K G E (dOwnNe cs nf F f) (fun x y H Q => r x y H Q ∨ rOwnNe K g (spS K G 2 F) E x y H Q) := by
  intro Z H st a b x y Q R p q h
  unfold dOwnNe at h
  split at h
  · rename_i c ns ds e1
    split at h
    · rename_i hcc
      split at h
      · rename_i hnn
        obtain ⟨l, dx, vs, rfl, h1, hl, rl⟩ := R.ins p e1
        refine .inr ⟨l, _, dx, _, _, rfl, h1, hc c hcc, R.tyx q (hn _ _ hnn).1, (hn _ _ hnn).2, rfl, Z, [a, b], st, R, ⟨_, _, rfl, p, _, _, rfl, q, rfl⟩, h.bind fun d st' Z' z H' l' R' p' q' => ?_⟩
        cases d with
        | bl b => exact ⟨b, p', Post.now (P := rD K G) q' R' rfl⟩
        | _ => exact q'.elim
      · exact h.elim
    · exact .inl (hf Z H st a b x y Q R p q h)
  · exact .inl (hf Z H st a b x y Q R p q h)
variable {a b : Expr} {m n : M} {pos : Pos} {σ : St} {H : Hp}
theorem rs_binE {Q : VK} (hf : Ad2E K G E f r) (h : tS K G (wE E) (mBin f m n) σ H Q) : tOp r (tS K G (wE E) m) (tS K G (wE E) n) σ H Q := by
  refine rs_bind (f := fun a env st1 => (n env st1).bind fun b st2 => f a b st2) h fun a x H1 Z env st R S p q => ?_
  exact ⟨Z, env, st, R, S, q.bind fun b st' Z' y H' l R' p' q' => hf Z' H' st' a b x y Q R' (Rep.up l a x p) p' q'⟩
theorem pS_cmpE {op : CmpOp} (ho : OpR X (compareOp op) r) (hf : Ad2E X.K G E f r) (ha : PE X a (tS X.K G (wE E) m)) (hb : PE X b (tS X.K G (wE E) n)) (hm : behindInMarks op b = false) : PE X (.Compare a [op] [b] pos) (tS X.K G (wE E) (mBin f m n)) :=
  pe_of (pe_cmpR ho ha hb hm) fun _ _ _ => rs_binE hf
theorem pS_cmpTE {op : CmpOp} (ho : OpR X (compareOp op) r) (hf : Ad2E X.K G E f r) (ha : PE X a (tS X.K G (wE E) m)) (hb : PE X b (tS X.K G (wE E) n)) (hm : behindInMarks op b = false) : PT X (.Compare a [op] [b] pos) (tSB X.K G (wE E) (mTest (mBin f m n))) :=
  pt_of (pt_cmpR ho ha hb hm) fun σ H Q h => rs_binE hf (rs_test h)
/-! ### str(o) by the own __str__ -/
def dStrX (cs : List Nat) (F : List D → Sto → R D) (f : List D → Sto → R D) (as : List D) (st : Sto) : R D := match as with
  | [a] => (match rd st a with
    | .ins c _ _ => if cs.contains c = true then (F [a] st).bind fun d st1 => (if isS d then .ok d st1 else .stuck) else f as st
    | _ => f as st)
  | _ => f as st
def AdLE (K : PySem.W.Frag) (G : GA) (E : XK) (f : List D → Sto → R D) (r : List V → Hp → VK → Prop) : Prop := ∀ (Z : Gh) (H : Hp) (st : Sto) (as : List D) (xs : List V) (Q : VK), RelH K G Z H st → RepL K G Z as xs → Post K G (rD K G) E Z (f as st) Q → r xs H Q
theorem AdL.e {f : List D → Sto → R D} {r : List V → Hp → VK → Prop} (h : AdL K G f r) : AdLE K G E f r := fun Z H st as xs Q => h E Z H st as xs Q
theorem ad_strX {f : List D → Sto → R D} {r : List V → Hp → VK → Prop} (hc : ∀ c, cs.contains c = true → PySem.W.findIn K (.ref (G c)) "__str__" = some (some (.ref g))) (hf : AdLE K G E f r) : AdLE K G E (dStrX cs F f) (fun xs H Q => r xs H Q ∨ rStrOwn K g (spS K G 1 F) E xs H Q) := by
  intro Z H st as xs Q R p h
  unfold dStrX at h
  split at h
  · rename_i a
    split at h
    · rename_i c ns ds e1
      split at h
      · rename_i hcc
        obtain ⟨x, rfl, pa⟩ := RepL.one p
        obtain ⟨l, dx, vs, rfl, h1, hl, rl⟩ := R.ins pa e1
        refine .inr ⟨l, _, dx, _, rfl, h1, hc c hcc, rfl, Z, [a], st, R, ⟨_, _, rfl, pa, rfl⟩, h.bind fun d st' Z' z H' l' R' p' q' => ?_⟩
        cases d with
        | str t => exact ⟨t, p', Post.now (P := rD K G) q' R' p'⟩
        | _ => exact q'.elim
      · exact .inl (hf Z H st _ xs Q R p h)
    · exact .inl (hf Z H st _ xs Q R p h)
  · exact .inl (hf Z H st _ xs Q R p h)
theorem pS_callTyE {T : String} {x : Str} {p : Pos} {e : Expr} {es : List Expr} {f : List D → Sto → R D} {r : List V → Hp → VK → Prop} {m : MA} (hc : CallR X (.type T) r) (hf : AdLE X.K G E f r) (hg : Gl X x) (hm : X.mg x = none) (hv : bootBuiltins x = some (.type T)) (ha : PA X (e :: es) (tSA X.K G (wE E) m)) (hn : x ≠ "__name__" := by decide) (hdb : (x == ("__debug__" : Str)) = false := by decide)
    (he : starEach (e :: es) X.env = (false, eval e X.env) :: starEach es X.env := by rfl) (hpl : (backTo pos (starEach es X.env)).any (·.1) = false := by rfl) : PE X (.Call (.Name x p) (e :: es) [] pos) (tS X.K G (wE E) (mApp f m)) :=
  pe_of (pe_callTy hc hg hm hv ha hn hdb he hpl) fun σ H Q h => rs_bind (f := fun as _ st1 => f as st1) h fun as xs H1 Z env st R S p q => hf Z H1 st as xs Q R p q
end
/-! ### bodies that say super() -/
section
variable {K : PySem.W.Frag} {G : GA} {W : WX} {X : Cx} {st : Stmt} {rest : List Stmt} {c : Code}
theorem psa_ofS {t t' : TS} (h : PSA X c st t) (k : ∀ Dn σ H, t' Dn σ H → t Dn σ H) : PSA X c st t' := ⟨fun pins s σ H Dn I q => h.run pins s σ H Dn I (k Dn σ H q)⟩
theorem pssa_ofS {t t' : TS} (h : PSsA X c rest t) (k : ∀ Dn σ H, t' Dn σ H → t Dn σ H) : PSsA X c rest t' := ⟨fun pins s σ H Dn I q => h.run pins s σ H Dn I (k Dn σ H q)⟩
theorem pSA_st {a : MS} (h : PS X st (tSS K G W a)) : PSA X c st (tSS K G W a) := psa_of h
theorem pSsA_cons {a b : MS} (h : PSA X c st (tSS K G W a)) (h' : PSsA X c rest (tSS K G W b)) : PSsA X c (st :: rest) (tSS K G W (mSeq a b)) := pssa_ofS (pssa_cons h h') fun _ _ _ => rs_seq
theorem pSsA_one {a : MS} (h : PSA X c st (tSS K G W a)) : PSsA X c [st] (tSS K G W a) := pssa_one h
end
/-- super().m(e, ..), self in slot i -/
def mSup (cs : List Nat) (i n : Nat) (F : List D → Sto → R D) (m : MA) : MS := mDo fun env st => match env[i]? with
  | some (some o) => (match rd st o with
    | .ins c _ _ => if cs.contains c = true then (m env st).bind fun ds st1 => (if (o :: ds).length = n then F (o :: ds) st1 else .stuck) else .stuck
    | _ => .stuck)
  | _ => .stuck
section
variable {G : GA} {X : Cx} {Dd g : Addr} {y nm : Str} {k n : Nat} {fd : FuncData} {ps : List Str} {F : List D → Sto → R D} {E : XK} {e : Expr} {es : List Expr} {m : MA} {p0 p1 p2 pos pos' : Pos} {i : Nat} {pl : Sem Bool} {body : List Stmt} {cs : List Nat}
theorem pSA_super (Sx : SupX X Dd y) (Fk : FnOk X.prog X.w X.K X.mg X.base (L2.CX X.prog X.w) k g fd ps (spS X.K G n F)) (hM : ∀ c, cs.contains c = true → SupM X.K (G c) Dd nm g) (hr : Room k X.A) (hb : Binds X.K fd ps []) (hx : Passes (L2.CX X.prog X.w) X E) (ha : PA X (e :: es) (tSA X.K G (wE E) m)) (hN : X.N[i]? = some y := by rfl) (hm : (nm == ("__class__" : Str)) = false := by decide)
    (hi : interactive X.env = false := by rfl) (hs : swapsWith (.Call (.Attribute (.Call (.Name "super" p0) [] [] p1) nm p2) (e :: es) [] pos) none pos'.line X.env = pure false := by rfl)
    (hst : starEach (e :: es) X.env = (false, eval e X.env) :: starEach es X.env := by rfl) (hpl : (backTo pos (starEach es X.env)).any (·.1) = false := by rfl)
    (he : eval (.Call (.Attribute (.Call (.Name "super" p0) [] [] p1) nm p2) (e :: es) [] pos) X.env = (do
      let ov ← attributeBase (.Call (.Name "super" p0) [] [] p1) nm X.env (eval (.Call (.Name "super" p0) [] [] p1) X.env)
      standAt p2.atName
      let (f, first) ← holding [ov] (getMethod ov nm pl)
      callWith pos f first (backTo pos (starEach (e :: es) X.env)) []) := by rfl) :
    PSA X (.func body X.env) (.Expr (.Call (.Attribute (.Call (.Name "super" p0) [] [] p1) nm p2) (e :: es) [] pos) pos') (tSS X.K G (wE E) (mSup cs i n F m)) :=
  psa_ofS (psa_super (i := i) Sx Fk hr hb hx ha hN hm hi hs hst hpl he) fun Dn σ H ⟨Z, env, st, R, S, h⟩ => by
    have h' : Post X.K G (rD X.K G) (WE (wE E) σ) Z (match env[i]? with
      | some (some o) => (match rd st o with
        | .ins c _ _ => if cs.contains c = true then (m env st).bind fun ds st1 => (if (o :: ds).length = n then F (o :: ds) st1 else .stuck) else .stuck
        | _ => .stuck)
      | _ => .stuck) fun _ H' => Dn.nx σ H' :=
      post_stm (m := fun env st => match env[i]? with
        | some (some o) => (match rd st o with
          | .ins c _ _ => if cs.contains c = true then (m env st).bind fun ds st1 => (if (o :: ds).length = n then F (o :: ds) st1 else .stuck) else .stuck
          | _ => .stuck)
        | _ => .stuck) (f := fun _ st' => .nx env st') S h fun d st' Z' v H' l R' r q => q Z' σ H' (Gh.le.refl _) R' (S.up l)
    split at h'
    · rename_i o e0
      obtain ⟨v, e1, r⟩ := S.get e0
      split at h'
      · rename_i c ns ds e2
        split at h'
        · rename_i hc
          obtain ⟨l, dx, vs, rfl, h1, hl, rl⟩ := R.ins r e2
          refine ⟨l, _, dx, _, e1, h1, hM c hc, Z, env, st, R, S, h'.bind fun ds st1 Z1 vs H1 l1 R1 p1 q1 => ?_⟩
          split at q1
          · rename_i hn
            have r2 : RepL X.K G Z1 (o :: ds) (.ref l :: vs) := ⟨_, _, rfl, Rep.up l1 _ _ r, p1⟩
            exact ⟨r2.length ▸ hn, Z1, _, st1, R1, r2, q1⟩
          · exact q1.elim
        · exact h'.elim
      · exact h'.elim
    · exact h'.elim
end
section
variable {P : Program} {w : World} {K : PySem.W.Frag} {mg : Str → Option Value} {base : Heap} {G : GA}
theorem fnSS {fz : Bool} {x qual y : Str} {st : Stmt} {f Dd : Addr} {fd : FuncData} {N ps : List Str} {k n : Nat} {ms : MS} {ar : Arg} {cdD : ClassData} (F : Sn P K x qual st ps f fd Dd) (T : SupT P K mg) (S : FnScopeS N ps (defScope st)) (hD : PySem.W.clsIn K Dd = some cdD) (hn : n = ps.length)
    (hp : ((defArgs st).posonlyargs ++ (defArgs st).args).head? = some ar) (hy : ar.arg = y) (hl : (defScope st).names.lookup y = some .local)
    (hb : ∀ (cdv : Value) (cc : Addr) (A : Around) (outer : List PySem.Env) (s : Shared) (H : Hp) (E : XK), Room k (A.deeper (PySem.W.ksEnv qual (defScope st) s.heap.objs.size f cdv cc)) → SupX (cxS (L2.CX P w) P w K mg base N qual (defScope st) f cdv cc A outer s H E) Dd y →
      PSsA (cxS (L2.CX P w) P w K mg base N qual (defScope st) f cdv cc A outer s H E) (.func (defBody st) (PySem.W.ksEnv qual (defScope st) s.heap.objs.size f cdv cc)) (defBody st) (tSS K G (wE E) ms)) :
    FnOk P w K mg base (L2.CX P w) (k + 1) f fd ps (spS K G n (mFun fz N.length ms)) :=
  F.okX T S hD hp hy hl (fun vs H Q E h => by rw [h.1, hn]) fun cdv cc A outer s H vs Q E hr hs h => ⟨_, hb cdv cc A outer s H E hr hs, sp_body h⟩
end
end S
/-! zip of two things, each a list or a tuple -/
namespace S
open PySem L2
/-- a list (true) or a tuple (false) -/
def SqA (b : Bool) (K : PySem.W.Frag) (H : Hp) (a : Addr) (xs : List V) : Prop := match b with
  | true => SqL K H a xs
  | false => SqT K H a xs
def ItA (b : Bool) (h : Heap) (it a : Addr) (i : Nat) : Prop := match b with
  | true => h.IsListIter it a i
  | false => h.IsTupleIter it a i
def itO (b : Bool) (a : Addr) : Obj := match b with
  | true => { cls := .type "list_iterator", data := .fields #[.ref a, .int 0 0] }
  | false => { cls := .type "tuple_iterator", data := .fields #[.ref a, .int 0 0] }
section
variable {prog : Program} {w : World} {A : Around} {b : Bool}
theorem ItA.some_ {h : Heap} {it a : Addr} {i : Nat} (x : ItA b h it a i) : ∃ o, h.get? it = some o ∧ ∀ v, o.data ≠ .cell v := by
  cases b with
  | true => obtain ⟨o, e, _, d⟩ := x; exact ⟨o, e, fun v q => by rw [d] at q; cases q⟩
  | false => obtain ⟨o, e, _, d⟩ := x; exact ⟨o, e, fun v q => by rw [d] at q; cases q⟩
theorem ItA.at_ {h h' : Heap} {it a : Addr} {i : Nat} (x : ItA b h it a i) (k : ∀ o, h.get? it = some o → h'.get? it = some o) : ItA b h' it a i := by
  cases b with
  | true => exact Heap.IsListIter.at x k
  | false => exact Heap.IsTupleIter.at x k
theorem ItA.new {h : Heap} {it a : Addr} (e : h.get? it = some (itO b a)) : ItA b h it a 0 := by
  cases b with
  | true => exact ⟨_, e, rfl, rfl⟩
  | false => exact ⟨_, e, rfl, rfl⟩
variable {X : Cx} {pins : List (Addr × Obj)} {σ : St} {H : Hp} {s : Shared} {a : Addr} {xs ys : List V}
end
end S
namespace S
open PySem L2
section
variable {K : PySem.W.Frag} {G : GA} {W : WX} {X : Cx} {Z : Gh}
theorem SqA.same {b : Bool} {H H' : Hp} {a : Addr} {xs : List V} (e : Same H H') (h : SqA b K H a xs) : SqA b K H' a xs := by
  cases b with
  | true => exact e.seq h
  | false => exact Same.sqt' e h
end
end S
/-! calls by keywords and with defaults -/
namespace S
open PySem L2
def pickA {α : Type} (arr : List Nat) (xs : List α) : List α := arr.filterMap fun i => xs[i]?
theorem pick_vals {vs : List V} {us : List Value} (r : Vals vs us) : ∀ arr : List Nat, Vals (pickA arr vs) (pickA arr us)
  | [] => .nil
  | i :: arr => by
    have ih := pick_vals r arr
    unfold pickA at ih ⊢
    rw [List.filterMap_cons, List.filterMap_cons]
    cases e : vs[i]? with
    | none => rw [r.none_of e]; exact ih
    | some v =>
      obtain ⟨u, e2, rv⟩ := r.get e
      rw [e2]
      exact .cons rv ih
theorem pick_rep {K : PySem.W.Frag} {G : GA} {Z : Gh} {ds : List D} {vs : List V} (r : RepL K G Z ds vs) : ∀ arr : List Nat, RepL K G Z (pickA arr ds) (pickA arr vs)
  | [] => rfl
  | i :: arr => by
    have ih := pick_rep r arr
    unfold pickA at ih ⊢
    rw [List.filterMap_cons, List.filterMap_cons]
    cases e : ds[i]? with
    | none =>
      have e2 : vs[i]? = none := List.getElem?_eq_none_iff.mpr (by rw [← r.length]; exact List.getElem?_eq_none_iff.mp e)
      rw [e2]; exact ih
    | some d =>
      obtain ⟨v, e2, rv⟩ := r.get e
      rw [e2]
      exact ⟨v, _, rfl, rv, ih⟩
/-- how a call binds: n values by place, those named ks, the defaults; arr puts them in the parameters' order -/
def KBa (K : PySem.W.Frag) (fd : FuncData) (ps : List Str) (n : Nat) (ks : List Str) (arr : List Nat) (dvs : List V) : Prop := ∃ its, KBn K fd ps n ks (fun us ws => pickA arr (us ++ (ws ++ its))) (fun vs zs => pickA arr (vs ++ (zs ++ dvs)))
section
variable {K : PySem.W.Frag} {x qual : Str} {params : Arguments} {body : List Stmt} {scope : Scope} {dvs : List V} {f : Addr} {fd : FuncData} {ps : List Str}
theorem kba_of (F : FunD K x qual params body scope dvs [] f fd) {n : Nat} {ks : List Str} {arr : List Nat} (hd : dvs ≠ [])
    (h : ∀ (T : Addr) (kV doc pm : Value) (an : Option Addr) (cdv ct : Value) (us ws its : List Value), us.length = n → ws.length = ks.length → its.length = dvs.length →
      ∃ k, bindArgs (PySem.W.fnOf x qual params body scope (.ref T) kV doc pm an cdv ct) ⟨us, ks.zip ws⟩ = seqItems? (.ref T) >>= k ∧ k (some its.toArray) = pure (ps.zip (pickA arr (us ++ (ws ++ its))))) : KBa K fd ps n ks arr dvs := by
  obtain ⟨oc, od, dV, kV, doc, pm, an, cdv, ct, osl, rfl, lk, hcd, hD, hK⟩ := F.ex
  rcases hD with ⟨e, _⟩ | ⟨_, T, o, its, m, rfl, lT, oT, rT⟩
  · exact absurd e hd
  · refine ⟨its, fun s us ws X l1 l2 => ?_, fun r1 r2 => pick_vals (r1.append (r2.append rT)) arr⟩
    obtain ⟨k, e1, e2⟩ := h T kV doc pm an cdv ct us ws its l1 l2 rT.length.symm
    refine BindsTo.of_looks fun M => ?_
    rw [e1]
    exact looks_items X lT oT (.of_pure e2)
end
/-- arguments by place, then by keywords -/
def mArgs (l1 l2 : Nat) (m n : MA) (dds : List D) : MA := fun env st => (m env st).bind fun ds st1 => (n env st1).bind fun zs st2 => if ds.length = l1 ∧ zs.length = l2 then .ok (ds ++ (zs ++ dds)) st2 else .stuck
def dNewA (c n : Nat) (F : List D → Sto → R D) (arr : List Nat) (ds : List D) (st : Sto) : R D :=
  if (pickA arr (.ptr st.length :: ds)).length = n then (F (pickA arr (.ptr st.length :: ds)) (st ++ [.ins c [] []])).bind fun r st2 => match r with
    | .non => (dFrz (.ptr st.length) st2).bind fun d' st3 => gc st.length d' st3
    | _ => .stuck
  else .stuck
def mMakeA (c n : Nat) (F : List D → Sto → R D) (arr : List Nat) (m : MA) : M := fun env st => (m env st).bind fun ds st1 => pur (dNewA c n F arr) ds st1
section
variable {G : GA} {X : Cx} {k n l1 l2 : Nat} {f : Addr} {fd : FuncData} {ps ks : List Str} {F : List D → Sto → R D} {arr : List Nat} {dds : List D} {dvs : List V} {E : XK} {x : Str} {p pos apos : Pos} {e o : Expr} {es : List Expr} {kws : List Keyword} {m mk : MA} {mo : M} {σ : St} {H : Hp}
theorem rs_args {K : PySem.W.Frag} {W : WX} {γ δ : Type} {P' : Gh → γ → δ → Prop} {l2 : Nat} {f : List D → Env → Sto → R γ} {Q : δ → Hp → Prop} {Q1 : List V → List V → Hp → Prop} (hdv : ∀ Z, RepL K G Z dds dvs) (h : tG K G P' W (fun env st => (mArgs l1 l2 m mk dds env st).bind fun ds st1 => f ds env st1) σ H Q)
    (hk : ∀ vs zs H1 Z env st ds, vs.length = l1 → zs.length = l2 → RelH K G Z H1 st → RepE K G Z env σ → RepL K G Z ds (vs ++ (zs ++ dvs)) → Post K G P' (WE W σ) Z (f ds env st) Q → Q1 vs zs H1) :
    tSA K G W m σ H fun vs H1 => tSA K G W mk σ H1 fun zs H2 => Q1 vs zs H2 := by
  obtain ⟨Z, env, st, R, S, h⟩ := h
  refine ⟨Z, env, st, R, S, ?_⟩
  unfold mArgs at h
  dsimp only at h
  cases e1 : m env st with
  | ok ds st1 =>
    rw [e1] at h
    intro Z1 vs H1 l1' R1 r1
    refine ⟨Z1, env, st1, R1, S.up l1', ?_⟩
    replace h : Post K G P' (WE W σ) Z (((mk env st1).bind fun zs st2 => if ds.length = l1 ∧ zs.length = l2 then .ok (ds ++ (zs ++ dds)) st2 else .stuck).bind fun ds st1 => f ds env st1) Q := h
    cases e2 : mk env st1 with
    | ok zs st2 =>
      rw [e2] at h
      replace h : Post K G P' (WE W σ) Z ((if ds.length = l1 ∧ zs.length = l2 then _root_.S.R.ok (ds ++ (zs ++ dds)) st2 else .stuck).bind fun ds st1 => f ds env st1) Q := h
      split at h
      · rename_i hl
        intro Z2 ws H2 l2' R2 r2
        exact hk vs ws H2 Z2 env st2 _ (by rw [← RepL.length r1]; exact hl.1) (by rw [← RepL.length r2]; exact hl.2) R2 (S.up (l1'.trans l2')) ((RepL.up l2' _ _ r1).append (RepL.append r2 (hdv Z2))) (Post.up (l1'.trans l2') h)
      · exact h.elim
    | exc c ns ds' st2 => rw [e2] at h; exact fun Z2 H2 x l R2 r => h Z2 H2 x (l1'.trans l) R2 r
    | stuck => rw [e2] at h; exact h.elim
  | exc c ns ds' st1 => rw [e1] at h; exact h
  | stuck => rw [e1] at h; exact h.elim
theorem rs_newA {c : Nat} {K : PySem.W.Frag} {Z : Gh} {H : Hp} {st : Sto} {ds : List D} {vs : List V} {Q : VK} (R : RelH K G Z H st) (r : RepL K G Z ds vs) (h : Post K G (rD K G) E Z (dNewA c n F arr ds st) Q) {x dx : Addr} (hx : H x = none) (hdx : H dx = none) (hne : dx ≠ x) :
    spS K G n F (pickA arr (.ref x :: vs)) (upd (upd H dx (.own x)) x (.ins (G c) dx [])) (fun v H2 => v = .non ∧ Q (.ref x) H2) E := by
  unfold dNewA at h
  split at h
  · rename_i hl
    have R1 := R.more (o := .own x) hdx
    have hx1 : upd H dx (.own x) x = none := by rw [upd_ne (Ne.symm hne)]; exact hx
    obtain ⟨l, R2⟩ := R1.add (o := .ins (G c) dx []) (c := .ins c [] []) hx1 fun Z' _ => ⟨dx, [], upd_same, rfl, rfl⟩
    have hat : (Z.rho ++ [x])[st.length]? = some x := by rw [← R.len]; simp
    have r2 : RepL K G ⟨Z.fz, Z.rho ++ [x], Z.tmp⟩ (.ptr st.length :: ds) (.ref x :: vs) := ⟨_, _, rfl, ⟨x, hat, rfl⟩, RepL.up l _ _ r⟩
    have r3 := pick_rep r2 arr
    refine ⟨r3.length ▸ hl, _, _, _, R2, r3, ?_⟩
    cases e1 : F (pickA arr (.ptr st.length :: ds)) (st ++ [.ins c [] []]) with
    | ok d st2 =>
      rw [e1] at h
      intro Z2 v H2 l2 R3 p2
      cases d with
      | non => exact ⟨p2, frz_gc R.len.symm h (l.trans l2) R3 ⟨x, l2.at hat, rfl⟩⟩
      | _ => exact h.elim
    | exc c' ns ds' st2 => rw [e1] at h; exact fun Z2 H2 y l2 R3 r => h Z2 H2 y (l.trans l2) R3 r
    | stuck => rw [e1] at h; exact h.elim
  · exact h.elim
theorem pS_makeA {c : Nat} (Mk' : Mk X.K (G c) f) (Fk : FnOk X.prog X.w X.K X.mg X.base (L2.CX X.prog X.w) k f fd ps (spS X.K G n F)) (hr : Room (k + 1) X.A) (hg : Gl X x) (hm : X.mg x = some (.ref (G c))) (hb : KBa X.K fd ps (l1 + 1) ks arr dvs) (hdv : ∀ Z, RepL X.K G Z dds dvs) (hx : Passes (L2.CX X.prog X.w) X E)
    (ha : PA X (e :: es) (tSA X.K G (wE E) m)) (hkw : PK X kws (tSA X.K G (wE E) mk)) (hall : (backToKw pos (keywordEach kws X.env)).all (·.1.isSome) = true := by rfl) (hks : (backToKw pos (keywordEach kws X.env)).filterMap (·.1) = ks := by rfl) (hdb : (x == ("__debug__" : Str)) = false := by decide)
    (he : starEach (e :: es) X.env = (false, eval e X.env) :: starEach es X.env := by rfl) (hpl : ((backTo pos (starEach (e :: es) X.env)).any (·.1) || (backToKw pos (keywordEach kws X.env)).any (·.1.isNone)) = false := by rfl) (hl2 : ks.length = l2 := by rfl) :
    PE X (.Call (.Name x p) (e :: es) kws pos) (tS X.K G (wE E) (mMakeA c n F arr (mArgs l1 l2 m mk dds))) := by
  subst hl2
  obtain ⟨its, hb⟩ := hb
  refine pe_of (pe_makeK Mk' Fk hr hg hm hb hx ha hkw hall hks hdb he hpl) fun σ H Q h => rs_args (Q1 := fun vs zs H2 => vs.length = l1 ∧ zs.length = ks.length ∧ ∀ x dx, H2 x = none → H2 dx = none → dx ≠ x → spS X.K G n F (pickA arr ((.ref x :: vs) ++ (zs ++ dvs))) (upd (upd H2 dx (.own x)) x (.ins (G c) dx [])) (fun v H3 => v = .non ∧ Q (.ref x) H3) E) (f := fun ds _ st1 => pur (dNewA c n F arr) ds st1) hdv h fun vs zs H1 Z env st ds h1 h2 R S r q => ?_
  obtain ⟨Z', st', R', r', q'⟩ := pur_post R r q
  exact ⟨h1, h2, fun x dx hx hdx hne => rs_newA R' r' q' hx hdx hne⟩
end
section
variable {P : Program} {w : World} {K : PySem.W.Frag} {mg : Str → Option Value} {base : Heap} {G : GA}
theorem fnSD {fz : Bool} {x qual : Str} {params : Arguments} {body : List Stmt} {scope : Scope} {dvs : List V} {f : Addr} {fd : FuncData} {N ps : List Str} {k n : Nat} {ms : MS} (F : FunD K x qual params body scope dvs [] f fd) (S : FnScope N ps scope) (hn : n = ps.length)
    (hb : ∀ (cdv : Value) (A : Around) (outer : List PySem.Env) (s : Shared) (H : Hp) (E : XK), Room k (A.deeper (PyProof.Rows.envOfC qual scope s.heap.objs.size f cdv)) → PSs (cxOf (L2.CX P w) P w K mg base N qual scope f cdv A outer s H E) body (tSS K G (wE E) ms)) :
    FnOk P w K mg base (L2.CX P w) (k + 1) f fd ps (spS K G n (mFun fz N.length ms)) :=
  F.ok S (fun vs H Q E h => by rw [h.1, hn]) fun cdv A outer s H vs Q E hr h => ⟨_, hb cdv A outer s H E hr, sp_body h⟩
end
/-- what is never reached -/
def mNever : MS := fun _ _ => .stuck
theorem pS_never {K : PySem.W.Frag} {G : GA} {W : WX} {X : Cx} {st : Stmt} : PS X st (tSS K G W mNever) := ps_of ps_never fun _ _ _ ⟨_, _, _, _, _, h⟩ => h
end S
/-! what is walked, of whatever sort; the text's facts -/
namespace S
open PySem L2
def mItAny (m : M) : MA := fun env st => (m env st).bind fun d st1 => match d with
  | .str z => .ok (signs z) st1
  | d => match itemsF d with
    | some xs => .ok xs st1
    | none => .stuck
theorem pI_any {G : GA} {W : WX} {X : Cx} {tg e : Expr} {m : M} (h : PE X e (tS X.K G W m)) : PI X tg e (tSI X.K G W (mItAny m)) := by
  refine ⟨fun pins s σ H Rr I q => ?_⟩
  obtain ⟨Z, env, st, R, S, h0⟩ := q
  cases e1 : m env st with
  | ok d st1 =>
    cases d with
    | str z =>
      refine (pI_str h).run pins s σ H Rr I ⟨Z, env, st, R, S, ?_⟩
      unfold mItAny at h0
      unfold mItStr
      rw [e1] at h0 ⊢
      exact h0
    | _ =>
      refine (pI_seq h).run pins s σ H Rr I ⟨Z, env, st, R, S, ?_⟩
      unfold mItAny at h0
      unfold mItSeq
      rw [e1] at h0 ⊢
      exact h0
  | exc c ns ds st1 =>
    refine (pI_seq h).run pins s σ H Rr I ⟨Z, env, st, R, S, ?_⟩
    unfold mItAny at h0
    unfold mItSeq
    rw [e1] at h0 ⊢
    exact h0
  | stuck => unfold mItAny at h0; rw [e1] at h0; exact h0.elim
theorem kitAny2 {K : PySem.W.Frag} {t u v : Value} {a b : Bool} (h : PySem.W.kitOne K t u = some a) (h' : PySem.W.kitOne K t v = some b) : PySem.W.kitAny K t [u, v] = some (a || b) := by
  unfold PySem.W.kitAny
  rw [h]
  cases a with
  | true => rfl
  | false =>
    show PySem.W.kitAny K t [v] = some b
    unfold PySem.W.kitAny
    rw [h']
    cases b <;> rfl
theorem fR {P : Program} {w : World} {K : PySem.W.Frag} {mg : Str → Option Value} {base : Heap} {CX : CXT} {k : Nat} {f : Addr} {fd : FuncData} {ps : List Str} {sp : Sp} (F : FnOk P w K mg base CX k f fd ps sp) (b : Binds K fd ps []) : FnR P w K mg base CX k f sp :=
  (F.raw b .nil).imp fun vs H Q E h => by rw [List.append_nil]; exact h
/-- a def of the module, found by the name g -/
structure Dv (K : PySem.W.Frag) (mg : Str → Option Value) (g x qual : Str) (st : Stmt) (ps : List Str) (dvs : List V) (f : Addr) (fd : FuncData) : Prop where
  F : FunD K x qual (defArgs st) (defBody st) (defScope st) dvs [] f fd
  g : mg g = some (.ref f)
/-- a method -/
structure Mv (K : PySem.W.Frag) (x qual : Str) (st : Stmt) (ps : List Str) (dvs : List V) (f : Addr) (fd : FuncData) : Prop where
  F : FunD K x qual (defArgs st) (defBody st) (defScope st) dvs [] f fd
  fn : PySem.W.isFn K (.ref f) = true
theorem funD_mk {K : PySem.W.Frag} {x qual : Str} {st : Stmt} {f : Addr} {oc : Value} {od an : Option Addr} {osl : Array (Option Value)} {kV doc pm cdv ct : Value} (l : K.lookup f = some ⟨oc, od, .func (PySem.W.fnOf x qual (defArgs st) (defBody st) (defScope st) .none kV doc pm an cdv ct), osl⟩)
    (c : PySem.W.codeIn K cdv qual = true) (k : PySem.W.keepIn K (.ref f) = true) : FunD K x qual (defArgs st) (defBody st) (defScope st) [] [] f (PySem.W.fnOf x qual (defArgs st) (defBody st) (defScope st) .none kV doc pm an cdv ct) := ⟨⟨oc, od, .none, kV, doc, pm, an, cdv, ct, osl, rfl, l, c, .inl ⟨rfl, rfl⟩, .inl rfl⟩, k⟩
theorem funD_mkD {K : PySem.W.Frag} {x qual : Str} {st : Stmt} {f T : Addr} {oc : Value} {od an : Option Addr} {osl : Array (Option Value)} {kV doc pm cdv ct : Value} {o : Obj} {its : List Value} {n : Nat} {dvs : List V} (hd : dvs ≠ []) (l : K.lookup f = some ⟨oc, od, .func (PySem.W.fnOf x qual (defArgs st) (defBody st) (defScope st) (.ref T) kV doc pm an cdv ct), osl⟩)
    (c : PySem.W.codeIn K cdv qual = true) (k : PySem.W.keepIn K (.ref f) = true) (lT : K.lookup T = some o) (oT : o.data = .seq its.toArray n) (rT : Vals dvs its) : FunD K x qual (defArgs st) (defBody st) (defScope st) dvs [] f (PySem.W.fnOf x qual (defArgs st) (defBody st) (defScope st) (.ref T) kV doc pm an cdv ct) := ⟨⟨oc, od, .ref T, kV, doc, pm, an, cdv, ct, osl, rfl, l, c, .inr ⟨hd, T, o, its, n, rfl, lT, oT, rT⟩, .inl rfl⟩, k⟩
end S
/-! the law as a whole -/
namespace S
open PySem L2
def spAll (K : PySem.W.Frag) (n : Nat) (F : List D → Sto → R D) : Sp := fun vs H Q E => ∀ G : GA, (∀ f, G.ok f) → spS K G n F vs H Q E
theorem repInts {K : PySem.W.Frag} {G : GA} {Z : Gh} : ∀ ns : List Int, RepL K G Z (ns.map D.int) (ns.map V.int)
  | [] => rfl
  | n :: r => ⟨_, _, rfl, rfl, repInts r⟩
theorem sp_script {K : PySem.W.Frag} {H : Hp} {a : Addr} {ns : List Int} {F : List D → Sto → R D} {st : Sto} {E : XK} (h : SqL K H a (ns.map V.int)) (hF : F [.rls (ns.map D.int)] [] = .ok (.bl true) st) : spAll K 1 F [.ref a] H (fun v _ => v = .bl true) E := fun G hG => by
  refine ⟨rfl, ⟨H, [], fun _ => none⟩, [.rls (ns.map D.int)], [], ⟨Same.refl _, rfl, fun i c b e _ => by simp at e, fun i c b e _ _ => by simp at e, fun i j c c' b e _ _ _ _ _ => by simp at e, fun b o e => (by cases e), fun b o e => (by cases e), hG _⟩, ⟨_, _, rfl, ⟨a, _, rfl, h, repInts ns⟩, rfl⟩, ?_⟩
  rw [hF]
  exact fun Z' v H' _ _ r => r
end S
/-! dicts by ints and texts -/
namespace S
open PySem L2
def lookK (k : Key) : List Key → List D → Option D
  | j :: ks, d :: ds => if j = k then some d else lookK k ks ds
  | _, _ => none
section
variable {K : PySem.W.Frag} {G : GA} {Z : Gh}
theorem lookK_of {k : Key} : ∀ {ks : List Key} {ds : List D} {vs : List V}, ks.length = vs.length → RepL K G Z ds vs → (∀ d, lookK k ks ds = some d → ∃ v, valV (ks.zip vs) k = some v ∧ Rep K G Z d v) ∧ (lookK k ks ds = none → valV (ks.zip vs) k = none)
  | [], _, _, _, _ => ⟨fun d h => (by unfold lookK at h; cases h), fun _ => rfl⟩
  | _ :: _, [], _, hl, r => by cases (show _ = _ from r); cases hl
  | j :: ks, x :: ds, _, hl, ⟨v, t, e, p, q⟩ => by
    subst e
    have ih := lookK_of (k := k) (ks := ks) (ds := ds) (vs := t) (by simpa using hl) q
    unfold lookK
    rw [List.zip_cons_cons]
    by_cases hj : j = k
    · rw [if_pos hj, valV_pos (show (j, v).1 = k from hj)]
      exact ⟨fun d h => ⟨v, rfl, (Option.some.inj h) ▸ p⟩, fun h => (by cases h)⟩
    · rw [if_neg hj, valV_neg (show ¬ (j, v).1 = k from hj)]
      exact ih
end
def dGetK (a b : D) (st : Sto) : R D := match rd st a with
  | .dct ks ds => (match kOf b with
    | some k => (match lookK k ks ds with | some d => .ok d st | none => .stuck)
    | none => .stuck)
  | _ => .stuck
section
variable {K : PySem.W.Frag} {G : GA} {W : WX} {X : Cx} {o i e : Expr} {m n k : M} {pos pos' : Pos} {σ : St} {H : Hp}
abbrev rGetK : R2 := fun x y H Q => ∃ a v, x = .ref a ∧ DGet H a y (some v) ∧ Q v H
theorem ad_getK : Ad2 K G dGetK rGetK := fun E Z H st a b x y Q R ra rb h => by
  unfold dGetK at h
  split at h
  · rename_i ks ds e1
    split at h
    · rename_i k e2
      split at h
      · rename_i d e3
        obtain ⟨p, vs, rfl, hp, hl, r⟩ := R.dct ra e1
        obtain ⟨v, h1, h2⟩ := (lookK_of hl r).1 d e3
        cases kOf_rep e2 rb
        exact ⟨p, v, rfl, h1 ▸ (Or.inl ⟨_, _, hp, rfl, rfl⟩ : DGet _ _ _ _), Post.now (P := rD K G) h R h2⟩
      · exact h.elim
    · exact h.elim
  · exact h.elim
theorem units1 {n : Nat} {A : Around} (hr : Room n A) : A.units + 1 < cLine := by
  have := hr.units
  omega
theorem pS_getK (hu : X.A.units + 1 < cLine) (ho : PE X o (tS X.K G W m)) (hi : PE X i (tS X.K G W n)) (hs : NoSl i := by intro _ _; rfl) : PE X (.Subscript o i pos) (tS X.K G W (mBin dGetK m n)) :=
  pe_of (pe_dget hu ho hi hs) fun _ _ _ h => rs_bin (r := rGetK) ad_getK h
end
/-! ### displays -/
def mPrs : List (M × M) → S.Env → Sto → R (List D × List D)
  | [], _, st => .ok ([], []) st
  | (k, v) :: r, env, st => (k env st).only fun a st1 => (v env st1).only fun b st2 => (mPrs r env st2).only fun p st3 => .ok (a :: p.1, b :: p.2) st3
def kOfs : List D → Option (List Key)
  | [] => some []
  | d :: ds => match kOf d, kOfs ds with
    | some k, some ks => some (k :: ks)
    | _, _ => none
/-- {k: v, ..}, which may change on -/
def mDispC (ps : List (M × M)) : M := fun env st => (mPrs ps env st).only fun p st1 => match kOfs p.1 with
  | some ks => if ks.Nodup ∧ ks.length ≤ 15 ∧ ks.length = p.2.length then .ok (.ptr st1.length) (st1 ++ [.dct ks p.2]) else .stuck
  | none => .stuck
/-- {k: v, ..} -/
def mDisp (ps : List (M × M)) : M := fun env st => (mPrs ps env st).only fun p st1 => match kOfs p.1 with
  | some ks => if ks.Nodup ∧ ks.length ≤ 15 ∧ ks.length = p.2.length then .ok (.dct ks p.2) st1 else .stuck
  | none => .stuck
section
variable {K : PySem.W.Frag} {G : GA} {W : WX} {X : Cx} {pos : Pos} {σ : St} {H : Hp}
abbrev prT (K : PySem.W.Frag) (G : GA) (W : WX) (ps : List (M × M)) : List (TE × TE) := ps.map fun p => (tS K G W p.1, tS K G W p.2)
theorem only_ok {α β : Type} {r : R α} {f : α → Sto → R β} {b : β} {st' : Sto} (h : r.only f = .ok b st') : ∃ a st1, r = .ok a st1 ∧ f a st1 = .ok b st' := by
  cases r with
  | ok a st1 => exact ⟨a, st1, rfl, h⟩
  | exc c ns ds st1 => cases h
  | stuck => cases h
theorem prs_run : ∀ {ps : List (M × M)} {env : S.Env} {st st' : Sto} {as bs : List D}, mPrs ps env st = .ok (as, bs) st' → ∀ {Z : Gh} {H : Hp} {σ : St} {Q : List (V × V) → Hp → Prop}, RelH K G Z H st → RepE K G Z env σ →
    (∀ Z' H' xs ys, Z.le Z' → RelH K G Z' H' st' → RepL K G Z' as xs → RepL K G Z' bs ys → Q (xs.zip ys) H') → tPairs (prT K G W ps) σ H Q
  | [], env, st, st', as, bs, h, Z, H, σ, Q, R, S, k => by
    cases h
    exact k Z H [] [] (Gh.le.refl Z) R rfl rfl
  | (mk, mv) :: r, env, st, st', as, bs, h, Z, H, σ, Q, R, S, k => by
    unfold mPrs at h
    obtain ⟨a, st1, e1, h⟩ := only_ok h
    obtain ⟨b, st2, e2, h⟩ := only_ok h
    obtain ⟨⟨as', bs'⟩, st3, e3, h⟩ := only_ok h
    cases h
    refine ⟨Z, env, st, R, S, ?_⟩
    show Post K G (rD K G) (WE W σ) Z (mk env st) _
    rw [e1]
    intro Z1 x H1 l1 R1 p1
    refine ⟨Z1, env, st1, R1, S.up l1, ?_⟩
    show Post K G (rD K G) (WE W σ) Z1 (mv env st1) _
    rw [e2]
    intro Z2 y H2 l2 R2 p2
    refine prs_run e3 R2 (S.up (l1.trans l2)) fun Z3 H3 xs ys l3 R3 r1 r2 => ?_
    exact k Z3 H3 (x :: xs) (y :: ys) ((l1.trans l2).trans l3) R3 ⟨x, xs, rfl, Rep.up (l2.trans l3) a x p1, r1⟩ ⟨y, ys, rfl, Rep.up l3 b y p2, r2⟩
theorem kOfs_rep {Z : Gh} : ∀ {ds : List D} {ks : List Key} {vs : List V}, kOfs ds = some ks → RepL K G Z ds vs → vs = ks.map kV
  | [], _, _, h, r => by cases h; exact r
  | d :: ds, ks, _, h, ⟨v, t, e, p, q⟩ => by
    subst e
    unfold kOfs at h
    split at h
    · rename_i k ks' h1 h2
      cases h
      rw [kOfs_rep h2 q, kOf_rep h1 p]; rfl
    · cases h
theorem valV_mem {k : Key} {v : V} : ∀ {acc : List (Key × V)}, valV acc k = some v → k ∈ acc.map (·.1)
  | [], e => by cases e
  | q :: r, e => by
    by_cases hq : q.1 = k
    · rw [List.map_cons, hq]; exact .head _
    · rw [valV_neg hq] at e; exact .tail _ (valV_mem e)
theorem merge_all : ∀ (more acc : List (Key × V)), ((acc ++ more).map (·.1)).Nodup → mergeK acc more = acc ++ more
  | [], acc, _ => (List.append_nil acc).symm
  | p :: r, acc, h => by
    have hn : valV acc p.1 = none := by
      cases e : valV acc p.1 with
      | none => rfl
      | some v =>
        have hm := valV_mem e
        rw [List.map_append, List.map_cons, List.nodup_append] at h
        exact absurd rfl (h.2.2 _ hm _ (.head _))
    show mergeK (putK acc p.1 p.2) r = _
    rw [putK_new p.2 hn, merge_all r (acc ++ [(p.1, p.2)]) (by simpa using h)]
    simp
theorem zip_keys {ks : List Key} : ∀ {vs : List V}, ks.length = vs.length → (ks.zip vs).map (·.1) = ks := fun {vs} h => by
  rw [List.map_fst_zip (Nat.le_of_eq h)]
theorem zip_kV : ∀ {ks : List Key} {ys : List V}, (ks.map kV).zip ys = (ks.zip ys).map fun kv => (kV kv.1, kv.2)
  | [], _ => rfl
  | _ :: _, [] => rfl
  | k :: ks, y :: ys => by rw [List.map_cons, List.zip_cons_cons, List.zip_cons_cons, List.map_cons, zip_kV]
/-- the display runs; what then stands at p is told -/
theorem disp_run {ps : List (M × M)} {env : S.Env} {st st' : Sto} {as bs : List D} {ks : List Key} {Z : Gh} {H : Hp} {σ : St} {Q : VK} (e : mPrs ps env st = .ok (as, bs) st') (hk : kOfs as = some ks) (hn : ks.Nodup) (h15 : ks.length ≤ 15) (hl : ks.length = bs.length)
    (R : RelH K G Z H st) (S : RepE K G Z env σ) (q : ∀ p Z' H' ys, Z.ex Z' → Z'.tmp = upd Z.tmp p (.dK (ks.zip ys)) → Z.tmp p = none → RelH K G Z' H' st' → RepL K G Z' bs ys → ks.length = ys.length → Q (.ref p) H') : tDisp (prT K G W ps) σ H Q := by
  intro p hp
  have hnt : Z.tmp p = none := by
    cases z : Z.tmp p with
    | none => rfl
    | some o => rw [R.tmp _ _ z] at hp; cases hp
  have ex : Z.ex ⟨Z.fz, Z.rho, upd Z.tmp p (.dK [])⟩ := ⟨Same.refl _, ⟨[], by simp⟩⟩
  refine prs_run (W := W) e (R.addTmp (o := .dK []) hp) (RepE.ux ex _ _ S) fun Z1 H1 xs ys l1 R1 r1 r2 => ?_
  have htm : Z1.tmp p = some (.dK []) := by rw [l1.tmp]; exact upd_same
  have hys : ks.length = ys.length := by rw [hl]; exact r2.length
  refine ⟨R1.tmp _ _ htm, ks.zip ys, ?_, by rw [List.length_zip]; omega, ?_⟩
  · rw [kOfs_rep hk r1]; exact zip_kV
  · rw [merge_all (ks.zip ys) [] (by rw [List.nil_append, zip_keys hys]; exact hn), List.nil_append]
    have ex2 : Z1.ex ⟨Z1.fz, Z1.rho, upd Z1.tmp p (.dK (ks.zip ys))⟩ := ⟨Same.refl _, ⟨[], by simp⟩⟩
    refine q p _ _ ys ((ex.trans l1.ex).trans ex2) ?_ hnt (R1.setTmp htm) (RepL.ux ex2 _ _ r2) hys
    show upd Z1.tmp p _ = upd Z.tmp p _
    rw [l1.tmp]
    exact upd_upd
theorem pS_dispC {keys : List (Option Expr)} {values : List Expr} {ps : List (M × M)} (h : PPs X pos keys values (prT X.K G W ps)) (hall : keys.all (·.isSome) = true := by rfl) (hl : keys.length = values.length := by rfl) (h0 : keys ≠ [] := by simp) (h15 : keys.length ≤ 15 := by decide) :
    PE X (.Dict keys values pos) (tS X.K G W (mDispC ps)) :=
  pe_of (pe_disp h hall hl h0 h15) fun σ H Q ⟨Z, env, st, R, S, q⟩ => by
    unfold mDispC at q
    cases e1 : mPrs ps env st with
    | ok p st1 =>
      obtain ⟨as, bs⟩ := p
      rw [e1] at q
      replace q : Post X.K G (rD X.K G) (WE W σ) Z (match kOfs as with
        | some ks => if ks.Nodup ∧ ks.length ≤ 15 ∧ ks.length = bs.length then .ok (.ptr st1.length) (st1 ++ [.dct ks bs]) else .stuck
        | none => .stuck) Q := q
      split at q
      · rename_i ks hk
        split at q
        · rename_i hc
          refine disp_run e1 hk hc.1 hc.2.1 hc.2.2 R S fun p Z' H' ys ex ht hn R' r' hy => ?_
          have hp : Z'.tmp p = some (.dK (ks.zip ys)) := by rw [ht]; exact upd_same
          obtain ⟨R2, ex2⟩ := R'.tmpC (c := .dct ks bs) ht hn fun Z2 l => ⟨ys, R'.tmp _ _ hp, hy, RepL.ux l _ _ r'⟩
          have e2 := ex.trans ex2
          exact q _ _ _ ⟨e2.fz, e2.rho, rfl⟩ R2 ⟨p, by show (Z'.rho ++ [p])[st1.length]? = some p; rw [← R'.len]; simp, rfl⟩
        · exact q.elim
      · exact q.elim
    | exc c ns ds st1 => rw [e1] at q; exact q.elim
    | stuck => rw [e1] at q; exact q.elim
theorem pS_disp {keys : List (Option Expr)} {values : List Expr} {ps : List (M × M)} (h : PPs X pos keys values (prT X.K G W ps)) (hall : keys.all (·.isSome) = true := by rfl) (hl : keys.length = values.length := by rfl) (h0 : keys ≠ [] := by simp) (h15 : keys.length ≤ 15 := by decide) :
    PE X (.Dict keys values pos) (tS X.K G W (mDisp ps)) :=
  pe_of (pe_disp h hall hl h0 h15) fun σ H Q ⟨Z, env, st, R, S, q⟩ => by
    unfold mDisp at q
    cases e1 : mPrs ps env st with
    | ok p st1 =>
      obtain ⟨as, bs⟩ := p
      rw [e1] at q
      replace q : Post X.K G (rD X.K G) (WE W σ) Z (match kOfs as with
        | some ks => if ks.Nodup ∧ ks.length ≤ 15 ∧ ks.length = bs.length then .ok (.dct ks bs) st1 else .stuck
        | none => .stuck) Q := q
      split at q
      · rename_i ks hk
        split at q
        · rename_i hc
          refine disp_run e1 hk hc.1 hc.2.1 hc.2.2 R S fun p Z' H' ys ex ht hn R' r' hy => ?_
          obtain ⟨R2, ex2⟩ := R'.tmpFz ht hn
          have e2 := ex.trans ex2
          exact q _ _ _ ⟨e2.fz, e2.rho, rfl⟩ R2 ⟨p, ys, rfl, .inl upd_same, hy, RepL.ux ex2 _ _ r'⟩
        · exact q.elim
      · exact q.elim
    | exc c ns ds st1 => rw [e1] at q; exact q.elim
    | stuck => rw [e1] at q; exact q.elim
end
end S
/-! freezing all that is reached; lists compared with the empty one; augmented assignment -/
namespace S
open PySem L2
mutual
def frzD : Nat → D → Sto → Option (D × Sto)
  | 0, _, _ => none
  | n + 1, d, st => match d with
    | .ptr i => (match st[i]? with
      | some (.lst xs) => (frzL n xs (st.set i .dead)).map fun p => (.lst p.1, p.2)
      | some (.dct ks xs) => (frzL n xs (st.set i .dead)).map fun p => (.dct ks p.1, p.2)
      | some (.ins c ns xs) => (frzL n xs (st.set i .dead)).map fun p => (.ins c ns p.1, p.2)
      | _ => none)
    | .lst xs => (frzL n xs st).map fun p => (.lst p.1, p.2)
    | .tup xs => (frzL n xs st).map fun p => (.tup p.1, p.2)
    | .dct ks xs => (frzL n xs st).map fun p => (.dct ks p.1, p.2)
    | .dkd ks xs => (frzL n xs st).map fun p => (.dkd ks p.1, p.2)
    | .ins c ns xs => (frzL n xs st).map fun p => (.ins c ns p.1, p.2)
    | d => some (d, st)
def frzL : Nat → List D → Sto → Option (List D × Sto)
  | 0, _, _ => none
  | n + 1, ds, st => match ds with
    | [] => some ([], st)
    | d :: r => match frzD n d st with
      | some (d', st1) => (frzL n r st1).map fun p => (d' :: p.1, p.2)
      | none => none
end
section
variable {K : PySem.W.Frag} {G : GA} {W : WX} {X : Cx} {e : Expr} {m : M} {Z : Gh} {H : Hp} {st st' : Sto}
end
/-! ### name op= e -/
end S
/-! match; name op= e -/
namespace S
open PySem L2
inductive PtS where
  | val (z : Str)
  | cap (i : Nat)
inductive Pt where
  | one (p : PtS)
  | seq (ps : List PtS)
/-- none: not known; some none: no match; some (some bs): what is bound -/
def PtS.at (p : PtS) (d : D) : Option (Option (List (Nat × D))) := match p, d with
  | .val z, .str x => some (if x = z then some [] else none)
  | .cap i, d => some (some [(i, d)])
  | _, _ => none
def atS : List PtS → List D → Option (Option (List (Nat × D)))
  | [], [] => some (some [])
  | p :: ps, d :: ds => match p.at d with
    | none => none
    | some none => some none
    | some (some bs) => match atS ps ds with
      | none => none
      | some none => some none
      | some (some more) => some (some (bs ++ more))
  | _, _ => none
def Pt.at (p : Pt) (d : D) (st : Sto) : Option (Option (List (Nat × D))) := match p with
  | .one p => p.at d
  | .seq ps => match rd st d with
    | .lst xs => if xs.length = ps.length then atS ps xs else some none
    | _ => none
def setAll (env : S.Env) (bs : List (Nat × D)) : S.Env := bs.foldl (fun e p => e.set p.1 (some p.2)) env
def mMatchGo (d : D) : List (Pt × MS) → MS
  | [], env, st => .nx env st
  | (p, ms) :: r, env, st => match p.at d st with
    | none => .stuck
    | some none => mMatchGo d r env st
    | some (some bs) => ms (setAll env bs) st
section
variable {G : GA} {X : Cx} {W : WX}
/-- the slots and values that a match binds, as names and values -/
def BindsR (X : Cx) (G : GA) (Z : Gh) : List (Nat × D) → List (Str × Value) → Prop := Paired fun b n => (X.N[b.1]? = some n.1 ∧ Loc X.env.scope n.1 ∧ (X.fn n.1 = true ∨ X.env.scope.names.lookup n.1 = some .local)) ∧ ∃ v, Rep X.K G Z b.2 v ∧ RelV v n.2
def PatQ (X : Cx) (G : GA) (Z : Gh) (r : Option (List (Nat × D))) (Q : Option (List (Str × Value)) → Shared → Prop) (s : Shared) : Prop := match r with
  | none => Q none s
  | some bs => ∀ nvs, BindsR X G Z bs nvs → Q (some nvs) s
structure PatS (X : Cx) (G : GA) (p : Pattern) (q : PtS) : Prop where
  ns : p.isStar = false
  run : ∀ (pins : List (Addr × Obj)) (s : Shared) (σ : St) (H : Hp) (Z : Gh) (d : D) (v : V) (u : Value) (Q : Option (List (Str × Value)) → Shared → Prop) (r : Option (List (Nat × D))), Inv X pins σ H s → Rep X.K G Z d v → RelV v u → q.at d = some r →
    (∀ s', Inv X pins σ H s' → PatQ X G Z r Q s') → wpAny (model X.prog X.w) X.A (matchPattern p X.env u) Q X.xe s
structure PatX (X : Cx) (G : GA) (p : Pattern) (q : Pt) : Prop where
  run : ∀ (pins : List (Addr × Obj)) (s : Shared) (σ : St) (H : Hp) (Z : Gh) (st : Sto) (d : D) (v : V) (u : Value) (Q : Option (List (Str × Value)) → Shared → Prop) (r : Option (List (Nat × D))), Inv X pins σ H s → RelH X.K G Z H st → Rep X.K G Z d v → RelV v u → q.at d st = some r →
    (∀ s', Inv X pins σ H s' → PatQ X G Z r Q s') → wpAny (model X.prog X.w) X.A (matchPattern p X.env u) Q X.xe s
structure PCs (X : Cx) (G : GA) (W : WX) (cases : List MatchCase) (cs : List (Pt × MS)) : Prop where
  run : ∀ (pins : List (Addr × Obj)) (s : Shared) (σ : St) (H : Hp) (Z : Gh) (env : S.Env) (st : Sto) (d : D) (v : V) (u : Value) (first : Bool) (Dn : Ends), Inv X pins σ H s → RelH X.K G Z H st → RepE X.K G Z env σ → Rep X.K G Z d v → RelV v u → PostS X.K G W Z (mMatchGo d cs env st) Dn →
    wpAny (model X.prog X.w) X.A (matchCases cases X.env u first) (SP X pins Dn) X.xe s
end
end S
/-! try that nothing leaves; classes as values; classmethods -/
namespace S
open PySem L2
section
variable {G : GA} {X : Cx} {k n : Nat} {f g p : Addr} {fd : FuncData} {ps ks : List Str} {F : List D → Sto → R D} {dds : List D} {dvs : List V} {ds : List Value} {E : XK} {x nm : Str} {pos apos np : Pos} {e o : Expr} {es : List Expr} {kws : List Keyword} {m mk : MA} {mo : M} {mc : Value} {arr : List Nat} {l2 : Nat}
end
end S
/-! lists of unlike lengths compared -/
namespace S
open PySem L2
def dEqL (a b : D) (st : Sto) : R D := match rd st a, rd st b with
  | .lst xs, .lst ys => if xs.length = ys.length then dEq a b st else .ok (.bl false) st
  | _, _ => dEq a b st
def dNeL (a b : D) (st : Sto) : R D := match rd st a, rd st b with
  | .lst xs, .lst ys => if xs.length = ys.length then dNe a b st else .ok (.bl true) st
  | _, _ => dNe a b st
section
variable {K : PySem.W.Frag} {G : GA} {X : Cx}
def rLens (k : Bool) : R2 := fun x y H Q => ∃ p q xs ys, x = .ref p ∧ y = .ref q ∧ H p = some (.lst xs) ∧ H q = some (.lst ys) ∧ xs.length ≠ ys.length ∧ Q (.bl k) H
theorem lens_at {pins : List (Addr × Obj)} {s : Shared} {σ : St} {H : Hp} {p : Addr} {xs : List V} (I : Inv X pins σ H s) (h : H p = some (.lst xs)) : ∃ its : Array Value, s.heap.IsList p its ∧ its.size = xs.length := by
  obtain ⟨its, rv, ⟨o, m, e, c, d, q⟩, _⟩ := I.list (.inl (.inl h))
  exact ⟨its.toArray, ⟨o, e, c, m, q⟩, by rw [List.size_toArray, rv.length]⟩
theorem op_eqLen (hu : X.A.units + 64 < cLine) : OpR X (compareOp .Eq) (rLens false) := fun pins s σ H x y v u Q I rx ry ⟨p, q, xs, ys, e1, e2, h1, h2, hn, hq⟩ => by
  subst e1; subst e2
  cases (show v = Value.ref p from rx)
  cases (show u = Value.ref q from ry)
  obtain ⟨i1, l1, z1⟩ := lens_at I h1
  obtain ⟨i2, l2, z2⟩ := lens_at I h2
  exact SeqAt.eq_list_lengthsAt l1 l2 (by rw [bne_iff_ne, z1, z2]; exact hn) (by omega) ⟨.bl false, H, I, rfl, hq⟩
theorem op_neLen (hu : X.A.units + 64 < cLine) : OpR X (compareOp .NotEq) (rLens true) := fun pins s σ H x y v u Q I rx ry ⟨p, q, xs, ys, e1, e2, h1, h2, hn, hq⟩ => by
  subst e1; subst e2
  cases (show v = Value.ref p from rx)
  cases (show u = Value.ref q from ry)
  obtain ⟨i1, l1, z1⟩ := lens_at I h1
  obtain ⟨i2, l2, z2⟩ := lens_at I h2
  exact SeqAt.RcNeAt.lists_lengths l1 l2 (by rw [bne_iff_ne, z1, z2]; exact hn) (by omega) _ _ _ _ ⟨.bl true, H, I, rfl, hq⟩
theorem ad_eqL : Ad2 K G dEqL (fun x y H Q => rEqS K x y H Q ∨ rLens false x y H Q) := fun E Z H st a b x y Q R p q h => by
  unfold dEqL at h
  split at h
  · rename_i xs ys e1 e2
    split at h
    · exact .inl (ad_eq E Z H st a b x y Q R p q h)
    · rename_i hn
      obtain ⟨p1, vs, rfl, h1, r1⟩ := R.lst p e1
      obtain ⟨p2, us, rfl, h2, r2⟩ := R.lst q e2
      exact .inr ⟨p1, p2, vs, us, rfl, rfl, h1, h2, by rw [← r1.length, ← r2.length]; exact hn, Post.now (P := rD K G) h R rfl⟩
  · exact .inl (ad_eq E Z H st a b x y Q R p q h)
theorem ad_neL : Ad2 K G dNeL (fun x y H Q => rNeS K x y H Q ∨ rLens true x y H Q) := fun E Z H st a b x y Q R p q h => by
  unfold dNeL at h
  split at h
  · rename_i xs ys e1 e2
    split at h
    · exact .inl (ad_ne E Z H st a b x y Q R p q h)
    · rename_i hn
      obtain ⟨p1, vs, rfl, h1, r1⟩ := R.lst p e1
      obtain ⟨p2, us, rfl, h2, r2⟩ := R.lst q e2
      exact .inr ⟨p1, p2, vs, us, rfl, rfl, h1, h2, by rw [← r1.length, ← r2.length]; exact hn, Post.now (P := rD K G) h R rfl⟩
  · exact .inl (ad_ne E Z H st a b x y Q R p q h)
theorem op_eqSL (hu : X.A.units + 64 < cLine) : OpR X (compareOp .Eq) (fun x y H Q => rEqS X.K x y H Q ∨ rLens false x y H Q) := S.OpR.or (op_eqS hu) (op_eqLen hu)
theorem op_neSL (hu : X.A.units + 64 < cLine) : OpR X (compareOp .NotEq) (fun x y H Q => rNeS X.K x y H Q ∨ rLens true x y H Q) := S.OpR.or (op_neS hu) (op_neLen hu)
end
end S
/-! small things: -e, C(), instances that change on -/
namespace S
open PySem L2
section
variable {G : GA} {W : WX} {X : Cx} {k n : Nat} {f : Addr} {fd : FuncData} {ps : List Str} {F : List D → Sto → R D} {dds : List D} {dvs : List V} {ds : List Value} {E : XK} {x : Str} {p pos : Pos} {e : Expr} {m : M}
end
end S
/-! plain laws: loops with an invariant, the law's end -/
namespace S
open PySem L2
theorem for_inv {t : Tg} {body : MS} (I : S.Env → Sto → Prop) : ∀ {ds : List D} {env : S.Env} {st : Sto}, I env st → (∀ d ∈ ds, ∀ env st, I env st → ∃ env1 env2 st2, t.at d env st = some env1 ∧ body env1 st = .nx env2 st2 ∧ I env2 st2) → ∃ env' st', mForGo t body ds env st = .nx env' st' ∧ I env' st'
  | [], env, st, h0, _ => ⟨env, st, rfl, h0⟩
  | d :: ds, env, st, h0, hs => by
    obtain ⟨env1, env2, st2, e1, e2, h2⟩ := hs d (.head _) env st h0
    obtain ⟨env', st', e3, h3⟩ := for_inv I h2 fun d' m => hs d' (.tail _ m)
    refine ⟨env', st', ?_, h3⟩
    rw [← e3]
    unfold mForGo
    rw [e1]
    dsimp only
    rw [e2]
    cases ds <;> rfl
theorem range_nat {n : Nat} {d : D} (h : d ∈ rangeD 0 n) : ∃ k : Nat, k < n ∧ d = .int k := by
  obtain ⟨i, hi, rfl⟩ := List.mem_map.mp h
  exact ⟨i, List.mem_range.mp hi, by simp⟩
/-- how many cells the law asks -/
theorem cells_of (ns : List Int) (c : Int) (hc : 1 ≤ c) (hc' : c < 1000) (r : S.Env) (st : Sto) : ∃ n : Nat, mItRange (mCons (mApp dMax (mCons (mC (.int 1)) (mCons (mApp dMin (mCons (mC (.int c)) (mCons (mApp dLen (mCons (mVar 0) mNil)) mNil))) mNil))) mNil) (some (.rls (ns.map D.int)) :: r) st = .ok (rangeD 0 n) st := by
  by_cases h : (ns.length : Int) < c
  · by_cases h' : (ns.length : Int) > 1
    · exact ⟨ns.length, by simp [mItRange, mCons, mNil, mApp, mC, mVar, dMax, dMin, dLen, rd, R.bind, h, h']; omega⟩
    · exact ⟨1, by simp [mItRange, mCons, mNil, mApp, mC, mVar, dMax, dMin, dLen, rd, R.bind, h, h']⟩
  · by_cases h' : c > 1
    · refine ⟨c.toNat, ?_⟩
      have a1 : -4611686018427387904 ≤ c ∧ c < 4611686018427387904 := by omega
      simp [mItRange, mCons, mNil, mApp, mC, mVar, dMax, dMin, dLen, rd, R.bind, h, h', a1]
    · obtain rfl : c = 1 := by omega
      exact ⟨1, by simp [mItRange, mCons, mNil, mApp, mC, mVar, dMax, dMin, dLen, rd, R.bind, h]⟩
theorem below_ints : ∀ ns : List Int, belowL 0 (ns.map D.int) = true
  | [] => rfl
  | _ :: r => below_ints r
theorem law_end {n : Nat} {ms : MS} {ns : List Int} {st' : Sto} (h : ms (some (.rls (ns.map D.int)) :: List.replicate (n - 1) none) [] = .rt (.bl true) st') : ∃ st, pur (mFun true n ms) [.rls (ns.map D.int)] [] = .ok (.bl true) st := by
  have b : belowL 0 [D.rls (ns.map D.int)] = true := by
    show (belowL 0 (ns.map D.int) && true) = true
    rw [below_ints]; rfl
  have e2 : mFun true n ms [.rls (ns.map D.int)] [] = gc 0 (.bl true) st' := by
    show (match ms (some (.rls (ns.map D.int)) :: List.replicate (n - 1) none) [] with
      | .nx _ st' => gc 0 .non st'
      | .rt d st' => if true = true then (dFrz d st').bind fun d' st2 => gc 0 d' st2 else gc 0 d st'
      | .exc _ c ns ds st' => gcX 0 c ns ds st'
      | _ => .stuck) = _
    rw [h]
    rfl
  have e3 : ∃ st2, gc 0 (.bl true) st' = .ok (.bl true) st2 := by
    unfold gc
    split
    · exact ⟨_, rfl⟩
    · exact ⟨_, rfl⟩
  obtain ⟨st2, e3⟩ := e3
  refine ⟨[], ?_⟩
  unfold pur
  rw [if_pos b, e2, e3]
  rfl
end S
namespace L2
open PySem PySem.Spec PyProof.Rows
section
variable {X : Cx} {pins : List (Addr × Obj)} {σ : St} {H : Hp} {s : Shared} {a C u : Addr} {A : Around} {E : Value → Shared → Prop}
end
/-- C's next __init__ behind D is ValueError's -/
structure SupE (K : PySem.W.Frag) (C D : Addr) : Prop where
  sub : PySem.W.mroIn K C (.ref D) = some true
  at_ : PySem.W.ks_superIn K C D "__init__" = some (some (.builtin "ValueError.__init__"))
  ve : PySem.W.mroIn K C (.type "ValueError") = some true
section
variable {X : Cx} {D : Addr} {y : Str} {e : Expr} {es : List Expr} {ta : TA} {p0 p1 p2 pos pos' : Pos} {i : Nat} {pl : Sem Bool} {body : List Stmt}
end
/-! ### isinstance(e, C), e a caught exception that has a dict -/
/-- an own exception over ValueError with an __init__ that says super() and keeps one field -/
structure Xn (P : Program) (K : PySem.W.Frag) (mg : Str → Option Value) (x : Str) (C fI : Addr) (fld : Str) : Prop where
  g : mg x = some (.ref C)
  o : OexC K C
  iC : PySem.W.findIn K (.ref C) "__init__" = some (some (.ref fI))
  tI : PySem.W.typeIn K (.ref fI) = some (.type "function")
  na : PySem.W.findIn K (.ref C) fld = some none
  su : SupE K C C
  ec : ExcC K C
  cd : ∃ cd, PySem.W.clsIn K C = some cd
end L2
/-! own exceptions over ValueError: made and raised -/
namespace S
open PySem L2
section
variable {P : Program} {w : World} {K : PySem.W.Frag} {mg : Str → Option Value} {base : Heap}
end
section
variable {K : PySem.W.Frag} {G : GA} {Z : Gh}
end
section
variable {G : GA} {W : WX} {X : Cx} {k : Nat} {fI : Addr} {fd : FuncData} {ps : List Str} {x fld : Str} {p pos pos' : Pos} {e : Expr} {m : M}
end
end S
/-! instances and methods where exceptions may go anywhere (any W) -/
namespace S
open PySem L2
section
variable {X : Cx} {k : Nat} {f C : Addr} {fd : FuncData} {ps : List Str} {sp : Sp} {E : XK} {pins : List (Addr × Obj)} {σ : St} {H : Hp} {s : Shared} {Q : VK}
end
section
variable {G : GA} {W : WX} {X : Cx} {k n l1 l2 : Nat} {f : Addr} {fd : FuncData} {ps ks : List Str} {F : List D → Sto → R D} {dds : List D} {dvs : List V} {ds : List Value} {x : Str} {p pos apos : Pos} {e o : Expr} {es : List Expr} {kws : List Keyword} {m mk : MA} {mo : M} {arr : List Nat}
end
end S
/-! methods where exceptions may go anywhere (any W) -/
namespace S
open PySem L2
section
variable {G : GA} {W : WX} {X : Cx} {k n l2 : Nat} {f : Addr} {fd : FuncData} {ps ks : List Str} {F : List D → Sto → R D} {dds : List D} {dvs : List V} {ds : List Value} {pos apos : Pos} {e o : Expr} {es : List Expr} {kws : List Keyword} {m mk : MA} {mo : M} {arr : List Nat} {c : Nat} {nm : Str} {pl : Sem Bool} {σ : St} {H : Hp} {Q : VK}
end
end S
/-! try / except -/
namespace S
open PySem L2
/-- which of the raised classes the clause takes -/
abbrev Ki := Nat → Option Bool
section
variable {G : GA} {W : WX} {X : Cx} {x : Str} {cv : Value} {body suite : List Stmt} {b₀ : Stmt} {np pos pos' : Pos} {m hm : MS} {ki : Ki}
end
end S
/-! while, list.pop() -/
namespace S
open PySem L2
def mWhileGo (c : MB) (body : MS) : Nat → MS
  | 0, _, _ => .stuck
  | n + 1, env, st => match c env st with
    | .ok b st1 => if b = true then (match body env st1 with
      | .nx env2 st2 => mWhileGo c body n env2 st2
      | .ct env2 st2 => mWhileGo c body n env2 st2
      | .bk env2 st2 => .nx env2 st2
      | r => r) else .nx env st1
    | .exc c ns ds st1 => .exc env c ns ds st1
    | .stuck => .stuck
theorem pS_while {K : PySem.W.Frag} {G : GA} {W : WX} {X : Cx} {c : Expr} {body : List Stmt} {pos : Pos} {mc : MB} {mb : MS} (n : Nat) (hp : PassesOwn (model X.prog X.w) X.A X.env X.xe) (hc : PT X c (tSB K G W mc)) (hb : PSs X body (tSS K G W mb)) : PS X (.While c body [] pos) (tSS K G W (mWhileGo mc mb n)) :=
  ps_of (ps_while hp hc hb) fun Dn σ H ⟨Z, env, st, R, S, h⟩ => by
    refine ⟨fun m σ H => ∃ Z env st, RelH K G Z H st ∧ RepE K G Z env σ ∧ PostS K G W Z (mWhileGo mc mb m env st) Dn, ⟨n, Z, env, st, R, S, h⟩, fun m σ H ⟨Z, env, st, R, S, h⟩ => ?_⟩
    cases m with
    | zero => exact h.elim
    | succ m =>
      refine ⟨Z, env, st, R, S, ?_⟩
      unfold mWhileGo at h
      cases e : mc env st with
      | ok b st1 =>
        rw [e] at h
        intro Z1 b' H1 l R1 eb
        cases (show b = b' from eb)
        cases b with
        | false => exact iteF (h Z1 σ H1 l R1 (S.up l))
        | true =>
          refine iteT ⟨fun σ' H' => ∃ Z env st, RelH K G Z H' st ∧ RepE K G Z env σ' ∧ PostS K G W Z (mWhileGo mc mb m env st) Dn, fun σ' H' q => ⟨m, Nat.lt_succ_self m, q⟩, Z1, env, st1, R1, S.up l, ?_⟩
          replace h : PostS K G W Z (match mb env st1 with
            | .nx env2 st2 => mWhileGo mc mb m env2 st2
            | .ct env2 st2 => mWhileGo mc mb m env2 st2
            | .bk env2 st2 => .nx env2 st2
            | r => r) Dn := h
          have h := PostS.up l h
          cases e2 : mb env st1 with
          | nx env2 st2 => rw [e2] at h; exact fun Z2 σ2 H2 l2 R2 S2 => ⟨Z2, env2, st2, R2, S2, PostS.up l2 h⟩
          | ct env2 st2 => rw [e2] at h; exact fun Z2 σ2 H2 l2 R2 S2 => ⟨Z2, env2, st2, R2, S2, PostS.up l2 h⟩
          | bk env2 st2 => rw [e2] at h; exact h
          | rt d st2 => rw [e2] at h; exact h
          | exc env2 c' ns ds st2 => rw [e2] at h; exact h
          | stuck => rw [e2] at h; exact h
      | exc c' ns ds st1 => rw [e] at h; exact fun Z1 H1 x l R1 r => h Z1 σ H1 x l R1 (S.up l) r
      | stuck => rw [e] at h; exact h
section
variable {K : PySem.W.Frag} {G : GA} {Z : Gh}
theorem RepL.at {d : D} : ∀ {ds : List D} {vs : List V}, RepL K G Z ds vs → ∀ {i : Nat}, ds[i]? = some d → ∃ v, vs[i]? = some v ∧ Rep K G Z d v
  | [], _, _, i, h => by simp at h
  | x :: ds, _, ⟨v, t, e, p, q⟩, 0, h => by subst e; cases h; exact ⟨v, rfl, p⟩
  | x :: ds, _, ⟨v, t, e, p, q⟩, i + 1, h => by
    subst e
    obtain ⟨u, h1, h2⟩ := RepL.at q (i := i) (by simpa using h)
    exact ⟨u, by simpa using h1, h2⟩
end
end S
/-! l[::-1] -/
namespace S
open PySem L2
section
variable {G : GA} {W : WX} {X : Cx} {e : Expr} {m : M} {k : Nat} {p1 p2 p3 pos : Pos} {K : PySem.W.Frag} {Z : Gh}
end
end S
/-! try .. except C as e: y = (something of e) -/
namespace S
open PySem L2
/-- an expression of a handler, by the class and the fields of what was caught -/
abbrev MX := Nat → List Str → List D → M
def tXG {α β : Type} (K : PySem.W.Frag) (G : GA) (P : Gh → α → β → Prop) (i : Nat) (a : Addr) (cls : Value) (d : Option Addr) (q : Nat → List Str → List D → Env → Sto → R α) : St → Hp → (β → Hp → Prop) → Prop := fun σ H Q =>
  σ[i]? = some (some (.ref a)) ∧ ∃ c ns ds Z env st, cls = .ref (G c) ∧ RelH K G Z H st ∧ XOk K G Z ns ds d ∧ RepE K G Z env σ ∧ Post K G P E0 Z (q c ns ds env st) Q
abbrev tX (K : PySem.W.Frag) (G : GA) (i : Nat) (a : Addr) (cls : Value) (d : Option Addr) (q : MX) : TE := tXG K G (rD K G) i a cls d q
theorem XOk.up {K : PySem.W.Frag} {G : GA} {Z Z' : Gh} {ns : List Str} {ds : List D} {d : Option Addr} (l : Z.le Z') (h : XOk K G Z ns ds d) : XOk K G Z' ns ds d := by
  rcases h with h | ⟨a, vs, h1, h2, h3, h4⟩
  · exact .inl h
  · exact .inr ⟨a, vs, h1, l.fz _ _ h2, h3, RepL.up l _ _ h4⟩
section
variable {G : GA} {X : Cx} {a : Addr} {oe : Obj} {cls : Value} {d : Option Addr} {pn : List (Addr × Obj)} {i : Nat} {e : Expr}
end
section
variable {G : GA} {W : WX} {X : Cx} {x n y : Str} {cv : Value} {i j : Nat} {body : List Stmt} {np pos pos' py ps : Pos} {m : MS} {q : MX} {ki : Ki} {e : Expr}
end
end S
/-! a tuple beside the empty one; which class a clause takes -/
namespace S
open PySem L2
section
variable {K : PySem.W.Frag} {G : GA} {X : Cx}
end
end S
/-! a, b = x, y -/
namespace S
open PySem L2
def putAll : List Nat → List D → Env → Env
  | i :: is, d :: ds, env => putAll is ds (env.set i (some d))
  | _, _, env => env
def mPar (is : List Nat) (m : MA) : MS := fun env st => match m env st with
  | .ok ds st' => if ds.length = is.length then .nx (putAll is ds env) st' else .stuck
  | .exc c ns ds st' => .exc env c ns ds st'
  | .stuck => .stuck
section
variable {K : PySem.W.Frag} {G : GA} {W : WX} {X : Cx} {m : MA} {a b c : Expr} {pos : Pos}
/-- from arguments to what follows them -/
theorem post_args {σ : St} {Dn : Ends} {Q : List V → Hp → Prop} {f : List D → Sto → RS} {env : Env} {st : Sto} {Z : Gh} (S : RepE K G Z env σ) (h : PostS K G W Z (match m env st with
  | .ok ds st' => f ds st'
  | .exc c ns ds st' => .exc env c ns ds st'
  | .stuck => .stuck) Dn) (k : ∀ ds st' Z' vs H', Z.le Z' → RelH K G Z' H' st' → RepL K G Z' ds vs → PostS K G W Z' (f ds st') Dn → Q vs H') : Post K G (rL K G) (WE W σ) Z (m env st) Q := by
  cases q : m env st with
  | ok d st' => rw [q] at h; exact fun Z' v H' l R' r => k d st' Z' v H' l R' r (PostS.up l h)
  | exc c ns ds st' => rw [q] at h; exact fun Z' H' x l R' r => h Z' σ H' x l R' (S.up l) r
  | stuck => rw [q] at h; exact h
theorem pS_par {i j : Nat} {x y : Str} {px py pt : Pos} {kt k2 pt2} (hc : X.calm = true) (hN : X.N.Nodup) (hi : X.N[i]? = some x) (hj : X.N[j]? = some y) (hij : i ≠ j)
    (hx : X.env.scope.names.lookup x = some .local) (hy : X.env.scope.names.lookup y = some .local) (ha : PA X [a, b] (tSA K G W m))
    (hw : swappedStores [.Tuple [.Name x px, .Name y py] kt pt] (.Tuple [a, b] k2 pt2) X.env = pure (some [x, y]))
    (hs : swapsWithSole [.Tuple [.Name x px, .Name y py] kt pt] (.Tuple [a, b] k2 pt2) pos.line X.env = pure false := by rfl) :
    PS X (.Assign [.Tuple [.Name x px, .Name y py] kt pt] (.Tuple [a, b] k2 pt2) pos) (tSS K G W (mPar [i, j] m)) :=
  ps_of (ps_par (pos := pos) hc hN hi hj hij hx hy ha hw hs) fun Dn σ H ⟨Z, env, st, R, S, h⟩ => ⟨Z, env, st, R, S, post_args (f := fun ds st' => if ds.length = [i, j].length then .nx (putAll [i, j] ds env) st' else .stuck) S h fun ds st' Z' vs H' l R' r q => by
    split at q
    · rename_i hl
      match ds, hl, r with
      | [d, e], _, ⟨v, _, e1, p1, ⟨u, _, e2, p2, e3⟩⟩ =>
        subst e1; subst e2; cases (show _ = [] from e3)
        exact ⟨v, u, rfl, q Z' _ H' (Gh.le.refl _) R' (RepE.set p2 j (RepE.set p1 i (S.up l)))⟩
    · exact q.elim⟩
end
end S
/-! plain laws of comprehensions -/
namespace S
open PySem L2
inductive All2 {α β : Type} (P : α → β → Prop) : List α → List β → Prop
  | nil : All2 P [] []
  | cons {a b as bs} : P a b → All2 P as bs → All2 P (a :: as) (b :: bs)
theorem All2.length {α β : Type} {P : α → β → Prop} {as : List α} {bs : List β} (h : All2 P as bs) : as.length = bs.length := by
  induction h with
  | nil => rfl
  | cons _ _ ih => simp [ih]
/-- nothing changes -/
theorem lc_pure {t : Tg} {vs : List Nat} {mt : MB} {me : M} (g : D → Option D) {env : Env} {st : Sto} : ∀ {ds acc : List D}, acc.length + ds.length ≤ sizeLine →
    (∀ d ∈ ds, ∃ env1 b, t.at d (wipeE env vs) st = some env1 ∧ mt env1 st = .ok b st ∧ (b = true → ∃ y, me env1 st = .ok y st ∧ g d = some y) ∧ (b = false → g d = none)) →
    mLcGo t vs mt me ds env st acc = .ok (acc ++ ds.filterMap g) st
  | [], acc, _, _ => by simp [mLcGo]
  | d :: ds, acc, hl, h => by
    obtain ⟨env1, b, e1, e2, h1, h2⟩ := h d (.head _)
    have hl' : acc.length < sizeLine := by simp at hl; omega
    cases b with
    | true =>
      obtain ⟨y, e3, e4⟩ := h1 rfl
      have ih := lc_pure (t := t) (vs := vs) (mt := mt) (me := me) g (env := env) (st := st) (ds := ds) (acc := acc ++ [y]) (by simp at hl ⊢; omega) fun d' m => h d' (.tail _ m)
      unfold mLcGo
      simp [e1, e2, R.only, e3, hl', ih, e4]
    | false =>
      have ih := lc_pure (t := t) (vs := vs) (mt := mt) (me := me) g (env := env) (st := st) (ds := ds) (acc := acc) (by simp at hl ⊢; omega) fun d' m => h d' (.tail _ m)
      unfold mLcGo
      simp [e1, e2, R.only, ih, h2 rfl]
/-- one thing for each, with an invariant of the store -/
theorem lc_inv {t : Tg} {vs : List Nat} {mt : MB} {me : M} (I : Sto → Prop) (P : D → D → Prop) {env : Env} : ∀ {ds acc : List D} {st : Sto}, acc.length + ds.length ≤ sizeLine → I st →
    (∀ d ∈ ds, ∀ st, I st → ∃ env1 y st2, t.at d (wipeE env vs) st = some env1 ∧ mt env1 st = .ok true st ∧ me env1 st = .ok y st2 ∧ I st2 ∧ P d y) →
    ∃ ys st', mLcGo t vs mt me ds env st acc = .ok (acc ++ ys) st' ∧ I st' ∧ All2 P ds ys
  | [], acc, st, _, h0, _ => ⟨[], st, by simp [mLcGo], h0, .nil⟩
  | d :: ds, acc, st, hl, h0, h => by
    obtain ⟨env1, y, st2, e1, e2, e3, h2, p⟩ := h d (.head _) st h0
    have hl' : acc.length < sizeLine := by simp at hl; omega
    obtain ⟨ys, st', e4, h4, q⟩ := lc_inv (t := t) (vs := vs) (mt := mt) (me := me) I P (env := env) (ds := ds) (acc := acc ++ [y]) (st := st2) (by simp at hl ⊢; omega) h2 fun d' m => h d' (.tail _ m)
    refine ⟨y :: ys, st', ?_, h4, .cons p q⟩
    unfold mLcGo
    simp [e1, e2, R.only, e3, hl', e4]
/-- texts that are written out -/
theorem str_eq (a b : String) : (Str.ofString a = Str.ofString b) = (a = b) := by
  apply propext
  constructor
  · intro h
    rw [Str.ofString_eq_toList, Str.ofString_eq_toList] at h
    have h1 : a.toList.map Char.toNat = b.toList.map Char.toNat := by
      injection h with h
      exact congrArg Array.toList h
    have inj : ∀ (xs ys : List Char), xs.map Char.toNat = ys.map Char.toNat → xs = ys := by
      intro xs
      induction xs with
      | nil => intro ys h; cases ys with
        | nil => rfl
        | cons _ _ => cases h
      | cons x xs ih => intro ys h; cases ys with
        | nil => cases h
        | cons y ys =>
          rw [List.map_cons, List.map_cons] at h
          injection h with h1 h2
          rw [ih ys h2, Char.toNat_inj.mp h1]
    exact String.toList_inj.mp (inj _ _ h1)
  · intro h; rw [h]
end S
/-! plain laws of calls -/
namespace S
open PySem L2
theorem below_np {n : Nat} {d : D} (h : below 0 d = true) : ∀ i, d ≠ .ptr i := fun i e => by
  subst e
  unfold below at h
  simp at h
theorem frz_np {d : D} {st : Sto} (h : ∀ i, d ≠ .ptr i) : dFrz d st = .ok d st := by
  cases d with
  | ptr i => exact absurd rfl (h i)
  | _ => rfl
/-- a call in which nothing takes part that may change -/
theorem call_rt {n : Nat} {ms : MS} {ds : List D} {st st' : Sto} {d : D} (hb : belowL 0 ds = true) (h : ms (ds.map some ++ List.replicate (n - ds.length) none) [] = .rt d st') (hd : below 0 d = true) : pur (mFun true n ms) ds st = .ok d st := by
  have e : mFun true n ms ds [] = .ok d [] := by
    unfold mFun
    rw [h]
    dsimp only
    rw [if_pos rfl, frz_np (below_np (n := 0) hd)]
    show gc 0 d st' = _
    unfold gc
    rw [hd]
    rfl
  unfold pur
  rw [if_pos hb, e]
  dsimp only
  rw [if_pos hd]
theorem call_nx {n : Nat} {ms : MS} {ds : List D} {st st' : Sto} {env : Env} (hb : belowL 0 ds = true) (h : ms (ds.map some ++ List.replicate (n - ds.length) none) [] = .nx env st') : pur (mFun true n ms) ds st = .ok .non st := by
  have e : mFun true n ms ds [] = .ok .non [] := by
    unfold mFun
    rw [h]
    rfl
  unfold pur
  rw [if_pos hb, e]
  rfl
/-- a call in which something takes part that may change -/
theorem call_at {n : Nat} {ms : MS} {ds : List D} {st st' : Sto} {d : D} (hb : belowL 0 ds = false) (h : ms (ds.map some ++ List.replicate (n - ds.length) none) st = .rt d st') (hd : ∀ i, d ≠ .ptr i) : pur (mFun true n ms) ds st = gc st.length d st' := by
  unfold pur
  rw [hb, if_neg (by decide)]
  unfold mFun
  rw [h]
  dsimp only
  rw [if_pos rfl, frz_np hd]
  rfl
theorem pur_ok {f : List D → Sto → R D} {ds : List D} {st st' : Sto} {d : D} (hb : belowL 0 ds = true) (h : f ds [] = .ok d st') (hd : below 0 d = true) : pur f ds st = .ok d st := by
  unfold pur
  rw [if_pos hb, h]
  dsimp only
  rw [if_pos hd]
end S
namespace L2
open PySem PySem.Spec PyProof.Rows
/-! ### texts: repetition -/
def repS (z : Str) (n : Nat) : Str := ⟨(List.replicate n z.cps).foldl (· ++ ·) #[]⟩
def rRepS : R2 := fun x y H Q => ∃ (z : Str) (k : Int), x = .str z ∧ y = .int k ∧ 0 ≤ k ∧ k ≤ 1000 ∧ 1 ≤ z.length ∧ z.length ≤ 1000 ∧ Q (.str (repS z k.toNat)) H
section
variable {X : Cx}
theorem op_repS : OpR X (binaryOp .Mult) rRepS := by
  intro pins s σ H x y v u Q I rx ry h
  obtain ⟨z, k, rfl, rfl, h0, h1, h2, h3, q⟩ := h
  obtain ⟨t, rfl⟩ := rx
  obtain ⟨t2, rfl⟩ := ry
  have hm : z.length * k.toNat ≤ 1000 * 1000 := Nat.mul_le_mul h3 (by omega)
  refine P.mul_str ?_ (fun a b => ?_) (fun a b => ?_) ?_
  · rw [decide_eq_false (by omega), decide_eq_false (by omega)]
    rfl
  · intro c
    have : (1000 : Int) ≤ (2 ^ 63 - 1) / k := by
      rw [Int.le_ediv_iff_mul_le (by omega)]
      omega
    omega
  · unfold Builtin.Str.tooLong
    have e : (1000 * 1000 : Nat) ≤ sizeLine := by decide
    first | exact decide_eq_false (by omega) | (simp; omega)
  · by_cases c : k < 1
    · have e : k = 0 := by omega
      subst e
      rw [if_pos (by decide)]
      exact ⟨by decide, .str _, H, I.tok _, ⟨_, rfl⟩, q⟩
    · rw [if_neg c]
      by_cases c2 : (k == 1 || z.length == 0) = true
      · have e : k = 1 := by
          simp only [Bool.or_eq_true, beq_iff_eq] at c2
          omega
        subst e
        rw [if_pos c2]
        have ez : repS z (1 : Int).toNat = z := by
          show (⟨#[] ++ z.cps⟩ : Str) = z
          rw [Array.empty_append]
        rw [ez] at q
        exact ⟨.str z, H, I, ⟨t, rfl⟩, q⟩
      · rw [if_neg c2]
        refine ⟨?_, .str _, H, I.tok _, ⟨_, rfl⟩, q⟩
        have len : ∀ (n : Nat) (acc : Array Nat), ((List.replicate n z.cps).foldl (· ++ ·) acc).size = acc.size + n * z.cps.size := by
          intro n
          induction n with
          | zero => intro acc; simp
          | succ n ih =>
            intro acc
            rw [List.replicate_succ, List.foldl_cons, ih, Array.size_append, Nat.add_mul]
            omega
        show ((List.replicate k.toNat z.cps).foldl (· ++ ·) #[]).size ≤ sizeLine
        rw [len]
        have e : (1000 * 1000 : Nat) ≤ sizeLine := by decide
        have e2 : k.toNat * z.cps.size = z.length * k.toNat := Nat.mul_comm ..
        simp
        omega
end
/-! ### data of texts -/
end L2
/-! list.pop(i), texts repeated, dict(pairs) -/
namespace S
open PySem L2
/-- l.pop(i) -/
def dPopAt (a : D) (as : List D) (st : Sto) : R D := match a, as with
  | .ptr i, [.int k] => (match st[i]? with
    | some (.lst xs) => if 0 ≤ k ∧ k < 1000000 then (match xs[k.toNat]? with
      | some d => .ok d (st.set i (.lst (xs.eraseIdx k.toNat)))
      | none => .stuck) else .stuck
    | _ => .stuck)
  | _, _ => .stuck
/-- texts are repeated, numbers multiplied -/
def dMulX (a b : D) (st : Sto) : R D := match a, b with
  | .str z, .int k => if 0 ≤ k ∧ k ≤ 1000 ∧ 1 ≤ z.length ∧ z.length ≤ 1000 then .ok (.str (repS z k.toNat)) st else .stuck
  | a, b => dMul a b st
def foldK : List (Key × D) → List Key → List D → List Key × List D
  | [], ks, ds => (ks, ds)
  | (k, v) :: r, ks, ds => foldK r (putKs k ks) (putKd k v ks ds)
section
variable {K : PySem.W.Frag} {G : GA} {Z : Gh} {X : Cx}
theorem RepL.erase : ∀ {ds : List D} {vs : List V} (k : Nat), RepL K G Z ds vs → RepL K G Z (ds.eraseIdx k) (vs.eraseIdx k)
  | [], _, _, h => by cases (show _ = _ from h); exact rfl
  | d :: ds, _, 0, ⟨v, t, e, p, q⟩ => by subst e; exact q
  | d :: ds, _, k + 1, ⟨v, t, e, p, q⟩ => by subst e; exact ⟨v, _, rfl, p, RepL.erase k q⟩
theorem ad_popAt : AdM K G dPopAt rPopAt := by
  intro E Z H st a as x xs Q R p r h
  unfold dPopAt at h
  split at h
  · rename_i i k
    obtain ⟨l, hl, rfl⟩ := p
    obtain ⟨y, rfl, ry⟩ := RepL.one r
    cases (show y = .int k from ry)
    split at h
    · rename_i ys e1
      split at h
      · rename_i hk
        split at h
        · rename_i d e2
          obtain ⟨vs, h1, h2⟩ := R.cell _ _ _ e1 hl
          obtain ⟨v, h3, h4⟩ := RepL.at h2 e2
          have lt : k.toNat < vs.length := (List.getElem?_eq_some_iff.mp h3).1
          refine ⟨l, vs, k, k.toNat, v, rfl, rfl, h1, by omega, by omega, ?_, h3, ?_⟩
          · have e : ixN vs.length k = some k.toNat := by
              unfold ixN
              rw [if_pos hk.1, if_pos (by omega)]
            exact (ixN_seq e).1
          · exact Post.now (P := rD K G) h (R.put e1 rfl hl ⟨_, upd_same, h2.erase _⟩) h4
        · exact h.elim
      · exact h.elim
    · exact h.elim
  · exact h.elim
theorem op_mulX : OpR X (binaryOp .Mult) (fun x y H Q => L2.rI CMul (fun i j => V.int (i * j)) x y H Q ∨ rRepS x y H Q) := S.OpR.or op_mul op_repS
theorem ad_mulX : Ad2 K G dMulX (fun x y H Q => L2.rI CMul (fun i j => V.int (i * j)) x y H Q ∨ rRepS x y H Q) := fun E Z H st a b x y Q R p q h => by
  unfold dMulX at h
  split at h
  · rename_i z k
    split at h
    · rename_i hk
      cases (show x = .str z from p)
      cases (show y = .int k from q)
      exact .inr ⟨z, k, rfl, rfl, hk.1, hk.2.1, hk.2.2.1, hk.2.2.2, Post.now (P := rD K G) h R rfl⟩
    · exact h.elim
  · exact .inl (ad_mul E Z H st _ _ x y Q R p q h)
theorem fold_rep : ∀ {ps : List (Key × D)} {kvs : List (Key × V)} {ks : List Key} {ds : List D} {vs : List V}, All2 (fun (a : Key × D) (b : Key × V) => a.1 = b.1 ∧ Rep K G Z a.2 b.2) ps kvs → ks.length = vs.length → RepL K G Z ds vs →
    ∃ us, mergeK (ks.zip vs) kvs = (foldK ps ks ds).1.zip us ∧ (foldK ps ks ds).1.length = us.length ∧ RepL K G Z (foldK ps ks ds).2 us
  | _, _, ks, ds, vs, .nil, hl, r => ⟨vs, rfl, hl, r⟩
  | (k, d) :: ps, (k', v) :: kvs, ks, ds, vs, .cons ⟨e, p⟩ q, hl, r => by
    cases (show k = k' from e)
    obtain ⟨z1, z2⟩ := putK_zip (k := k) (v := v) hl
    obtain ⟨us, h1, h2, h3⟩ := fold_rep q z2 (RepL.putKd (k := k) p (ks := ks) r)
    refine ⟨us, Eq.trans ?_ h1, h2, h3⟩
    unfold mergeK
    rw [List.foldl_cons, z1]
end
end S
/-! plain laws of instances that are made -/
namespace S
open PySem L2
theorem belowL_at {n : Nat} {i : Nat} : ∀ {ds : List D}, D.ptr i ∈ ds → ¬ i < n → belowL n ds = false
  | [], h, _ => by simp at h
  | d :: ds, h, hn => by
    unfold belowL
    rcases List.mem_cons.mp h with e | h
    · subst e; simp [below, hn]
    · rw [belowL_at h hn, Bool.and_false]
section
variable {c n N : Nat} {ms : MS} {ds es : List D} {ns : List Str} {st : Sto} {env : Env}
theorem new_at (hn : (D.ptr 0 :: ds).length = n) (h : ms ((D.ptr 0 :: ds).map some ++ List.replicate (N - (D.ptr 0 :: ds).length) none) [.ins c [] []] = .nx env [.ins c ns es]) (he : belowL 0 es = true) : dNewF c n (pur (mFun true N ms)) ds [] = .ok (.ins c ns es) [] := by
  have hb : belowL 0 (D.ptr 0 :: ds) = false := belowL_at (.head _) (by omega)
  have f : pur (mFun true N ms) (D.ptr 0 :: ds) [.ins c [] []] = .ok .non [.ins c ns es] := by
    unfold pur
    rw [hb, if_neg (by decide)]
    unfold mFun
    rw [h]
    show gc 1 .non [.ins c ns es] = _
    unfold gc
    split <;> rfl
  unfold dNewF dNew
  show R.bind (if (D.ptr 0 :: ds).length = n then (pur (mFun true N ms) (D.ptr 0 :: ds) [.ins c [] []]).bind _ else .stuck) _ = _
  rw [if_pos hn, f]
  show gc 0 (.ins c ns es) [.dead] = _
  unfold gc
  rw [show below 0 (.ins c ns es) = true from he]
  rfl
theorem new_nx (hb : belowL 0 ds = true) (hn : (D.ptr 0 :: ds).length = n) (h : ms ((D.ptr 0 :: ds).map some ++ List.replicate (N - (D.ptr 0 :: ds).length) none) [.ins c [] []] = .nx env [.ins c ns es]) (he : belowL 0 es = true) : pur (dNewF c n (pur (mFun true N ms))) ds st = .ok (.ins c ns es) st :=
  pur_ok hb (new_at hn h he) he
end
theorem str_len (a b : Str) : (a ++ b).length = a.length + b.length := by
  show (a.cps ++ b.cps).size = a.cps.size + b.cps.size
  rw [Array.size_append]
/-- an f-string of texts -/
theorem js_ok {env : Env} {st : Sto} : ∀ {ms : List M} {ys : List Str} {acc : Str}, All2 (fun m y => m env st = .ok (.str y) st) ms ys → acc.length + (ys.map (·.length)).sum ≤ sizeLine → mJs ms acc env st = .ok (.str (ys.foldl (· ++ ·) acc)) st
  | _, _, acc, .nil, _ => rfl
  | _, _, acc, .cons (a := m) (b := y) (as := ms) (bs := ys) h q, hl => by
    simp only [List.map_cons, List.sum_cons] at hl
    have ih := js_ok (acc := acc ++ y) q (by rw [str_len]; omega)
    unfold mJs
    rw [h]
    show (if (acc ++ y).length ≤ sizeLine then mJs ms (acc ++ y) env st else .stuck) = _
    rw [if_pos (by rw [str_len]; omega), ih]
    rfl
/-- one thing for each of range(n), nothing changes -/
theorem lc_range {t : Tg} {vs : List Nat} {mt : MB} {me : M} (f : Nat → D) {env : Env} {st : Sto} {n : Nat} (hn : n ≤ 100000) (h : ∀ k, k < n → ∃ env1, t.at (.int (k : Nat)) (wipeE env vs) st = some env1 ∧ mt env1 st = .ok true st ∧ me env1 st = .ok (f k) st) :
    mLcGo t vs mt me (rangeD 0 n) env st [] = .ok ((List.range n).map f) st := by
  have e := lc_pure (t := t) (vs := vs) (mt := mt) (me := me) (fun d => match d with | .int k => some (f k.toNat) | _ => none) (env := env) (st := st) (ds := rangeD 0 n) (acc := []) (by rw [sizeLine_eq]; simp [rangeD]; omega) fun d hd => by
    obtain ⟨k, hk, rfl⟩ := List.mem_map.mp hd
    obtain ⟨env1, h1, h2, h3⟩ := h k (List.mem_range.mp hk)
    refine ⟨env1, true, by simpa using h1, h2, fun _ => ⟨f k, h3, by simp⟩, fun h => by cases h⟩
  rw [e, List.nil_append]
  unfold rangeD
  rw [List.filterMap_map]
  congr 1
  have : ∀ l : List Nat, l.filterMap ((fun d => match d with | D.int k => some (f k.toNat) | _ => none) ∘ fun (i : Nat) => D.int (0 + i)) = l.map f := fun l => by
    induction l with
    | nil => rfl
    | cons k l ih => simp at ih ⊢; exact ih
  exact this _
theorem toPyL_of : ∀ {ys : List D} {n : Nat}, (∀ y ∈ ys, ∃ p, toPy y = some p ∧ p.canLay0 = true ∧ p.depth ≤ n) → ∃ ps, toPyL ys = some ps ∧ PyData.canLayAll0 ps = true ∧ PyData.depthAll ps ≤ n
  | [], n, _ => ⟨[], rfl, rfl, Nat.zero_le _⟩
  | y :: ys, n, h => by
    obtain ⟨p, h1, h2, h3⟩ := h y (.head _)
    obtain ⟨ps, h4, h5, h6⟩ := toPyL_of (n := n) fun z hz => h z (.tail _ hz)
    refine ⟨p :: ps, by unfold toPyL; rw [h1, h4]; rfl, by unfold PyData.canLayAll0; rw [h2, h5]; rfl, ?_⟩
    unfold PyData.depthAll
    exact Nat.max_le.mpr ⟨h3, h6⟩
/-! statements, step by step -/
section
variable {c : MB} {a b r : MS} {m : M} {d : D} {env env' : Env} {st st' : Sto} {i : Nat}
theorem if_t (h : c env st = .ok true st') : mIfS c a b env st = a env st' := by unfold mIfS; rw [h]; rfl
theorem if_f (h : c env st = .ok false st') : mIfS c a b env st = b env st' := by unfold mIfS; rw [h]; rfl
theorem seq_nx (h : a env st = .nx env' st') : mSeq a r env st = r env' st' := by unfold mSeq; rw [h]
theorem seq_rt (h : a env st = .rt d st') : mSeq a r env st = .rt d st' := by unfold mSeq; rw [h]
theorem ret_ok (h : m env st = .ok d st') : mRet m env st = .rt d st' := by unfold mRet; rw [h]
theorem set_ok (h : m env st = .ok d st') : mSet i m env st = .nx (env.set i (some d)) st' := by unfold mSet; rw [h]
theorem do_ok (h : m env st = .ok d st') : mDo m env st = .nx env st' := by unfold mDo; rw [h]
theorem seq_if_rt {st2 : Sto} (h : c env st = .ok true st') (h' : a env st' = .rt d st2) : mSeq (mIfS c a b) r env st = .rt d st2 := seq_rt (by rw [if_t h, h'])
theorem seq_if_f (h : c env st = .ok false st') : mSeq (mIfS c a mNext) r env st = r env st' := seq_nx (by rw [if_f h]; rfl)
end
section
variable {m n : M} {ma mb : MA} {d e : D} {ds : List D} {env : Env} {st st1 st2 : Sto} {k : Nat} {F f2 : List D → Sto → R D} {f : D → D → Sto → R D} {r : R D}
theorem cons_ok (h : m env st = .ok d st1) (h' : ma env st1 = .ok ds st2) : mCons m ma env st = .ok (d :: ds) st2 := by
  unfold mCons; rw [h]; show R.bind (ma env st1) _ = _; rw [h']; rfl
theorem nil_ok : mNil env st = .ok [] st := rfl
theorem call_ok (h : ma env st = .ok ds st1) (hl : ds.length = k) (hf : F ds st1 = r) : mCall k F [] ma env st = r := by
  unfold mCall; rw [h]; show (if (ds ++ []).length = k then F (ds ++ []) st1 else .stuck) = r
  rw [List.append_nil, if_pos hl, hf]
theorem bin_ok (h : m env st = .ok d st1) (h' : n env st1 = .ok e st2) : mBin f m n env st = f d e st2 := by
  unfold mBin; rw [h]; show R.bind (n env st1) _ = _; rw [h']; rfl
theorem app_ok (h : ma env st = .ok ds st1) : mApp F ma env st = F ds st1 := by
  unfold mApp; rw [h]; rfl
end
end S
/-! o[i], y = e (a pair) -/
namespace S
open PySem L2
end S
/-! d.update(e), two dicts -/
namespace S
open PySem L2
def rUpd : V → List V → Hp → VK → Prop := fun x vs H Q => ∃ a b kvs more, x = .ref a ∧ vs = [.ref b] ∧ H a = some (.dK kvs) ∧ Rd H b (.dK more) ∧ a ≠ b ∧ kvs.length + more.length ≤ sizeLine ∧ Q .non (upd H a (.dK (mergeK kvs more)))
section
variable {X : Cx}
theorem mt_upd : MtR X "dict.update" rUpd := by
  intro pins s σ H x vs v us Q I rx rv h
  obtain ⟨a, b, kvs, more, rfl, rfl, ha, hb, ne, hz, q⟩ := h
  cases (show v = Value.ref a from rx)
  obtain ⟨u, rfl, ru⟩ := rv.one
  cases (show u = Value.ref b from ru)
  obtain ⟨z1, y1, vs1, r1, d1⟩ := dk_of I.hok ha
  obtain ⟨z2, y2, vs2, r2, d2⟩ := dk_rd I.hok hb
  have l1 : vs1.length = kvs.length := r1.length.symm
  have l2 : vs2.length = more.length := r2.length.symm
  refine call_meetsIn F.slot_dict_update d1.typeIs F.entry_dict_update (F.args_dict_update_2 _ _) (meets_dict_update (mixKind X.prog X.w) a b ne y2) ⟨vs1, vs2, d1, d2, by omega, fun h' n1 n2 sb => ?_⟩
  obtain ⟨oa, _, _, ga, _⟩ := id n1
  have J := I.write (t' := s.toks) (x := a) (e := a) (o := .dK (mergeK kvs more)) (h' := h') (by rw [ha]; exact True.intro) (.inl rfl) (fun c o hc e => (sb.2 c hc).trans e) ⟨_, ga⟩ (dk_new (Nat.le_trans (length_mergeK more kvs) hz) y1 (KV.merge r2 r1) n1)
  exact ⟨.non, _, J, rfl, q⟩
end
def isDct (st : Sto) (d : D) : Bool := match d with
  | .ptr _ => (match rd st d with
    | .dct _ _ => true
    | _ => false)
  | _ => false
def mDm (f : D → List D → Sto → R D) (m : M) (n : MA) : M := fun env st => (m env st).bind fun a st1 => if isDct st1 a = true then (n env st1).bind fun as st2 => f a as st2 else .stuck
def zipK : List Key → List D → List (Key × D)
  | k :: ks, d :: ds => (k, d) :: zipK ks ds
  | _, _ => []
def dUpd (a : D) (as : List D) (st : Sto) : R D := match a, as with
  | .ptr i, [.dct js es] => (match st[i]? with
    | some (.dct ks ds) => if ks.length + js.length ≤ sizeLine then .ok .non (st.set i (.dct (foldK (zipK js es) ks ds).1 (foldK (zipK js es) ks ds).2)) else .stuck
    | _ => .stuck)
  | _, _ => .stuck
section
variable {K : PySem.W.Frag} {G : GA} {W : WX} {X : Cx} {Z : Gh} {e : Expr} {m : M}
theorem zip_rep : ∀ {js : List Key} {es : List D} {us : List V}, js.length = us.length → RepL K G Z es us → All2 (fun (a : Key × D) (b : Key × V) => a.1 = b.1 ∧ Rep K G Z a.2 b.2) (zipK js es) (js.zip us)
  | [], _, us, h, _ => by cases us with
    | nil => exact .nil
    | cons _ _ => cases h
  | j :: js, [], us, h, r => by cases (show us = [] from r); cases h
  | j :: js, d :: es, _, h, ⟨v, t, e, p, q⟩ => by
    subst e
    exact .cons ⟨rfl, p⟩ (zip_rep (Nat.succ.inj h) q)
theorem ad_upd : AdM K G dUpd rUpd := by
  intro E Z H st a as x xs Q R p r h
  unfold dUpd at h
  split at h
  · rename_i i js es
    obtain ⟨l, hl, rfl⟩ := p
    obtain ⟨y, rfl, q⟩ := RepL.one r
    split at h
    · rename_i ks ds e1
      split at h
      · rename_i hz
        obtain ⟨vs, h1, h2, h3⟩ := R.cell _ _ _ e1 hl
        obtain ⟨b, us, rfl, h4, h5, h6⟩ := q
        have hb : Z.fz l = none := R.off _ _ _ e1 rfl hl
        have ne : l ≠ b := fun z => by
          subst z
          rcases h4 with h4 | ⟨_, h4⟩
          · rw [hb] at h4; cases h4
          · rw [hb] at h4; cases h4
        obtain ⟨ws, w1, w2, w3⟩ := fold_rep (zip_rep h5 h6) h2 h3
        refine ⟨l, b, ks.zip vs, js.zip us, rfl, rfl, h1, Same.rd R.fz h4, ne, by rw [List.length_zip, List.length_zip]; omega, ?_⟩
        rw [w1]
        exact Post.now (P := rD K G) (b := .non) h (R.put e1 rfl hl ⟨ws, upd_same, w2, w3⟩) rfl
      · exact h.elim
    · exact h.elim
  · exact h.elim
theorem RelH.isDct {st : Sto} {H : Hp} {d : D} {v : V} (R : RelH K G Z H st) (r : Rep K G Z d v) (e : S.isDct st d = true) : tyV K "dict" v H := by
  unfold S.isDct at e
  split at e
  · split at e
    · rename_i i _ ks ds q
      obtain ⟨a, ha, rfl⟩ := r
      unfold rd at q
      dsimp only at q
      split at q <;> first | cases q | skip
      rename_i q'
      obtain ⟨vs, h1, _⟩ := R.cell _ _ _ q' ha
      exact .inr (.inr (.inl ⟨rfl, .inl ⟨_, h1⟩⟩))
    · cases e
  · cases e
theorem rs_dm {f : D → List D → Sto → R D} {r : V → List V → Hp → VK → Prop} {n : MA} {σ : St} {H : Hp} {Q : VK} (hf : AdM K G f r) (h : tS K G W (mDm f m n) σ H Q) : tBM K "dict" r (tS K G W m) (tSA K G W n) σ H Q :=
  rs_bind (f := fun a env st1 => if isDct st1 a = true then (n env st1).bind fun as st2 => f a as st2 else .stuck) h fun a x H1 Z env st R S p q => by
    split at q
    · rename_i hc
      exact ⟨RelH.isDct R p hc, Z, env, st, R, S, q.bind fun as st' Z' xs H' l R' p' q' => hf _ Z' H' st' a as x xs Q R' (Rep.up l a x p) p' q'⟩
    · exact q.elim
theorem pS_dm {f : D → List D → Sto → R D} {r : V → List V → Hp → VK → Prop} {n : MA} (hf : AdM X.K G f r) (h : PE X e (tBM X.K "dict" r (tS X.K G W m) (tSA X.K G W n))) : PE X e (tS X.K G W (mDm f m n)) := pe_of h fun _ _ _ => rs_dm hf
end
end S
/-! len(obj) by a class's own __len__ -/
namespace S
open PySem L2
section
variable {K : PySem.W.Frag} {G : GA} {E : XK} {X : Cx} {cs : List Nat} {F : List D → Sto → R D} {g : Addr}
end
end S
/-! plain laws: comprehensions over lists of anything, instances by keywords, texts -/
namespace S
open PySem L2
section
variable {α : Type} {t : Tg} {vs : List Nat} {mt : MB} {me : M} {env : Env} {st : Sto}
theorem lc_map (h f : α → D) : ∀ {xs : List α} {acc : List D}, acc.length + xs.length ≤ sizeLine → (∀ a ∈ xs, ∃ env1, t.at (h a) (wipeE env vs) st = some env1 ∧ mt env1 st = .ok true st ∧ me env1 st = .ok (f a) st) → mLcGo t vs mt me (xs.map h) env st acc = .ok (acc ++ xs.map f) st
  | [], acc, _, _ => by simp [mLcGo]
  | a :: xs, acc, hl, H => by
    obtain ⟨env1, e1, e2, e3⟩ := H a (.head _)
    have hl' : acc.length < sizeLine := by simp at hl; omega
    have ih := lc_map h f (xs := xs) (acc := acc ++ [f a]) (by simp at hl ⊢; omega) fun b hb => H b (.tail _ hb)
    rw [List.map_cons]
    unfold mLcGo
    simp [e1, e2, R.only, e3, hl', ih]
theorem lc_filter (h f : α → D) (p : α → Bool) : ∀ {xs : List α} {acc : List D}, acc.length + xs.length ≤ sizeLine → (∀ a ∈ xs, ∃ env1, t.at (h a) (wipeE env vs) st = some env1 ∧ mt env1 st = .ok (p a) st ∧ (p a = true → me env1 st = .ok (f a) st)) → mLcGo t vs mt me (xs.map h) env st acc = .ok (acc ++ (xs.filter p).map f) st
  | [], acc, _, _ => by simp [mLcGo]
  | a :: xs, acc, hl, H => by
    obtain ⟨env1, e1, e2, e3⟩ := H a (.head _)
    have hl' : acc.length < sizeLine := by simp at hl; omega
    rw [List.map_cons]
    cases q : p a with
    | true =>
      have ih := lc_filter h f p (xs := xs) (acc := acc ++ [f a]) (by simp at hl ⊢; omega) fun b hb => H b (.tail _ hb)
      unfold mLcGo
      simp [e1, e2, R.only, e3 q, hl', ih, q]
    | false =>
      have ih := lc_filter h f p (xs := xs) (acc := acc) (by simp at hl ⊢; omega) fun b hb => H b (.tail _ hb)
      unfold mLcGo
      simp [e1, e2, R.only, ih, q]
variable {β : Type} {t1 : Tg} {vs1 : List Nat} {mi1 : MA} {mt1 : MB}
theorem lc2_map (h : α → D) (g : α → List β) (h1 f : β → D) : ∀ {xs : List α} {acc : List D}, acc.length + (xs.flatMap g).length ≤ sizeLine → (∀ a ∈ xs, ∃ env1, t.at (h a) (wipeE env vs) st = some env1 ∧ mt env1 st = .ok true st ∧ mi1 env1 st = .ok ((g a).map h1) st ∧
      ∀ b ∈ g a, ∃ env2, t1.at (h1 b) (wipeE env1 vs1) st = some env2 ∧ mt1 env2 st = .ok true st ∧ me env2 st = .ok (f b) st) →
    mLc2Go t vs mt t1 vs1 mi1 mt1 me (xs.map h) env st acc = .ok (acc ++ (xs.flatMap g).map f) st
  | [], acc, _, _ => by simp [mLc2Go]
  | a :: xs, acc, hl, H => by
    obtain ⟨env1, e1, e2, e3, e4⟩ := H a (.head _)
    rw [List.flatMap_cons, List.length_append] at hl
    have i1 := lc_map (t := t1) (vs := vs1) (mt := mt1) (me := me) (env := env1) (st := st) h1 f (xs := g a) (acc := acc) (by omega) e4
    have ih := lc2_map h g h1 f (xs := xs) (acc := acc ++ (g a).map f) (by rw [List.length_append, List.length_map]; omega) fun b hb => H b (.tail _ hb)
    rw [List.map_cons]
    unfold mLc2Go
    simp only [e1, e2, R.only, if_true, e3, i1, ih]
    simp
end
/-! instances, arguments picked -/
section
variable {c n N : Nat} {ms : MS} {ds es fs : List D} {ns : List Str} {arr : List Nat} {st : Sto} {env : Env}
theorem newA_nx (hb : belowL 0 ds = true) (hp : pickA arr (.ptr 0 :: ds) = .ptr 0 :: es) (hn : (D.ptr 0 :: es).length = n) (h : ms ((D.ptr 0 :: es).map some ++ List.replicate (N - (D.ptr 0 :: es).length) none) [.ins c [] []] = .nx env [.ins c ns fs]) (hf : belowL 0 fs = true) : pur (dNewA c n (pur (mFun true N ms)) arr) ds st = .ok (.ins c ns fs) st := by
  refine pur_ok hb (st' := []) ?_ hf
  have hb' : belowL 0 (D.ptr 0 :: es) = false := belowL_at (.head _) (by omega)
  have f : pur (mFun true N ms) (D.ptr 0 :: es) [.ins c [] []] = .ok .non [.ins c ns fs] := by
    unfold pur
    rw [hb', if_neg (by decide)]
    unfold mFun
    rw [h]
    show gc 1 .non [.ins c ns fs] = _
    unfold gc
    split <;> rfl
  unfold dNewA
  show (if (pickA arr (.ptr 0 :: ds)).length = n then (pur (mFun true N ms) (pickA arr (.ptr 0 :: ds)) [.ins c [] []]).bind _ else .stuck) = _
  rw [hp, if_pos hn, f]
  show gc 0 (.ins c ns fs) [.dead] = _
  unfold gc
  rw [show below 0 (.ins c ns fs) = true from hf]
  rfl
end
/-! texts -/
theorem str_assoc (a b c : Str) : a ++ b ++ c = a ++ (b ++ c) := by
  show (⟨a.cps ++ b.cps ++ c.cps⟩ : Str) = ⟨a.cps ++ (b.cps ++ c.cps)⟩
  rw [Array.append_assoc]
theorem str_emp (a : Str) : Str.empty ++ a = a := by
  show (⟨#[] ++ a.cps⟩ : Str) = a
  rw [Array.empty_append]
/-- words, each once, in the order in which they come first -/
def addU (acc : List Str) : List Str → List Str
  | [] => acc
  | x :: xs => addU (if x ∈ acc then acc else acc ++ [x]) xs
theorem addU_len : ∀ (xs acc : List Str), (addU acc xs).length ≤ acc.length + xs.length
  | [], acc => by simp [addU]
  | x :: xs, acc => by
    have := addU_len xs (if x ∈ acc then acc else acc ++ [x])
    unfold addU
    split at this
    · rename_i h; rw [if_pos h]; simp; omega
    · rename_i h; rw [if_neg h]; simp at this ⊢; omega
theorem addU_nodup : ∀ (xs acc : List Str), (acc ++ xs).Nodup → addU acc xs = acc ++ xs
  | [], acc, _ => by simp [addU]
  | x :: xs, acc, h => by
    have hx : x ∉ acc := fun m => by
      rw [List.nodup_append] at h
      exact h.2.2 x m x (.head _) rfl
    unfold addU
    rw [if_neg hx, addU_nodup xs (acc ++ [x]) (by simpa using h)]
    simp
theorem any_inr {x : Str} : ∀ acc : List Str, ((acc.map fun a => (Sum.inr a : Key)).any fun y => decide (y = (Sum.inr x : Key))) = decide (x ∈ acc)
  | [] => by simp
  | a :: acc => by
    rw [List.map_cons, List.any_cons, any_inr acc]
    by_cases h : a = x
    · simp [h]
    · simp [h, Ne.symm h]
theorem repl_same {k : Key} : ∀ ks : List Str, repl k (D.bl true) (ks.map fun a => (Sum.inr a : Key)) (ks.map fun _ => D.bl true) = ks.map fun _ => D.bl true
  | [] => rfl
  | a :: ks => by
    show (if _ then _ else _) :: repl k (D.bl true) (ks.map fun a => (Sum.inr a : Key)) (ks.map fun _ => D.bl true) = _
    rw [repl_same ks]
    split <;> rfl
/-- {x: True for x in xs}, xs texts -/
theorem dc_strs {t : Tg} {vs : List Nat} {mt : MB} {mk mv : M} {env : Env} {st : Sto} : ∀ {xs acc : List Str}, acc.length + xs.length ≤ 100000 → (∀ x ∈ xs, ∃ env1, t.at (.str x) (wipeE env vs) st = some env1 ∧ mt env1 st = .ok true st ∧ mk env1 st = .ok (.str x) st ∧ mv env1 st = .ok (.bl true) st) →
    mDcGo t vs mt mk mv (xs.map D.str) env st (acc.map fun a => (Sum.inr a : Key)) (acc.map fun _ => D.bl true) = .ok ((addU acc xs).map fun a => (Sum.inr a : Key), (addU acc xs).map fun _ => D.bl true) st
  | [], acc, _, _ => by simp [mDcGo, addU]
  | x :: xs, acc, hl, H => by
    obtain ⟨env1, e1, e2, e3, e4⟩ := H x (.head _)
    have hz : acc.length < sizeLine := by rw [sizeLine_eq]; simp at hl; omega
    rw [List.map_cons]
    unfold mDcGo addU
    by_cases h : x ∈ acc
    · have ih := dc_strs (t := t) (vs := vs) (mt := mt) (mk := mk) (mv := mv) (env := env) (st := st) (xs := xs) (acc := acc) (by simp at hl; omega) fun b hb => H b (.tail _ hb)
      simp only [e1, e2, R.only, if_true, e3, e4, kOf, List.length_map, hz, putKs, putKd, any_inr, h, decide_true, repl_same, ih]
    · have ih := dc_strs (t := t) (vs := vs) (mt := mt) (mk := mk) (mv := mv) (env := env) (st := st) (xs := xs) (acc := acc ++ [x]) (by simp at hl ⊢; omega) fun b hb => H b (.tail _ hb)
      simp only [List.map_append, List.map_cons, List.map_nil] at ih
      simp only [e1, e2, R.only, if_true, e3, e4, kOf, List.length_map, hz, putKs, putKd, any_inr, h, decide_false, Bool.false_eq_true, if_false, ih]
end S
/-! try .. except (A, B): .. -/
namespace S
open PySem L2 PySem.Spec PyProof.Rows
section
variable {X : Cx} {pins : List (Addr × Obj)} {D : Ends}
end
section
variable {G : GA} {W : WX} {X : Cx} {m hm : MS} {ki : Ki}
end
end S
/-! a list times an int -/
namespace S
open PySem L2
section
variable {K : PySem.W.Frag} {G : GA} {Z : Gh} {X : Cx}
theorem RepL.times {xs : List D} {vs : List V} (h : RepL K G Z xs vs) : ∀ n : Nat, RepL K G Z (List.replicate n xs).flatten (List.replicate n vs).flatten
  | 0 => rfl
  | n + 1 => by
    rw [List.replicate_succ, List.replicate_succ, List.flatten_cons, List.flatten_cons]
    exact h.append (RepL.times h n)
end
end S
/-! list(text) -/
namespace S
open PySem L2
section
variable {K : PySem.W.Frag} {G : GA} {Z : Gh} {X : Cx}
end
end S
/-! enumerate of a list or a tuple -/
namespace S
open PySem L2
section
variable {K : PySem.W.Frag} {G : GA} {W : WX} {X : Cx} {Z : Gh}
end
end S
namespace L2
open PySem PySem.Spec PyProof.Rows
/-! ### promises under no repr -/
/-- as FnOk, at a frame that is under no repr -/
structure FnG (P : Program) (w : World) (K : PySem.W.Frag) (mg : Str → Option Value) (base : Heap) (CX : CXT) (k : Nat) (f : Addr) (fd : FuncData) (ps : List Str) (sp : Sp) : Prop where
  len : ∀ vs H Q E, sp vs H Q E → vs.length = ps.length
  run : ∀ (A : Around) (outer : List Env) (s : Shared) (H : Hp) (args : Args) (us : List Value) (vs : List V) (Q : VK) (E : XK), A.guards = some [] → Room k A → Env0 P w K mg base A outer s H → BindsTo s fd args (ps.zip us) → Vals vs us → sp vs H Q E →
    codeAny (model P w) A (.call (.ref f) args) (CR CX outer P w H s Q E) s
section
variable {P : Program} {w : World} {K : PySem.W.Frag} {mg : Str → Option Value} {base : Heap}
/-- one body, at a frame that is given -/
theorem run_at {CX : CXT} {A : Around} {outer : List Env} {k : Nat} {f : Addr} {name qual : Str} {params : Arguments} {body : List Stmt} {scope : Scope} {dV kV doc pm cdv ct oc : Value} {an od : Option Addr} {osl : Array (Option Value)} {N ps : List Str} {s : Shared} {H : Hp} {args : Args} {us : List Value} {vs : List V} {Q : VK} {E : XK} {t : TS}
    (lk : K.lookup f = some ⟨oc, od, .func (PySem.W.fnOf name qual params body scope dV kV doc pm an cdv ct), osl⟩) (hcd : PySem.W.codeIn K cdv qual = true) (S : FnScope N ps scope) (hl : vs.length = ps.length) (hr : Room (k + 1) A)
    (e0 : Env0 P w K mg base A outer s H) (hb : BindsTo s (PySem.W.fnOf name qual params body scope dV kV doc pm an cdv ct) args (ps.zip us)) (r : Vals vs us)
    (ht : PSs (cxOf CX P w K mg base N qual scope f cdv A outer s H E) body t) (hq : t { nx := fun _ H' => Q .non H', rt := Q } (start N vs) H) : codeAny (model P w) A (.call (.ref f) args) (CR CX outer P w H s Q E) s := by
  have kx : K.In s.heap := e0.mod.kin.keeps fun b o e => (e0.bs b o e).1
  have nl : s.heap.NoLimit := e0.mod.nolimit.keeps fun b o e => (e0.bs b o e).1
  refine codeAny_call_function hr.depth (kx _ _ lk) rfl S.co S.gen rfl (PySem.W.codeRec_of kx hcd) (hb _ _ _ _ ?_)
  refine wpAny_newFunctionEnv_cells S.kind ?_ fun env he s1 x => ?_
  · rintro ⟨n, v⟩ hy
    exact (S.par n (List.of_mem_zip hy).1).imp _root_.id fun q => ⟨q, PySem.W.cellsFrom_some _ _ _ (.inl q)⟩
  · subst he
    refine ⟨nl.keeps x.toInCall.keep, codeAny_func (wpAny_mono (ht.run [] s1 (start N vs) H _ (inv_start S hr.hd e0 hl r x) hq) ?_ fun _ _ z => z)⟩
    rintro (_ | _ | _ | u) s' hs
    · obtain ⟨σ', H', J, q⟩ := hs
      exact ⟨V.non, H', J.os, J.bare, J.base, J.hok, rfl, q⟩
    · exact hs.elim fun _ z => z.elim fun _ z => (show False from z.2).elim
    · exact hs.elim fun _ z => z.elim fun _ z => (show False from z.2).elim
    · obtain ⟨v, σ', H', J, rv, q⟩ := hs
      exact ⟨v, H', J.os, J.bare, J.base, J.hok, rv, q⟩
/-! ### the head, at the caller's own frame -/
section
variable {mb : Str → Option Value} {CX : CXT} {fa a : Addr} {s₁ : Shared} {vs : List Value} {ns : List Int}
/-- from a heap in which nothing but the script is tracked -/
theorem head_core (KX : K.In s₁.heap) (hns : s₁.heap.Ns mainGlobals mg) (hb : s₁.heap.Ns builtinsNs mb) (hbb : ∀ x : Str, x ≠ "__name__" → mb x = bootBuiltins x) (hlim : s₁.heap.NoLimit) (hg : s₁.gens = #[])
    (ha : s₁.heap.get? a = some { cls := .type "list", data := .seq vs.toArray }) {H : Hp} (hO : Only H) (hok : HOk P w H s₁.heap) (hA : ∀ b, H b ≠ none → b = a) (hK : H a ≠ none → K.lookup a = none)
    (run : ∀ base : Heap, Env0 P w K mg base callerA [] s₁ H → codeAny (model P w) callerA (.call (.ref fa) ⟨[.ref a], []⟩) (CR CX [] P w H s₁ (fun v _ => v = .bl true) fun _ _ _ => False) s₁)
    (hCX : ∀ e s', CX [] H s₁ (fun _ _ _ => False) e s' → False) :
    codeAny (model P w) callerA (.call (.ref fa) ⟨[.ref a], []⟩) (fun r s' => r = .ok (.ret (.bool true)) ∧ OldK s₁.heap s'.heap ∧ s'.os = s₁.os ∧ AllBare s'.gens) s₁ := by
  have free : ∀ {b : Addr}, b ≠ a → H b = none := fun {b} n => Classical.byContradiction fun q => n (hA b q)
  have dict : ∀ {b : Addr} {m : Str → Option Value}, s₁.heap.Ns b m → (hidT s₁.heap H).Ns b m := fun {b m} ⟨o, es, ep, e, d, r⟩ => ⟨o, es, ep, hidT_get e (free fun q => by
    rw [q, ha] at e
    cases e
    cases (show Data.seq vs.toArray _ = Data.dict es ep from d)), d, r⟩
  have kin : K.In (hidT s₁.heap H) := fun b o e => hidT_get (KX b o e) (by
    by_cases q : b = a
    · subst q
      exact Classical.byContradiction fun z => by rw [hK z] at e; cases e
    · exact free q)
  refine codeAny_mono (run (hidT s₁.heap H) ⟨rfl, ⟨kin, dict hns, ⟨mb, dict hb, hbb⟩, hlim.elim fun mc z => ⟨mc, dict z.1, z.2⟩⟩, fun b o e => of_hidT e, Nat.le_of_eq (hidT_size _ _), trivial, fun b z => absurd (show b ∈ ([] : List Addr) from z) (by simp), hok, .of_eq hg⟩) ?_
  rintro (e | _ | _ | _ | u) s' h
  · exact (hCX e s' h).elim
  · exact False.elim h
  · exact False.elim h
  · exact False.elim h
  · obtain ⟨v, H', os, bare, un, hok', r', q⟩ := h
    cases (show v = V.bl true from q)
    cases (show u = Value.bool true from r')
    refine ⟨rfl, OldK.of_keep fun b o e => ?_, os, bare⟩
    rcases hO b with z | ⟨ob, xs, z⟩
    · exact un.keep b o e z (fun y => absurd (show b ∈ ([] : List Addr) from y) (by simp)) (by simp)
    · have e1 := (hok b _ z).1
      rw [e] at e1
      cases e1
      exact (hok' b _ (un.frzs b _ _ z)).1
theorem head_call (KX : K.In s₁.heap) (hns : s₁.heap.Ns mainGlobals mg) (hb : s₁.heap.Ns builtinsNs mb) (hbb : ∀ x : Str, x ≠ "__name__" → mb x = bootBuiltins x) (hlim : s₁.heap.NoLimit) (hg : s₁.gens = #[])
    (ha : s₁.heap.get? a = some { cls := .type "list", data := .seq vs.toArray }) (hi : IntsAre vs ns) (hl : ns.length ≤ sizeLine)
    (run : ∀ (H : Hp) (base : Heap), Only H → SqL K H a (ns.map V.int) → Env0 P w K mg base callerA [] s₁ H → codeAny (model P w) callerA (.call (.ref fa) ⟨[.ref a], []⟩) (CR CX [] P w H s₁ (fun v _ => v = .bl true) fun _ _ _ => False) s₁)
    (hCX : ∀ H e s', CX [] H s₁ (fun _ _ _ => False) e s' → False) :
    codeAny (model P w) callerA (.call (.ref fa) ⟨[.ref a], []⟩) (fun r s' => r = .ok (.ret (.bool true)) ∧ OldK s₁.heap s'.heap ∧ s'.os = s₁.os ∧ AllBare s'.gens) s₁ := by
  have rv := vals_ints hi
  cases hk : K.lookup a with
  | some o =>
    have e := KX a o hk
    rw [ha] at e
    cases e
    have hO : Only (fun _ => none) := fun _ => .inl rfl
    exact head_core KX hns hb hbb hlim hg ha hO (fun _ _ z => by cases z) (fun _ z => absurd rfl z) (fun z => absurd rfl z)
      (fun base e0 => run _ base hO (.inr ⟨_, vs.toArray, _, hk, rfl, rfl, rfl, by rw [List.size_toArray, hi.length]; exact hl, by simpa using rv⟩) e0) fun e s' => hCX _ e s'
  | none =>
    have hO : Only (fun b => if b = a then some (.frz { cls := .type "list", data := .seq vs.toArray } (.lst (ns.map V.int))) else none) := fun b => by
      by_cases q : b = a
      · exact .inr ⟨_, _, if_pos q⟩
      · exact .inl (if_neg q)
    refine head_core KX hns hb hbb hlim hg ha hO (fun b u z => ?_) (fun b z => ?_) (fun _ => hk) (fun base e0 => run _ base hO (.inl (.inr ⟨_, if_pos rfl⟩)) e0) fun e s' => hCX _ e s'
    · by_cases q : b = a
      · cases (if_pos q).symm.trans z
        subst q
        exact ⟨ha, by rw [List.length_map]; exact hl, vs, _, rv, ha⟩
      · cases (if_neg q).symm.trans z
    · exact Classical.byContradiction fun q => z (if_neg q)
end
/-- the goal that k_head leaves, from a promise under no repr -/
theorem walk_ofG {l : PySem.W.OpenLaw} {n k : Nat} {q : Program} {loose : List Str} {XP : (Str → Option Value) → Heap → Prop} {YP : World → Heap → Prop} {d : DefRec} {K : Params → PySem.W.Frag} {CX : World → CXT} {sp : PySem.W.Frag → Sp} {x : Str}
    (hn : l.most = some n) (hn2 : n ≤ sizeLine) (hdf : d.params.defaults = []) (hr : Room k callerA) (hY : ∀ (w : World) (h : Heap), YP w h → (K w.params).In h)
    (F : ∀ (w : World) (mg : Str → Option Value) (fa : Addr) (h : Heap), (K w.params).In h → h.Ns mainGlobals mg → mg d.name = some (.ref fa) →
      ∃ fd : FuncData, (∀ (s : Shared) (u : Value), BindsTo s fd ⟨[u], []⟩ [(x, u)]) ∧ ∀ base : Heap, FnG l.prog w (K w.params) mg base (CX w) k fa fd [x] (sp (K w.params)))
    (hsp : ∀ (K : PySem.W.Frag) (H : Hp) (a : Addr) (ns : List Int), ns.length ≤ n → Only H → SqL K H a (ns.map V.int) → sp K [.ref a] H (fun v _ => v = .bl true) fun _ _ _ => False)
    (hCX : ∀ (w : World) (H : Hp) (s : Shared) (e : Value) (s' : Shared), CX w [] H s (fun _ _ _ => False) e s' → False) :
    PySem.W.WalkO q loose XP YP l.row.toRowW d [] (fun f vs => PySem.call f vs) := by
  refine Att.attach_call hn hdf fun w s₀ s₁ mg mb fa o pm cd doc a vs ns G Y ho hd hcd hmg hobj hints hlen hg => ?_
  obtain ⟨fd, hb, hF⟩ := F w mg fa _ (hY w _ Y) G.T.g hmg
  refine head_call (hY w _ Y) G.T.g G.T.b G.T.builtins G.T.nolimit hg hobj hints (Nat.le_trans hlen hn2) (fun H base hO hS e0 => ?_) fun H e s' => hCX w H s₁ e s'
  exact (hF base).run callerA [] s₁ H ⟨[.ref a], []⟩ [.ref a] [.ref a] _ _ rfl hr e0 (hb s₁ (.ref a)) (.cons rfl .nil) (hsp _ H a ns hlen hO hS)
end
end L2
namespace S
open PySem L2
section
variable {P : Program} {w : World} {K : PySem.W.Frag} {mg : Str → Option Value} {base : Heap} {G : GA}
theorem okPurG {CX : CXT} {k n : Nat} {f : Addr} {fd : FuncData} {ps : List Str} {F : List D → Sto → R D} (h : FnG P w K mg base CX k f fd ps (spS K G n F)) : FnG P w K mg base CX k f fd ps (spS K G n (pur F)) :=
  ⟨fun vs H Q E z => h.len vs H Q E (spS_pur z), fun A outer s H args us vs Q E hg hr e0 hb r z => h.run A outer s H args us vs Q E hg hr e0 hb r (spS_pur z)⟩
theorem fnSDG {fz : Bool} {x qual : Str} {params : Arguments} {body : List Stmt} {scope : Scope} {dvs : List V} {f : Addr} {fd : FuncData} {N ps : List Str} {k n : Nat} {ms : MS} (F : FunD K x qual params body scope dvs [] f fd) (S : FnScope N ps scope) (hn : n = ps.length)
    (hb : ∀ (cdv : Value) (A : Around) (outer : List PySem.Env) (s : Shared) (H : Hp) (E : XK), Room k (A.deeper (PyProof.Rows.envOfC qual scope s.heap.objs.size f cdv)) → (A.deeper (PyProof.Rows.envOfC qual scope s.heap.objs.size f cdv)).guards = some [] → PSs (cxOf (L2.CX P w) P w K mg base N qual scope f cdv A outer s H E) body (tSS K G (wE E) ms)) :
    FnG P w K mg base (L2.CX P w) (k + 1) f fd ps (spS K G n (mFun fz N.length ms)) := by
  obtain ⟨oc, od, dV, kV, doc, pm, an, cdv, ct, osl, rfl, lk, hcd, hD, hK⟩ := F.ex
  refine ⟨fun vs H Q E h => by rw [h.1, hn], fun A outer s H args us vs Q E hg hr e0 hb' r h => ?_⟩
  exact L2.run_at lk hcd S (by rw [h.1, hn]) hr e0 hb' r (hb cdv A outer s H E (hr.deeper _) hg) (sp_body h)
end
def dRepr (ds : List D) (st : Sto) : R D := match ds with
  | [.lst xs] => (match toPyL xs with
    | some ps => if (PyData.list ps).showable = true ∧ (PyData.list ps).hasDict = false ∧ (PyData.list ps).depth ≤ 50 ∧ (PyData.list ps).shown.length ≤ sizeLine then .ok (.str (PyData.list ps).shown) st else .stuck
    | none => .stuck)
  | [.tup xs] => (match toPyL xs with
    | some ps => if (PyData.tuple ps).showable = true ∧ (PyData.tuple ps).hasDict = false ∧ (PyData.tuple ps).depth ≤ 50 ∧ (PyData.tuple ps).shown.length ≤ sizeLine then .ok (.str (PyData.tuple ps).shown) st else .stuck
    | none => .stuck)
  | _ => .stuck
theorem ad_repr {K : PySem.W.Frag} {G : GA} : AdL K G dRepr (rRepr K) := by
  intro E Z H st as xs Q R r h
  have fin : ∀ {d : D} {p : PyData} {a : Addr}, Rep K G Z d (.ref a) → toPy d = some p → p.showable = true → p.hasDict = false → p.depth ≤ 50 → p.shown.length ≤ sizeLine → Post K G (rD K G) E Z (.ok (.str p.shown) st) Q → rRepr K [.ref a] H Q := fun {d p a} rp e h1 h2 h3 h4 q =>
    ⟨a, p, rfl, dp_of R.fz d _ p rp e, h1, h2, h3, h4, Post.now (P := rD K G) q R rfl⟩
  unfold dRepr at h
  split at h
  · rename_i ys
    obtain ⟨x, rfl, p⟩ := RepL.one r
    obtain ⟨a, vs, rfl, hs, rl⟩ := id p
    split at h
    · rename_i ps e
      split at h
      · rename_i c
        exact fin p (show toPy (.lst ys) = some (.list ps) by unfold toPy; rw [e]; rfl) c.1 c.2.1 c.2.2.1 c.2.2.2 h
      · exact h.elim
    · exact h.elim
  · rename_i ys
    obtain ⟨x, rfl, p⟩ := RepL.one r
    obtain ⟨a, vs, rfl, hs, rl⟩ := id p
    split at h
    · rename_i ps e
      split at h
      · rename_i c
        exact fin p (show toPy (.tup ys) = some (.tuple ps) by unfold toPy; rw [e]; rfl) c.1 c.2.1 c.2.2.1 c.2.2.2 h
      · exact h.elim
    · exact h.elim
  · exact h.elim
theorem lawSG {l : PySem.W.OpenLaw} {n k : Nat} {q : Program} {loose : List Str} {XP : (Str → Option Value) → Heap → Prop} {YP : World → Heap → Prop} {d : DefRec} {K : Params → PySem.W.Frag} {x : Str} {P : Program} {F : List D → Sto → R D}
    (hp : l.prog = P) (hn : l.most = some n) (hn2 : n ≤ sizeLine) (hdf : d.params.defaults = []) (hr : Room k callerA) (hY : ∀ (w : World) (h : Heap), YP w h → (K w.params).In h)
    (Fk : ∀ (w : World) (mg : Str → Option Value) (fa : Addr) (h : Heap), (K w.params).In h → h.Ns mainGlobals mg → mg d.name = some (.ref fa) →
      ∃ (fd : FuncData) (G : GA), (∀ f, G.ok f) ∧ (∀ (s : Shared) (u : Value), BindsTo s fd ⟨[u], []⟩ [(x, u)]) ∧ ∀ base : Heap, FnG P w (K w.params) mg base (L2.CX P w) k fa fd [x] (spS (K w.params) G 1 F))
    (hF : ∀ ns : List Int, ns.length ≤ n → ∃ st, F [.rls (ns.map D.int)] [] = .ok (.bl true) st) : PySem.W.WalkO q loose XP YP l.row.toRowW d [] (fun f vs => PySem.call f vs) := by
  subst hp
  refine L2.walk_ofG (n := n) (k := k) (x := x) (CX := fun w => L2.CX l.prog w) (sp := fun K => spAll K 1 F) (K := K) hn hn2 hdf hr hY (fun w mg fa h KX G hmg => ?_) (fun K H a ns hl hO hS => ?_) fun w H s e s' z => ?_
  · obtain ⟨fd, G', hG, hb, hk⟩ := Fk w mg fa h KX G hmg
    exact ⟨fd, hb, fun base => ⟨fun vs H Q E z => (hk base).len vs H Q E (z G' hG), fun A outer s H args us vs Q E hg hr e0 hb r z => (hk base).run A outer s H args us vs Q E hg hr e0 hb r (z G' hG)⟩⟩
  · obtain ⟨st, e⟩ := hF ns hl
    exact sp_script hS e
  · obtain ⟨_, _, _, _, _, _, _, _, _, _, _, _, h⟩ := z
    exact h
end S
/-! o[i] by a class's own __getitem__; dict(d); continue, break -/
namespace S
open PySem L2
section
variable {K : PySem.W.Frag} {G : GA} {E : XK} {X : Cx} {cs : List Nat} {F : List D → Sto → R D} {g : Addr} {W : WX}
/-! ### dict(d) -/
/-! ### continue, break -/
end
end S
/-! own exceptions over IndexError and KeyError -/
namespace L2
open PySem PySem.Spec PyProof.Rows
/-- how an own class above it is made: what lies behind the making, then the own __init__ -/
def MkOwn (n : String) (bmB : List Value) : Prop := ∀ {prog : Program} {w : World} {A : Around} {R : PySem.Result → Shared → Prop} {h : Heap} {g : Array GenState} {d : Drawn} {t : Nat} {os : OsState} {nm q : Str} {C N : Addr} {bs l : List Value} {hd : Bool} {sn : List Str} {sub : List Value} {ab : Bool} {col : Option Bool} {dd : Option Addr} {k0 k1 k2 k3 k5 : Option Value} {us : List Value} {fI : Addr},
  (∀ Y : String, l.contains (.type Y) = bmB.contains (.type Y)) → h.get? C = some (excClassObj nm q C N bs l hd sn sub ab col dd k0 k1 k2 k3 k5 n) →
    PySem.W.Looks (model prog w) h (typeLookup (.ref C) "__init__") (some (.ref fI)) → (∀ x, PySem.W.Looks (model prog w) h (bindSpecial (.ref fI) x) (.ref fI, [x])) → us.length ≤ sizeLine →
    codeAny (model prog w) (A.under (.builtin "type.__call__" ⟨.ref C :: us, []⟩)) (.call (.ref fI) ⟨.ref (h.objs.size + 1) :: us, []⟩) (PySem.W.InitBack (h.objs.size + 1) R) ⟨(h.push (PySem.W.kdv_tup us)).push (PySem.HandSPX.excO C h.objs.size), g, d, t, os⟩ →
    codeAny (model prog w) A (.call (.ref C) ⟨us, []⟩) R ⟨h, g, d, t, os⟩
/-- its bound __init__ takes what it is given -/
def BndI (n i : String) : Prop := ∀ {M : Model} {A : Around} {E : Value → Shared → Prop} {Q : Unit → Shared → Prop} {h : Heap} {g : Array GenState} {d : Drawn} {t : Nat} {os : OsState} {nm q : Str} {C N e : Addr} {oe : Obj} {bs l : List Value} {hd : Bool} {sn : List Str} {sub : List Value} {ab : Bool} {col : Option Bool} {dd : Option Addr} {k0 k1 k2 k3 k5 : Option Value} {us : List Value},
  h.get? C = some (excClassObj nm q C N bs l hd sn sub ab col dd k0 k1 k2 k3 k5 n) → h.get? e = some oe → oe.cls = .ref C → Q () ⟨h, g, d, t, os⟩ → wpAny M A (checkBoundCall i ⟨.ref e :: us, []⟩) Q E ⟨h, g, d, t, os⟩
/-- what is known of the built-in class B below: its making, its stores, its bound __init__ -/
structure XBase (B n i : String) (bm : List Value) : Prop where
  mkO : MkOwn n bm
  bi : BndI n i
  pl : PySem.plainId i = true
  en : entryFor table i = some Builtin.«BaseException.__init__»
  st : StoreFacts B bm "object.__setattr__" "object"
  kx : PySem.W.KxsFacts B i
  q1 : Manifest.canonical i ≠ "super.__init__"
/-- an own class over it -/
structure OexB (n : String) (bmB : List Value) (K : PySem.W.Frag) (C : Addr) : Prop where
  cls : ∃ nm q N bs l sn sub ab col dd k0 k1 k2 k3 k5, K.lookup C = some (excClassObj nm q C N bs l true sn sub ab col dd k0 k1 k2 k3 k5 n) ∧ PySem.W.excTail bmB l = true
  sa : PySem.W.findIn K (.ref C) "__setattr__" = some (some (.builtin "object.__setattr__"))
  exC : PySem.W.subIn K (.ref C) (.type "BaseException") = some true
  tyC : PySem.W.typeIn K (.ref C) = some (.type "type")
  kC : PySem.W.keepIn K (.ref C) = true
theorem OexB.over {n : String} {bmB : List Value} {K : PySem.W.Frag} {C : Addr} (T : OexB n bmB K C) : PySem.W.excOver K C bmB = true ∧ ∃ cd, PySem.W.clsIn K C = some cd ∧ cd.hasDict = true := by
  obtain ⟨nm, q, N, bs, l, sn, sub, ab, col, dd, k0, k1, k2, k3, k5, hC, ht⟩ := T.cls
  have e : PySem.W.clsIn K C = some { name := nm, bases := bs, mro := .ref C :: l, ns := N, qualname := q, hasDict := true, slotNames := sn, subclasses := sub, abstract := ab, collection := col, hasDel := false } := by
    unfold PySem.W.clsIn
    rw [hC] <;> rfl
  refine ⟨?_, _, e, rfl⟩
  unfold PySem.W.excOver
  rw [e]
  show (C == C && PySem.W.excTail bmB l) = true
  rw [ht, beq_self_eq_true]
  rfl
section
variable {X : Cx} {pins : List (Addr × Obj)} {σ : St} {H : Hp} {s : Shared} {a C : Addr} {f : Str} {y : V} {u : Value} {A : Around} {E : Value → Shared → Prop} {B n i : String} {bmB : List Value}
end
/-- the next __init__ of C behind D is that of the class below -/
structure SupB (B i : String) (K : PySem.W.Frag) (C D : Addr) : Prop where
  sub : PySem.W.mroIn K C (.ref D) = some true
  at_ : PySem.W.ks_superIn K C D "__init__" = some (some (.builtin i))
  ve : PySem.W.mroIn K C (.type B) = some true
section
variable {X : Cx} {D C fI : Addr} {x y f : Str} {o e : Expr} {es : List Expr} {ta : TA} {to te : TE} {p p0 p1 p2 pos pos' : Pos} {j k : Nat} {pl : Sem Bool} {body : List Stmt} {B n i : String} {bmB : List Value} {fd : FuncData} {ps : List Str} {sp : Sp} {ds : List Value} {dvs : List V} {CX : CXT}
end
/-- an own exception over B, with an __init__ that says super() and keeps one field -/
structure XnB (B n i : String) (bmB : List Value) (P : Program) (K : PySem.W.Frag) (mg : Str → Option Value) (x : Str) (C fI : Addr) (fld : Str) : Prop where
  xb : XBase B n i bmB
  g : mg x = some (.ref C)
  o : OexB n bmB K C
  iC : PySem.W.findIn K (.ref C) "__init__" = some (some (.ref fI))
  tI : PySem.W.typeIn K (.ref fI) = some (.type "function")
  na : PySem.W.findIn K (.ref C) fld = some none
  su : SupB B i K C C
  ec : ExcC K C
  cd : ∃ cd, PySem.W.clsIn K C = some cd
end L2
namespace S
open PySem L2
section
variable {P : Program} {w : World} {K : PySem.W.Frag} {mg : Str → Option Value} {base : Heap} {B n i : String} {bmB : List Value}
end
section
variable {G : GA} {W : WX} {X : Cx} {k : Nat} {fI : Addr} {fd : FuncData} {ps : List Str} {x fld : Str} {p pos pos' : Pos} {e : Expr} {m : M} {B n i : String} {bmB : List Value}
end
/-! values of handlers: and, not, a comparison -/
section
variable {G : GA} {X : Cx} {a : Addr} {oe : Obj} {cls : Value} {d : Option Addr} {pn : List (Addr × Obj)} {i : Nat} {e b : Expr} {rest : List Expr} {pos : Pos} {m n : MX}
end
end S
/-! methods and o[i] where exceptions may go anywhere (any W) -/
namespace S
open PySem L2
section
variable {G : GA} {W : WX} {X : Cx} {k n : Nat} {f g : Addr} {fd : FuncData} {ps : List Str} {F : List D → Sto → R D} {dds : List D} {dvs : List V} {ds : List Value} {pos apos : Pos} {e o : Expr} {es : List Expr} {m : MA} {mo : M}
end
end S
/-! extend by a tuple; a local's list is at rest from here on -/
namespace L2
open PySem PySem.Spec PyProof.Rows
section
variable {X : Cx}
theorem MtM.or {id : String} {r r' : V → List V → Hp → VK → Prop} (h : MtM X id r) (h' : MtM X id r') : MtM X id (fun x vs H Q => r x vs H Q ∨ r' x vs H Q) := fun pins s σ H x vs v us Q I a b q => q.elim (h pins s σ H x vs v us Q I a b) (h' pins s σ H x vs v us Q I a b)
end
end L2
namespace S
open PySem L2
section
variable {K : PySem.W.Frag} {G : GA} {W : WX} {X : Cx}
/-- from here on the list in slot i does not change any more -/
def mFzV (i : Nat) (m : MS) : MS := fun env st => match env[i]? with
  | some (some (.ptr k)) => (match st[k]? with
    | some (.lst xs) => m (env.set i (some (.lst xs))) (st.set k .dead)
    | _ => .stuck)
  | _ => .stuck
theorem set_same {σ : St} {i : Nat} {x : Option V} (h : σ[i]? = some x) : σ.set i x = σ := by
  obtain ⟨hi, e⟩ := List.getElem?_eq_some_iff.mp h
  rw [← e]
  exact List.set_getElem_self hi
theorem pS_fzv {s : Stmt} {m : MS} {i : Nat} (h : PS X s (tSS X.K G W m)) : PS X s (tSS X.K G W (mFzV i m)) :=
  ps_of h fun Dn σ H ⟨Z, env, st, R, S, q⟩ => by
    unfold mFzV at q
    split at q
    · rename_i k e
      split at q
      · rename_i xs e1
        obtain ⟨v, e2, p⟩ := S.get e
        obtain ⟨a, hp, rfl⟩ := p
        obtain ⟨vs, h1, h2⟩ := R.cell _ _ _ e1 hp
        obtain ⟨l, R'⟩ := R.frz e1 rfl hp h1
        have r : Rep X.K G _ (.lst xs) (.ref a) := ⟨a, vs, rfl, upd_same, RepL.up l _ _ h2⟩
        have S' := RepE.set r i (S.up l)
        rw [set_same e2] at S'
        exact ⟨_, _, _, R', S', q.up l⟩
      · exact q.elim
    · exact q.elim
end
end S
/-! a comprehension within a comprehension -/
namespace L2
open PySem PySem.Spec PyProof.Rows
end L2
/-! list(range(n)) -/
namespace S
open PySem L2 PySem.Spec PyProof.Rows
section
variable {K : PySem.W.Frag} {G : GA} {W : WX} {X : Cx} {Z : Gh} {e : Expr} {m : M} {p0 p1 p2 p3 pos : Pos}
end
end S
/-! a + b that may still change -/
namespace S
open PySem L2
section
variable {K : PySem.W.Frag} {G : GA}
end
end S
/-! repr of a text -/
namespace L2
open PySem PySem.Spec PyProof.Rows
end L2
namespace S
open PySem L2
def dReprX (ds : List D) (st : Sto) : R D := match ds with
  | [.str a] => if (reprText a).length ≤ sizeLine then .ok (.str (reprText a)) st else .stuck
  | _ => dRepr ds st
end S
/-! enumerate over a text or a tuple; i >> j; repr of a truth value -/
namespace L2
open PySem PySem.Spec PyProof.Rows
section
variable {P : Program} {w : World} {K : PySem.W.Frag} {elts : List Expr} {kk : Nat} {tpos : Pos}
end
end L2
namespace S
open PySem L2
section
variable {K : PySem.W.Frag} {G : GA} {W : WX} {X : Cx} {p pos : Pos}
end
end S
/-! what is reached from a local does not change any more, from a statement on -/
namespace S
open PySem L2
section
variable {X : Cx} {G : GA} {W : WX}
end
end S
/-! own exceptions over ValueError without an __init__ of their own: raised with no argument; isinstance of such a one -/
namespace L2
open PySem PySem.Spec PyProof.Rows
section
variable {X : Cx}
variable {a : Addr} {oe : Obj} {cls : Value} {d : Option Addr} {pn : List (Addr × Obj)}
end
end L2
namespace S
open PySem L2
/-- an own exception over ValueError with no __init__ of its own -/
structure Xn0 (K : PySem.W.Frag) (mg : Str → Option Value) (x : Str) (C : Addr) : Prop where
  g : mg x = some (.ref C)
  ex : PySem.W.excIn K C [.type "ValueError", .type "Exception", .type "BaseException", .type "object"] "ValueError.__new__" = true
  k : PySem.W.keepIn K (.ref C) = true
  ty : PySem.W.typeIn K (.ref C) = some (.type "type")
  ec : ExcC K C
section
variable {G : GA} {W : WX} {X : Cx} {x : Str} {p pos pos' : Pos}
end
section
variable {X : Cx} {G : GA} {i : Nat} {a : Addr} {oe : Obj} {cls : Value} {d : Option Addr} {pn : List (Addr × Obj)}
end
end S
/-! calls with defaults where exceptions may go anywhere (any W) -/
namespace S
open PySem L2 PyProof.Rows
section
variable {G : GA} {W : WX} {X : Cx} {k n l1 l2 : Nat} {f : Addr} {fd : FuncData} {ps ks : List Str} {F : List D → Sto → R D} {arr : List Nat} {dds : List D} {dvs : List V} {x : Str} {p pos : Pos} {e : Expr} {es : List Expr} {kws : List Keyword} {m mk : MA}
end
end S
/-! a list that changes behind a call: at rest during the call alone; calls of functions under no repr -/
namespace S
open PySem L2 PyProof.Rows
mutual
/-- no list within -/
def noL : D → Bool
  | .lst _ => false
  | .rls _ => false
  | .tup xs => noLL xs
  | .dct _ xs => noLL xs
  | .dkd ks xs => noLL ks && noLL xs
  | .ptp _ => false
  | .ins _ _ xs => noLL xs
  | _ => true
def noLL : List D → Bool
  | [] => true
  | d :: ds => noL d && noLL ds
end
def noLC : C → Bool
  | .lst xs => noLL xs
  | .dct _ xs => noLL xs
  | .dkd ks xs => noLL ks && noLL xs
  | .ins _ _ xs => noLL xs
  | .tab _ => true
  | .dead => true
def isDead : Option C → Bool
  | some .dead => true
  | _ => false
section
variable {K : PySem.W.Frag} {G : GA}
/-- a is no more at rest -/
def Gh.thaw (Z : Gh) (a : Addr) : Gh := ⟨fun b => if b = a then none else Z.fz b, Z.rho, Z.tmp⟩
theorem thaw_ne {Z : Gh} {a b : Addr} (h : b ≠ a) : (Z.thaw a).fz b = Z.fz b := by
  show (if b = a then none else Z.fz b) = _
  rw [if_neg h]
mutual
theorem Rep.thaw {Z : Gh} {a : Addr} {us : List V} (ha : Z.fz a = some (.lst us)) : ∀ (d : D) (v : V), noL d = true → Rep K G Z d v → Rep K G (Z.thaw a) d v
  | .non, _, _, h => h
  | .bl _, _, _, h => h
  | .int _, _, _, h => h
  | .str _, _, _, h => h
  | .cls _, _, _, h => h
  | .ptr _, _, _, h => h
  | .lst _, _, n, _ => by unfold noL at n; cases n
  | .rls _, _, n, _ => by unfold noL at n; cases n
  | .tup ds, v, n, ⟨b, vs, e, q, r⟩ => by
    unfold noL at n
    refine ⟨b, vs, e, ?_, RepL.thaw ha ds vs n r⟩
    rcases q with q | q
    · refine .inl ?_
      by_cases hb : b = a
      · subst hb
        rcases q with q | ⟨o, q⟩
        · rw [ha] at q
          cases q
        · rw [ha] at q
          cases q
      · rcases q with q | ⟨o, q⟩
        · exact .inl (by rw [thaw_ne hb]; exact q)
        · exact .inr ⟨o, by rw [thaw_ne hb]; exact q⟩
    · exact .inr q
  | .dct ks ds, v, n, ⟨b, vs, e, q, hl, r⟩ => by
    unfold noL at n
    refine ⟨b, vs, e, ?_, hl, RepL.thaw ha ds vs n r⟩
    by_cases hb : b = a
    · subst hb
      rcases q with q | ⟨o, q⟩
      · rw [ha] at q
        cases q
      · rw [ha] at q
        cases q
    · rcases q with q | ⟨o, q⟩
      · exact .inl (by rw [thaw_ne hb]; exact q)
      · exact .inr ⟨o, by rw [thaw_ne hb]; exact q⟩
  | .dkd ks ds, v, n, ⟨b, o, xs, e, q, m, r, t⟩ => by
    unfold noL at n
    rw [Bool.and_eq_true] at n
    refine ⟨b, o, xs, e, ?_, m, RepL.thaw ha ks _ n.1 r, RepL.thaw ha ds _ n.2 t⟩
    by_cases hb : b = a
    · rw [hb, ha] at q
      cases q
    · rw [thaw_ne hb]
      exact q
  | .ptp _, _, n, _ => by unfold noL at n; cases n
  | .fn _, _, _, h => h
  | .ins c ns ds, v, n, ⟨b, dx, vs, e, q, hl, r⟩ => by
    unfold noL at n
    refine ⟨b, dx, vs, e, ?_, hl, RepL.thaw ha ds vs n r⟩
    by_cases hb : b = a
    · rw [hb, ha] at q
      cases q
    · rw [thaw_ne hb]
      exact q
theorem RepL.thaw {Z : Gh} {a : Addr} {us : List V} (ha : Z.fz a = some (.lst us)) : ∀ (ds : List D) (vs : List V), noLL ds = true → RepL K G Z ds vs → RepL K G (Z.thaw a) ds vs
  | [], _, _, h => h
  | d :: ds, vs, n, ⟨v, t, e, p, q⟩ => by
    unfold noLL at n
    rw [Bool.and_eq_true] at n
    exact ⟨v, t, e, Rep.thaw ha d v n.1 p, RepL.thaw ha ds t n.2 q⟩
end
theorem RepC.thaw {Z : Gh} {a b : Addr} {us : List V} {H : Hp} (ha : Z.fz a = some (.lst us)) {c : C} (n : noLC c = true) (h : RepC K G Z H b c) : RepC K G (Z.thaw a) H b c := by
  cases c with
  | lst ds => obtain ⟨vs, h1, r⟩ := h; exact ⟨vs, h1, RepL.thaw ha ds vs n r⟩
  | dct ks ds => obtain ⟨vs, h1, h2, r⟩ := h; exact ⟨vs, h1, h2, RepL.thaw ha ds vs n r⟩
  | dkd ks ds =>
    obtain ⟨xs, h1, h2, h3, h4⟩ := h
    unfold noLC at n
    rw [Bool.and_eq_true] at n
    exact ⟨xs, h1, h2, RepL.thaw ha ks _ n.1 h3, RepL.thaw ha ds _ n.2 h4⟩
  | ins c ns ds => obtain ⟨dx, vs, h1, h2, r⟩ := h; exact ⟨dx, vs, h1, h2, RepL.thaw ha ds vs n r⟩
  | tab z =>
    obtain ⟨e0, ps, h1, h2, k⟩ := h
    refine ⟨e0, ps, h1, h2, fun pos cv y => ?_⟩
    obtain ⟨c, q1, q2⟩ := k pos cv y
    refine ⟨c, q1, ?_⟩
    rw [thaw_ne]
    · exact q2
    · rintro rfl
      rw [ha] at q2
      unfold LamX.CodeO at q2
      cases q2
  | dead => trivial
theorem RelH.thaw {Z Z2 : Gh} {H H2 : Hp} {st st' : Sto} {k : Nat} {a : Addr} {xs : List D} {us : List V} (R : RelH K G Z H st) (hk : st[k]? = some (.lst xs)) (hp : Z.rho[k]? = some a) (hu : RepL K G Z xs us) (l : Z.ex Z2) (tm : Z2.tmp = Z.tmp) (ha : Z2.fz a = some (.lst us)) (R2 : RelH K G Z2 H2 st') (hn : st'.all noLC = true) (hd : st'[k]? = some .dead) :
    Z.le (Z2.thaw a) ∧ RelH K G (Z2.thaw a) H2 (st'.set k (.lst xs)) := by
  have za : Z.fz a = none := R.off k _ a hk rfl hp
  have p2 : Z2.rho[k]? = some a := l.at hp
  have le : Z.le (Z2.thaw a) := ⟨fun b u e => by rw [thaw_ne (ne_of_none e za)]; exact l.fz _ _ e, l.rho, tm⟩
  have kl : k < st'.length := (List.getElem?_eq_some_iff.mp hd).1
  have alt : ∀ {i : Nat} {c : C}, (st'.set k (.lst xs))[i]? = some c → (i = k ∧ c = .lst xs) ∨ (i ≠ k ∧ st'[i]? = some c) := fun {i c} e => by
    by_cases hi : i = k
    · subst hi
      rw [List.getElem?_set_self kl] at e
      cases e
      exact .inl ⟨rfl, rfl⟩
    · rw [List.getElem?_set_ne (Ne.symm hi)] at e
      exact .inr ⟨hi, e⟩
  have no : ∀ {i : Nat} {c : C}, st'[i]? = some c → noLC c = true := fun {i c} e => List.all_eq_true.mp hn c (List.mem_of_getElem? e)
  have ha2 : ∀ {i : Nat} {c : C}, st'[i]? = some c → c.live = true → Z2.rho[i]? ≠ some a := fun {i c} e hl hi => by
    have := R2.off i c a e hl hi
    rw [ha] at this
    cases this
  refine ⟨le, ⟨fun b u e => ?_, by rw [List.length_set]; exact R2.len, fun i c b e hr => ?_, fun i c b e hl hr => ?_, fun i j c c' b e1 e2 h1 h2 r1 r2 => ?_, R2.tmp, fun b o e => ?_, G.mono le.fz R.lk⟩⟩
  · by_cases hb : b = a
    · subst hb
      have : (if b = b then none else Z2.fz b) = some u := e
      rw [if_pos rfl] at this
      cases this
    · rw [thaw_ne hb] at e
      exact R2.fz _ _ e
  · rcases alt e with ⟨rfl, rfl⟩ | ⟨hi, e⟩
    · have hr' : Z2.rho[i]? = some b := hr
      rw [p2] at hr'
      cases hr'
      exact ⟨us, R2.fz _ _ ha, RepL.up le _ _ hu⟩
    · exact RepC.thaw ha (no e) (R2.cell i c b e hr)
  · rcases alt e with ⟨rfl, rfl⟩ | ⟨hi, e⟩
    · have hr' : Z2.rho[i]? = some b := hr
      rw [p2] at hr'
      cases hr'
      show (if a = a then none else Z2.fz a) = none
      rw [if_pos rfl]
    · have z := R2.off i c b e hl hr
      show (if b = a then none else Z2.fz b) = none
      rw [z]
      split <;> rfl
  · rcases alt e1 with ⟨i1, c1⟩ | ⟨hi, f1⟩
    · rcases alt e2 with ⟨j1, c2⟩ | ⟨hj, f2⟩
      · rw [i1, j1]
      · have r1' : Z2.rho[i]? = some b := r1
        rw [i1, p2] at r1'
        cases r1'
        exact absurd r2 (ha2 f2 h2)
    · rcases alt e2 with ⟨j1, c2⟩ | ⟨hj, f2⟩
      · have r2' : Z2.rho[j]? = some b := r2
        rw [j1, p2] at r2'
        cases r2'
        exact absurd r1 (ha2 f1 h1)
      · exact R2.inj i j c c' b f1 f2 h1 h2 r1 r2
  · obtain ⟨t1, t2⟩ := R2.tof b o e
    refine ⟨?_, fun i c e1 hl hr => ?_⟩
    · show (if b = a then none else Z2.fz b) = none
      rw [t1]
      split <;> rfl
    · rcases alt e1 with ⟨rfl, rfl⟩ | ⟨hi, e1⟩
      · have hr' : Z2.rho[i]? = some b := hr
        rw [p2] at hr'
        cases hr'
        rw [ha] at t1
        cases t1
      · exact t2 i c e1 hl hr
end
section
variable {G : GA} {W : WX} {X : Cx} {e : Expr} {m : M}
end
/-! ### calls of functions under no repr -/
section
variable {P : Program} {w : World} {K : PySem.W.Frag} {mg : Str → Option Value} {base : Heap} {CX : CXT}
end
section
variable {G : GA} {W : WX} {X : Cx} {k n : Nat} {f : Addr} {fd : FuncData} {ps : List Str} {F : List D → Sto → R D} {x : Str} {p pos : Pos} {e : Expr} {es : List Expr} {m : MA}
theorem run_fnG {pins : List (Addr × Obj)} {σ : L2.St} {H : Hp} {s : Shared} {Q : VK} {us : List Value} {vs : List V} {sp : Sp} {E : XK} (F : FnG X.prog X.w X.K X.mg X.base (L2.CX X.prog X.w) k f fd ps sp) (hG : X.A.guards = some []) (hr : Room k X.A) (hb : Binds X.K fd ps []) (hx : PassesAt (L2.CX X.prog X.w) X σ E)
    (I : Inv X pins σ H s) (r : Vals vs us) (h : sp vs H Q E) : wpAny (model X.prog X.w) X.A (call (.ref f) us) (EP X pins σ Q) X.xe s := by
  have hl : us.length = ps.length := by rw [← r.length]; exact F.len _ _ _ _ h
  have hb' := hb s us I.kIn (by rw [List.append_nil]; exact hl)
  rw [List.append_nil] at hb'
  refine wpAny_call (codeAny_mono (F.run X.A X.stack s H ⟨us, []⟩ us vs Q E hG hr I.env0 hb' r h) fun q s' hq => ?_)
  cases q with
  | error e => exact hx pins H s e s' I hq
  | ok fl =>
    cases fl with
    | ret u => exact I.after hq
    | next => exact False.elim hq
    | brk => exact False.elim hq
    | cont => exact False.elim hq
theorem pS_callG (Fk : FnG X.prog X.w X.K X.mg X.base (L2.CX X.prog X.w) k f fd ps (spS X.K G n F)) (hG : X.A.guards = some []) (hr : Room k X.A) (hg : Gl X x) (hm : X.mg x = some (.ref f)) (hk : PySem.W.keepIn X.K (.ref f) = true) (hb : Binds X.K fd ps []) (tk : Takes X W)
    (ha : PA X (e :: es) (tSA X.K G W m)) (hdb : (x == ("__debug__" : Str)) = false := by decide) (he : starEach (e :: es) X.env = (false, eval e X.env) :: starEach es X.env := by rfl) (hpl : (backTo pos (starEach es X.env)).any (·.1) = false := by rfl) :
    PE X (.Call (.Name x p) (e :: es) [] pos) (tS X.K G W (mCall n F [] m)) := by
  refine ⟨fun pins s σ H Q I h => ?_⟩
  have h2 : tSA X.K G W m σ H (fun vs H1 => spS X.K G n F vs H1 Q (WE W σ)) := rs_bind (f := fun ds _ st1 => if (ds ++ []).length = n then F (ds ++ []) st1 else .stuck) h fun ds vs H1 Z env st R S p q => by
    split at q
    · rename_i hl
      rw [List.append_nil] at hl q
      exact ⟨p.length ▸ hl, Z, _, st, R, p, q⟩
    · exact q.elim
  refine wpAny_Call_Name_kw (ld_glob I hg hm ?_ hdb)
  refine PySem.W.callWith_K (h₀ := X.base) I.ok.mod.kin hk (thn (ha.run pos pins s σ H _ I h2) fun us s1 ⟨vs, H1, I1, r, q⟩ => ⟨I1.kIn, ?_⟩) he hpl
  exact run_fnG Fk hG hr hb (passAt tk σ) I1 r q
end
end S
/-! y = [..], a list that changes afterwards -/
namespace S
open PySem L2
section
variable {G : GA} {W : WX} {X : Cx} {tg iter elt : Expr} {ifs : List Expr} {pos : Pos} {t : Tg} {vs : List Nat} {mi : MA} {mt : MB} {me : M} {scope : Scope} {own : List (Str × Nat)}
end
end S
/-! [.. for x in d ..] over the keys of a dict that changes elsewhere: it is at rest, locked, during the comprehension alone -/
namespace S
open PySem L2 PyProof.Rows
mutual
/-- no dict within -/
def noD : D → Bool
  | .dct _ _ => false
  | .dkd _ _ => false
  | .ptp _ => false
  | .lst xs => noDL xs
  | .rls xs => noDL xs
  | .tup xs => noDL xs
  | .ins _ _ xs => noDL xs
  | _ => true
def noDL : List D → Bool
  | [] => true
  | d :: ds => noD d && noDL ds
end
def noDC : C → Bool
  | .lst xs => noDL xs
  | .dct _ xs => noDL xs
  | .dkd _ _ => false
  | .ins _ _ xs => noDL xs
  | .tab _ => true
  | .dead => true
section
variable {K : PySem.W.Frag} {G : GA}
mutual
theorem Rep.thawD {Z : Gh} {a : Addr} {od : Obj} {u : HO} (hu : ∀ vs, u ≠ .lst vs ∧ u ≠ .tup vs) (ha : Z.fz a = some (.frz od u)) : ∀ (d : D) (v : V), noD d = true → Rep K G Z d v → Rep K G (Z.thaw a) d v
  | .non, _, _, h => h
  | .bl _, _, _, h => h
  | .int _, _, _, h => h
  | .str _, _, _, h => h
  | .cls _, _, _, h => h
  | .ptr _, _, _, h => h
  | .lst ds, v, n, ⟨b, vs, e, q, r⟩ => by
    unfold noD at n
    refine ⟨b, vs, e, ?_, RepL.thawD hu ha ds vs n r⟩
    by_cases hb : b = a
    · rw [hb, ha] at q
      cases q
    · rw [thaw_ne hb]
      exact q
  | .rls ds, v, n, ⟨b, vs, e, q, r⟩ => by
    unfold noD at n
    refine ⟨b, vs, e, ?_, RepL.thawD hu ha ds vs n r⟩
    rcases q with q | q
    · refine .inl ?_
      by_cases hb : b = a
      · subst hb
        rcases q with q | ⟨o, q⟩
        · rw [ha] at q
          cases q
        · rw [ha] at q
          cases q
          exact absurd rfl (hu _).1
      · rcases q with q | ⟨o, q⟩
        · exact .inl (by rw [thaw_ne hb]; exact q)
        · exact .inr ⟨o, by rw [thaw_ne hb]; exact q⟩
    · exact .inr q
  | .tup ds, v, n, ⟨b, vs, e, q, r⟩ => by
    unfold noD at n
    refine ⟨b, vs, e, ?_, RepL.thawD hu ha ds vs n r⟩
    rcases q with q | q
    · refine .inl ?_
      by_cases hb : b = a
      · subst hb
        rcases q with q | ⟨o, q⟩
        · rw [ha] at q
          cases q
        · rw [ha] at q
          cases q
          exact absurd rfl (hu _).2
      · rcases q with q | ⟨o, q⟩
        · exact .inl (by rw [thaw_ne hb]; exact q)
        · exact .inr ⟨o, by rw [thaw_ne hb]; exact q⟩
    · exact .inr q
  | .dct ks ds, v, n, _ => by unfold noD at n; cases n
  | .dkd ks ds, v, n, _ => by unfold noD at n; cases n
  | .ptp ds, v, n, _ => by unfold noD at n; cases n
  | .fn _, _, _, h => h
  | .ins c ns ds, v, n, ⟨b, dx, vs, e, q, hl, r⟩ => by
    unfold noD at n
    refine ⟨b, dx, vs, e, ?_, hl, RepL.thawD hu ha ds vs n r⟩
    by_cases hb : b = a
    · rw [hb, ha] at q
      cases q
    · rw [thaw_ne hb]
      exact q
theorem RepL.thawD {Z : Gh} {a : Addr} {od : Obj} {u : HO} (hu : ∀ vs, u ≠ .lst vs ∧ u ≠ .tup vs) (ha : Z.fz a = some (.frz od u)) : ∀ (ds : List D) (vs : List V), noDL ds = true → RepL K G Z ds vs → RepL K G (Z.thaw a) ds vs
  | [], _, _, h => h
  | d :: ds, vs, n, ⟨v, t, e, p, q⟩ => by
    unfold noDL at n
    rw [Bool.and_eq_true] at n
    exact ⟨v, t, e, Rep.thawD hu ha d v n.1 p, RepL.thawD hu ha ds t n.2 q⟩
end
theorem RepC.thawD {Z : Gh} {a b : Addr} {od : Obj} {u : HO} {H : Hp} (hu : ∀ vs, u ≠ .lst vs ∧ u ≠ .tup vs) (ha : Z.fz a = some (.frz od u)) {c : C} (n : noDC c = true) (h : RepC K G Z H b c) : RepC K G (Z.thaw a) H b c := by
  cases c with
  | lst ds => obtain ⟨vs, h1, r⟩ := h; exact ⟨vs, h1, RepL.thawD hu ha ds vs n r⟩
  | dct ks ds => obtain ⟨vs, h1, h2, r⟩ := h; exact ⟨vs, h1, h2, RepL.thawD hu ha ds vs n r⟩
  | dkd ks ds => cases n
  | ins c ns ds => obtain ⟨dx, vs, h1, h2, r⟩ := h; exact ⟨dx, vs, h1, h2, RepL.thawD hu ha ds vs n r⟩
  | tab z =>
    obtain ⟨e0, ps, h1, h2, k⟩ := h
    refine ⟨e0, ps, h1, h2, fun pos cv y => ?_⟩
    obtain ⟨c, q1, q2⟩ := k pos cv y
    refine ⟨c, q1, ?_⟩
    rw [thaw_ne]
    · exact q2
    · rintro rfl
      rw [ha] at q2
      unfold LamX.CodeO at q2
      cases q2
  | dead => trivial
/-- the thing at p, of a cell that is let go, becomes another one that is kept -/
theorem RelH.relay {Z : Gh} {H : Hp} {st : Sto} {i : Nat} {c : C} {p : Addr} {o : HO} (R : RelH K G Z H st) (hi : st[i]? = some c) (hl : c.live = true) (hp : Z.rho[i]? = some p) :
    Z.le ⟨upd Z.fz p o, Z.rho, Z.tmp⟩ ∧ RelH K G ⟨upd Z.fz p o, Z.rho, Z.tmp⟩ (upd H p o) (st.set i .dead) := by
  have zp := R.off i c p hi hl hp
  have lt : i < st.length := (List.getElem?_eq_some_iff.mp hi).1
  have l : Z.le ⟨upd Z.fz p o, Z.rho, Z.tmp⟩ := ⟨fun b u e => by
    show upd Z.fz p o b = some u
    rw [upd_ne (ne_of_none e zp)]; exact e, ⟨[], by simp⟩, rfl⟩
  have alt : ∀ {j : Nat} {u : C}, (st.set i .dead)[j]? = some u → u.live = true → j ≠ i ∧ st[j]? = some u := fun {j u} e hu => by
    by_cases hj : j = i
    · subst hj
      rw [List.getElem?_set_self lt] at e
      cases e; cases hu
    · rw [List.getElem?_set_ne (Ne.symm hj)] at e
      exact ⟨hj, e⟩
  refine ⟨l, ⟨fun b u e => ?_, by rw [List.length_set]; exact R.len, fun j u a e1 e2 => ?_, fun j u a e1 hu e2 => ?_, fun j k u u' a e1 e2 h1 h2 r1 r2 => ?_, fun b u e => ?_, fun a u e => ⟨?_, fun j u' e1 hu => (R.tof a u e).2 j u' (alt e1 hu).2 hu⟩, G.mono l.fz R.lk⟩⟩
  · have e' : upd Z.fz p o b = some u := e
    by_cases hb : b = p
    · subst hb; rw [upd_same] at e'; cases e'; exact upd_same
    · rw [upd_ne hb] at e' ⊢; exact R.fz _ _ e'
  · cases hu : u.live with
    | false => cases u <;> first | trivial | cases hu
    | true =>
      obtain ⟨hj, e⟩ := alt e1 hu
      have ne : a ≠ p := fun z => hj (R.inj j i u c p e hi hu hl (by rw [← z]; exact e2) hp)
      exact (RepC.congr (upd_ne ne) (R.cell j u a e e2)).up l
  · obtain ⟨hj, e⟩ := alt e1 hu
    show upd Z.fz p o a = none
    have ne : a ≠ p := fun z => hj (R.inj j i u c p e hi hu hl (by rw [← z]; exact e2) hp)
    rw [upd_ne ne]
    exact R.off j u a e hu e2
  · obtain ⟨_, e⟩ := alt e1 h1
    obtain ⟨_, e'⟩ := alt e2 h2
    exact R.inj j k u u' a e e' h1 h2 r1 r2
  · have ne : b ≠ p := fun z => (R.tof b u e).2 i c hi hl (by rw [z]; exact hp)
    rw [upd_ne ne]
    exact R.tmp _ _ e
  · show upd Z.fz p o a = none
    have ne : a ≠ p := fun z => (R.tof a u e).2 i c hi hl (by rw [z]; exact hp)
    rw [upd_ne ne]; exact (R.tof a u e).1
theorem RelH.thawD {Z Z2 : Gh} {H H2 : Hp} {st st' : Sto} {k : Nat} {a : Addr} {od : Obj} {c0 : C} {u : HO} (hu : ∀ vs, u ≠ .lst vs ∧ u ≠ .tup vs) (R : RelH K G Z H st) (hk : st[k]? = some c0) (hl0 : c0.live = true) (hp : Z.rho[k]? = some a) (hc0 : ∀ Z' H', Z.le Z' → H' a = some u → RepC K G Z' H' a c0) (l : Z.ex Z2) (tm : Z2.tmp = Z.tmp)
    (ha : Z2.fz a = some (.frz od u)) (R2 : RelH K G Z2 H2 st') (hn : st'.all noDC = true) (hd : st'[k]? = some .dead) :
    Z.le (Z2.thaw a) ∧ RelH K G (Z2.thaw a) (upd H2 a u) (st'.set k c0) := by
  have za : Z.fz a = none := R.off k _ a hk hl0 hp
  have p2 : Z2.rho[k]? = some a := l.at hp
  have le : Z.le (Z2.thaw a) := ⟨fun b u e => by rw [thaw_ne (ne_of_none e za)]; exact l.fz _ _ e, l.rho, tm⟩
  have kl : k < st'.length := (List.getElem?_eq_some_iff.mp hd).1
  have alt : ∀ {i : Nat} {c : C}, (st'.set k c0)[i]? = some c → (i = k ∧ c = c0) ∨ (i ≠ k ∧ st'[i]? = some c) := fun {i c} e => by
    by_cases hi : i = k
    · subst hi
      rw [List.getElem?_set_self kl] at e
      cases e
      exact .inl ⟨rfl, rfl⟩
    · rw [List.getElem?_set_ne (Ne.symm hi)] at e
      exact .inr ⟨hi, e⟩
  have no : ∀ {i : Nat} {c : C}, st'[i]? = some c → noDC c = true := fun {i c} e => List.all_eq_true.mp hn c (List.mem_of_getElem? e)
  have ha2 : ∀ {i : Nat} {c : C}, st'[i]? = some c → c.live = true → Z2.rho[i]? ≠ some a := fun {i c} e hl hi => by
    have := R2.off i c a e hl hi
    rw [ha] at this
    cases this
  refine ⟨le, ⟨fun b u e => ?_, by rw [List.length_set]; exact R2.len, fun i c b e hr => ?_, fun i c b e hl hr => ?_, fun i j c c' b e1 e2 h1 h2 r1 r2 => ?_, fun b u e => ?_, fun b o e => ?_, G.mono le.fz R.lk⟩⟩
  · by_cases hb : b = a
    · subst hb
      have : (if b = b then none else Z2.fz b) = some u := e
      rw [if_pos rfl] at this
      cases this
    · rw [thaw_ne hb] at e
      rw [upd_ne hb]
      exact R2.fz _ _ e
  · rcases alt e with ⟨rfl, rfl⟩ | ⟨hi, e⟩
    · have hr' : Z2.rho[i]? = some b := hr
      rw [p2] at hr'
      cases hr'
      exact hc0 _ _ le upd_same
    · cases hl : c.live with
      | false => cases c <;> first | trivial | cases hl
      | true =>
        have ne : b ≠ a := fun z => ha2 e hl (by rw [← z]; exact hr)
        exact RepC.thawD hu ha (no e) (RepC.congr (upd_ne ne) (R2.cell i c b e hr))
  · rcases alt e with ⟨rfl, rfl⟩ | ⟨hi, e⟩
    · have hr' : Z2.rho[i]? = some b := hr
      rw [p2] at hr'
      cases hr'
      show (if a = a then none else Z2.fz a) = none
      rw [if_pos rfl]
    · have z := R2.off i c b e hl hr
      show (if b = a then none else Z2.fz b) = none
      rw [z]
      split <;> rfl
  · rcases alt e1 with ⟨i1, c1⟩ | ⟨hi, f1⟩
    · rcases alt e2 with ⟨j1, c2⟩ | ⟨hj, f2⟩
      · rw [i1, j1]
      · have r1' : Z2.rho[i]? = some b := r1
        rw [i1, p2] at r1'
        cases r1'
        exact absurd r2 (ha2 f2 h2)
    · rcases alt e2 with ⟨j1, c2⟩ | ⟨hj, f2⟩
      · have r2' : Z2.rho[j]? = some b := r2
        rw [j1, p2] at r2'
        cases r2'
        exact absurd r1 (ha2 f1 h1)
      · exact R2.inj i j c c' b f1 f2 h1 h2 r1 r2
  · have ne : b ≠ a := fun z => by
      have := (R2.tof b u e).1
      rw [z, ha] at this
      cases this
    rw [upd_ne ne]
    exact R2.tmp _ _ e
  · obtain ⟨t1, t2⟩ := R2.tof b o e
    refine ⟨?_, fun i c e1 hl hr => ?_⟩
    · show (if b = a then none else Z2.fz b) = none
      rw [t1]
      split <;> rfl
    · rcases alt e1 with ⟨rfl, rfl⟩ | ⟨hi, e1⟩
      · have hr' : Z2.rho[i]? = some b := hr
        rw [p2] at hr'
        cases hr'
        rw [ha] at t1
        cases t1
      · exact t2 i c e1 hl hr
end
section
variable {G : GA} {W : WX} {X : Cx} {tg elt : Expr} {ifs : List Expr} {pos : Pos} {t : Tg} {vs : List Nat} {mt : MB} {me : M} {scope : Scope} {own : List (Str × Nat)}
end
end S
/-! whatever a local names comes to rest at a statement; repr of None -/
namespace S
open PySem L2 PyProof.Rows
section
variable {G : GA} {W : WX} {X : Cx}
end
end S
/-! slices that stay cells; is, is not of bools -/
namespace S
open PySem L2
section
variable {K : PySem.W.Frag} {G : GA} {W : WX} {X : Cx} {e : Expr} {pos : Pos}
end
end S
/-! x in xs where x is any data; handlers that do something (append) with what was caught; tuples in handlers -/
namespace L2
open PySem PySem.Spec PyProof.Rows
section
variable {X : Cx}
end
end L2
namespace S
open PySem L2
section
variable {K : PySem.W.Frag} {G : GA}
end
/-! handlers: arguments, tuples, append -/
abbrev MXA := Nat → List Str → List D → MA
section
variable {G : GA} {X : Cx} {a : Addr} {oe : Obj} {cls : Value} {d : Option Addr} {pn : List (Addr × Obj)} {i k : Nat} {e : Expr} {es : List Expr} {pos : Pos} {m : MX} {n : MXA}
end
section
variable {G : GA} {W : WX} {X : Cx} {x n : Str} {cv : Value} {i : Nat} {body : List Stmt} {np pos pos' ps : Pos} {m : MS} {q : MX} {ki : Ki} {e : Expr}
end
end S
/-! list(zip(a, b)) -/
namespace S
open PySem L2
theorem ne_n {a b : Nat} (h : a < b ∨ b < a) : a ≠ b := by omega
/-- where a list of the pairs of two lists stands, while it is made; the zip and what belongs to it lie from N on -/
structure ZL (N l1 l2 L : Nat) (xs ys : Array Value) (h0 : Heap) (i : Nat) (Ts : List Addr) (h : Heap) : Prop where
  ti : IsPair h (N + 2) (.ref N) (.ref (N + 1))
  a1 : h.IsListIter N l1 i
  a2 : h.IsListIter (N + 1) l2 i
  b1 : h.IsList l1 xs
  b2 : h.IsList l2 ys
  sl : ∃ c, h.get? L = some { cls := .type "list", data := .seq (Ts.map Value.ref).toArray c }
  ln : Ts.length = i
  tp : ∀ (j : Nat) (T : Addr), Ts[j]? = some T → ∃ x y, xs[j]? = some x ∧ ys[j]? = some y ∧ IsPair h T x y
  pw : Ts.Pairwise (fun (a b : Nat) => a < b)
  rg : ∀ T ∈ Ts, L < (T : Nat)
  old : ∀ (b : Nat) (o : Obj), b < N → h0.get? b = some o → h.get? b = some o
  zz : (i = 0 ∧ IsZip h (N + 4) (N + 2) (N + 3) .none ∧ ∃ a b, IsPair h (N + 3) a b) ∨ ∃ (T : Nat) (f : Bool) (oT : Obj), IsZipHeld h (N + 4) (N + 2) (N + 3) T f ∧ h.get? T = some oT ∧ L < T
structure ZF (N L : Nat) (xs ys : Array Value) (h0 : Heap) (Ts : List Addr) (h : Heap) : Prop where
  sl : ∃ c, h.get? L = some { cls := .type "list", data := .seq (Ts.map Value.ref).toArray c }
  ln : Ts.length = min xs.size ys.size
  tp : ∀ (j : Nat) (T : Addr), Ts[j]? = some T → ∃ x y, xs[j]? = some x ∧ ys[j]? = some y ∧ IsPair h T x y
  pw : Ts.Pairwise (fun (a b : Nat) => a < b)
  rg : ∀ T ∈ Ts, L < (T : Nat)
  old : ∀ (b : Nat) (o : Obj), b < N → h0.get? b = some o → h.get? b = some o
section
variable {prog : Program} {w : World} {A : Around} {R : Result → Shared → Prop} {N l1 l2 L : Nat} {xs ys : Array Value} {h0 : Heap} {res : Value} {s0 : Shared}
theorem ZL.upd {h h' : Heap} {i : Nat} {Ts : List Addr} {x y : Value} {T' c : Nat} (tz : ∃ (T : Nat) (f : Bool) (oT : Obj), IsZipHeld h' (N + 4) (N + 2) (N + 3) T f ∧ h'.get? T = some oT ∧ L < T) (bl1 : l1 < N) (bl2 : l2 < N) (bL : N + 4 < L) (Z : ZL N l1 l2 L xs ys h0 i Ts h)
    (hx : xs[i]? = some x) (hy : ys[i]? = some y) (a1 : h'.IsListIter N l1 (i + 1)) (a2 : h'.IsListIter (N + 1) l2 (i + 1)) (hT : IsPair h' T' x y) (hT' : T' = h.objs.size) (sl : h'.get? L = some { cls := .type "list", data := .seq ((Ts ++ [T']).map Value.ref).toArray c })
    (kp : ∀ (c : Nat) (o : Obj), c ≠ L → c ≠ N + 4 → c ≠ N + 3 → c ≠ N → c ≠ N + 1 → h.get? c = some o → h'.get? c = some o) : ZL N l1 l2 L xs ys h0 (i + 1) (Ts ++ [T']) h' := by
  have lL : L < h.objs.size := by obtain ⟨c, e⟩ := Z.sl; exact Heap.lt_size e
  have keepL : ∀ {l : Nat} {us : Array Value}, l < N → h.IsList l us → h'.IsList l us := fun {l us} hl ⟨o, e, q⟩ => ⟨o, kp l o (by omega) (by omega) (by omega) (by omega) (by omega) e, q⟩
  refine ⟨kp (N + 2) _ (by omega) (by omega) (by omega) (by omega) (by omega) Z.ti, a1, a2, keepL bl1 Z.b1, keepL bl2 Z.b2, ⟨c, sl⟩, by simp [Z.ln], fun j T hj => ?_, ?_, fun T hT => ?_, fun b o hb e => kp b o (by omega) (by omega) (by omega) (by omega) (by omega) (Z.old b o hb e), .inr tz⟩
  · by_cases hj' : j < Ts.length
    · rw [List.getElem?_append_left hj'] at hj
      obtain ⟨x, y, e1, e2, e3⟩ := Z.tp j T hj
      have := Z.rg T (List.mem_of_getElem? hj)
      exact ⟨x, y, e1, e2, kp T _ (ne_n (by omega)) (ne_n (by omega)) (ne_n (by omega)) (ne_n (by omega)) (ne_n (by omega)) e3⟩
    · have hj2 : j = Ts.length := by
        have := (List.getElem?_eq_some_iff.mp hj).1
        simp at this
        omega
      subst hj2
      have : T = T' := by simpa using hj.symm
      subst this
      have := Z.ln
      exact ⟨x, y, this ▸ hx, this ▸ hy, hT⟩
  · rw [List.pairwise_append]
    refine ⟨Z.pw, by simp, fun a ha b hb => ?_⟩
    simp at hb
    subst hb
    rw [hT']
    obtain ⟨j, hj⟩ := List.getElem?_of_mem ha
    obtain ⟨x, y, _, _, e3⟩ := Z.tp j a hj
    exact Heap.lt_size e3
  · rcases List.mem_append.mp hT with h | h
    · exact Z.rg T h
    · simp at h
      rw [h, hT']
      exact lL
end
end S
namespace S
open PySem L2
section
variable {prog : Program} {w : World} {A : Around} {E : Value → Shared → Prop} {N l1 l2 : Nat} {xs ys : Array Value} {s : Shared} {Q : Value → Shared → Prop}
end
end S
namespace S
open PySem L2
section
variable {P : Program} {w : World} {h' : Heap}
end
end S
namespace S
open PySem L2
section
variable {K : PySem.W.Frag} {G : GA} {W : WX} {X : Cx}
end
end S
/-! d.get(k, z) -/
namespace S
open PySem L2
section
variable {K : PySem.W.Frag} {G : GA} {W : WX} {X : Cx} {o e f : Expr} {m n l : M} {apos cpos : Pos}
end
end S
/-! dicts by nested tuples: what their rules ask and give over the abstract heap -/
namespace S
open PySem L2 PyProof.Rows
mutual
/-- the value v is the key k -/
def NkIs (K : PySem.W.Frag) (H : Hp) : NestedKey → V → Prop
  | .none, v => v = .non
  | .num i, v => v = .int i ∨ ∃ b : Bool, v = .bl b ∧ i = (if b = true then 1 else 0)
  | .text x, v => v = .str x
  | .tup ks, v => ∃ a vs, v = .ref a ∧ SqT K H a vs ∧ NkAll K H ks vs
def NkAll (K : PySem.W.Frag) (H : Hp) : List NestedKey → List V → Prop
  | [], vs => vs = []
  | k :: ks, vs => ∃ v r, vs = v :: r ∧ NkIs K H k v ∧ NkAll K H ks r
end
section
variable {X : Cx} {pins : List (Addr × Obj)} {σ : L2.St} {H : Hp} {s : Shared}
mutual
theorem nk_is (I : Inv X pins σ H s) : ∀ (k : NestedKey) (v : V) (u : Value), NkIs X.K H k v → RelV v u → NestedIs s.heap k u
  | .none, _, _, h, r => by cases (show _ = _ from h); cases r; exact .none
  | .num i, _, _, h, r => by
    rcases (show _ ∨ _ from h) with e | ⟨b, e, q⟩
    · subst e
      obtain ⟨t, rfl⟩ := r
      exact .int i t
    · subst e
      cases r
      exact .bool q
  | .text x, _, _, h, r => by
    cases (show _ = _ from h)
    obtain ⟨t, rfl⟩ := r
    exact .text x t
  | .tup ks, _, _, h, r => by
    obtain ⟨a, vs, e, q, z⟩ := h
    subst e
    cases r
    obtain ⟨its, rv, ⟨o, ho, hc, n, hd⟩, _⟩ := I.tuple q
    exact .tup ho hc hd (by simpa using nk_all I ks vs its z rv)
theorem nk_all (I : Inv X pins σ H s) : ∀ (ks : List NestedKey) (vs : List V) (us : List Value), NkAll X.K H ks vs → Vals vs us → NestedAll s.heap ks us
  | [], _, _, h, r => by
    cases (show _ = _ from h)
    cases r
    exact .nil
  | k :: ks, _, _, h, r => by
    obtain ⟨v, t, e, p, q⟩ := h
    subst e
    cases r with
    | cons r1 r2 => exact .cons (nk_is I k v _ p r1) (nk_all I ks t _ q r2)
end
end
section
variable {K : PySem.W.Frag} {G : GA} {Z : Gh} {H : Hp}
mutual
theorem nkD_is (e : Same Z.fz H) : ∀ (d : D) (k : NestedKey) (v : V), nkD d = some k → Rep K G Z d v → NkIs K H k v
  | .non, _, _, h, r => by cases h; exact r
  | .bl b, _, _, h, r => by cases h; exact .inr ⟨b, r, rfl⟩
  | .int i, _, _, h, r => by cases h; exact .inl r
  | .str x, _, _, h, r => by cases h; exact r
  | .tup ds, _, _, h, r => by
    unfold nkD at h
    cases q : nkL ds with
    | none => rw [q] at h; cases h
    | some ks =>
      rw [q] at h
      cases h
      obtain ⟨a, vs, e1, e2, e3⟩ := r
      exact ⟨a, vs, e1, Same.sqt' e e2, nkL_is e ds ks vs q e3⟩
  | .lst _, _, _, h, _ => by unfold nkD at h; cases h
  | .rls _, _, _, h, _ => by unfold nkD at h; cases h
  | .dct _ _, _, _, h, _ => by unfold nkD at h; cases h
  | .ins _ _ _, _, _, h, _ => by unfold nkD at h; cases h
  | .ptr _, _, _, h, _ => by unfold nkD at h; cases h
  | .cls _, _, _, h, _ => by unfold nkD at h; cases h
  | .dkd _ _, _, _, h, _ => by unfold nkD at h; cases h
  | .ptp _, _, _, h, _ => by unfold nkD at h; cases h
  | .fn _, _, _, h, _ => by unfold nkD at h; cases h
theorem nkL_is (e : Same Z.fz H) : ∀ (ds : List D) (ks : List NestedKey) (vs : List V), nkL ds = some ks → RepL K G Z ds vs → NkAll K H ks vs
  | [], _, _, h, r => by cases h; exact r
  | d :: ds, ks, vs, h, r => by
    unfold nkL at h
    cases q : nkD d with
    | none => rw [q] at h; cases h
    | some k =>
      cases q2 : nkL ds with
      | none => rw [q, q2] at h; cases h
      | some ks' =>
        rw [q, q2] at h
        cases h
        obtain ⟨v, t, e1, e2, e3⟩ := r
        exact ⟨v, t, e1, nkD_is e d k v q e2, nkL_is e ds ks' t q2 e3⟩
end
end
/-- all keys of the entries are keys -/
def NKs (K : PySem.W.Frag) (H : Hp) (xs : List (NestedKey × Addr × V)) : Prop := ∀ x ∈ xs, NkIs K H x.1 (.ref x.2.1) ∧ x.1.depth ≤ 8
/-- the value behind a key -/
def valN (xs : List (NestedKey × Addr × V)) (k : NestedKey) : Option V := (xs.find? fun x => decide (x.1 = k)).map (·.2.2)
def NGet (X : Cx) (H : Hp) (a : Addr) (y : V) (r : Option V) : Prop := ∃ xs k b, Rd H a (DkO X.w a xs) ∧ NKs X.K H xs ∧ y = .ref b ∧ NkIs X.K H k y ∧ k.depth ≤ 8 ∧ r = valN xs k
section
variable {P : Program} {w : World} {H : Hp} {h : Heap} {a : Addr} {xs : List (NestedKey × Addr × V)}
end
section
variable {X : Cx} {pins : List (Addr × Obj)} {σ : L2.St} {H : Hp} {s : Shared} {a : Addr} {xs : List (NestedKey × Addr × V)}
variable {n : Nat} {A : Around} {E : Value → Shared → Prop} {y v : V} {u r : Value} {o : Option V}
theorem n_typeIs (I : Inv X pins σ H s) (e : Rd H a (DkO X.w a xs)) : s.TypeIs (.ref a) "dict" := by
  obtain ⟨⟨z1, z2, z3, us, z4, o, es, ep, z5, z6, z7, z8⟩, _⟩ := e.ok I.hok
  exact ⟨o, z5, z6.1⟩
end
end S
/-! dicts by nested tuples: what is reckoned with them -/
namespace S
open PySem PySem.W L2 PyProof.Rows
section
variable {K : PySem.W.Frag} {G : GA} {Z : Gh}
end
section
variable {G : GA} {X : Cx}
variable {W : WX} {o i e f : Expr} {m n k l : M} {pos pos' p apos cpos : Pos} {z : Nat}
theorem NGet.typeIs {pins : List (Addr × Obj)} {σ : L2.St} {H : Hp} {s : Shared} {a : Addr} {y : V} {ov : Option V} (g : NGet X H a y ov) (I : Inv X pins σ H s) : s.TypeIs (.ref a) "dict" := by
  obtain ⟨xs, k, b, e, _⟩ := g
  exact n_typeIs I e
end
end S
/-! all that is reached is at rest and locked from here on; dicts by tuples are walked -/
namespace S
open PySem L2 PyProof.Rows
mutual
def frzX : Nat → D → Sto → Option (D × Sto)
  | 0, _, _ => none
  | n + 1, d, st => match d with
    | .ptr i => (match st[i]? with
      | some (.lst xs) => (frzXL n xs (st.set i .dead)).map fun p => (.lst p.1, p.2)
      | some (.dct ks xs) => (frzXL n xs (st.set i .dead)).map fun p => (.dct ks p.1, p.2)
      | some (.dkd ks xs) => (frzXL n xs (st.set i .dead)).map fun p => (.dkd ks p.1, p.2)
      | some (.ins c ns xs) => (frzXL n xs (st.set i .dead)).map fun p => (.ins c ns p.1, p.2)
      | _ => none)
    | .lst xs => (frzXL n xs st).map fun p => (.lst p.1, p.2)
    | .tup xs => (frzXL n xs st).map fun p => (.tup p.1, p.2)
    | .dct ks xs => (frzXL n xs st).map fun p => (.dct ks p.1, p.2)
    | .dkd ks xs => (frzXL n xs st).map fun p => (.dkd ks p.1, p.2)
    | .ins c ns xs => (frzXL n xs st).map fun p => (.ins c ns p.1, p.2)
    | d => some (d, st)
def frzXL : Nat → List D → Sto → Option (List D × Sto)
  | 0, _, _ => none
  | n + 1, ds, st => match ds with
    | [] => some ([], st)
    | d :: r => match frzX n d st with
      | some (d', st1) => (frzXL n r st1).map fun p => (d' :: p.1, p.2)
      | none => none
end
section
variable {X : Cx} {G : GA} {W : WX} {e : Expr} {m : M} {pins : List (Addr × Obj)} {σ : L2.St} {s : Shared}
end
/-! ### for k in d -/
section
variable {X : Cx} {pins : List (Addr × Obj)} {σ : L2.St} {H : Hp} {s : Shared} {d : Addr} {o : Obj} {xs : List (NestedKey × Addr × V)}
end
section
variable {K : PySem.W.Frag} {G : GA} {W : WX} {X : Cx} {tg e : Expr} {m : M} {pos p : Pos}
end
/-! ### a dict comprehension whose dict may change on -/
section
variable {G : GA} {W : WX} {X : Cx} {tg iter kx vx : Expr} {ifs : List Expr} {pos : Pos} {t : Tg} {vs : List Nat} {mi : MA} {mt : MB} {mk mv : M} {scope : Scope} {own : List (Str × Nat)}
end
end S
/-! bits, places in tuples, d.pop(k, z) -/
namespace S
open PySem L2 PyProof.Rows
section
variable {K : PySem.W.Frag} {G : GA}
end
/-! ### t.index(x) -/
section
variable {K : PySem.W.Frag} {G : GA} {W : WX} {X : Cx} {e o : Expr} {m n : M} {ma : MA} {σ : L2.St} {H : Hp} {apos cpos p pos : Pos}
end
/-! ### d.pop(k, z) -/
section
variable {K : PySem.W.Frag} {G : GA} {W : WX} {X : Cx} {o e f : Expr} {m n l : M} {apos cpos : Pos}
end
end S
/-! dict(pairs) and comprehensions over dicts by tuples; {} that stays empty -/
namespace S
open PySem PySem.W L2 PyProof.Rows
section
variable {X : Cx} {pins : List (Addr × Obj)} {σ : L2.St} {H : Hp} {s : Shared}
end
section
variable {X : Cx} {G : GA} {Z : Gh}
/-! ### {} that stays empty -/
variable {W : WX} {pos : Pos}
end
end S
/-! [.. for k in d ..] over the keys of a dict by tuples that changes elsewhere -/
namespace S
open PySem L2 PyProof.Rows
section
variable {G : GA} {W : WX} {X : Cx} {tg elt : Expr} {ifs : List Expr} {pos : Pos} {t : Tg} {vs : List Nat} {mt : MB} {me : M} {scope : Scope} {own : List (Str × Nat)}
end
end S
/-! d.get(k, z), d a dict by tuples -/
namespace S
open PySem L2 PyProof.Rows
section
variable {G : GA} {W : WX} {X : Cx} {o e f : Expr} {m n l : M} {apos cpos : Pos} {z : Nat}
end
end S
/-! d[k], y = e (a pair), d a dict by tuples -/
namespace S
open PySem L2 PyProof.Rows
end S
/-! the engine in plain Lean: lots of outcomes, level by level -/
namespace S
structure Mch (κ σ ο ω β : Type) where
  begs : κ → List (σ × β)
  ends : κ → σ → List (ο × β)
  ways : κ → σ → List ω
  wkey : ω → κ
  beh : κ → σ → ω → ο → σ
  tb : κ → σ → ω → ο → β
inductive Pl (κ σ ο : Type) where
  | node (k : κ) (s : σ)
  | out (k : κ) (o : ο)
structure En (κ σ ο ω β : Type) where
  keys : List κ
  nodes : List ((κ × σ) × Nat × β)
  ws : List ((κ × σ) × ω)
  lot : κ → List (ο × Nat × β)
  lvls : List Nat
  lvl : Nat → List (Pl κ σ ο × β)
  cnt : Nat
section
variable {κ σ ο ω β : Type} [DecidableEq κ] [DecidableEq σ] [DecidableEq ο]
/-- the states to which calls come -/
inductive Rch (M : Mch κ σ ο ω β) : κ → σ → Prop
  | beg {k : κ} {p : σ × β} : p ∈ M.begs k → Rch M k p.1
  | go {k : κ} {s : σ} {w : ω} {s' : σ} {q : ο × β} : Rch M k s → w ∈ M.ways k s → Rch M (M.wkey w) s' → q ∈ M.ends (M.wkey w) s' → Rch M k (M.beh k s w q.1)
def OutK (M : Mch κ σ ο ω β) (k : κ) (o : ο) : Prop := ∃ s, Rch M k s ∧ ∃ q ∈ M.ends k s, q.1 = o
namespace En
variable (E : En κ σ ο ω β)
def put (c : Nat) (it : Pl κ σ ο × β) : En κ σ ο ω β :=
  { E with lvls := if c ∈ E.lvls then E.lvls else E.lvls ++ [c], lvl := fun x => if x = c then (if c ∈ E.lvls then E.lvl c else []) ++ [it] else E.lvl x, cnt := E.cnt + 1 }
def puts : List (Nat × Pl κ σ ο × β) → En κ σ ο ω β → En κ σ ο ω β
  | [], E => E
  | p :: L, E => puts L (E.put p.1 p.2)
def cN (nd : κ × σ) : Nat := match E.nodes.find? fun p => decide (p.1 = nd) with
  | some p => p.2.1
  | none => 0
def cO (k : κ) (o : ο) : Nat := match (E.lot k).find? fun p => decide (p.1 = o) with
  | some p => p.2.1
  | none => 0
def go (M : Mch κ σ ο ω β) (nd : κ × σ) (w : ω) (o : ο) : List (Nat × Pl κ σ ο × β) :=
  if (nd.1, M.beh nd.1 nd.2 w o) ∈ E.nodes.map (·.1) then [] else [(E.cN nd + E.cO (M.wkey w) o, .node nd.1 (M.beh nd.1 nd.2 w o), M.tb nd.1 nd.2 w o)]
def ads (M : Mch κ σ ο ω β) (c : Nat) (nd : κ × σ) (q : ο × β) : List (Nat × Pl κ σ ο × β) := if q.1 ∈ (E.lot nd.1).map (·.1) then [] else [(c + 1, .out nd.1 q.1, q.2)]
def addN (nd : κ × σ) (c : Nat) (b : β) : En κ σ ο ω β := { E with nodes := E.nodes ++ [(nd, c, b)] }
def addW (l : List ((κ × σ) × ω)) : En κ σ ο ω β := { E with ws := E.ws ++ l }
def addO (k : κ) (o : ο) (c : Nat) (b : β) : En κ σ ο ω β := { E with lot := fun x => if x = k then E.lot k ++ [(o, c, b)] else E.lot x }
def reach (M : Mch κ σ ο ω β) (c : Nat) (nd : κ × σ) (b : β) : En κ σ ο ω β :=
  if nd ∈ E.nodes.map (·.1) then E else
  ((E.addN nd c b).addW ((M.ways nd.1 nd.2).map fun w => (nd, w))).puts (((M.ends nd.1 nd.2).flatMap (E.ads M c nd)) ++ (M.ways nd.1 nd.2).flatMap fun w => (E.lot (M.wkey w)).flatMap fun o => (E.addN nd c b).go M nd w o.1)
def fix (M : Mch κ σ ο ω β) (c : Nat) (k : κ) (o : ο) (b : β) : En κ σ ο ω β :=
  if o ∈ (E.lot k).map (·.1) then E else
  (E.addO k o c b).puts ((E.ws.filter fun p => decide (M.wkey p.2 = k)).flatMap fun p => (E.addO k o c b).go M p.1 p.2 o)
def step (M : Mch κ σ ο ω β) (c : Nat) (it : Pl κ σ ο × β) : En κ σ ο ω β := match it.1 with
  | .node k s => E.reach M c (k, s) it.2
  | .out k o => E.fix M c k o it.2
def pop (c : Nat) : En κ σ ο ω β := { E with lvls := E.lvls.filter fun x => decide (x ≠ c) }
/-- what waits to be looked at -/
def Pnd (c i : Nat) (it : Pl κ σ ο × β) : Prop := ∃ x ∈ E.lvls, ∃ j, (E.lvl x)[j]? = some it ∧ (x = c → i ≤ j)
def Sat : Pl κ σ ο → Prop
  | .node k s => (k, s) ∈ E.nodes.map (·.1)
  | .out k o => o ∈ (E.lot k).map (·.1)
def Due (c i : Nat) (p : Pl κ σ ο) : Prop := E.Sat p ∨ ∃ b, E.Pnd c i (p, b)
def fx : Nat := E.nodes.length + (E.keys.map fun k => (E.lot k).length).sum
/-- the place at level c -/
def At (c i : Nat) : Prop := (c ∈ E.lvls → i ≤ (E.lvl c).length) ∧ (c ∉ E.lvls → i = 0)
variable {E}
theorem puts_keys : ∀ {L : List (Nat × Pl κ σ ο × β)} {E : En κ σ ο ω β}, (E.puts L).keys = E.keys ∧ (E.puts L).nodes = E.nodes ∧ (E.puts L).ws = E.ws ∧ (E.puts L).lot = E.lot ∧ (E.puts L).cnt = E.cnt + L.length
  | [], E => ⟨rfl, rfl, rfl, rfl, rfl⟩
  | p :: L, E => by
    obtain ⟨h1, h2, h3, h4, h5⟩ := puts_keys (L := L) (E := E.put p.1 p.2)
    refine ⟨h1, h2, h3, h4, ?_⟩
    show ((E.put p.1 p.2).puts L).cnt = _
    rw [h5]
    show E.cnt + 1 + L.length = _
    rw [List.length_cons]
    omega
/-- what a put keeps and lays -/
structure Lv (E E' : En κ σ ο ω β) (L : List (Nat × Pl κ σ ο × β)) : Prop where
  lv : ∀ x, x ∈ E'.lvls ↔ x ∈ E.lvls ∨ ∃ p ∈ L, p.1 = x
  nd : E.lvls.Nodup → E'.lvls.Nodup
  pre : ∀ x ∈ E.lvls, ∃ t, E'.lvl x = E.lvl x ++ t
  old : ∀ c i it, E.Pnd c i it → E'.Pnd c i it
  new : ∀ c i, E.At c i → ∀ p ∈ L, E'.Pnd c i p.2
  snd : ∀ c i it, E'.Pnd c i it → E.Pnd c i it ∨ ∃ p ∈ L, p.2 = it
  at_ : ∀ c i, E.At c i → E'.At c i
  len : (∀ x ∈ E.lvls, (E.lvl x).length ≤ E.cnt) → ∀ x ∈ E'.lvls, (E'.lvl x).length ≤ E'.cnt
  ll : E.lvls.length ≤ E.cnt → E'.lvls.length ≤ E'.cnt
theorem lv_nil : Lv E E [] := ⟨fun x => ⟨.inl, fun h => h.elim id fun ⟨p, hp, _⟩ => nomatch hp⟩, id, fun x _ => ⟨[], (List.append_nil _).symm⟩, fun _ _ _ h => h, fun c i h p hp => (by cases hp), fun c i it h => .inl h, fun _ _ h => h, fun h => h, id⟩
theorem put_lvl {c : Nat} {it : Pl κ σ ο × β} (x : Nat) : (E.put c it).lvl x = if x = c then (if c ∈ E.lvls then E.lvl c else []) ++ [it] else E.lvl x := rfl
theorem mem_put {c : Nat} {it : Pl κ σ ο × β} (x : Nat) : x ∈ (E.put c it).lvls ↔ x ∈ E.lvls ∨ x = c := by
  show x ∈ (if c ∈ E.lvls then E.lvls else E.lvls ++ [c]) ↔ _
  by_cases hc : c ∈ E.lvls
  · rw [if_pos hc]
    exact ⟨.inl, fun h => h.elim id fun e => e ▸ hc⟩
  · rw [if_neg hc, List.mem_append, List.mem_singleton]
theorem put_pre {c : Nat} {it : Pl κ σ ο × β} (x : Nat) (hx : x ∈ E.lvls) : ∃ t, (E.put c it).lvl x = E.lvl x ++ t := by
  rw [put_lvl]
  by_cases e : x = c
  · subst e
    rw [if_pos rfl, if_pos hx]
    exact ⟨_, rfl⟩
  · rw [if_neg e]
    exact ⟨[], (List.append_nil _).symm⟩
theorem pre_get {α : Type} {l l' t : List α} {j : Nat} {a : α} (e : l' = l ++ t) (h : l[j]? = some a) : l'[j]? = some a := by
  subst e
  have := (List.getElem?_eq_some_iff.mp h).1
  rw [List.getElem?_append_left this]
  exact h
theorem lv_put (c : Nat) (it : Pl κ σ ο × β) : Lv E (E.put c it) [(c, it)] := by
  refine ⟨fun x => ?_, fun h => ?_, fun x hx => put_pre x hx, fun c' i it' h => ?_, fun c' i h p hp => ?_, fun c' i it' h => ?_, fun c' i h => ?_, fun h x hx => ?_, fun h => ?_⟩
  · rw [mem_put]
    exact ⟨fun h => h.imp id fun e => ⟨_, List.mem_singleton.mpr rfl, e.symm⟩, fun h => h.imp id fun ⟨p, hp, e⟩ => by cases List.mem_singleton.mp hp; exact e.symm⟩
  · show (if c ∈ E.lvls then E.lvls else E.lvls ++ [c]).Nodup
    by_cases hc : c ∈ E.lvls
    · rw [if_pos hc]; exact h
    · rw [if_neg hc, List.nodup_append]
      exact ⟨h, List.nodup_cons.mpr ⟨nofun, .nil⟩, fun a ha b hb e => hc ((List.mem_singleton.mp hb) ▸ e ▸ ha)⟩
  · obtain ⟨x, hx, j, e, q⟩ := h
    obtain ⟨t, et⟩ := put_pre (E := E) (c := c) (it := it) x hx
    exact ⟨x, (mem_put x).mpr (.inl hx), j, pre_get et e, q⟩
  · cases List.mem_singleton.mp hp
    refine ⟨c, (mem_put c).mpr (.inr rfl), (if c ∈ E.lvls then E.lvl c else []).length, ?_, fun e => ?_⟩
    · rw [put_lvl, if_pos rfl, List.getElem?_append_right (Nat.le_refl _), Nat.sub_self]
      rfl
    · subst e
      by_cases hc : c ∈ E.lvls
      · rw [if_pos hc]; exact h.1 hc
      · rw [h.2 hc]; exact Nat.zero_le _
  · obtain ⟨x, hx, j, e, q⟩ := h
    rw [put_lvl] at e
    by_cases ex : x = c
    · subst ex
      rw [if_pos rfl] at e
      by_cases hj : j < (if x ∈ E.lvls then E.lvl x else []).length
      · rw [List.getElem?_append_left hj] at e
        by_cases hc : x ∈ E.lvls
        · rw [if_pos hc] at e
          exact .inl ⟨x, hc, j, e, q⟩
        · rw [if_neg hc] at hj
          exact absurd hj (Nat.not_lt_zero _)
      · rw [List.getElem?_append_right (Nat.le_of_not_lt hj)] at e
        have hm := List.mem_of_getElem? e
        exact .inr ⟨_, List.mem_singleton.mpr rfl, (List.mem_singleton.mp hm).symm⟩
    · rw [if_neg ex] at e
      have hx' := ((mem_put x).mp hx).resolve_right ex
      exact .inl ⟨x, hx', j, e, q⟩
  · refine ⟨fun hc => ?_, fun hc => ?_⟩
    · by_cases h2 : c' ∈ E.lvls
      · obtain ⟨t, et⟩ := put_pre (E := E) (c := c) (it := it) c' h2
        rw [et, List.length_append]
        exact Nat.le_trans (h.1 h2) (Nat.le_add_right _ _)
      · rw [h.2 h2]; exact Nat.zero_le _
    · exact h.2 fun h2 => hc ((mem_put c').mpr (.inl h2))
  · show ((E.put c it).lvl x).length ≤ E.cnt + 1
    rw [put_lvl]
    by_cases ex : x = c
    · subst ex
      rw [if_pos rfl, List.length_append]
      by_cases hc : x ∈ E.lvls
      · rw [if_pos hc]
        exact Nat.succ_le_succ (h x hc)
      · rw [if_neg hc]
        exact Nat.succ_le_succ (Nat.zero_le _)
    · rw [if_neg ex]
      exact Nat.le_succ_of_le (h x (((mem_put x).mp hx).resolve_right ex))
  · show (if c ∈ E.lvls then E.lvls else E.lvls ++ [c]).length ≤ E.cnt + 1
    by_cases hc : c ∈ E.lvls
    · rw [if_pos hc]; omega
    · rw [if_neg hc, List.length_append]; exact Nat.succ_le_succ h
theorem Lv.trans {E E' E'' : En κ σ ο ω β} {L L' : List (Nat × Pl κ σ ο × β)} (h1 : Lv E E' L) (h2 : Lv E' E'' L') : Lv E E'' (L ++ L') := by
  refine ⟨fun x => ?_, fun h => h2.nd (h1.nd h), fun x hx => ?_, fun c i it h => h2.old c i it (h1.old c i it h), fun c i h p hp => ?_, fun c i it h => ?_, fun c i h => h2.at_ c i (h1.at_ c i h), fun h => h2.len (h1.len h), fun h => h2.ll (h1.ll h)⟩
  · rw [h2.lv, h1.lv]
    constructor
    · rintro ((h | ⟨p, hp, e⟩) | ⟨p, hp, e⟩)
      · exact .inl h
      · exact .inr ⟨p, List.mem_append_left _ hp, e⟩
      · exact .inr ⟨p, List.mem_append_right _ hp, e⟩
    · rintro (h | ⟨p, hp, e⟩)
      · exact .inl (.inl h)
      · rcases List.mem_append.mp hp with hp | hp
        · exact .inl (.inr ⟨p, hp, e⟩)
        · exact .inr ⟨p, hp, e⟩
  · obtain ⟨t, e⟩ := h1.pre x hx
    obtain ⟨t', e'⟩ := h2.pre x ((h1.lv x).mpr (.inl hx))
    exact ⟨t ++ t', by rw [e', e, List.append_assoc]⟩
  · rcases List.mem_append.mp hp with hp | hp
    · exact h2.old c i _ (h1.new c i h p hp)
    · exact h2.new c i (h1.at_ c i h) p hp
  · rcases h2.snd c i it h with h | ⟨p, hp, e⟩
    · rcases h1.snd c i it h with h | ⟨p, hp, e⟩
      · exact .inl h
      · exact .inr ⟨p, List.mem_append_left _ hp, e⟩
    · exact .inr ⟨p, List.mem_append_right _ hp, e⟩
theorem lv_puts : ∀ (L : List (Nat × Pl κ σ ο × β)) {E : En κ σ ο ω β}, Lv E (E.puts L) L
  | [], E => lv_nil
  | p :: L, E => (lv_put p.1 p.2).trans (lv_puts L (E := E.put p.1 p.2))
end En
end
end S
/-! the engine in plain Lean: what stays true -/
namespace S
section
variable {κ σ ο ω β : Type} [DecidableEq κ] [DecidableEq σ] [DecidableEq ο]
theorem sum_le {α : Type} {f : α → Nat} {n : Nat} : ∀ {l : List α}, (∀ x ∈ l, f x ≤ n) → (l.map f).sum ≤ n * l.length
  | [], _ => Nat.zero_le _
  | a :: l, h => by
    rw [List.map_cons, List.sum_cons, List.length_cons, Nat.mul_succ]
    have := sum_le (l := l) fun x hx => h x (List.mem_cons_of_mem _ hx)
    have := h a (List.mem_cons_self ..)
    omega
theorem sum_ex {α : Type} [DecidableEq α] {f g : α → Nat} {a : α} {d : Nat} : ∀ {l : List α}, l.Nodup → a ∈ l → (∀ x, x ≠ a → g x = f x) → g a = f a + d → (l.map g).sum = (l.map f).sum + d
  | [], _, h, _, _ => nomatch h
  | b :: l, hn, h, h1, h2 => by
    rw [List.map_cons, List.sum_cons, List.map_cons, List.sum_cons]
    obtain ⟨n1, n2⟩ := List.nodup_cons.mp hn
    by_cases e : b = a
    · subst e
      rw [h2, List.map_congr_left (l := l) (f := g) (g := f) fun x hx => h1 x fun e => n1 (e ▸ hx)]
      omega
    · rw [h1 b e, sum_ex n2 ((List.mem_cons.mp h).resolve_left fun q => e q.symm) h1 h2]
      omega
theorem sum_add {α : Type} {f g : α → Nat} {P : α → Bool} (h : ∀ x, g x = f x + if P x = true then 1 else 0) : ∀ {l : List α}, (l.map g).sum = (l.map f).sum + (l.filter P).length
  | [] => rfl
  | a :: l => by
    rw [List.map_cons, List.sum_cons, List.map_cons, List.sum_cons, sum_add h (l := l), h a, List.filter_cons]
    cases P a
    · simp only [Bool.false_eq_true, if_false]; omega
    · simp only [if_true, List.length_cons]; omega
theorem len_flat {α γ : Type} {f : α → List γ} {l : List α} : (l.flatMap f).length = (l.map fun a => (f a).length).sum := List.length_flatMap
/-- unlike things out of some: no more than these -/
theorem nodup_le {α : Type} [DecidableEq α] : ∀ {l l' : List α}, l.Nodup → (∀ x ∈ l, x ∈ l') → l.length ≤ l'.length
  | [], _, _, _ => Nat.zero_le _
  | a :: l, l', hn, h => by
    obtain ⟨n1, n2⟩ := List.nodup_cons.mp hn
    have ha := h a (List.mem_cons_self ..)
    have := nodup_le (l := l) (l' := l'.erase a) n2 fun x hx => (List.mem_erase_of_ne fun e : x = a => n1 (by subst e; exact hx)).mpr (h x (List.mem_cons_of_mem _ hx))
    rw [List.length_erase_of_mem ha] at this
    have := List.length_pos_of_mem ha
    rw [List.length_cons]
    omega
/-- all that can come lies in lists -/
structure Fnt (M : Mch κ σ ο ω β) (ks : List κ) (US : κ → List σ) (UO : κ → List ο) (nW nS nO : Nat) : Prop where
  nd : ks.Nodup
  key : ∀ k ∈ ks, ∀ s ∈ US k, ∀ w ∈ M.ways k s, M.wkey w ∈ ks
  bg : ∀ k ∈ ks, ∀ p ∈ M.begs k, p.1 ∈ US k
  en : ∀ k ∈ ks, ∀ s ∈ US k, ∀ q ∈ M.ends k s, q.1 ∈ UO k
  bh : ∀ k ∈ ks, ∀ s ∈ US k, ∀ w ∈ M.ways k s, ∀ o ∈ UO (M.wkey w), M.beh k s w o ∈ US k
  lE : ∀ k s, (M.ends k s).length ≤ 2
  lW : ∀ k ∈ ks, ∀ s ∈ US k, (M.ways k s).length ≤ nW
  lS : ∀ k ∈ ks, (US k).length ≤ nS
  lO : ∀ k ∈ ks, (UO k).length ≤ nO
variable {M : Mch κ σ ο ω β} {ks : List κ} {US : κ → List σ} {UO : κ → List ο} {nW nS nO : Nat}
theorem Fnt.rch (F : Fnt M ks US UO nW nS nO) {k : κ} {s : σ} (h : Rch M k s) : k ∈ ks → s ∈ US k := by
  induction h with
  | beg hp => exact fun hk => F.bg _ hk _ hp
  | go h1 hw h2 hq ih1 ih2 =>
    intro hk
    have hs := ih1 hk
    have hk2 := F.key _ hk _ hs _ hw
    exact F.bh _ hk _ hs _ hw _ (F.en _ hk2 _ (ih2 hk2) _ hq)
theorem Fnt.out (F : Fnt M ks US UO nW nS nO) {k : κ} {o : ο} (h : OutK M k o) (hk : k ∈ ks) : o ∈ UO k := by
  obtain ⟨s, h1, q, hq, rfl⟩ := h
  exact F.en _ hk _ (F.rch h1 hk) _ hq
def Snd (M : Mch κ σ ο ω β) (ks : List κ) : Pl κ σ ο → Prop
  | .node k s => k ∈ ks ∧ Rch M k s
  | .out k o => k ∈ ks ∧ OutK M k o
def wsum (M : Mch κ σ ο ω β) (E : En κ σ ο ω β) : Nat := (E.ws.map fun p => (E.lot (M.wkey p.2)).length).sum
/-- what is true between two looks -/
structure Iv (M : Mch κ σ ο ω β) (b0 : Nat) (E : En κ σ ο ω β) (c i : Nat) : Prop where
  nd : E.lvls.Nodup
  ge : ∀ x ∈ E.lvls, c ≤ x
  at_ : E.At c i
  nn : (E.nodes.map (·.1)).Nodup
  on : ∀ k, ((E.lot k).map (·.1)).Nodup
  s1 : ∀ p ∈ E.nodes, p.1.1 ∈ E.keys ∧ Rch M p.1.1 p.1.2
  s2 : ∀ k, ∀ p ∈ E.lot k, k ∈ E.keys ∧ OutK M k p.1
  s3 : ∀ it, E.Pnd c i it → Snd M E.keys it.1
  wss : E.ws = E.nodes.flatMap fun p => (M.ways p.1.1 p.1.2).map fun w => (p.1, w)
  c1 : ∀ k ∈ E.keys, ∀ p ∈ M.begs k, E.Due c i (.node k p.1)
  c2 : ∀ p ∈ E.nodes, ∀ q ∈ M.ends p.1.1 p.1.2, E.Due c i (.out p.1.1 q.1)
  c4 : ∀ p ∈ E.nodes, ∀ w ∈ M.ways p.1.1 p.1.2, ∀ o ∈ E.lot (M.wkey w), E.Due c i (.node p.1.1 (M.beh p.1.1 p.1.2 w o.1))
  cn : E.cnt ≤ b0 + 2 * E.nodes.length + wsum M E
  len : ∀ x ∈ E.lvls, (E.lvl x).length ≤ E.cnt
  ll : E.lvls.length ≤ E.cnt
  x1 : ∀ x ∈ E.lvls, x ≤ 2 ^ E.fx
  x2 : ∀ p ∈ E.nodes, p.2.1 ≤ 2 ^ E.fx
  x3 : ∀ k, ∀ p ∈ E.lot k, p.2.1 ≤ 2 ^ E.fx
namespace En
variable {E E' : En κ σ ο ω β} {c i : Nat}
theorem cN_le {n : Nat} (h : ∀ p ∈ E.nodes, p.2.1 ≤ n) (nd : κ × σ) : E.cN nd ≤ n := by
  unfold cN
  split
  · exact h _ (List.mem_of_find?_eq_some (by assumption))
  · exact Nat.zero_le _
theorem cO_le {n : Nat} {k : κ} (h : ∀ p ∈ E.lot k, p.2.1 ≤ n) (o : ο) : E.cO k o ≤ n := by
  unfold cO
  split
  · exact h _ (List.mem_of_find?_eq_some (by assumption))
  · exact Nat.zero_le _
/-- looked at: the item at i is behind -/
theorem pnd_next {it : Pl κ σ ο × β} {it0 : Pl κ σ ο × β} (h : E.Pnd c i it) (h0 : (E.lvl c)[i]? = some it0) : it = it0 ∨ E.Pnd c (i + 1) it := by
  obtain ⟨x, hx, j, e, q⟩ := h
  by_cases hj : x = c ∧ j = i
  · obtain ⟨rfl, rfl⟩ := hj
    rw [h0] at e
    exact .inl (Option.some.inj e).symm
  · refine .inr ⟨x, hx, j, e, fun ex => ?_⟩
    have := q ex
    have : j ≠ i := fun ej => hj ⟨ex, ej⟩
    omega
theorem pnd_back {it : Pl κ σ ο × β} (h : E.Pnd c (i + 1) it) : E.Pnd c i it := by
  obtain ⟨x, hx, j, e, q⟩ := h
  exact ⟨x, hx, j, e, fun ex => Nat.le_of_succ_le (q ex)⟩
end En
open En
theorem Lv.due {E E0 : En κ σ ο ω β} {L : List (Nat × Pl κ σ ο × β)} {c i : Nat} {p : Pl κ σ ο} (L1 : En.Lv E0 E L) (h : E0.Due c i p) (hs : E0.Sat p → E.Sat p) : E.Due c i p :=
  h.imp hs fun ⟨b, hb⟩ => ⟨b, L1.old _ _ _ hb⟩
theorem due_next {E : En κ σ ο ω β} {it0 : Pl κ σ ο × β} {c i : Nat} {p : Pl κ σ ο} (h : E.Due c i p) (h0 : (E.lvl c)[i]? = some it0) (hs : E.Sat it0.1) : E.Due c (i + 1) p := by
  rcases h with h | ⟨b, h⟩
  · exact .inl h
  · rcases pnd_next h h0 with e | h
    · exact .inl (by subst e; exact hs)
    · exact .inr ⟨b, h⟩
theorem At.next {E : En κ σ ο ω β} {c i : Nat} (hc : c ∈ E.lvls) (hi : i < (E.lvl c).length) : E.At c (i + 1) := ⟨fun _ => hi, fun h => absurd hc h⟩
theorem pw {f : Nat} : 2 ^ f ≤ 2 ^ (f + 1) ∧ 2 ^ f + 2 ^ f ≤ 2 ^ (f + 1) ∧ 1 ≤ 2 ^ f := by
  have : 2 ^ (f + 1) = 2 ^ f + 2 ^ f := by rw [Nat.pow_succ]; omega
  have := Nat.one_le_two_pow (n := f)
  omega
/-- the item was there -/
theorem Iv.skip {b0 : Nat} {E : En κ σ ο ω β} {c i : Nat} {it : Pl κ σ ο × β} (I : Iv M b0 E c i) (hc : c ∈ E.lvls) (h0 : (E.lvl c)[i]? = some it) (hs : E.Sat it.1) : Iv M b0 E c (i + 1) :=
  { I with
    at_ := At.next hc (List.getElem?_eq_some_iff.mp h0).1
    s3 := fun it' h => I.s3 it' (pnd_back h)
    c1 := fun k hk p hp => due_next (I.c1 k hk p hp) h0 hs
    c2 := fun p hp q hq => due_next (I.c2 p hp q hq) h0 hs
    c4 := fun p hp w hw o ho => due_next (I.c4 p hp w hw o ho) h0 hs }
theorem mem_ads {E : En κ σ ο ω β} {c : Nat} {nd : κ × σ} {q : ο × β} {x : Nat × Pl κ σ ο × β} (h : x ∈ E.ads M c nd q) : x = (c + 1, .out nd.1 q.1, q.2) := by
  unfold En.ads at h
  split at h
  · cases h
  · exact List.mem_singleton.mp h
theorem mem_go {E : En κ σ ο ω β} {nd : κ × σ} {w : ω} {o : ο} {x : Nat × Pl κ σ ο × β} (h : x ∈ E.go M nd w o) : x = (E.cN nd + E.cO (M.wkey w) o, .node nd.1 (M.beh nd.1 nd.2 w o), M.tb nd.1 nd.2 w o) := by
  unfold En.go at h
  split at h
  · cases h
  · exact List.mem_singleton.mp h
theorem len_ads {E : En κ σ ο ω β} {c : Nat} {nd : κ × σ} {q : ο × β} : (E.ads M c nd q).length ≤ 1 := by
  unfold En.ads
  split
  · exact Nat.zero_le _
  · exact Nat.le_refl _
theorem len_go {E : En κ σ ο ω β} {nd : κ × σ} {w : ω} {o : ο} : (E.go M nd w o).length ≤ 1 := by
  unfold En.go
  split
  · exact Nat.zero_le _
  · exact Nat.le_refl _
theorem Iv.reach {b0 : Nat} {E : En κ σ ο ω β} {c i : Nat} {k : κ} {s : σ} {b : β} (F : Fnt M E.keys US UO nW nS nO) (I : Iv M b0 E c i) (hc : c ∈ E.lvls) (h0 : (E.lvl c)[i]? = some (.node k s, b)) : Iv M b0 (E.reach M c (k, s) b) c (i + 1) := by
  unfold En.reach
  by_cases hm : (k, s) ∈ E.nodes.map (·.1)
  · rw [if_pos hm]
    exact I.skip hc h0 hm
  rw [if_neg hm]
  have hi := (List.getElem?_eq_some_iff.mp h0).1
  obtain ⟨hk, hr⟩ : k ∈ E.keys ∧ Rch M k s := I.s3 (.node k s, b) ⟨c, hc, i, h0, fun _ => Nat.le_refl _⟩
  generalize eL : (((M.ends k s).flatMap (E.ads M c (k, s))) ++ (M.ways k s).flatMap fun w => (E.lot (M.wkey w)).flatMap fun o => (E.addN (k, s) c b).go M (k, s) w o.1) = L
  generalize eE : ((E.addN (k, s) c b).addW ((M.ways k s).map fun w => ((k, s), w))) = E0
  have e0 : E0.keys = E.keys ∧ E0.nodes = E.nodes ++ [((k, s), c, b)] ∧ E0.ws = E.ws ++ (M.ways k s).map (fun w => ((k, s), w)) ∧ E0.lot = E.lot ∧ E0.cnt = E.cnt ∧ E0.lvls = E.lvls ∧ E0.lvl = E.lvl := by subst eE; exact ⟨rfl, rfl, rfl, rfl, rfl, rfl, rfl⟩
  obtain ⟨k1, k2, k3, k4, k5, k6, k7⟩ := e0
  show Iv M b0 (E0.puts L) c (i + 1)
  obtain ⟨p1, p2, p3, p4, p5⟩ := puts_keys (L := L) (E := E0)
  have V := lv_puts L (E := E0)
  generalize E0.puts L = E' at p1 p2 p3 p4 p5 V ⊢
  rw [k1] at p1; rw [k2] at p2; rw [k3] at p3; rw [k4] at p4; rw [k5] at p5
  have at0 : E0.At c (i + 1) := by unfold En.At; rw [k6, k7]; exact At.next hc hi
  have pn0 : ∀ c i it, E0.Pnd c i it ↔ E.Pnd c i it := fun c i it => by unfold En.Pnd; rw [k6, k7]
  have st : ∀ p, E.Sat p → E'.Sat p := fun p h => by
    cases p with
    | node k' s' => show _ ∈ E'.nodes.map _; rw [p2, List.map_append]; exact List.mem_append_left _ h
    | out k' o' => show _ ∈ (E'.lot k').map _; rw [p4]; exact h
  have hN : E'.Sat (.node k s) := by show _ ∈ E'.nodes.map _; rw [p2, List.map_append]; exact List.mem_append_right _ (List.mem_singleton.mpr rfl)
  have dn : ∀ p, E.Due c i p → E'.Due c (i + 1) p := fun p h => by
    rcases h with h | ⟨b', h⟩
    · exact .inl (st p h)
    · rcases pnd_next h h0 with e | h
      · cases e; exact .inl hN
      · exact .inr ⟨b', V.old _ _ _ ((pn0 _ _ _).mpr h)⟩
  have dL : ∀ p ∈ L, E'.Due c (i + 1) p.2.1 := fun p hp => .inr ⟨p.2.2, V.new c (i + 1) at0 p hp⟩
  have fxe : E'.fx = E.fx + 1 := by
    show E'.nodes.length + (E'.keys.map fun k => (E'.lot k).length).sum = _
    rw [p2, p1, p4, List.length_append]
    show _ = E.nodes.length + (E.keys.map fun k => (E.lot k).length).sum + 1
    simp only [List.length_cons, List.length_nil]
    omega
  obtain ⟨q1, q2, q3⟩ := pw (f := E.fx)
  have cle := I.x1 c hc
  have Lk : ∀ p ∈ L, c ≤ p.1 ∧ p.1 ≤ 2 ^ (E.fx + 1) ∧ Snd M E.keys p.2.1 := fun p hp => by
    subst eL
    rcases List.mem_append.mp hp with hp | hp
    · obtain ⟨q, hq, hp⟩ := List.mem_flatMap.mp hp
      cases mem_ads hp
      exact ⟨Nat.le_succ _, by show c + 1 ≤ _; omega, hk, s, hr, q, hq, rfl⟩
    · obtain ⟨w, hw, hp⟩ := List.mem_flatMap.mp hp
      obtain ⟨o, ho, hp⟩ := List.mem_flatMap.mp hp
      cases mem_go hp
      have h1 : (E.addN (k, s) c b).cN (k, s) = c := by
        show (match (E.nodes ++ [((k, s), c, b)]).find? fun p => decide (p.1 = (k, s)) with | some p => p.2.1 | none => 0) = c
        rw [List.find?_append, List.find?_eq_none.mpr fun x hx => by
          intro e
          exact hm (List.mem_map.mpr ⟨x, hx, of_decide_eq_true e⟩)]
        simp
      have h2 : (E.addN (k, s) c b).cO (M.wkey w) o.1 ≤ 2 ^ E.fx := cO_le (I.x3 _) _
      obtain ⟨hk2, s', r', q, hq, eq⟩ := I.s2 _ o ho
      refine ⟨by rw [h1]; exact Nat.le_add_right _ _, by rw [h1]; omega, hk, ?_⟩
      rw [← eq]
      exact .go hr hw r' hq
  refine ⟨?_, ?_, ?_, ?_, ?_, ?_, ?_, ?_, ?_, ?_, ?_, ?_, ?_, ?_, ?_, ?_, ?_, ?_⟩
  · exact V.nd (by rw [k6]; exact I.nd)
  · intro x hx
    rcases (V.lv x).mp hx with h | ⟨p, hp, rfl⟩
    · exact I.ge x (by rw [k6] at h; exact h)
    · exact (Lk p hp).1
  · exact V.at_ _ _ at0
  · rw [p2, List.map_append, List.nodup_append]
    refine ⟨I.nn, List.nodup_cons.mpr ⟨nofun, .nil⟩, fun a ha b hb e => ?_⟩
    cases List.mem_singleton.mp hb
    subst e
    exact hm ha
  · rw [p4]; exact I.on
  · rw [p2, p1]
    intro p hp
    rcases List.mem_append.mp hp with hp | hp
    · exact I.s1 p hp
    · cases List.mem_singleton.mp hp; exact ⟨hk, hr⟩
  · rw [p4, p1]; exact I.s2
  · rw [p1]
    intro it h
    rcases V.snd _ _ _ h with h | ⟨p, hp, rfl⟩
    · exact I.s3 it (pnd_back ((pn0 _ _ _).mp h))
    · exact (Lk p hp).2.2
  · rw [p3, p2, I.wss, List.flatMap_append]
    simp
  · rw [p1]
    exact fun k hk p hp => dn _ (I.c1 k hk p hp)
  · rw [p2]
    intro p hp q hq
    rcases List.mem_append.mp hp with hp | hp
    · exact dn _ (I.c2 p hp q hq)
    · cases List.mem_singleton.mp hp
      by_cases ho : q.1 ∈ (E.lot k).map (·.1)
      · exact .inl (by show _ ∈ (E'.lot k).map _; rw [p4]; exact ho)
      · refine dL (c + 1, .out k q.1, q.2) ?_
        subst eL
        refine List.mem_append_left _ (List.mem_flatMap.mpr ⟨q, hq, ?_⟩)
        unfold En.ads
        rw [if_neg ho]
        exact List.mem_singleton.mpr rfl
  · rw [p2, p4]
    intro p hp w hw o ho
    rcases List.mem_append.mp hp with hp | hp
    · exact dn _ (I.c4 p hp w hw o ho)
    · cases List.mem_singleton.mp hp
      by_cases hz : (k, M.beh k s w o.1) ∈ (E.addN (k, s) c b).nodes.map (·.1)
      · exact .inl (by show _ ∈ E'.nodes.map _; rw [p2]; exact hz)
      · refine dL ((E.addN (k, s) c b).cN (k, s) + (E.addN (k, s) c b).cO (M.wkey w) o.1, .node k (M.beh k s w o.1), M.tb k s w o.1) ?_
        subst eL
        refine List.mem_append_right _ (List.mem_flatMap.mpr ⟨w, hw, List.mem_flatMap.mpr ⟨o, ho, ?_⟩⟩)
        unfold En.go
        rw [if_neg hz]
        exact List.mem_singleton.mpr rfl
  · have hL : L.length ≤ 2 + ((M.ways k s).map fun w => (E.lot (M.wkey w)).length).sum := by
      subst eL
      rw [List.length_append, len_flat, len_flat]
      have h1 := sum_le (l := M.ends k s) (f := fun a => (E.ads M c (k, s) a).length) (n := 1) fun x _ => len_ads
      have h2 := F.lE k s
      have h3 : ((M.ways k s).map fun a => ((E.lot (M.wkey a)).flatMap fun o => (E.addN (k, s) c b).go M (k, s) a o.1).length).sum ≤ ((M.ways k s).map fun w => (E.lot (M.wkey w)).length).sum := by
        generalize M.ways k s = l
        induction l with
        | nil => exact Nat.le_refl _
        | cons w l ih =>
          rw [List.map_cons, List.sum_cons, List.map_cons, List.sum_cons]
          refine Nat.add_le_add ?_ ih
          rw [len_flat]
          have := sum_le (l := E.lot (M.wkey w)) (f := fun o => ((E.addN (k, s) c b).go M (k, s) w o.1).length) (n := 1) fun x _ => len_go
          omega
      omega
    have hw : wsum M E' = wsum M E + ((M.ways k s).map fun w => (E.lot (M.wkey w)).length).sum := by
      unfold wsum
      rw [p3, p4, List.map_append, List.sum_append, List.map_map]
      rfl
    rw [p5, p2, hw, List.length_append]
    have := I.cn
    simp only [List.length_cons, List.length_nil]
    omega
  · exact V.len (by rw [k6, k7, k5]; exact I.len)
  · exact V.ll (by rw [k6, k5]; exact I.ll)
  · rw [fxe]
    intro x hx
    rcases (V.lv x).mp hx with h | ⟨p, hp, rfl⟩
    · exact Nat.le_trans (I.x1 x (by rw [k6] at h; exact h)) q1
    · exact (Lk p hp).2.1
  · rw [fxe, p2]
    intro p hp
    rcases List.mem_append.mp hp with hp | hp
    · exact Nat.le_trans (I.x2 p hp) q1
    · cases List.mem_singleton.mp hp; exact Nat.le_trans cle q1
  · rw [fxe, p4]
    exact fun k p hp => Nat.le_trans (I.x3 k p hp) q1
end
end S
/-! the engine in plain Lean: taking outcomes in, the end -/
namespace S
open En
section
variable {κ σ ο ω β : Type} [DecidableEq κ] [DecidableEq σ] [DecidableEq ο]
variable {M : Mch κ σ ο ω β} {US : κ → List σ} {UO : κ → List ο} {nW nS nO : Nat}
theorem Iv.fix {b0 : Nat} {E : En κ σ ο ω β} {c i : Nat} {k : κ} {o : ο} {b : β} (F : Fnt M E.keys US UO nW nS nO) (I : Iv M b0 E c i) (hc : c ∈ E.lvls) (h0 : (E.lvl c)[i]? = some (.out k o, b)) : Iv M b0 (E.fix M c k o b) c (i + 1) := by
  unfold En.fix
  by_cases hm : o ∈ (E.lot k).map (·.1)
  · rw [if_pos hm]
    exact I.skip hc h0 hm
  rw [if_neg hm]
  have hi := (List.getElem?_eq_some_iff.mp h0).1
  obtain ⟨hk, hr⟩ : k ∈ E.keys ∧ OutK M k o := I.s3 (.out k o, b) ⟨c, hc, i, h0, fun _ => Nat.le_refl _⟩
  generalize eL : ((E.ws.filter fun p => decide (M.wkey p.2 = k)).flatMap fun p => (E.addO k o c b).go M p.1 p.2 o) = L
  generalize eE : E.addO k o c b = E0 at eL
  have e0 : E0.keys = E.keys ∧ E0.nodes = E.nodes ∧ E0.ws = E.ws ∧ E0.lot = (fun x => if x = k then E.lot k ++ [(o, c, b)] else E.lot x) ∧ E0.cnt = E.cnt ∧ E0.lvls = E.lvls ∧ E0.lvl = E.lvl := by subst eE; exact ⟨rfl, rfl, rfl, rfl, rfl, rfl, rfl⟩
  obtain ⟨k1, k2, k3, k4, k5, k6, k7⟩ := e0
  have lk : E0.lot k = E.lot k ++ [(o, c, b)] := by rw [k4]; exact if_pos rfl
  have ln : ∀ x, x ≠ k → E0.lot x = E.lot x := fun x hx => by rw [k4]; exact if_neg hx
  have lm : ∀ x, ∀ p ∈ E.lot x, p ∈ E0.lot x := fun x p hp => by
    by_cases e : x = k
    · subst e; rw [lk]; exact List.mem_append_left _ hp
    · rw [ln x e]; exact hp
  have l2 : ∀ x, ∀ p ∈ E0.lot x, p ∈ E.lot x ∨ (x = k ∧ p = (o, c, b)) := fun x p hp => by
    by_cases e : x = k
    · subst e
      rw [lk] at hp
      exact (List.mem_append.mp hp).imp id fun h => ⟨rfl, List.mem_singleton.mp h⟩
    · rw [ln x e] at hp; exact .inl hp
  clear k4
  obtain ⟨p1, p2, p3, p4, p5⟩ := puts_keys (L := L) (E := E0)
  have V := lv_puts L (E := E0)
  generalize E0.puts L = E' at p1 p2 p3 p4 p5 V ⊢
  rw [k1] at p1; rw [k2] at p2; rw [k3] at p3; rw [k5] at p5
  have at0 : E0.At c (i + 1) := by unfold En.At; rw [k6, k7]; exact At.next hc hi
  have pn0 : ∀ c i it, E0.Pnd c i it ↔ E.Pnd c i it := fun c i it => by unfold En.Pnd; rw [k6, k7]
  have st : ∀ p, E.Sat p → E'.Sat p := fun p h => by
    cases p with
    | node k' s' => show _ ∈ E'.nodes.map _; rw [p2]; exact h
    | out k' o' =>
      show _ ∈ (E'.lot k').map _
      obtain ⟨q, hq, e⟩ := List.mem_map.mp (show o' ∈ (E.lot k').map (·.1) from h)
      rw [p4]
      exact List.mem_map.mpr ⟨q, lm _ q hq, e⟩
  have hN : E'.Sat (.out k o) := by show _ ∈ (E'.lot k).map _; rw [p4, lk, List.map_append]; exact List.mem_append_right _ (List.mem_singleton.mpr rfl)
  have dn : ∀ p, E.Due c i p → E'.Due c (i + 1) p := fun p h => by
    rcases h with h | ⟨b', h⟩
    · exact .inl (st p h)
    · rcases pnd_next h h0 with e | h
      · cases e; exact .inl hN
      · exact .inr ⟨b', V.old _ _ _ ((pn0 _ _ _).mpr h)⟩
  have dL : ∀ p ∈ L, E'.Due c (i + 1) p.2.1 := fun p hp => .inr ⟨p.2.2, V.new c (i + 1) at0 p hp⟩
  have fxe : E'.fx = E.fx + 1 := by
    show E'.nodes.length + (E'.keys.map fun k => (E'.lot k).length).sum = E.nodes.length + (E.keys.map fun k => (E.lot k).length).sum + 1
    rw [p2, p1, p4, sum_ex (f := fun k => (E.lot k).length) (d := 1) F.nd hk (fun x hx => by rw [ln x hx]) (by rw [lk, List.length_append]; rfl)]
    omega
  obtain ⟨q1, q2, q3⟩ := pw (f := E.fx)
  have cle := I.x1 c hc
  have Lk : ∀ p ∈ L, c ≤ p.1 ∧ p.1 ≤ 2 ^ (E.fx + 1) ∧ Snd M E.keys p.2.1 := fun p hp => by
    subst eL
    obtain ⟨x, hx, hp⟩ := List.mem_flatMap.mp hp
    obtain ⟨hx, hw⟩ := List.mem_filter.mp hx
    have hw := of_decide_eq_true hw
    cases mem_go hp
    rw [I.wss] at hx
    obtain ⟨y, hy, hx⟩ := List.mem_flatMap.mp hx
    obtain ⟨w, hww, rfl⟩ := List.mem_map.mp hx
    obtain ⟨y1, y2⟩ := I.s1 y hy
    have h1 : E0.cN y.1 ≤ 2 ^ E.fx := cN_le (by rw [k2]; exact I.x2) _
    have h2 : E0.cO (M.wkey w) o = c := by
      rw [hw]
      unfold En.cO
      rw [lk, List.find?_append, List.find?_eq_none.mpr fun x hx => by
        intro e
        exact hm (List.mem_map.mpr ⟨x, hx, of_decide_eq_true e⟩)]
      simp
    obtain ⟨s', r', q, hq, eq⟩ := hr
    refine ⟨by show c ≤ E0.cN y.1 + E0.cO (M.wkey w) o; rw [h2]; exact Nat.le_add_left _ _, by show E0.cN y.1 + E0.cO (M.wkey w) o ≤ _; rw [h2]; omega, y1, ?_⟩
    subst eq
    subst hw
    exact .go y2 hww r' hq
  refine ⟨?_, ?_, ?_, ?_, ?_, ?_, ?_, ?_, ?_, ?_, ?_, ?_, ?_, ?_, ?_, ?_, ?_, ?_⟩
  · exact V.nd (by rw [k6]; exact I.nd)
  · intro x hx
    rcases (V.lv x).mp hx with h | ⟨p, hp, rfl⟩
    · exact I.ge x (by rw [k6] at h; exact h)
    · exact (Lk p hp).1
  · exact V.at_ _ _ at0
  · rw [p2]; exact I.nn
  · rw [p4]
    intro x
    by_cases e : x = k
    · subst e
      rw [lk, List.map_append, List.nodup_append]
      refine ⟨I.on x, List.nodup_cons.mpr ⟨nofun, .nil⟩, fun a ha b hb e => ?_⟩
      cases List.mem_singleton.mp hb
      subst e
      exact hm ha
    · rw [ln x e]; exact I.on x
  · rw [p2, p1]; exact I.s1
  · rw [p4, p1]
    intro x p hp
    rcases l2 x p hp with hp | ⟨rfl, rfl⟩
    · exact I.s2 x p hp
    · exact ⟨hk, hr⟩
  · rw [p1]
    intro it h
    rcases V.snd _ _ _ h with h | ⟨p, hp, rfl⟩
    · exact I.s3 it (pnd_back ((pn0 _ _ _).mp h))
    · exact (Lk p hp).2.2
  · rw [p3, p2, I.wss]
  · rw [p1]
    exact fun k hk p hp => dn _ (I.c1 k hk p hp)
  · rw [p2]
    exact fun p hp q hq => dn _ (I.c2 p hp q hq)
  · rw [p2, p4]
    intro p hp w hw x hx
    rcases l2 _ x hx with hx | ⟨e, rfl⟩
    · exact dn _ (I.c4 p hp w hw x hx)
    · by_cases hz : (p.1.1, M.beh p.1.1 p.1.2 w o) ∈ E0.nodes.map (·.1)
      · exact .inl (by show _ ∈ E'.nodes.map _; rw [p2]; rw [k2] at hz; exact hz)
      · refine dL (E0.cN p.1 + E0.cO (M.wkey w) o, .node p.1.1 (M.beh p.1.1 p.1.2 w o), M.tb p.1.1 p.1.2 w o) ?_
        subst eL
        refine List.mem_flatMap.mpr ⟨(p.1, w), List.mem_filter.mpr ⟨?_, decide_eq_true e⟩, ?_⟩
        · rw [I.wss]
          exact List.mem_flatMap.mpr ⟨p, hp, List.mem_map.mpr ⟨w, hw, rfl⟩⟩
        · unfold En.go
          rw [if_neg hz]
          exact List.mem_singleton.mpr rfl
  · have hL : L.length ≤ (E.ws.filter fun p => decide (M.wkey p.2 = k)).length := by
      subst eL
      rw [len_flat]
      have := sum_le (l := E.ws.filter fun p => decide (M.wkey p.2 = k)) (f := fun p => (E0.go M p.1 p.2 o).length) (n := 1) fun x _ => len_go
      omega
    have hw : wsum M E' = wsum M E + (E.ws.filter fun p => decide (M.wkey p.2 = k)).length := by
      unfold wsum
      rw [p3, p4]
      refine sum_add fun x => ?_
      by_cases e : M.wkey x.2 = k
      · rw [e, lk, List.length_append]; simp
      · rw [ln _ e]; simp [e]
    rw [p5, p2, hw]
    have := I.cn
    omega
  · exact V.len (by rw [k6, k7, k5]; exact I.len)
  · exact V.ll (by rw [k6, k5]; exact I.ll)
  · rw [fxe]
    intro x hx
    rcases (V.lv x).mp hx with h | ⟨p, hp, rfl⟩
    · exact Nat.le_trans (I.x1 x (by rw [k6] at h; exact h)) q1
    · exact (Lk p hp).2.1
  · rw [fxe, p2]
    exact fun p hp => Nat.le_trans (I.x2 p hp) q1
  · rw [fxe, p4]
    intro x p hp
    rcases l2 x p hp with hp | ⟨rfl, rfl⟩
    · exact Nat.le_trans (I.x3 x p hp) q1
    · exact Nat.le_trans cle q1
theorem Iv.step {b0 : Nat} {E : En κ σ ο ω β} {c i : Nat} {it : Pl κ σ ο × β} (F : Fnt M E.keys US UO nW nS nO) (I : Iv M b0 E c i) (hc : c ∈ E.lvls) (h0 : (E.lvl c)[i]? = some it) : Iv M b0 (E.step M c it) c (i + 1) := by
  obtain ⟨p, b⟩ := it
  cases p with
  | node k s => exact I.reach F hc h0
  | out k o => exact I.fix F hc h0
/-- all of this level is behind -/
theorem Iv.next {b0 : Nat} {E : En κ σ ο ω β} {c i : Nat} (I : Iv M b0 E c i) (h : c ∈ E.lvls → (E.lvl c).length ≤ i) : Iv M b0 (E.pop c) (c + 1) 0 := by
  have mem : ∀ x, x ∈ (E.pop c).lvls ↔ x ∈ E.lvls ∧ x ≠ c := fun x => by
    show x ∈ E.lvls.filter _ ↔ _
    rw [List.mem_filter]
    exact ⟨fun h => ⟨h.1, of_decide_eq_true h.2⟩, fun h => ⟨h.1, decide_eq_true h.2⟩⟩
  have pn : ∀ it, E.Pnd c i it → (E.pop c).Pnd (c + 1) 0 it := fun it ⟨x, hx, j, e, q⟩ => by
    refine ⟨x, (mem x).mpr ⟨hx, fun ex => ?_⟩, j, e, fun _ => Nat.zero_le _⟩
    subst ex
    have := h hx
    have := q rfl
    have := (List.getElem?_eq_some_iff.mp e).1
    omega
  have dn : ∀ p, E.Due c i p → (E.pop c).Due (c + 1) 0 p := fun p hp => hp.imp (fun h => by cases p <;> exact h) fun ⟨b, hb⟩ => ⟨b, pn _ hb⟩
  exact {
    nd := I.nd.filter _
    ge := fun x hx => by
      obtain ⟨h1, h2⟩ := (mem x).mp hx
      have := I.ge x h1
      omega
    at_ := ⟨fun _ => Nat.zero_le _, fun _ => rfl⟩
    nn := I.nn
    on := I.on
    s1 := I.s1
    s2 := I.s2
    s3 := fun it ⟨x, hx, j, e, q⟩ => by
      obtain ⟨h1, h2⟩ := (mem x).mp hx
      exact I.s3 it ⟨x, h1, j, e, fun ex => absurd ex h2⟩
    wss := I.wss
    c1 := fun k hk p hp => dn _ (I.c1 k hk p hp)
    c2 := fun p hp q hq => dn _ (I.c2 p hp q hq)
    c4 := fun p hp w hw o ho => dn _ (I.c4 p hp w hw o ho)
    cn := I.cn
    len := fun x hx => I.len x ((mem x).mp hx).1
    ll := Nat.le_trans (List.length_filter_le _ _) I.ll
    x1 := fun x hx => I.x1 x ((mem x).mp hx).1
    x2 := I.x2
    x3 := I.x3 }
/-- no more looks than these -/
theorem Iv.small {b0 : Nat} {E : En κ σ ο ω β} {c i : Nat} (F : Fnt M E.keys US UO nW nS nO) (I : Iv M b0 E c i) : E.nodes.length ≤ nS * E.keys.length ∧ E.cnt ≤ b0 + (2 + nO * nW) * (nS * E.keys.length) ∧ E.fx ≤ nS * E.keys.length + nO * E.keys.length := by
  have h1 : E.nodes.length ≤ nS * E.keys.length := by
    have := nodup_le (l := E.nodes.map (·.1)) (l' := E.keys.flatMap fun k => (US k).map fun s => (k, s)) I.nn fun x hx => by
      obtain ⟨p, hp, rfl⟩ := List.mem_map.mp hx
      obtain ⟨p1, p2⟩ := I.s1 p hp
      exact List.mem_flatMap.mpr ⟨p.1.1, p1, List.mem_map.mpr ⟨p.1.2, F.rch p2 p1, rfl⟩⟩
    rw [List.length_map, len_flat] at this
    refine Nat.le_trans this (sum_le fun k hk => ?_)
    rw [List.length_map]
    exact F.lS k hk
  have lo : ∀ k, (E.lot k).length ≤ nO := fun k => by
    by_cases hk : k ∈ E.keys
    · have := nodup_le (l := (E.lot k).map (·.1)) (l' := UO k) (I.on k) fun x hx => by
        obtain ⟨p, hp, rfl⟩ := List.mem_map.mp hx
        obtain ⟨p1, p2⟩ := I.s2 k p hp
        exact F.out p2 p1
      rw [List.length_map] at this
      exact Nat.le_trans this (F.lO k hk)
    · cases e : E.lot k with
      | nil => exact Nat.zero_le _
      | cons p l => exact absurd (I.s2 k p (by rw [e]; exact List.mem_cons_self ..)).1 hk
  refine ⟨h1, ?_, ?_⟩
  · have h2 : wsum M E ≤ nO * E.ws.length := sum_le fun p _ => lo _
    have h3 : E.ws.length ≤ nW * E.nodes.length := by
      rw [I.wss, len_flat]
      refine sum_le fun p hp => ?_
      rw [List.length_map]
      obtain ⟨p1, p2⟩ := I.s1 p hp
      exact F.lW _ p1 _ (F.rch p2 p1)
    have h4 := I.cn
    have h5 : nO * E.ws.length ≤ nO * nW * (nS * E.keys.length) := by
      rw [Nat.mul_assoc]
      exact Nat.mul_le_mul_left _ (Nat.le_trans h3 (Nat.mul_le_mul_left _ h1))
    rw [Nat.add_mul]
    omega
  · exact Nat.add_le_add h1 (sum_le fun k _ => lo k)
/-- the end: just what can come is in the lots -/
theorem Iv.done {b0 : Nat} {E : En κ σ ο ω β} {c i : Nat} (F : Fnt M E.keys US UO nW nS nO) (I : Iv M b0 E c i) (h : E.lvls = []) {k : κ} (hk : k ∈ E.keys) (o : ο) : o ∈ (E.lot k).map (·.1) ↔ OutK M k o := by
  have sat : ∀ p, E.Due c i p → E.Sat p := fun p hp => hp.elim id fun ⟨b, x, hx, _⟩ => by rw [h] at hx; cases hx
  have all : ∀ {k : κ} {s : σ}, Rch M k s → k ∈ E.keys → (k, s) ∈ E.nodes.map (·.1) := by
    intro k s hr
    induction hr with
    | beg hp => exact fun hk => sat _ (I.c1 _ hk _ hp)
    | @go k s w s' q h1 hw h2 hq ih1 ih2 =>
      intro hk
      obtain ⟨p, hp, e⟩ := List.mem_map.mp (ih1 hk)
      have hk2 := F.key _ hk _ (F.rch h1 hk) _ hw
      obtain ⟨p', hp', e'⟩ := List.mem_map.mp (ih2 hk2)
      have e1 : p.1.1 = k ∧ p.1.2 = s := by rw [e]; exact ⟨rfl, rfl⟩
      have e2 : p'.1.1 = M.wkey w ∧ p'.1.2 = s' := by rw [e']; exact ⟨rfl, rfl⟩
      have h3 := sat _ (I.c2 p' hp' q (by rw [e2.1, e2.2]; exact hq))
      rw [e2.1] at h3
      obtain ⟨o, ho, eo⟩ := List.mem_map.mp h3
      have h4 := sat _ (I.c4 p hp w (by rw [e1.1, e1.2]; exact hw) o ho)
      rw [e1.1, e1.2, eo] at h4
      exact h4
  constructor
  · intro ho
    obtain ⟨p, hp, rfl⟩ := List.mem_map.mp ho
    exact (I.s2 k p hp).2
  · rintro ⟨s, hr, q, hq, rfl⟩
    obtain ⟨p, hp, e⟩ := List.mem_map.mp (all hr hk)
    have e1 : p.1.1 = k ∧ p.1.2 = s := by rw [e]; exact ⟨rfl, rfl⟩
    have h3 := sat _ (I.c2 p hp q (by rw [e1.1, e1.2]; exact hq))
    rw [e1.1] at h3
    exact h3
end
end S
/-! the engine in plain Lean: room for all puts -/
namespace S
open En
section
variable {κ σ ο ω β : Type} [DecidableEq κ] [DecidableEq σ] [DecidableEq ο]
variable {M : Mch κ σ ο ω β} {US : κ → List σ} {UO : κ → List ο} {nW nS nO : Nat}
theorem Iv.room {b0 : Nat} {E : En κ σ ο ω β} {c i : Nat} (F : Fnt M E.keys US UO nW nS nO) (I : Iv M b0 E c i) : b0 + 2 * E.nodes.length + wsum M E ≤ b0 + (2 + nO * nW) * (nS * E.keys.length) := by
  obtain ⟨h1, _, _⟩ := I.small F
  have lo : ∀ k, (E.lot k).length ≤ nO := fun k => by
    by_cases hk : k ∈ E.keys
    · have := nodup_le (l := (E.lot k).map (·.1)) (l' := UO k) (I.on k) fun x hx => by
        obtain ⟨p, hp, rfl⟩ := List.mem_map.mp hx
        obtain ⟨p1, p2⟩ := I.s2 k p hp
        exact F.out p2 p1
      rw [List.length_map] at this
      exact Nat.le_trans this (F.lO k hk)
    · cases e : E.lot k with
      | nil => exact Nat.zero_le _
      | cons p l => exact absurd (I.s2 k p (by rw [e]; exact List.mem_cons_self ..)).1 hk
  have h2 : wsum M E ≤ nO * E.ws.length := sum_le fun p _ => lo _
  have h3 : E.ws.length ≤ nW * E.nodes.length := by
    rw [I.wss, len_flat]
    refine sum_le fun p hp => ?_
    rw [List.length_map]
    obtain ⟨p1, p2⟩ := I.s1 p hp
    exact F.lW _ p1 _ (F.rch p2 p1)
  have h5 : nO * E.ws.length ≤ nO * nW * (nS * E.keys.length) := by
    rw [Nat.mul_assoc]
    exact Nat.mul_le_mul_left _ (Nat.le_trans h3 (Nat.mul_le_mul_left _ h1))
  rw [Nat.add_mul]
  omega
end
end S
/-! the engine in plain Lean: what is told along -/
namespace S
open En
section
variable {κ σ ο ω β : Type} [DecidableEq κ] [DecidableEq σ] [DecidableEq ο]
variable {M : Mch κ σ ο ω β} {P : β → Prop}
structure Bi (P : β → Prop) (E : En κ σ ο ω β) : Prop where
  n : ∀ p ∈ E.nodes, P p.2.2
  o : ∀ k, ∀ p ∈ E.lot k, P p.2.2
  l : ∀ x, ∀ it ∈ E.lvl x, P it.2
structure BiM (P : β → Prop) (M : Mch κ σ ο ω β) : Prop where
  b : ∀ k, ∀ p ∈ M.begs k, P p.2
  e : ∀ k s, ∀ p ∈ M.ends k s, P p.2
  t : ∀ k s w o, P (M.tb k s w o)
theorem Bi.put {E : En κ σ ο ω β} (B : Bi P E) {c : Nat} {it : Pl κ σ ο × β} (h : P it.2) : Bi P (E.put c it) :=
  ⟨B.n, B.o, fun x i hi => by
    rw [put_lvl] at hi
    by_cases e : x = c
    · rw [if_pos e] at hi
      rcases List.mem_append.mp hi with hi | hi
      · by_cases hc : c ∈ E.lvls
        · rw [if_pos hc] at hi; exact B.l c i hi
        · rw [if_neg hc] at hi; cases hi
      · cases List.mem_singleton.mp hi; exact h
    · rw [if_neg e] at hi
      exact B.l x i hi⟩
theorem Bi.puts : ∀ {L : List (Nat × Pl κ σ ο × β)} {E : En κ σ ο ω β}, Bi P E → (∀ p ∈ L, P p.2.2) → Bi P (E.puts L)
  | [], E, B, _ => B
  | p :: L, E, B, h => Bi.puts (L := L) (E := E.put p.1 p.2) (B.put (h p (List.mem_cons_self ..))) fun q hq => h q (List.mem_cons_of_mem _ hq)
theorem Bi.step {E : En κ σ ο ω β} (Q : BiM P M) (B : Bi P E) {c : Nat} {it : Pl κ σ ο × β} (h : P it.2) : Bi P (E.step M c it) := by
  obtain ⟨p, b⟩ := it
  cases p with
  | node k s =>
    show Bi P (E.reach M c (k, s) b)
    unfold En.reach
    split
    · exact B
    · refine Bi.puts ⟨fun p hp => ?_, B.o, B.l⟩ fun p hp => ?_
      · rcases List.mem_append.mp (show p ∈ E.nodes ++ [((k, s), c, b)] from hp) with hp | hp
        · exact B.n p hp
        · cases List.mem_singleton.mp hp; exact h
      · rcases List.mem_append.mp hp with hp | hp
        · obtain ⟨q, hq, hp⟩ := List.mem_flatMap.mp hp
          cases mem_ads hp
          exact Q.e _ _ q hq
        · obtain ⟨w, hw, hp⟩ := List.mem_flatMap.mp hp
          obtain ⟨o, ho, hp⟩ := List.mem_flatMap.mp hp
          cases mem_go hp
          exact Q.t _ _ _ _
  | out k o =>
    show Bi P (E.fix M c k o b)
    unfold En.fix
    split
    · exact B
    · refine Bi.puts ⟨B.n, fun x p hp => ?_, B.l⟩ fun p hp => ?_
      · have hp : p ∈ (if x = k then E.lot k ++ [(o, c, b)] else E.lot x) := hp
        by_cases e : x = k
        · rw [if_pos e] at hp
          rcases List.mem_append.mp hp with hp | hp
          · exact B.o k p hp
          · cases List.mem_singleton.mp hp; exact h
        · rw [if_neg e] at hp
          exact B.o x p hp
      · obtain ⟨x, hx, hp⟩ := List.mem_flatMap.mp hp
        cases mem_go hp
        exact Q.t _ _ _ _
theorem Bi.pop {E : En κ σ ο ω β} (B : Bi P E) {c : Nat} : Bi P (E.pop c) := ⟨B.n, B.o, B.l⟩
/-- the start: all beginnings on the lowest level -/
theorem Iv.start {κ σ ο ω β : Type} [DecidableEq κ] [DecidableEq σ] [DecidableEq ο] {M : Mch κ σ ο ω β} {ks : List κ} : Iv M ((ks.flatMap fun k => (M.begs k).map fun p => ((0, Pl.node k p.1, p.2) : Nat × Pl κ σ ο × β)).length) (En.puts (ks.flatMap fun k => (M.begs k).map fun p => ((0, Pl.node k p.1, p.2) : Nat × Pl κ σ ο × β)) (⟨ks, [], [], fun _ => [], [], fun _ => [], 0⟩ : En κ σ ο ω β)) 0 0 := by
  generalize eL : (ks.flatMap fun k => (M.begs k).map fun p => ((0, Pl.node k p.1, p.2) : Nat × Pl κ σ ο × β)) = L
  have hL : ∀ p ∈ L, p.1 = 0 ∧ ∃ k ∈ ks, ∃ q ∈ M.begs k, p.2.1 = .node k q.1 := fun p hp => by
    subst eL
    obtain ⟨k, hk, hp⟩ := List.mem_flatMap.mp hp
    obtain ⟨q, hq, rfl⟩ := List.mem_map.mp hp
    exact ⟨rfl, k, hk, q, hq, rfl⟩
  generalize eE : (⟨ks, [], [], fun _ => [], [], fun _ => [], 0⟩ : En κ σ ο ω β) = E0
  have V := lv_puts L (E := E0)
  obtain ⟨p1, p2, p3, p4, p5⟩ := puts_keys (L := L) (E := E0)
  have a0 : E0.keys = ks ∧ E0.nodes = [] ∧ E0.ws = [] ∧ E0.lot = (fun _ => []) ∧ E0.lvls = [] ∧ E0.cnt = 0 := by subst eE; exact ⟨rfl, rfl, rfl, rfl, rfl, rfl⟩
  obtain ⟨k1, k2, k3, k4, k5, k6⟩ := a0
  rw [k1] at p1; rw [k2] at p2; rw [k3] at p3; rw [k4] at p4; rw [k6] at p5
  have at0 : E0.At 0 0 := ⟨fun _ => Nat.zero_le _, fun _ => rfl⟩
  generalize E0.puts L = E at p1 p2 p3 p4 p5 V ⊢
  refine ⟨?_, fun _ _ => Nat.zero_le _, V.at_ _ _ at0, ?_, ?_, ?_, ?_, ?_, ?_, ?_, ?_, ?_, ?_, ?_, ?_, ?_, ?_, ?_⟩
  · exact V.nd (by rw [k5]; exact List.Pairwise.nil)
  · rw [p2]; exact List.Pairwise.nil
  · rw [p4]; exact fun _ => List.Pairwise.nil
  · rw [p2]; exact fun p hp => nomatch hp
  · rw [p4]; exact fun k p hp => nomatch hp
  · intro it h
    rcases V.snd _ _ _ h with ⟨x, hx, _⟩ | ⟨p, hp, rfl⟩
    · rw [k5] at hx; cases hx
    · obtain ⟨_, k, hk, q, hq, e⟩ := hL p hp
      rw [e, p1]
      exact ⟨hk, .beg hq⟩
  · rw [p3, p2]; rfl
  · rw [p1]
    intro k hk p hp
    refine .inr ⟨p.2, V.new 0 0 at0 (0, .node k p.1, p.2) ?_⟩
    subst eL
    exact List.mem_flatMap.mpr ⟨k, hk, List.mem_map.mpr ⟨p, hp, rfl⟩⟩
  · rw [p2]; exact fun p hp => nomatch hp
  · rw [p2]; exact fun p hp => nomatch hp
  · rw [p5]; omega
  · exact V.len (by rw [k5]; exact fun x hx => nomatch hx)
  · exact V.ll (by rw [k5]; exact Nat.zero_le _)
  · intro x hx
    rcases (V.lv x).mp hx with h | ⟨p, hp, rfl⟩
    · rw [k5] at h; cases h
    · rw [(hL p hp).1]; exact Nat.zero_le _
  · rw [p2]; exact fun p hp => nomatch hp
  · rw [p4]; exact fun k p hp => nomatch hp
end
end S
/-! len of a dict by nested tuples -/
namespace S
open PySem PySem.W L2 PyProof.Rows
section
variable {G : GA} {X : Cx}
end
end S
/-! what repr shows of data -/
namespace S
open PySem L2
structure Shw (p : PyData) (n w : Nat) : Prop where
  lay : p.canLay0 = true
  shw : p.showable = true
  dep : p.depth ≤ n
  lf : p.leavesShort 8 = true
  we : p.weight ≤ w
def ShD (d : D) (n w : Nat) : Prop := ∃ p, toPy d = some p ∧ Shw p n w
theorem shd_str {x : Str} {n w : Nat} (h : PyData.strOk x = true) (hl : x.length ≤ w) : ShD (.str x) n w := by
  refine ⟨.str x, rfl, h, rfl, Nat.zero_le _, ?_, hl⟩
  unfold PyData.strOk at h
  rw [← Array.all_toList, List.all_eq_true] at h
  simp only [PyData.leavesShort]
  rw [List.all_eq_true]
  intro c hc
  have := of_decide_eq_true (h c hc)
  exact decide_eq_true (by omega)
theorem shdL : ∀ {ds : List D} {n w : Nat}, (∀ d ∈ ds, ShD d n w) → ∃ ps, toPyL ds = some ps ∧ ps.length = ds.length ∧ PyData.canLayAll0 ps = true ∧ PyData.showableAll ps = true ∧ PyData.depthAll ps ≤ n ∧ PyData.leavesShortAll 8 ps = true ∧ PyData.weightAll ps ≤ ds.length * (w + 1)
  | [], n, w, _ => ⟨[], rfl, rfl, rfl, rfl, Nat.zero_le _, rfl, by simp [PyData.weightAll]⟩
  | d :: ds, n, w, h => by
    obtain ⟨p, e, hp⟩ := h d (.head _)
    obtain ⟨ps, e1, e2, e3, e4, e5, e6, e7⟩ := shdL (ds := ds) fun d hd => h d (.tail _ hd)
    refine ⟨p :: ps, by unfold toPyL; rw [e, e1]; rfl, by rw [List.length_cons, e2, List.length_cons], ?_, ?_, ?_, ?_, ?_⟩
    · unfold PyData.canLayAll0; rw [hp.lay, e3]; rfl
    · unfold PyData.showableAll; rw [hp.shw, e4]; rfl
    · unfold PyData.depthAll; have := hp.dep; omega
    · unfold PyData.leavesShortAll; rw [hp.lf, e6]; rfl
    · unfold PyData.weightAll
      have := hp.we
      rw [List.length_cons, Nat.add_mul]
      omega
theorem shd_tup {ds : List D} {n w l : Nat} (h : ∀ d ∈ ds, ShD d n w) (hl : ds.length ≤ l) : ShD (.tup ds) (n + 1) (l * (w + 1)) := by
  obtain ⟨ps, e1, e2, e3, e4, e5, e6, e7⟩ := shdL h
  have m : ds.length * (w + 1) ≤ l * (w + 1) := Nat.mul_le_mul_right _ hl
  refine ⟨.tuple ps, by show (toPyL ds).map _ = _; rw [e1]; rfl, ?_, ?_, ?_, ?_, ?_⟩
  · simpa only [PyData.canLay0] using e3
  · simpa only [PyData.showable] using e4
  · simp only [PyData.depth]; omega
  · simpa only [PyData.leavesShort] using e6
  · simp only [PyData.weight]; omega
theorem shd_repr {ds : List D} {st : Sto} {n w : Nat} (h : ShD (.tup ds) n w) (hn : n ≤ 50 := by decide) (hw : w ≤ 2 ^ 20 := by decide) : ∃ t, dReprX [.tup ds] st = .ok (.str t) st := by
  obtain ⟨p, e, hp⟩ := h
  have e' : (toPyL ds).map PyData.tuple = some p := e
  cases q : toPyL ds with
  | none => rw [q] at e'; cases e'
  | some ps =>
    rw [q] at e'
    cases e'
    have c : (PyData.tuple ps).showable = true ∧ (PyData.tuple ps).hasDict = false ∧ (PyData.tuple ps).depth ≤ 50 ∧ (PyData.tuple ps).shown.length ≤ sizeLine :=
      ⟨hp.shw, PyData.hasDict_of_canLay _ hp.lay, Nat.le_trans hp.dep hn, PyData.shown_fits (B := 8) (by decide) (by decide) hp.lf (Nat.le_trans hp.we hw)⟩
    refine ⟨(PyData.tuple ps).shown, ?_⟩
    unfold dReprX dRepr
    simp only [q]
    rw [if_pos c]
theorem ShD.ss {d : D} {n w : Nat} (h : ShD d n w) : ∃ p, toPy d = some p ∧ p.canLay0 = true ∧ p.depth ≤ n := by
  obtain ⟨p, e, hp⟩ := h
  exact ⟨p, e, hp.lay, hp.dep⟩
end S
/-! own exceptions over KeyError: it has no making of its own, that of LookupError serves -/
namespace L2
open PySem PySem.Spec PyProof.Rows
section
variable {prog : Program} {w : World} {A : Around} {E : Value → Shared → Prop} {R : PySem.Result → Shared → Prop} {h : Heap} {g : Array GenState} {d : Drawn} {t : Nat} {os : OsState}
variable {nm q : Str} {C N : Addr} {bs l : List Value} {hd : Bool} {sn : List Str} {sub : List Value} {ab : Bool} {col : Option Bool} {dd : Option Addr} {k0 k1 k2 k3 k5 : Option Value} {us : List Value} {fI : Addr}
/-- what is asked of the classes above C -/
structure KeyL (C : Addr) (l : List Value) : Prop where
  lk : (Value.ref C :: l).contains (.type "LookupError") = true
  at_ : (Value.ref C :: l).contains (.type "AttributeError") = false
  nm : (Value.ref C :: l).contains (.type "NameError") = false
  own : (Value.ref C :: l).contains (.ref C) = true
end
end L2
/-! a lambda without parameters, handed to a def: its making, what it tells when it is called -/
namespace L2
open PySem PySem.Spec PyProof.Rows LamX
section
variable {X : Cx} {pins : List (Addr × Obj)} {σ : St} {H : Hp} {s : Shared}
structure Far (X : Cx) (f : Addr) : Prop where
  stk : f ∉ frs X.stack
  loc : f ≠ X.env.locals
  fs : f ∉ X.fs
end
section
variable {X : Cx} {pins : List (Addr × Obj)} {σ : St} {H HZ : Hp} {s s1 : Shared}
end
end L2
/-! a lambda handed to a def, over values without addresses -/
namespace S
open PySem PySem.Spec PyProof.Rows L2 LamX
/-- something more is known of what never changes -/
def GA.wit (G : GA) (p : Hp → Prop) (hp : ∀ {f f' : Hp}, Same f f' → p f → p f') : GA := ⟨G.at_, G.w, fun f => G.ok f ∧ p f, fun e h => ⟨G.mono e h.1, hp e h.2⟩⟩
section
variable {K : PySem.W.Frag} {G : GA} {p : Hp → Prop} {hp : ∀ {f f' : Hp}, Same f f' → p f → p f'} {Z : Gh}
mutual
theorem rep_wit : ∀ (d : D) (v : V), Rep K (G.wit p hp) Z d v ↔ Rep K G Z d v
  | .non, _ => Iff.rfl
  | .bl _, _ => Iff.rfl
  | .int _, _ => Iff.rfl
  | .str _, _ => Iff.rfl
  | .ptr _, _ => Iff.rfl
  | .cls _, _ => Iff.rfl
  | .fn _, _ => Iff.rfl
  | .lst ds, _ => by unfold Rep; simp only [repL_wit ds]
  | .rls ds, _ => by unfold Rep; simp only [repL_wit ds]
  | .tup ds, _ => by unfold Rep; simp only [repL_wit ds]
  | .dct _ ds, _ => by unfold Rep; simp only [repL_wit ds]
  | .ins _ _ ds, _ => by unfold Rep; simp only [repL_wit ds]; exact Iff.rfl
  | .dkd ks ds, _ => by unfold Rep; simp only [repL_wit ks, repL_wit ds]; exact Iff.rfl
  | .ptp ds, _ => by unfold Rep; simp only [repL_wit ds]
theorem repL_wit : ∀ (ds : List D) (vs : List V), RepL K (G.wit p hp) Z ds vs ↔ RepL K G Z ds vs
  | [], _ => Iff.rfl
  | d :: ds, _ => by unfold RepL; simp only [rep_wit d, repL_wit ds]
end
theorem repC_wit {H : Hp} {a : Addr} (c : C) : RepC K (G.wit p hp) Z H a c ↔ RepC K G Z H a c := by
  cases c with
  | lst ds => unfold RepC; simp only [repL_wit ds]
  | dct ks ds => unfold RepC; simp only [repL_wit ds]
  | dkd ks ds => unfold RepC; simp only [repL_wit ks, repL_wit ds]; exact Iff.rfl
  | ins c ns ds => unfold RepC; simp only [repL_wit ds]; exact Iff.rfl
  | tab q => exact Iff.rfl
  | dead => exact Iff.rfl
theorem RelH.wit {H : Hp} {st : Sto} (R : RelH K G Z H st) (h : p Z.fz) : RelH K (G.wit p hp) Z H st := ⟨R.fz, R.len, fun i c a e1 e2 => (repC_wit c).mpr (R.cell i c a e1 e2), R.off, R.inj, R.tmp, R.tof, R.lk, h⟩
end
/-- no changing thing among the locals -/
def cutE (env : S.Env) : S.Env := env.map fun o => o.bind fun d => if below 0 d = true then some d else none
/-- what the lambda f in slot i tells -/
def mTh (f : Addr) (i : Nat) (th : Sto → R D) : M := fun env st => match env[i]? with
  | some (some (.fn a)) => if a = f then pur (fun _ s => th s) [] st else .stuck
  | _ => .stuck
open Classical in
/-- g(lambda: e, ..): cell j is the table of code objects -/
noncomputable def mLam (j : Nat) (q : Str) (n : Nat) (F : Addr → (Sto → R D) → List D → Sto → R D) (me : M) (ma : MA) : M := fun env st =>
  if st[j]? = some (.tab q) then (ma env st).bind fun ds st1 =>
    if ds.length + 1 = n ∧ ∀ a, F a (fun s => me (cutE env) s) (.fn a :: ds) st1 = F 0 (fun s => me (cutE env) s) (.fn 0 :: ds) st1 then F 0 (fun s => me (cutE env) s) (.fn 0 :: ds) st1 else .stuck
  else .stuck
section
variable {X : Cx} {G : GA} {W : WX} {pins : List (Addr × Obj)} {σ : L2.St} {H : Hp} {s : Shared} {params : Arguments} {body : Expr} {scope : Scope} {f c' : Addr} {me : M} {envL : S.Env} {k i : Nat} {a : Str} {p1 p2 : Pos}
end
/-- a def that calls what it got first: its body, told what that tells -/
def LamOk (P : Program) (w : World) (K : PySem.W.Frag) (mg : Str → Option Value) (base : Heap) (G : GA) (k : Nat) (x : Str) (sg : Scope) (g : Addr) (cdg : Value) (bg : List Stmt) (Ng : List Str) (a : Str) (ms : Addr → (Sto → R D) → MS) : Prop :=
  ∀ (fa : Addr) (th : Sto → R D) (A : Around) (outer : List PySem.Env) (s : Shared) (H : Hp) (E : XK), Room k (A.deeper (envOfC x sg s.heap.objs.size g cdg)) →
    (∀ (W : WX) (pn : List (Addr × Obj)) (xe : Value → Shared → Prop) (p1 p2 : Pos), Takes ((cxOf (L2.CX P w) P w K mg base Ng x sg g cdg A outer s H E).tr pn xe) W → PE ((cxOf (L2.CX P w) P w K mg base Ng x sg g cdg A outer s H E).tr pn xe) (.Call (.Name a p1) [] [] p2) (tS K G W (mTh fa 0 th))) →
    PSs (cxOf (L2.CX P w) P w K mg base Ng x sg g cdg A outer s H E) bg (tSS K G (wE E) (ms fa th))
section
variable {X : Cx} {G : GA} {W : WX}
end
end S
/-! g(lambda: e, ..) -/
namespace S
open PySem PySem.Spec PyProof.Rows L2 LamX
section
variable {X : Cx} {G : GA} {W : WX}
end
end S
/-! a law whose text makes lambdas: its code object, its table, the end -/
namespace S
open PySem PySem.Spec PyProof.Rows L2 LamX
section
variable {P : Program} {w : World} {K : PySem.W.Frag} {mg : Str → Option Value} {base : Heap} {G : GA}
end
end S
/-! g(lambda: e, ..) for printed texts -/
namespace S
open PySem PySem.Spec PyProof.Rows L2 LamX
theorem LamOk.up {P : Program} {w : World} {K : PySem.W.Frag} {mg : Str → Option Value} {base : Heap} {G : GA} {k j : Nat} {x : Str} {sg : Scope} {g : Addr} {cdg : Value} {bg : List Stmt} {Ng : List Str} {a : Str} {ms : Addr → (Sto → R D) → MS} (h : LamOk P w K mg base G k x sg g cdg bg Ng a ms) (hk : k ≤ j := by decide) : LamOk P w K mg base G j x sg g cdg bg Ng a ms :=
  fun fa th A outer s H E hr act => h fa th A outer s H E (hr.mono hk) act
end S
namespace S
open PySem PySem.Spec PyProof.Rows L2
end S
/-! what a dict's cell holds is frozen, the dict itself not -/
namespace S
open PySem L2
section
variable {X : Cx} {G : GA} {W : WX}
end
/-! ### a comparison by an own def that raises nothing, anywhere -/
section
variable {X : Cx} {G : GA} {W : WX} {f : D → D → Sto → R D} {r : R2} {a b : Expr} {m n : M} {pos : Pos} {σ : St} {H : Hp}
end
end S
/-! try .. except C as e: y = .. except D as e: z = .. -/
namespace S
open PySem PySem.Spec PyProof.Rows L2
inductive HdsAs (X : Cx) : List ExceptHandler → List (Value × Nat × (Addr → Value → Option Addr → TS)) → Prop
  | nil : HdsAs X [] []
  | cons {x n : Str} {c : Value} {i : Nat} {ts : Addr → Value → Option Addr → TS} {b₀ : Stmt} {suite : List Stmt} {np pos' : Pos} {hds : List ExceptHandler} {l : List (Value × Nat × (Addr → Value → Option Addr → TS))} (hi : X.N[i]? = some n) (hln : X.env.kindOf n = some .local) (hc : Names X x c)
      (hsu : ∀ (a : Addr) (oe : Obj) (cls : Value) (d : Option Addr) (pn : List (Addr × Obj)), Zc cls d oe → (∃ vs, oe.data = .fields vs) → PSs (X.suite a ((a, oe) :: pn)) (b₀ :: suite) (ts a cls d)) (r : HdsAs X hds l) :
      HdsAs X (.ExceptHandler (some (.Name x np)) (some n) (b₀ :: suite) pos' :: hds) ((c, i, ts) :: l)
section
variable {X : Cx} {body : List Stmt} {h₀ : ExceptHandler} {hds : List ExceptHandler} {l : List (Value × Nat × (Addr → Value → Option Addr → TS))} {pos : Pos} {tb : WX → TS} {Wout : WX}
end
/-! ### on values: clauses that each set a name -/
structure Cl where
  ki : Ki
  i : Nat
  j : Nat
  q : MX
section
variable {G : GA} {W : WX} {X : Cx} {body : List Stmt} {h₀ : ExceptHandler} {hds : List ExceptHandler} {ks : List Cl} {pos : Pos} {m : MS}
/-- the clauses, with what they set -/
inductive ClsOk (X : Cx) (G : GA) : List ExceptHandler → List Cl → Prop
  | nil : ClsOk X G [] []
  | cons {x n y : Str} {cv : Value} {i j : Nat} {ki : Ki} {q : MX} {e : Expr} {np pos' py ps : Pos} {hds : List ExceptHandler} {r : List Cl} (hi : X.N[i]? = some n) (hln : X.env.kindOf n = some .local) (hc : Names X x cv) (hk : ∀ c b, ki c = some b → PySem.W.exmOne X.K (.ref (G c)) cv = some b)
      (hj : X.N[j]? = some y) (hy : Loc X.env.scope y) (hfy : X.fn y = true ∨ X.env.scope.names.lookup y = some .local)
      (hq : ∀ (a : Addr) (oe : Obj) (cls : Value) (d : Option Addr) (pn : List (Addr × Obj)), Zc cls d oe → (∃ vs, oe.data = .fields vs) → PE (X.suite a ((a, oe) :: pn)) e (tX X.K G i a cls d q)) (r0 : ClsOk X G hds r)
      (hsw : swapsWith e (some (.Name y py)) ps.line X.env = pure false := by rfl) :
      ClsOk X G (.ExceptHandler (some (.Name x np)) (some n) [.Assign [.Name y py] e ps] pos' :: hds) (⟨ki, i, j, q⟩ :: r)
end
/-! ### str(o) by an own def that raises nothing, anywhere -/
section
variable {X : Cx} {G : GA} {W : WX}
end
end S
/-! sets of texts: what set(xs) holds, what it gives when sorted -/
namespace S
open PySem PySem.Spec PyProof.Rows L2
/-- a table that can be walked, n in it -/
def Tab (w : World) (n : Nat) (t : SetTable) : Prop := t.fits n = true ∧ Ris t.place.toList ∧ (w.params.followText "set-order" = true ∨ t.led = true)
theorem Tab.laid {w : World} {n : Nat} {t : SetTable} (T : Tab w n t) (es : Array (Int × Value)) (h : Int) (x : Value) : Tab w (layNew t es h x).1.size (layNew t es h x).2.1 :=
  ⟨layNew_fits t es h x, layNew_ris t es h x T.2.1, T.2.2.imp id fun z => (layNew_led t es h x).trans z⟩
theorem Tab.anew {w : World} {n : Nat} {t : SetTable} (T : Tab w n t) (es : Array (Int × Value)) (m : Nat) : Tab w (relayAll t es m).1.size (relayAll t es m).2.1 :=
  ⟨relayAll_fits t es m, relayAll_ris t es m, T.2.2.imp id fun z => (relayAll_led t es m).trans z⟩
theorem Tab.off {w : World} {n : Nat} {t : SetTable} (T : Tab w n t) : Tab w n { t with plain := false } := ⟨SetTable.fits_plain_off T.1, T.2.1, T.2.2⟩
def tx (e : Int × Value) : Str := match e.2 with
  | .str x _ => x
  | _ => Str.empty
/-- what lies in a set of the texts ks, each once -/
structure InX (P : Program) (w : World) (es : Array (Int × Value)) (t : SetTable) (ks : List Str) : Prop where
  el : ElemsOf (PySem.strKind P w) es.toList
  pm : (es.toList.map tx).Perm ks
  nd : ks.Nodup
  ln : ks.length < scanBound
  tb : Tab w es.size t
theorem InX.size {P : Program} {w : World} {es : Array (Int × Value)} {t : SetTable} {ks : List Str} (X : InX P w es t ks) : es.size = ks.length := by
  have := X.pm.length_eq
  rwa [List.length_map, Array.length_toList] at this
theorem tx_is {P : Program} {w : World} {e : Int × Value} {x : Str} (h : ElemsOf (PySem.strKind P w) [e]) : (PySem.strKind P w).is x e.2 = true ↔ tx e = x := by
  obtain ⟨⟨k, hk, _⟩, _⟩ := h e (.head _)
  obtain ⟨t, q⟩ := Value.isStrOf_shape hk
  obtain ⟨a, v⟩ := e
  dsimp only at q
  subst q
  show (k == x) = true ↔ k = x
  exact beq_iff_eq
def SetX (P : Program) (w : World) (h : Heap) (a : Addr) (ks : List Str) : Prop := ∃ o es ep t, h.get? a = some o ∧ o.ExactSet ∧ o.data = .set es ep t ∧ InX P w es t ks
theorem SetX.keep {P : Program} {w : World} {h h' : Heap} {a : Addr} {ks : List Str} (R : SetX P w h a ks) (k : ∀ o, h.get? a = some o → h'.get? a = some o) : SetX P w h' a ks := by
  obtain ⟨o, es, ep, t, ho, r⟩ := R
  exact ⟨o, es, ep, t, k o ho, r⟩
theorem SetX.put {P : Program} {w : World} {h : Heap} {a : Addr} {o : Obj} {es es' : Array (Int × Value)} {ep : Nat} {t t' : SetTable} {ks : List Str} (ho : h.get? a = some o) (hx : o.ExactSet) (hd : o.data = .set es ep t) (X : InX P w es' t' ks) :
    (h.update a (Obj.putSet es' t')).get? a = some { o with data := .set es' (ep + 1) t' } ∧ SetX P w (h.update a (Obj.putSet es' t')) a ks := by
  have g := Heap.get?_update_self (Obj.putSet es' t') ho (by rw [putSet_of es' t' hd]; rfl)
  rw [putSet_of es' t' hd] at g
  exact ⟨g, _, es', _, t', g, hx, rfl, X⟩
section
variable {P : Program} {w : World} {A : Around} {E : Value → Shared → Prop} {s : Shared} {a : Addr} {ks : List Str}
/-- what is laid in is stored, and the table made wider where it is too full -/
theorem put_end {g : Bool → Sem Unit} (hg : ∀ (b : Bool) (s₁ : Shared) (Q' : Unit → Shared → Prop), Q' () s₁ → wpAny (model P w) A (g b) Q' E s₁) {o : Obj} {es es1 : Array (Int × Value)} {ep : Nat} {t t2 : SetTable} (ho : s.heap.get? a = some o)
    (hx : o.ExactSet) (hd : o.data = .set es ep t) (X : InX P w es1 t2 ks) {b : Bool} {R : Option Bool → Shared → Prop} (hR : ∀ h', Heap.SameBut a s.heap h' → SetX P w h' a ks → R (some true) { s with heap := h' }) :
    wpAny (model P w) A (storeSet a es1 t2 >>= fun _ => if (!b && t2.tooFull) = true then g (relayAll t2 es1 (SetTable.grown es1.size)).2.2 >>= fun _ =>
      storeSet a (relayAll t2 es1 (SetTable.grown es1.size)).1 (relayAll t2 es1 (SetTable.grown es1.size)).2.1 >>= fun _ => pure (some true) else pure (some true)) R E s := by
  have z1 : es1.size < scanBound := by rw [X.size]; exact X.ln
  obtain ⟨g1, S1⟩ := SetX.put ho hx hd X
  have k1 := Heap.SameBut.update s.heap a (Obj.putSet es1 t2)
  refine wpAny_bind (wpAny_storeSet_of ho hd ?_ (fits_of_scanBound z1))
  by_cases full : (!b && t2.tooFull) = true
  · rw [if_pos full]
    have p2 := relayAll_perm t2 es1 (SetTable.grown es1.size)
    have T2 := X.tb.anew es1 (SetTable.grown es1.size)
    obtain ⟨Z, hZ⟩ : ∃ Z, Z = relayAll t2 es1 (SetTable.grown es1.size) := ⟨_, rfl⟩
    rw [← hZ] at p2 T2 ⊢
    have X2 : InX P w Z.1 Z.2.1 ks := ⟨X.el.perm p2, (p2.map tx).trans X.pm, X.nd, X.ln, T2⟩
    refine wpAny_bind (hg _ _ _ (wpAny_bind (wpAny_storeSet_of g1 rfl ?_ (fits_of_scanBound (by rw [X2.size]; exact X.ln)))))
    exact wpAny_pure (hR _ (k1.trans (Heap.SameBut.update _ a _)) (SetX.put g1 hx rfl X2).2)
  · rw [if_neg full]
    exact wpAny_pure (hR _ k1 S1)
theorem add_tx {x : Str} {tk : Tok} {Q : Bool → Shared → Prop} (R : SetX P w s.heap a ks) (room : ks.length + 1 < scanBound) (hQ : ∀ b h', Heap.SameBut a s.heap h' → SetX P w h' a (if x ∈ ks then ks else ks ++ [x]) → Q b { s with heap := h' }) :
    wpAny (model P w) A (setAddHashed a (.str x tk) ((PySem.strKind P w).hash x)) Q E s := by
  have R' := R
  obtain ⟨o, es, ep, t, ho, hx, hd, X⟩ := R
  have key : (PySem.strKind P w).is x (.str x tk) = true := strKind_is P w x tk
  have sc : (Value.str x tk).scannable = true := rfl
  have one : ∀ e ∈ es.toList, ElemsOf (PySem.strKind P w) [e] := fun e he f hf => X.el f (List.mem_singleton.mp hf ▸ he)
  have z0 : es.size < scanBound := by rw [X.size]; exact X.ln
  unfold setAddHashed setAddHashedIn
  refine wpAny_holding (wpAny_bind (wpAny_setState_of ho hd X.tb.1 ?_))
  dsimp only
  rw [byScan_of sc z0 X.el]
  simp only [↓reduceIte]
  unfold setAddByScan
  refine wpAny_bind (wpAny_bind (wpAny_rule (wpAny_bind (wpAny_setScan_of key ho hd X.tb.1 X.el ?_))))
  by_cases hm : x ∈ ks
  · rw [if_pos hm] at hQ
    obtain ⟨e, he, ex⟩ := List.mem_map.mp (X.pm.mem_iff.mpr hm)
    cases q : List.findIdx? (fun e => (PySem.strKind P w).is x e.2) es.toList with
    | none =>
      have := List.findIdx?_eq_none_iff.mp q e he
      rw [(tx_is (one e he)).mpr ex] at this
      cases this
    | some j => exact wpAny_pure (wpAny_pure (hQ _ s.heap (Heap.SameBut.refl a s.heap) R'))
  · rw [if_neg hm] at hQ
    cases q : List.findIdx? (fun e => (PySem.strKind P w).is x e.2) es.toList with
    | some j =>
      obtain ⟨hj, pj, _⟩ := List.findIdx?_eq_some_iff_getElem.mp q
      have hin := List.getElem_mem hj
      exact absurd (X.pm.mem_iff.mp (List.mem_map.mpr ⟨_, hin, (tx_is (one _ hin)).mp pj⟩)) hm
    | none =>
      dsimp only
      have p1 := layNew_perm t es ((PySem.strKind P w).hash x) (.str x tk)
      have T1 := X.tb.laid es ((PySem.strKind P w).hash x) (.str x tk)
      obtain ⟨Z, hZ⟩ : ∃ Z, Z = layNew t es ((PySem.strKind P w).hash x) (.str x tk) := ⟨_, rfl⟩
      rw [← hZ] at p1 T1 ⊢
      rw [Array.toList_push] at p1
      have X1 : InX P w Z.1 Z.2.1 (ks ++ [x]) := by
        refine ⟨(X.el.push key sc).perm p1, (p1.map tx).trans ?_, ?_, by rw [List.length_append]; exact room, T1⟩
        · rw [List.map_append]
          exact X.pm.append (.refl _)
        · rw [List.nodup_append]
          exact ⟨X.nd, by simp, fun y hy z hz e => hm (by rw [List.mem_singleton.mp hz] at e; exact e ▸ hy)⟩
      have gw : ∀ (b : Bool) (s₁ : Shared) (Q' : Unit → Shared → Prop), Q' () s₁ → wpAny (model P w) A (match b with | true => rule "set.scan.the-table-gave-way" | false => pure ()) Q' E s₁ := fun b s₁ Q' h => by
        cases b
        · exact wpAny_pure h
        · exact wpAny_rule h
      refine wpAny_bind (gw _ _ _ ?_)
      obtain ⟨es1, t1, wd, gave⟩ := Z
      dsimp only at X1 ⊢
      split
      · refine wpAny_bind ?_
        rw [hashByValue_scannable 8 sc]
        refine wpAny_pure ?_
        refine put_end (b := wd) ?_ ho hx hd (t2 := _) (es1 := es1) (ks := ks ++ [x]) ?_ ?_
        · intro b s₁ Q' h; cases b <;> first | exact wpAny_pure h | exact wpAny_rule h
        · split
          · exact X1
          · exact ⟨X1.el, X1.pm, X1.nd, X1.ln, X1.tb.off⟩
        · intro h' sb r
          exact wpAny_pure (hQ _ h' sb r)
      · refine wpAny_bind (wpAny_pure ?_)
        simp only [↓reduceIte]
        refine put_end (b := wd) ?_ ho hx hd X1 ?_
        · intro b s₁ Q' h; cases b <;> first | exact wpAny_pure h | exact wpAny_rule h
        · intro h' sb r
          exact wpAny_pure (hQ _ h' sb r)
end
end S
/-! set(xs) of a list of texts; sorted of it -/
namespace S
open PySem PySem.Spec PyProof.Rows L2
section
variable {P : Program} {w : World} {A : Around} {E : Value → Shared → Prop} {s : Shared}
theorem upd_txs {I : Addr} {fp wr : List Addr} {G : Array GenState → Array GenState → Prop} {n : Nat} {Pv : Nat → Value → Prop} {St : Nat → Shared → Prop} {R : Result → Shared → Prop} (W : WalksS P w A.in1 I fp wr G n Pv St) (a : Addr) (ha : a ∉ fp)
    (all : List Str) (hv : ∀ i v, Pv i v → ∃ x t, all[i]? = some x ∧ v = .str x t) :
    ∀ (xs : List Str) (i : Nat) (s : Shared) (ks : List Str), all.drop i = xs → i + xs.length = n → St i s → SetX P w s.heap a ks → ks.length + xs.length < scanBound →
      (∀ s', Moved (a :: wr) G s s' → SetX P w s'.heap a (addU ks xs) → R (.ok (.ret .none)) s') → codeAny (model P w) A (.builtin "set.update.loop" ⟨[.ref a, .ref I], []⟩) R s := by
  have out : a ∉ wr := fun h => ha (W.sub _ h)
  have more : ∀ b ∈ wr, b ∈ a :: wr := fun b h => .tail _ h
  intro xs
  induction xs with
  | nil =>
    intro i s ks hx hn hs hS _ hR
    obtain rfl : i = n := by simpa using hn
    refine codeAny_builtin PyProof.Rows.F.entry_set_update_loop ?_
    rw [Around.under_plainId PyProof.Rows.F.plain_set_update_loop _]
    show wpAny _ A.in1 (pyNext (.ref I) >>= _) _ _ s
    refine wpAny_bind (W.done s _ _ hs fun s' hm => ?_)
    exact wpAny_pure (hR s' (hm.mono more) (hS.keep fun o e => hm.heap a o out e))
  | cons x xs ih =>
    intro i s ks hx hn hs hS hz hR
    simp only [List.length_cons] at hn hz
    have hx0 : all[i]? = some x := by
      have := congrArg List.head? hx
      simpa [List.head?_drop] using this
    have hx1 : all.drop (i + 1) = xs := by
      have := congrArg List.tail hx
      simpa [List.tail_drop] using this
    refine codeAny_builtin PyProof.Rows.F.entry_set_update_loop ?_
    rw [Around.under_plainId PyProof.Rows.F.plain_set_update_loop _]
    show wpAny _ A.in1 (pyNext (.ref I) >>= _) _ _ s
    refine wpAny_bind (W.item i s _ _ (by omega) hs fun v s' hP hs' hm => ?_)
    obtain ⟨y, t, hy, rfl⟩ := hv i v hP
    rw [hx0] at hy
    cases hy
    have hS' := hS.keep fun o e => hm.heap a o out e
    show wpAny _ A.in1 (holding [Value.str x t] (setAdd a (.str x t)) >>= _) _ _ s'
    refine wpAny_bind (wpAny_holding ?_)
    unfold setAdd
    refine wpAny_holding (wpAny_bind ((PySem.strKind P w).pyHash (k := x) (strKind_is _ _ _ _) ?_))
    refine add_tx (s := { s' with toks := s'.toks + 1 }) hS' (by omega) fun _ h' sb hS2 => ?_
    have ne : ∀ {b : Addr}, b ∈ fp → b ≠ a := fun hb e => ha (e ▸ hb)
    refine wpAny_pure ⟨plainId_quiet PyProof.Rows.F.plain_set_update_loop _, ih (i + 1) _ _ hx1 (by omega) (W.frame _ s' _ _ hs' (Nat.le_succ _) fun b hb o e => (sb.2 b (ne hb)).trans e) hS2 ?_ fun s2 hm2 hS3 => ?_⟩
    · have : (if x ∈ ks then ks else ks ++ [x]).length ≤ ks.length + 1 := by split <;> simp
      omega
    · exact hR s2 (Moved.trans W.gtrans ((hm.mono more).then_heap (Nat.le_succ _) fun b o hb e => (sb.2 b fun q => hb (q ▸ List.mem_cons_self)).trans e) hm2) hS3
end
end S
/-! set(xs) of a list of texts -/
namespace S
open PySem PySem.Spec PyProof.Rows L2
section
variable {P : Program} {w : World} {A : Around} {E : Value → Shared → Prop} {s : Shared}
theorem setX_0 {h : Heap} {a : Addr} (ho : h.get? a = some { cls := .type "set", dict := none, data := .set #[] 0 (.fresh 0 0 (!w.params.followText "set-order")) }) : SetX P w h a [] := by
  refine ⟨_, #[], 0, _, ho, ⟨rfl, rfl, rfl⟩, rfl, fun e he => by simp at he, .refl _, .nil, by decide, by rfl, .nil, ?_⟩
  show _ ∨ (!w.params.followText "set-order") = true
  cases w.params.followText "set-order"
  · exact .inr rfl
  · exact .inl rfl
/-- an empty set, as it is made ahead of its filling -/
abbrev set0 (w : World) : Obj := { cls := .type "set", dict := none, data := .set #[] 0 (.fresh 0 0 (!w.params.followText "set-order")) }
/-- what stands behind set.__init__ -/
def Filled (P : Program) (w : World) (xs : List Str) (s : Shared) (r : Value) (s₂ : Shared) : Prop := r = .none ∧ ∃ h' tk, s₂ = { s with heap := h', toks := tk } ∧ SetX P w h' s.heap.objs.size (addU [] xs) ∧ ∀ b o, s.heap.get? b = some o → h'.get? b = some o
set_option maxRecDepth 100000 in
set_option maxHeartbeats 3200000 in
theorem init_txs {l : Addr} {items : Array Value} {xs : List Str} (hh : A.handled = none) (hl : s.heap.IsList l items) (hi : StrsAre items.toList xs) (hb : xs.length < scanBound) :
    wpAny (model P w) A.in1 (Builtin.«set.__init__» ⟨[.ref s.heap.objs.size, .ref l], []⟩) (fun fin s' => match fin with
      | .done f => wants (Filled P w xs s) E (.ok f) s'
      | .again c' => c'.quiet = true ∧ codeAny (model P w) A c' (wants (Filled P w xs s) E) s') (fun e s' => wants (Filled P w xs s) E (.error e) s') { s with heap := s.heap.push (set0 w) } := by
  obtain ⟨⟨cls, dd, data, sl⟩, hol, hc, n, hd⟩ := hl
  simp only at hc hd
  subst hc hd
  have hS : (s.heap.push (set0 w)).get? s.heap.objs.size = some (set0 w) := Heap.get?_push_size _ rfl
  have hT : Shared.TypeIs { s with heap := s.heap.push (set0 w) } (.ref s.heap.objs.size) "set" := ⟨_, hS, rfl⟩
  have hol' : (s.heap.push (set0 w)).get? l = some { cls := .type "list", dict := dd, data := .seq items n, slots := sl } := Heap.get?_push_of_some _ hol
  have h1 := PySem.F.sub_list_set
  have h2 := PySem.F.sub_list_frozenset
  have h3 : (Value.type "list" == Value.type "dict") = false := by decide
  have hl1 : (s.heap.push (set0 w)).IsList l items := ⟨_, hol', rfl, n, rfl⟩
  have lt : l < s.heap.objs.size := Heap.lt_size hol
  have zp : (s.heap.push (set0 w)).objs.size = s.heap.objs.size + 1 := Heap.size_push ..
  have hz : items.size = xs.length := by rw [← StrsAre.len_eq hi, Array.length_toList]
  unfold Builtin.«set.__init__» noKeywords Builtin.Frozenset.updateFrom
  generalize hPI : pyIter = PI
  wp_walk
  subst hPI
  refine wpAny_pyIter_list hl1 ?_
  refine wpAny_bind (wpAny_runValue ?_)
  have h3' : A.in1.in1.handled = none := by simp [hh]
  have ne1 : l ≠ (s.heap.push (set0 w)).objs.size := by rw [zp]; exact ne_n (.inl (Nat.lt_succ_of_lt lt))
  have ne2 : s.heap.objs.size ∉ [(s.heap.push (set0 w)).objs.size, l] := by
    rw [zp]
    intro h
    rcases List.mem_cons.mp h with e | h
    · exact absurd e (Nat.ne_of_lt (Nat.lt_succ_self _))
    · exact absurd (List.mem_singleton.mp h) (Nat.ne_of_gt lt)
  refine upd_txs ((Walks.list h3' _ l ne1 items).toS) s.heap.objs.size ne2 xs (fun i v hv => ?_) xs 0 _ [] (by simp) (by simp [hz]) ?_ ?_ (by simpa using hb) fun s' hm hX => ?_
  · have hlt : i < xs.length := by rw [← hz]; exact (Array.getElem?_eq_some_iff.mp hv).1
    obtain ⟨t, e⟩ := SS.strs_at hi i v (by rw [Array.getElem?_toList]; exact hv)
    refine ⟨xs[i], t, List.getElem?_eq_getElem hlt, ?_⟩
    rw [e, List.getD_eq_getElem?_getD, List.getElem?_eq_getElem hlt]
    rfl
  · exact ⟨⟨_, Heap.get?_push_size _ rfl, rfl, rfl⟩, (hl1.push _)⟩
  · exact setX_0 (w := w) (Heap.get?_push_of_some _ hS)
  · obtain ⟨h', g2, d', tk', os'⟩ := s'
    have e1 : g2 = s.gens := hm.gens
    have e2 : d' = s.drawn := hm.drawn
    have e3 : os' = s.os := hm.os
    subst e1 e2 e3
    refine wpAny_pure ?_
    show wpAny _ _ (ret Value.none) _ _ _
    refine wpAny_pure ⟨rfl, h', tk', rfl, hX, fun b o e => ?_⟩
    have b0 : b < s.heap.objs.size := Heap.lt_size e
    refine hm.heap b o (fun h => ?_) (Heap.get?_push_of_some _ (Heap.get?_push_of_some _ e))
    rcases List.mem_cons.mp h with q | h
    · exact absurd q (Nat.ne_of_lt b0)
    · have q := List.mem_singleton.mp h
      rw [zp] at q
      exact absurd q (Nat.ne_of_lt (Nat.lt_succ_of_lt b0))
set_option maxRecDepth 100000 in
set_option maxHeartbeats 3200000 in
/-- set(xs) -/
theorem call_set_txs {l : Addr} {items : Array Value} {xs : List Str} {Q : Value → Shared → Prop} (hh : A.handled = none) (hl : s.heap.IsList l items) (hi : StrsAre items.toList xs) (hb : xs.length < scanBound)
    (h : ∀ h' tk, SetX P w h' s.heap.objs.size (addU [] xs) → (∀ b o, s.heap.get? b = some o → h'.get? b = some o) → Q (.ref s.heap.objs.size) { s with heap := h', toks := tk }) :
    wpAny (model P w) A (call (.type "set") [.ref l]) Q E s := by
  obtain ⟨c, tl, hmro⟩ := PySem.F.called_set.mro
  have m1 := PySem.F.called_set.made
  have m2 := PySem.F.called_set.sub
  have m3 := PySem.F.called_set.notType
  have m4 := PySem.F.called_set.canCreate
  have m5 := PySem.F.typeCall_set_1 (.ref l)
  refine wpAny_call (codeAny_of_tree ?_)
  show wpAny _ _ (callAny (.type "set") _) _ _ _
  refine wpAny_pure ⟨Code.quiet_builtin _ (by decide +kernel), codeAny_builtin PySem.F.entry_type_call ?_⟩
  rw [Around.under_plain (weight_type_call_type "set" [.ref l] []) rfl]
  repeat (any_goals (first | assumption | wp_step))
  refine codeAny_mono (L2.code_set_led1 (.ref l) (E := E) (Q₁ := fun obj s₁ => obj = .ref s.heap.objs.size ∧ s₁ = { s with heap := s.heap.push (set0 w) }) ⟨rfl, rfl⟩) fun r s₁ hr => ?_
  cases r with
  | error e => exact hr
  | ok fl =>
    cases fl with
    | ret obj =>
      obtain ⟨rfl, rfl⟩ := hr
      have hT : Shared.TypeIs { s with heap := s.heap.push (set0 w) } (.ref s.heap.objs.size) "set" := ⟨_, Heap.get?_push_size _ rfl, rfl⟩
      have i1 := PySem.F.called_set.init.lookup
      have i2 := PySem.F.called_set.init.bind (.ref s.heap.objs.size)
      repeat (any_goals (first | assumption | wp_step))
      refine codeAny_mono (codeAny_call_builtin (R := wants (Filled P w xs s) E) PySem.F.called_set.init.plain PySem.F.entry_set_init (check_set_init_1 hT (init_txs (by simpa using hh) hl hi hb))) fun r₂ s₂ hr₂ => ?_
      cases r₂ with
      | error e => exact hr₂
      | ok fl₂ =>
        cases fl₂ with
        | ret r =>
          obtain ⟨rfl, h', tk, rfl, hS', hk'⟩ := hr₂
          repeat (any_goals (first | assumption | wp_step))
          exact h _ _ hS' hk'
        | _ => exact hr₂.elim
    | _ => exact hr.elim
/-- sorted(found) -/
theorem sorted_txs {a : Addr} {ks : List Str} {Q : Value → Shared → Prop} (R : SetX P w s.heap a ks) (hh : A.handled = none) (h64 : ks.length < 64)
    (hQ : ∀ s' p (out : Array Value) (c : Nat), (∀ b o, s.heap.get? b = some o → s'.heap.get? b = some o) → s'.gens = s.gens → s'.os = s.os → s.heap.objs.size ≤ p →
      s'.heap.get? p = some (seqObj "list" out c) → StrsAre out.toList (sortS ks) → Q (.ref p) s') :
    wpAny (model P w) A (call (.builtin "sorted") [.ref a]) Q E s := by
  obtain ⟨o, es, ep, t, ho, hx, hd, X⟩ := R
  have z := X.size
  refine Calls.call_function_entry kind_sorted plain_sorted entry_sorted (args_sorted1 _) ?_
  unfold Builtin.«sorted»
  refine wpAny_bind (m := checkCount "sorted" 1 1 _) (wpAny_pure ?_)
  refine wpAny_bind (collect_set (A := A.in1) hh ⟨o, ho, hx.1, hd⟩ X.tb.1 (by rw [z]; exact X.ln) X.tb.2.1 X.tb.2.2 fun s1 vs k1 hz g1 o1 pm => ?_)
  have vl : vs.length = ks.length := by rw [pm.length_eq, List.length_map, Array.length_toList, z]
  have hS : StrsAre vs (vs.map strOf) := strsAre_map vs fun v hv => by
    obtain ⟨e, he, rfl⟩ := List.mem_map.mp (pm.mem_iff.mp hv)
    obtain ⟨⟨k, hk, _⟩, _⟩ := X.el e he
    obtain ⟨t, q⟩ := Value.isStrOf_shape hk
    exact ⟨k, t, q⟩
  have ps : (vs.map strOf).Perm ks := by
    refine (pm.map strOf).trans ?_
    rw [List.map_map]
    refine List.Perm.trans (.of_eq (List.map_congr_left fun e he => ?_)) X.pm
    obtain ⟨⟨k, hk, _⟩, _⟩ := X.el e he
    obtain ⟨t, q⟩ := Value.isStrOf_shape hk
    obtain ⟨a, v⟩ := e
    dsimp only at q
    subst q
    rfl
  refine wpAny_bind (wpAny_newList ?_ (by rw [vl, sizeLine_eq]; omega))
  have hoL : (s1.heap.push (seqObj "list" vs.toArray 0)).get? s1.heap.objs.size = some (seqObj "list" vs.toArray 0) := Heap.get?_push_size _ rfl
  refine wpAny_bind (wpAny_holding (wpAny_call_entry slot_list_sort ⟨_, hoL, rfl⟩ entry_list_sort (list_sort_treeK strKind_oneLt hoL hS.keysOf (fun v₁ v₂ rest e => keyKind_strs (by rw [← e]; exact hS)) (by rw [vl]; exact h64) fun st' a1 a2 => ⟨_, rfl, ?_⟩) (args_list_sort _)))
  obtain ⟨ys, y1, y2, y3⟩ := sorted_out_str hS a1 a2
  have ey : ys = sortS ks := sortS_uniq (y2.trans ps) y3
  subst ey
  obtain ⟨c, hc⟩ := sortedHeap_at (vs := vs) (out := (arrOf st').map (·.2)) hoL
  refine wpAny_pure ⟨_, rfl, hQ _ s1.heap.objs.size _ c (fun b u e => ?_) g1 o1 hz hc y1⟩
  have q := k1 b u e
  have lt := Heap.lt_size q
  show (sortedHeap (s1.heap.push (seqObj "list" vs.toArray 0)) s1.heap.objs.size vs _).get? b = some u
  rw [sortedHeap_old (Nat.ne_of_lt lt) (by rw [size_push']; exact Nat.lt_succ_of_lt lt)]
  exact Heap.get?_push_of_some _ q
end
end S
/-! sorted(set(xs)) -/
namespace S
open PySem PySem.Spec PyProof.Rows L2
theorem addU_le : ∀ (xs acc : List Str), (addU acc xs).length ≤ acc.length + xs.length
  | [], acc => by simp [addU]
  | x :: xs, acc => by
    have := addU_le xs (if x ∈ acc then acc else acc ++ [x])
    have h2 : (if x ∈ acc then acc else acc ++ [x]).length ≤ acc.length + 1 := by split <;> simp
    unfold addU
    simp only [List.length_cons]
    omega
theorem sortS_len (xs : List Str) : (sortS xs).length = xs.length := (sortS_perm xs).length_eq
theorem strsAre_vals : ∀ {xs : List Str} {us : List Value}, Vals (xs.map V.str) us → StrsAre us xs
  | [], us, h => by cases h; exact .nil
  | x :: xs, us, h => by
    cases h with
    | cons r t =>
      obtain ⟨k, rfl⟩ := r
      exact .cons x k (strsAre_vals t)
theorem vals_of_strsAre : ∀ {us : List Value} {xs : List Str}, StrsAre us xs → Vals (xs.map V.str) us
  | _, _, .nil => .nil
  | _, _, .cons n t r => .cons ⟨t, rfl⟩ (vals_of_strsAre r)
def tSortedSet (K : PySem.W.Frag) (ta : TE) : TE := fun σ H Q => ta σ H fun x H1 => ∃ l xs, x = .ref l ∧ SqL K H1 l (xs.map V.str) ∧ xs.length < 64 ∧ ∀ p, H1 p = none → Q (.ref p) (upd H1 p (.lst ((sortS (addU [] xs)).map V.str)))
theorem pe_sortedSet {X : Cx} {a : Expr} {ta : TE} {p p2 q pos : Pos} (hc : X.calm = true) (hg : Gl X "sorted") (hm : X.mg "sorted" = none) (hg2 : Gl X "set") (hm2 : X.mg "set" = none) (ha : PE X a ta)
    (na : starEach [a] X.env = (false, eval a X.env) :: starEach [] X.env := by rfl) : PE X (.Call (.Name "sorted" p) [.Call (.Name "set" p2) [a] [] q] [] pos) (tSortedSet X.K ta) := by
  refine ⟨fun pins s σ H Q I h => ?_⟩
  refine Call_ (ld_blt I hg hm boot_sorted ?_)
  refine PyProof.Rows.callWith_builtin1 (PyProof.Rows.args_cons ?_ rfl) rfl rfl
  refine Call_ (ld_blt I hg2 hm2 boot_set ?_)
  refine PyProof.Rows.callWith_type1 (PyProof.Rows.args_cons (thn (ha.run pins s σ H _ I h) fun v s1 ⟨x, H1, I1, r1, q1⟩ => PyProof.Rows.args_nil ?_) na) na rfl
  obtain ⟨l, xs, rfl, hs, h64, q1⟩ := q1
  cases r1
  obtain ⟨its, rv, hl, _⟩ := I1.list hs
  refine call_set_txs (I1.ok.hd hc) hl.isList (by simpa using strsAre_vals rv) (by unfold scanBound; omega) fun h' tk R k1 => PyProof.Rows.args_nil ?_
  have I2 : Inv X pins σ H1 { s1 with heap := h', toks := tk } := I1.kept k1
  have hz := addU_le xs []
  simp only [List.length_nil, Nat.zero_add] at hz
  refine sorted_txs (s := { s1 with heap := h', toks := tk }) R (I2.ok.hd hc) (by omega) fun s' p out c k g o hp ho hst => ?_
  have hn : H1 p = none := I2.hok.fresh hp
  have hlen : ((sortS (addU [] xs)).map V.str).length ≤ sizeLine := by rw [List.length_map, sortS_len, sizeLine_eq]; omega
  obtain ⟨s2, hs2⟩ : ∃ s2 : Shared, s2 = { s1 with heap := h', toks := tk } := ⟨_, rfl⟩
  rw [← hs2] at I2 k g o hp
  have J : Inv X pins σ (upd H1 p (.lst ((sortS (addU [] xs)).map V.str))) { s2 with heap := s'.heap, gens := s'.gens, drawn := s'.drawn, toks := s'.toks } :=
    I2.call (ch := []) (Un.laid k hp hn) (I2.hok.laid k hp ⟨hlen, out.toList, c, vals_of_strsAre hst, ho⟩) (by rw [g]; exact I2.bare) (fun _ z => nomatch z)
  have e : s' = { s2 with heap := s'.heap, gens := s'.gens, drawn := s'.drawn, toks := s'.toks } := by
    cases s'
    cases s2
    cases o
    rfl
  rw [e]
  exact ⟨.ref p, _, J, rfl, q1 p hn⟩
def dSortedSet (as : List D) (st : Sto) : R D := match as with
  | [a] => (match itemsL st a with
    | some xs => if xs.all isS && decide (xs.length < 64) then .ok (.lst ((sortS (addU [] (xs.map sOf))).map .str)) st else .stuck
    | none => .stuck)
  | _ => .stuck
def mSortedSet (m : M) : M := fun env st => (m env st).bind fun d st1 => dSortedSet [d] st1
theorem pS_sortedSet {G : GA} {W : WX} {X : Cx} {a : Expr} {m : M} {p p2 q pos : Pos} (hc : X.calm = true) (hg : Gl X "sorted") (hm : X.mg "sorted" = none) (hg2 : Gl X "set") (hm2 : X.mg "set" = none) (ha : PE X a (tS X.K G W m))
    (na : starEach [a] X.env = (false, eval a X.env) :: starEach [] X.env := by rfl) : PE X (.Call (.Name "sorted" p) [.Call (.Name "set" p2) [a] [] q] [] pos) (tS X.K G W (mSortedSet m)) :=
  pe_of (pe_sortedSet hc hg hm hg2 hm2 ha na) fun σ H Q h => rs_bind (f := fun d _ st1 => dSortedSet [d] st1) h fun d x H1 Z env st R S p q => by
    unfold dSortedSet at q
    dsimp only at q
    split at q
    · rename_i e
      obtain ⟨l, vs, rfl, h1, r1⟩ := R.itemsL p e
      split at q
      · rename_i hb
        rw [Bool.and_eq_true, decide_eq_true_iff] at hb
        refine ⟨l, _, rfl, by rw [← rep_strs hb.1 r1]; exact h1, by rw [List.length_map]; exact hb.2, fun p hp => ?_⟩
        exact q.newL R (reps_str _) hp
      · exact q.elim
    · exact q.elim
end S
/-! a list that lies in a list and changes behind a call: locked during the call alone -/
namespace S
open PySem L2 PyProof.Rows
mutual
/-- no read-only list within -/
def noR : D → Bool
  | .rls _ => false
  | .lst xs => noRL xs
  | .tup xs => noRL xs
  | .dct _ xs => noRL xs
  | .dkd ks xs => noRL ks && noRL xs
  | .ptp xs => noRL xs
  | .ins _ _ xs => noRL xs
  | _ => true
def noRL : List D → Bool
  | [] => true
  | d :: ds => noR d && noRL ds
end
def noRC : C → Bool
  | .lst xs => noRL xs
  | .dct _ xs => noRL xs
  | .dkd ks xs => noRL ks && noRL xs
  | .ins _ _ xs => noRL xs
  | .tab _ => true
  | .dead => true
/-- cells in which read-only lists lie are forgotten -/
def thinR (c : C) : C := if noRC c = true then c else .dead
def mTmpR (i j : Nat) (m : M) : M := fun env st => match env[i]? with
  | some (some (.lst ds)) => (match ds[j]? with
    | some (.ptr k) => (match st[k]? with
      | some (.lst xs) => (match m (env.set i (some (.lst (ds.set j (.rls xs))))) ((st.map thinR).set k .dead) with
        | .ok d st' => if (noR d && (st'.all noRC && isDead st'[k]?)) = true then .ok d (st'.set k (.lst xs)) else .stuck
        | _ => .stuck)
      | _ => .stuck)
    | _ => .stuck)
  | _ => .stuck
section
variable {K : PySem.W.Frag} {G : GA}
mutual
theorem Rep.thawR {Z : Gh} {a : Addr} {od : Obj} {ws : List V} (ha : Z.fz a = some (.frz od (.lst ws))) : ∀ (d : D) (v : V), noR d = true → Rep K G Z d v → Rep K G (Z.thaw a) d v
  | .non, _, _, h => h
  | .bl _, _, _, h => h
  | .int _, _, _, h => h
  | .str _, _, _, h => h
  | .cls _, _, _, h => h
  | .ptr _, _, _, h => h
  | .fn _, _, _, h => h
  | .rls _, _, n, _ => by unfold noR at n; cases n
  | .lst ds, v, n, ⟨b, vs, e, q, r⟩ => by
    unfold noR at n
    refine ⟨b, vs, e, ?_, RepL.thawR ha ds vs n r⟩
    rw [thaw_ne (fun hb => by rw [hb, ha] at q; cases q)]
    exact q
  | .tup ds, v, n, ⟨b, vs, e, q, r⟩ => by
    unfold noR at n
    refine ⟨b, vs, e, ?_, RepL.thawR ha ds vs n r⟩
    rcases q with q | q
    · refine .inl ?_
      rcases q with q | ⟨o, q⟩
      · exact .inl (by rw [thaw_ne (fun hb => by rw [hb, ha] at q; cases q)]; exact q)
      · exact .inr ⟨o, by rw [thaw_ne (fun hb => by rw [hb, ha] at q; cases q)]; exact q⟩
    · exact .inr q
  | .dct ks ds, v, n, ⟨b, vs, e, q, hl, r⟩ => by
    unfold noR at n
    refine ⟨b, vs, e, ?_, hl, RepL.thawR ha ds vs n r⟩
    rcases q with q | ⟨o, q⟩
    · exact .inl (by rw [thaw_ne (fun hb => by rw [hb, ha] at q; cases q)]; exact q)
    · exact .inr ⟨o, by rw [thaw_ne (fun hb => by rw [hb, ha] at q; cases q)]; exact q⟩
  | .dkd ks ds, v, n, ⟨b, o, xs, e, q, m, r, t⟩ => by
    unfold noR at n
    rw [Bool.and_eq_true] at n
    refine ⟨b, o, xs, e, ?_, m, RepL.thawR ha ks _ n.1 r, RepL.thawR ha ds _ n.2 t⟩
    rw [thaw_ne (fun hb => by rw [hb, ha] at q; unfold DkO at q; cases q)]
    exact q
  | .ptp ds, v, n, ⟨b, o, vs, e, q, m, r⟩ => by
    unfold noR at n
    refine ⟨b, o, vs, e, ?_, m, RepL.thawR ha ds vs n r⟩
    rw [thaw_ne (fun hb => by rw [hb, ha] at q; cases q)]
    exact q
  | .ins c ns ds, v, n, ⟨b, dx, vs, e, q, hl, r⟩ => by
    unfold noR at n
    refine ⟨b, dx, vs, e, ?_, hl, RepL.thawR ha ds vs n r⟩
    rw [thaw_ne (fun hb => by rw [hb, ha] at q; cases q)]
    exact q
theorem RepL.thawR {Z : Gh} {a : Addr} {od : Obj} {ws : List V} (ha : Z.fz a = some (.frz od (.lst ws))) : ∀ (ds : List D) (vs : List V), noRL ds = true → RepL K G Z ds vs → RepL K G (Z.thaw a) ds vs
  | [], _, _, h => h
  | d :: ds, vs, n, ⟨v, t, e, p, q⟩ => by
    unfold noRL at n
    rw [Bool.and_eq_true] at n
    exact ⟨v, t, e, Rep.thawR ha d v n.1 p, RepL.thawR ha ds t n.2 q⟩
end
theorem RepC.thawR {Z : Gh} {a b : Addr} {od : Obj} {ws : List V} {H : Hp} (ha : Z.fz a = some (.frz od (.lst ws))) {c : C} (n : noRC c = true) (h : RepC K G Z H b c) : RepC K G (Z.thaw a) H b c := by
  cases c with
  | lst ds => obtain ⟨vs, h1, r⟩ := h; exact ⟨vs, h1, RepL.thawR ha ds vs n r⟩
  | dct ks ds => obtain ⟨vs, h1, h2, r⟩ := h; exact ⟨vs, h1, h2, RepL.thawR ha ds vs n r⟩
  | dkd ks ds =>
    obtain ⟨xs, h1, h2, h3, h4⟩ := h
    unfold noRC at n
    rw [Bool.and_eq_true] at n
    exact ⟨xs, h1, h2, RepL.thawR ha ks _ n.1 h3, RepL.thawR ha ds _ n.2 h4⟩
  | ins c ns ds => obtain ⟨dx, vs, h1, h2, r⟩ := h; exact ⟨dx, vs, h1, h2, RepL.thawR ha ds vs n r⟩
  | tab z =>
    obtain ⟨e0, ps, h1, h2, k⟩ := h
    refine ⟨e0, ps, h1, h2, fun pos cv y => ?_⟩
    obtain ⟨c, q1, q2⟩ := k pos cv y
    refine ⟨c, q1, ?_⟩
    rw [thaw_ne]
    · exact q2
    · rintro rfl
      rw [ha] at q2
      unfold LamX.CodeO at q2
      cases q2
  | dead => trivial
theorem RelH.thawR {Z Z2 : Gh} {H H2 : Hp} {st st' : Sto} {k : Nat} {a : Addr} {od : Obj} {c0 : C} {ws : List V} (R : RelH K G Z H st) (hk : st[k]? = some c0) (hl0 : c0.live = true) (hp : Z.rho[k]? = some a) (hc0 : ∀ Z' H', Z.le Z' → H' a = some (.lst ws) → RepC K G Z' H' a c0) (l : Z.ex Z2) (tm : Z2.tmp = Z.tmp)
    (ha : Z2.fz a = some (.frz od (.lst ws))) (R2 : RelH K G Z2 H2 st') (hn : st'.all noRC = true) (hd : st'[k]? = some .dead) :
    Z.le (Z2.thaw a) ∧ RelH K G (Z2.thaw a) (upd H2 a (.lst ws)) (st'.set k c0) := by
  have za : Z.fz a = none := R.off k _ a hk hl0 hp
  have p2 : Z2.rho[k]? = some a := l.at hp
  have le : Z.le (Z2.thaw a) := ⟨fun b u e => by rw [thaw_ne (ne_of_none e za)]; exact l.fz _ _ e, l.rho, tm⟩
  have kl : k < st'.length := (List.getElem?_eq_some_iff.mp hd).1
  have alt : ∀ {i : Nat} {c : C}, (st'.set k c0)[i]? = some c → (i = k ∧ c = c0) ∨ (i ≠ k ∧ st'[i]? = some c) := fun {i c} e => by
    by_cases hi : i = k
    · subst hi
      rw [List.getElem?_set_self kl] at e
      cases e
      exact .inl ⟨rfl, rfl⟩
    · rw [List.getElem?_set_ne (Ne.symm hi)] at e
      exact .inr ⟨hi, e⟩
  have no : ∀ {i : Nat} {c : C}, st'[i]? = some c → noRC c = true := fun {i c} e => List.all_eq_true.mp hn c (List.mem_of_getElem? e)
  have ha2 : ∀ {i : Nat} {c : C}, st'[i]? = some c → c.live = true → Z2.rho[i]? ≠ some a := fun {i c} e hl hi => by
    have := R2.off i c a e hl hi
    rw [ha] at this
    cases this
  refine ⟨le, ⟨fun b u e => ?_, by rw [List.length_set]; exact R2.len, fun i c b e hr => ?_, fun i c b e hl hr => ?_, fun i j c c' b e1 e2 h1 h2 r1 r2 => ?_, fun b u e => ?_, fun b o e => ?_, G.mono le.fz R.lk⟩⟩
  · by_cases hb : b = a
    · subst hb
      have : (if b = b then none else Z2.fz b) = some u := e
      rw [if_pos rfl] at this
      cases this
    · rw [thaw_ne hb] at e
      rw [upd_ne hb]
      exact R2.fz _ _ e
  · rcases alt e with ⟨rfl, rfl⟩ | ⟨hi, e⟩
    · have hr' : Z2.rho[i]? = some b := hr
      rw [p2] at hr'
      cases hr'
      exact hc0 _ _ le upd_same
    · cases hl : c.live with
      | false => cases c <;> first | trivial | cases hl
      | true =>
        have ne : b ≠ a := fun z => ha2 e hl (by rw [← z]; exact hr)
        exact RepC.thawR ha (no e) (RepC.congr (upd_ne ne) (R2.cell i c b e hr))
  · rcases alt e with ⟨rfl, rfl⟩ | ⟨hi, e⟩
    · have hr' : Z2.rho[i]? = some b := hr
      rw [p2] at hr'
      cases hr'
      show (if a = a then none else Z2.fz a) = none
      rw [if_pos rfl]
    · have z := R2.off i c b e hl hr
      show (if b = a then none else Z2.fz b) = none
      rw [z]
      split <;> rfl
  · rcases alt e1 with ⟨i1, c1⟩ | ⟨hi, f1⟩
    · rcases alt e2 with ⟨j1, c2⟩ | ⟨hj, f2⟩
      · rw [i1, j1]
      · have r1' : Z2.rho[i]? = some b := r1
        rw [i1, p2] at r1'
        cases r1'
        exact absurd r2 (ha2 f2 h2)
    · rcases alt e2 with ⟨j1, c2⟩ | ⟨hj, f2⟩
      · have r2' : Z2.rho[j]? = some b := r2
        rw [j1, p2] at r2'
        cases r2'
        exact absurd r1 (ha2 f1 h1)
      · exact R2.inj i j c c' b f1 f2 h1 h2 r1 r2
  · have ne : b ≠ a := fun z => by
      have := (R2.tof b u e).1
      rw [z, ha] at this
      cases this
    rw [upd_ne ne]
    exact R2.tmp _ _ e
  · obtain ⟨t1, t2⟩ := R2.tof b o e
    refine ⟨?_, fun i c e1 hl hr => ?_⟩
    · show (if b = a then none else Z2.fz b) = none
      rw [t1]
      split <;> rfl
    · rcases alt e1 with ⟨rfl, rfl⟩ | ⟨hi, e1⟩
      · have hr' : Z2.rho[i]? = some b := hr
        rw [p2] at hr'
        cases hr'
        rw [ha] at t1
        cases t1
      · exact t2 i c e1 hl hr
theorem thinR_live {c : C} (h : (thinR c).live = true) : thinR c = c := by
  unfold thinR at h ⊢
  split
  · rfl
  · rename_i z
    rw [if_neg z] at h
    cases h
theorem RelH.thinR {Z : Gh} {H : Hp} {st : Sto} (R : RelH K G Z H st) : RelH K G Z H (st.map thinR) := by
  have ex : ∀ {i : Nat} {c : C}, (st.map S.thinR)[i]? = some c → ∃ c0, st[i]? = some c0 ∧ c = S.thinR c0 := fun {i c} e => by
    rw [List.getElem?_map] at e
    cases q : st[i]? with
    | none => rw [q] at e; cases e
    | some c0 => rw [q] at e; cases e; exact ⟨c0, rfl, rfl⟩
  have lv : ∀ {i : Nat} {c : C}, (st.map S.thinR)[i]? = some c → c.live = true → st[i]? = some c := fun {i c} e h => by
    obtain ⟨c0, e0, rfl⟩ := ex e
    rw [thinR_live h]
    exact e0
  refine ⟨R.fz, by rw [List.length_map]; exact R.len, fun i c a e hr => ?_, fun i c a e hl hr => R.off i c a (lv e hl) hl hr, fun i j c c' a e1 e2 h1 h2 r1 r2 => R.inj i j c c' a (lv e1 h1) (lv e2 h2) h1 h2 r1 r2, R.tmp, fun a o e => ⟨(R.tof a o e).1, fun i c e1 hl => (R.tof a o e).2 i c (lv e1 hl) hl⟩, R.lk⟩
  cases hl : c.live with
  | false => cases c <;> first | trivial | cases hl
  | true => exact R.cell i c a (lv e hl) hr
end
section
variable {G : GA} {W : WX} {X : Cx} {e : Expr} {m : M}
theorem pS_tmpR {i j : Nat} (h : PE X e (tS X.K G W m)) : PE X e (tS X.K G W (mTmpR i j m)) := by
  refine pe_of (pe_lock h) fun σ H Q q => ?_
  obtain ⟨Z, env, st, R, S, h0⟩ := q
  unfold mTmpR at h0
  split at h0
  · rename_i ds e1
    split at h0
    · rename_i k ej
      split at h0
      · rename_i xs e2
        obtain ⟨v, e3, b, vs, rfl, fb, rv⟩ := S.get e1
        obtain ⟨w, ew, a, hp, rfl⟩ := rv.get ej
        obtain ⟨us, h1, h2⟩ := R.cell _ _ _ e2 hp
        refine ⟨a, .lst us, h1, trivial, fun od => ?_⟩
        obtain ⟨l, R'⟩ := RelH.relay (o := .frz od (.lst us)) R e2 rfl hp
        have rx : Rep X.K G ⟨upd Z.fz a (.frz od (.lst us)), Z.rho, Z.tmp⟩ (.rls xs) (.ref a) := ⟨a, us, rfl, .inl (.inr ⟨od, upd_same⟩), RepL.up l _ _ h2⟩
        have rl := RepL.set rx j (rv.up l)
        have ev : vs.set j (.ref a) = vs := by
          obtain ⟨_, q⟩ := List.getElem?_eq_some_iff.mp ew
          rw [← q]
          exact List.set_getElem_self _
        rw [ev] at rl
        have S' := RepE.set (d := .lst (ds.set j (.rls xs))) (v := .ref b) ⟨b, vs, rfl, l.fz _ _ fb, rl⟩ i (S.up l)
        rw [set_same e3] at S'
        have R3 := R'.thinR
        rw [List.map_set, show _root_.S.thinR C.dead = C.dead from rfl] at R3
        refine ⟨_, _, _, R3, S', ?_⟩
        split at h0
        · rename_i d st' e4
          rw [e4]
          split at h0
          · rename_i hc
            rw [Bool.and_eq_true, Bool.and_eq_true] at hc
            intro Z2 v2 H2 l2 R2 r2
            have ha : Z2.fz a = some (.frz od (.lst us)) := l2.fz _ _ upd_same
            have hd : st'[k]? = some .dead := by
              have := hc.2.2
              unfold isDead at this
              split at this
              · rename_i z; exact z
              · cases this
            obtain ⟨l3, R4⟩ := RelH.thawR R e2 rfl hp (fun Z' H' le' e' => ⟨us, e', RepL.up le' _ _ h2⟩) (l.trans l2).ex (l2.tmp.trans l.tmp) ha R2 hc.2.1 hd
            exact ⟨R2.fz _ _ ha, h0 _ v2 _ l3 R4 (Rep.thawR ha d v2 hc.1 r2)⟩
          · exact h0.elim
        · exact h0.elim
      · exact h0.elim
    · exact h0.elim
  · exact h0.elim
end
end S
namespace K
open PySem L2 S
abbrev PG : Program := PySem.Challenge.pw_wholetraces_k09_services_made
def topS (i : Nat) : Stmt := PG.main.body.getD i (.Pass ⟨0, 0, 0, 0⟩)
abbrev s_is_name : Stmt := topS 8
theorem sc_is_name : FnScope ["value", "letter"] ["value"] (defScope s_is_name) := ⟨rfl, rfl, rfl, by decide +kernel, rfl, by decide +kernel, by decide +kernel⟩
abbrev s_is_word : Stmt := topS 9
theorem sc_is_word : FnScope ["value", "others"] ["value", "others"] (defScope s_is_word) := ⟨rfl, rfl, rfl, by decide +kernel, rfl, by decide +kernel, by decide +kernel⟩
abbrev s_is_mark : Stmt := topS 10
theorem sc_is_mark : FnScope ["value"] ["value"] (defScope s_is_mark) := ⟨rfl, rfl, rfl, by decide +kernel, rfl, by decide +kernel, by decide +kernel⟩
abbrev s_is_sign : Stmt := topS 11
theorem sc_is_sign : FnScope ["value"] ["value"] (defScope s_is_sign) := ⟨rfl, rfl, rfl, by decide +kernel, rfl, by decide +kernel, by decide +kernel⟩
abbrev s_is_sequence : Stmt := topS 12
theorem sc_is_sequence : FnScope ["value"] ["value"] (defScope s_is_sequence) := ⟨rfl, rfl, rfl, by decide +kernel, rfl, by decide +kernel, by decide +kernel⟩
abbrev s_are_names : Stmt := topS 13
theorem sc_are_names : FnScope ["value", "name"] ["value"] (defScope s_are_names) := ⟨rfl, rfl, rfl, by decide +kernel, rfl, by decide +kernel, by decide +kernel⟩
abbrev s_Row_init : Stmt := inClass (topS 15) 0
theorem sc_Row_init : FnScope ["self", "text"] ["self", "text"] (defScope s_Row_init) := ⟨rfl, rfl, rfl, by decide +kernel, rfl, by decide +kernel, by decide +kernel⟩
abbrev s_Row_str : Stmt := inClass (topS 15) 1
theorem sc_Row_str : FnScope ["self"] ["self"] (defScope s_Row_str) := ⟨rfl, rfl, rfl, by decide +kernel, rfl, by decide +kernel, by decide +kernel⟩
abbrev s_need : Stmt := topS 16
theorem sc_need : FnScope ["is_right", "word"] ["is_right", "word"] (defScope s_need) := ⟨rfl, rfl, rfl, by decide +kernel, rfl, by decide +kernel, by decide +kernel⟩
abbrev s_Begin_init : Stmt := inClass (topS 18) 0
theorem sc_Begin_init : FnScopeS ["self", "mark", "kind", "mood"] ["self", "mark", "kind", "mood"] (defScope s_Begin_init) := ⟨rfl, rfl, rfl, by decide +kernel, rfl, by decide +kernel, by decide +kernel, by decide +kernel, rfl, rfl⟩
abbrev s_Send_init : Stmt := inClass (topS 19) 0
theorem sc_Send_init : FnScopeS ["self", "mood", "service", "mark"] ["self", "mood", "service", "mark"] (defScope s_Send_init) := ⟨rfl, rfl, rfl, by decide +kernel, rfl, by decide +kernel, by decide +kernel, by decide +kernel, rfl, rfl⟩
abbrev s_Back_init : Stmt := inClass (topS 20) 0
theorem sc_Back_init : FnScopeS ["self", "mood", "service", "sign", "then"] ["self", "mood", "service", "sign", "then"] (defScope s_Back_init) := ⟨rfl, rfl, rfl, by decide +kernel, rfl, by decide +kernel, by decide +kernel, by decide +kernel, rfl, rfl⟩
abbrev s_End_init : Stmt := inClass (topS 21) 0
theorem sc_End_init : FnScopeS ["self", "mood", "outcome", "sign", "part"] ["self", "mood", "outcome", "sign", "part"] (defScope s_End_init) := ⟨rfl, rfl, rfl, by decide +kernel, rfl, by decide +kernel, by decide +kernel, by decide +kernel, rfl, rfl⟩
abbrev s_need_24 : Stmt := topS 24
theorem sc_need_24 : FnScope ["is_right", "word"] ["is_right", "word"] (defScope s_need_24) := ⟨rfl, rfl, rfl, by decide +kernel, rfl, by decide +kernel, by decide +kernel⟩
abbrev s_moods_of : Stmt := topS 28
theorem sc_moods_of : FnScope ["words", "some", "mood"] ["words"] (defScope s_moods_of) := ⟨rfl, rfl, rfl, by decide +kernel, rfl, by decide +kernel, by decide +kernel⟩
abbrev s_ascending : Stmt := topS 26
theorem sc_ascending : FnScope ["words", "word"] ["words"] (defScope s_ascending) := ⟨rfl, rfl, rfl, by decide +kernel, rfl, by decide +kernel, by decide +kernel⟩
abbrev s_Service_init : Stmt := inClass (topS 27) 0
theorem sc_Service_init : FnScope ["self", "name", "kinds", "waits", "leaves", "rows", "lines", "row", "words", "mood"] ["self", "name", "kinds", "waits", "leaves", "rows"] (defScope s_Service_init) := ⟨rfl, rfl, rfl, by decide +kernel, rfl, by decide +kernel, by decide +kernel⟩
abbrev s_Service_str : Stmt := inClass (topS 27) 6
theorem sc_Service_str : FnScope ["self"] ["self"] (defScope s_Service_str) := ⟨rfl, rfl, rfl, by decide +kernel, rfl, by decide +kernel, by decide +kernel⟩
abbrev s_Service_eq : Stmt := inClass (topS 27) 7
theorem sc_Service_eq : FnScope ["self", "other"] ["self", "other"] (defScope s_Service_eq) := ⟨rfl, rfl, rfl, by decide +kernel, rfl, by decide +kernel, by decide +kernel⟩
abbrev s__law_box : Stmt := topS 30
theorem sc__law_box : FnScope ["_law_script", "_law_k", "_law_cell", "_law_seed", "_law_wide"] ["_law_script", "_law_k"] (defScope s__law_box) := ⟨rfl, rfl, rfl, by decide +kernel, rfl, by decide +kernel, by decide +kernel⟩
abbrev s__law_take : Stmt := topS 31
theorem sc__law_take : FnScope ["_law_box_here", "_law_many", "_law_digit", "_law_near"] ["_law_box_here", "_law_many"] (defScope s__law_take) := ⟨rfl, rfl, rfl, by decide +kernel, rfl, by decide +kernel, by decide +kernel⟩
abbrev s__law_pick : Stmt := topS 32
theorem sc__law_pick : FnScope ["_law_box_here", "_law_some_here"] ["_law_box_here", "_law_some_here"] (defScope s__law_pick) := ⟨rfl, rfl, rfl, by decide +kernel, rfl, by decide +kernel, by decide +kernel⟩
abbrev s__law_mixed : Stmt := topS 33
theorem sc__law_mixed : FnScope ["_law_box_here", "_law_some_here", "_law_left", "_law_found"] ["_law_box_here", "_law_some_here"] (defScope s__law_mixed) := ⟨rfl, rfl, rfl, by decide +kernel, rfl, by decide +kernel, by decide +kernel⟩
abbrev s__law_names : Stmt := topS 34
theorem sc__law_names : FnScope ["_law_box_here", "_law_many", "_law_words_here", "_law_letters", "_law_form", "_law_spot", "_law_k"] ["_law_box_here", "_law_many"] (defScope s__law_names) := ⟨rfl, rfl, rfl, by decide +kernel, rfl, by decide +kernel, by decide +kernel⟩
abbrev s__law_row_text : Stmt := topS 35
theorem sc__law_row_text : FnScope ["_law_row_here"] ["_law_row_here"] (defScope s__law_row_text) := ⟨rfl, rfl, rfl, by decide +kernel, rfl, by decide +kernel, by decide +kernel⟩
abbrev s__law_row : Stmt := topS 36
theorem sc__law_row : FnScope ["_law_row_here"] ["_law_row_here"] (defScope s__law_row) := ⟨rfl, rfl, rfl, by decide +kernel, rfl, by decide +kernel, by decide +kernel⟩
abbrev s__law_words : Stmt := topS 37
theorem sc__law_words : FnScope ["_law_row_here"] ["_law_row_here"] (defScope s__law_words) := ⟨rfl, rfl, rfl, by decide +kernel, rfl, by decide +kernel, by decide +kernel⟩
abbrev s__law_drawn_row : Stmt := topS 38
theorem sc__law_drawn_row : FnScope ["_law_box_here", "_law_sort", "_law_pools", "_law_found", "_law_word", "_law_others", "_law_names_here", "_law_near"] ["_law_box_here", "_law_sort", "_law_pools"] (defScope s__law_drawn_row) := ⟨rfl, rfl, rfl, by decide +kernel, rfl, by decide +kernel, by decide +kernel⟩
abbrev s__law_service_of : Stmt := topS 39
theorem sc__law_service_of : FnScope ["_law_one", "_law_rows", "_law_row_here"] ["_law_one"] (defScope s__law_service_of) := ⟨rfl, rfl, rfl, by decide +kernel, rfl, by decide +kernel, by decide +kernel⟩
abbrev s__law_lines_of : Stmt := topS 40
theorem sc__law_lines_of : FnScope ["_law_one", "_law_found", "_law_word", "_law_row_here"] ["_law_one"] (defScope s__law_lines_of) := ⟨rfl, rfl, rfl, by decide +kernel, rfl, by decide +kernel, by decide +kernel⟩
abbrev s__law_some : Stmt := topS 41
theorem sc__law_some : FnScope ["_law_box_here", "_law_names_here", "_law_fewest"] ["_law_box_here", "_law_names_here", "_law_fewest"] (defScope s__law_some) := ⟨rfl, rfl, rfl, by decide +kernel, rfl, by decide +kernel, by decide +kernel⟩
abbrev s__law_any_service : Stmt := topS 42
theorem sc__law_any_service : FnScope ["_law_box_here", "_law_name", "_law_names_here", "_law_words_here", "_law_kinds", "_law_moods_here", "_law_pools", "_law_some_here", "_law_rows", "_law_found", "_law_turn", "_law_sort"] ["_law_box_here", "_law_name", "_law_names_here", "_law_words_here"] (defScope s__law_any_service) := ⟨rfl, rfl, rfl, by decide +kernel, rfl, by decide +kernel, by decide +kernel⟩
abbrev s__law_moods : Stmt := topS 43
theorem sc__law_moods : FnScope ["_law_rows", "_law_found", "_law_row_here", "_law_mood"] ["_law_rows"] (defScope s__law_moods) := ⟨rfl, rfl, rfl, by decide +kernel, rfl, by decide +kernel, by decide +kernel⟩
abbrev s__law_right : Stmt := topS 44
theorem sc__law_right : FnScope ["_law_made", "_law_one", "_law_row_here"] ["_law_made", "_law_one"] (defScope s__law_right) := ⟨rfl, rfl, rfl, by decide +kernel, rfl, by decide +kernel, by decide +kernel⟩
abbrev s_law : Stmt := topS 45
theorem sc_law : FnScope ["_law_script", "_law_k", "_law_box_here", "_law_turn", "_law_names_here", "_law_words_here", "_law_one", "_law_other", "_law_lots", "_law_made", "_law_some_here", "_law_due", "_law_more", "_law_row_here"] ["_law_script"] (defScope s_law) := ⟨rfl, rfl, rfl, by decide +kernel, rfl, by decide +kernel, by decide +kernel⟩
structure Ad where
  w : World
  okk : Hp → Prop
  okm : ∀ {f f' : Hp}, Same f f' → okk f → okk f'
  is_name : Addr
  is_name_d : FuncData
  is_word : Addr
  is_word_d : FuncData
  is_mark : Addr
  is_mark_d : FuncData
  is_sign : Addr
  is_sign_d : FuncData
  is_sequence : Addr
  is_sequence_d : FuncData
  are_names : Addr
  are_names_d : FuncData
  Row_init : Addr
  Row_init_d : FuncData
  Row_str : Addr
  Row_str_d : FuncData
  need : Addr
  need_d : FuncData
  Begin_init : Addr
  Begin_init_d : FuncData
  Send_init : Addr
  Send_init_d : FuncData
  Back_init : Addr
  Back_init_d : FuncData
  End_init : Addr
  End_init_d : FuncData
  need_24 : Addr
  need_24_d : FuncData
  moods_of : Addr
  moods_of_d : FuncData
  ascending : Addr
  ascending_d : FuncData
  Service_init : Addr
  Service_init_d : FuncData
  Service_str : Addr
  Service_str_d : FuncData
  Service_eq : Addr
  Service_eq_d : FuncData
  _law_box : Addr
  _law_box_d : FuncData
  _law_take : Addr
  _law_take_d : FuncData
  _law_pick : Addr
  _law_pick_d : FuncData
  _law_mixed : Addr
  _law_mixed_d : FuncData
  _law_names : Addr
  _law_names_d : FuncData
  _law_row_text : Addr
  _law_row_text_d : FuncData
  _law_row : Addr
  _law_row_d : FuncData
  _law_words : Addr
  _law_words_d : FuncData
  _law_drawn_row : Addr
  _law_drawn_row_d : FuncData
  _law_service_of : Addr
  _law_service_of_d : FuncData
  _law_lines_of : Addr
  _law_lines_of_d : FuncData
  _law_some : Addr
  _law_some_d : FuncData
  _law_any_service : Addr
  _law_any_service_d : FuncData
  _law_moods : Addr
  _law_moods_d : FuncData
  _law_right : Addr
  _law_right_d : FuncData
  law : Addr
  law_d : FuncData
  C_Row : Addr
  C_Begin : Addr
  C_Send : Addr
  C_Back : Addr
  C_End : Addr
  C_Service : Addr
  k_LETTERS : Tok
  k_BARRED : Addr
  k_MOST_LETTERS : Tok
  k_CALM : Tok
  e_Service_init_0 : Addr
  e_Service_init_1 : Addr
  e_Service_init_2 : Addr
def Ad.Gf (A : Ad) : Nat → Addr
  | 0 => A.C_Row
  | 1 => A.C_Begin
  | 2 => A.C_Send
  | 3 => A.C_Back
  | 4 => A.C_End
  | 5 => A.C_Service
  | _ => 0
def Ad.G (A : Ad) : GA := ⟨A.Gf, A.w, A.okk, A.okm⟩
structure Tx (K : PySem.W.Frag) (mg : Str → Option Value) (A : Ad) : Prop where
  is_name : Dv K mg "is_name" "is_name" "is_name" s_is_name ["value"] [] A.is_name A.is_name_d
  is_word : Dv K mg "is_word" "is_word" "is_word" s_is_word ["value", "others"] [] A.is_word A.is_word_d
  is_mark : Dv K mg "is_mark" "is_mark" "is_mark" s_is_mark ["value"] [] A.is_mark A.is_mark_d
  is_sign : Dv K mg "is_sign" "is_sign" "is_sign" s_is_sign ["value"] [] A.is_sign A.is_sign_d
  is_sequence : Dv K mg "is_sequence" "is_sequence" "is_sequence" s_is_sequence ["value"] [] A.is_sequence A.is_sequence_d
  are_names : Dv K mg "are_names" "are_names" "are_names" s_are_names ["value"] [] A.are_names A.are_names_d
  Row_init : Mv K "__init__" "Row.__init__" s_Row_init ["self", "text"] [] A.Row_init A.Row_init_d
  Row_str : Mv K "__str__" "Row.__str__" s_Row_str ["self"] [] A.Row_str A.Row_str_d
  need : Dv K mg "need_rows" "need" "need" s_need ["is_right", "word"] [] A.need A.need_d
  Begin_init : Sn PG K "__init__" "Begin.__init__" s_Begin_init ["self", "mark", "kind", "mood"] A.Begin_init A.Begin_init_d A.C_Begin
  Send_init : Sn PG K "__init__" "Send.__init__" s_Send_init ["self", "mood", "service", "mark"] A.Send_init A.Send_init_d A.C_Send
  Back_init : Sn PG K "__init__" "Back.__init__" s_Back_init ["self", "mood", "service", "sign", "then"] A.Back_init A.Back_init_d A.C_Back
  End_init : Sn PG K "__init__" "End.__init__" s_End_init ["self", "mood", "outcome", "sign", "part"] A.End_init A.End_init_d A.C_End
  need_24 : Dv K mg "need_books" "need" "need" s_need_24 ["is_right", "word"] [] A.need_24 A.need_24_d
  moods_of : Dv K mg "moods_of" "moods_of" "moods_of" s_moods_of ["words"] [] A.moods_of A.moods_of_d
  ascending : Dv K mg "ascending" "ascending" "ascending" s_ascending ["words"] [] A.ascending A.ascending_d
  Service_init : Mv K "__init__" "Service.__init__" s_Service_init ["self", "name", "kinds", "waits", "leaves", "rows"] [.ref A.e_Service_init_0, .ref A.e_Service_init_1, .ref A.e_Service_init_2] A.Service_init A.Service_init_d
  e_Service_init_0 : ∀ H : Hp, SqT K H A.e_Service_init_0 []
  e_Service_init_1 : ∀ H : Hp, SqT K H A.e_Service_init_1 []
  e_Service_init_2 : ∀ H : Hp, SqT K H A.e_Service_init_2 []
  Service_str : Mv K "__str__" "Service.__str__" s_Service_str ["self"] [] A.Service_str A.Service_str_d
  Service_eq : Mv K "__eq__" "Service.__eq__" s_Service_eq ["self", "other"] [] A.Service_eq A.Service_eq_d
  _law_box : Dv K mg "_law_box" "_law_box" "_law_box" s__law_box ["_law_script", "_law_k"] [] A._law_box A._law_box_d
  _law_take : Dv K mg "_law_take" "_law_take" "_law_take" s__law_take ["_law_box_here", "_law_many"] [] A._law_take A._law_take_d
  _law_pick : Dv K mg "_law_pick" "_law_pick" "_law_pick" s__law_pick ["_law_box_here", "_law_some_here"] [] A._law_pick A._law_pick_d
  _law_mixed : Dv K mg "_law_mixed" "_law_mixed" "_law_mixed" s__law_mixed ["_law_box_here", "_law_some_here"] [] A._law_mixed A._law_mixed_d
  _law_names : Dv K mg "_law_names" "_law_names" "_law_names" s__law_names ["_law_box_here", "_law_many"] [] A._law_names A._law_names_d
  _law_row_text : Dv K mg "_law_row_text" "_law_row_text" "_law_row_text" s__law_row_text ["_law_row_here"] [] A._law_row_text A._law_row_text_d
  _law_row : Dv K mg "_law_row" "_law_row" "_law_row" s__law_row ["_law_row_here"] [] A._law_row A._law_row_d
  _law_words : Dv K mg "_law_words" "_law_words" "_law_words" s__law_words ["_law_row_here"] [] A._law_words A._law_words_d
  _law_drawn_row : Dv K mg "_law_drawn_row" "_law_drawn_row" "_law_drawn_row" s__law_drawn_row ["_law_box_here", "_law_sort", "_law_pools"] [] A._law_drawn_row A._law_drawn_row_d
  _law_service_of : Dv K mg "_law_service_of" "_law_service_of" "_law_service_of" s__law_service_of ["_law_one"] [] A._law_service_of A._law_service_of_d
  _law_lines_of : Dv K mg "_law_lines_of" "_law_lines_of" "_law_lines_of" s__law_lines_of ["_law_one"] [] A._law_lines_of A._law_lines_of_d
  _law_some : Dv K mg "_law_some" "_law_some" "_law_some" s__law_some ["_law_box_here", "_law_names_here", "_law_fewest"] [] A._law_some A._law_some_d
  _law_any_service : Dv K mg "_law_any_service" "_law_any_service" "_law_any_service" s__law_any_service ["_law_box_here", "_law_name", "_law_names_here", "_law_words_here"] [] A._law_any_service A._law_any_service_d
  _law_moods : Dv K mg "_law_moods" "_law_moods" "_law_moods" s__law_moods ["_law_rows"] [] A._law_moods A._law_moods_d
  _law_right : Dv K mg "_law_right" "_law_right" "_law_right" s__law_right ["_law_made", "_law_one"] [] A._law_right A._law_right_d
  law : Dv K mg "law" "law" "law" s_law ["_law_script"] [] A.law A.law_d
  b_len : mg "len" = none
  b_abs : mg "abs" = none
  b_max : mg "max" = none
  b_min : mg "min" = none
  b_int : mg "int" = none
  b_str : mg "str" = none
  b_isinstance : mg "isinstance" = none
  b_all : mg "all" = none
  b_range : mg "range" = none
  b_list : mg "list" = none
  b_tuple : mg "tuple" = none
  b_sorted : mg "sorted" = none
  b_zip : mg "zip" = none
  b_repr : mg "repr" = none
  b_set : mg "set" = none
  c_LETTERS : mg "LETTERS" = some (.str "abcdefghijklmnopqrstuvwxyz" A.k_LETTERS)
  c_BARRED : mg "BARRED" = some (.ref A.k_BARRED)
  t_BARRED : ∀ H : Hp, SqT K H A.k_BARRED [.str "none", .str "any", .str "same", .str "keep", .str "drop", .str "good", .str "bad", .str "old", .str "new", .str "both"]
  c_MOST_LETTERS : mg "MOST_LETTERS" = some (.int 4 A.k_MOST_LETTERS)
  c_CALM : mg "CALM" = some (.str "calm" A.k_CALM)
  sup : SupT PG K mg
  C_Row : Cn K mg "Row" A.C_Row A.Row_init
  na_Row_text : NoAttr K A.C_Row "text"
  C_Begin : Cn K mg "Begin" A.C_Begin A.Begin_init
  na_Begin_text : NoAttr K A.C_Begin "text"
  na_Begin_mark : NoAttr K A.C_Begin "mark"
  na_Begin_kind : NoAttr K A.C_Begin "kind"
  na_Begin_mood : NoAttr K A.C_Begin "mood"
  st_Begin : PySem.W.findIn K (.ref A.C_Begin) "__str__" = some (some (.ref A.Row_str))
  su_Begin : SupM K A.C_Begin A.C_Begin "__init__" A.Row_init
  cd_Begin : ∃ cd, PySem.W.clsIn K A.C_Begin = some cd
  C_Send : Cn K mg "Send" A.C_Send A.Send_init
  na_Send_text : NoAttr K A.C_Send "text"
  na_Send_mark : NoAttr K A.C_Send "mark"
  na_Send_mood : NoAttr K A.C_Send "mood"
  na_Send_service : NoAttr K A.C_Send "service"
  st_Send : PySem.W.findIn K (.ref A.C_Send) "__str__" = some (some (.ref A.Row_str))
  su_Send : SupM K A.C_Send A.C_Send "__init__" A.Row_init
  cd_Send : ∃ cd, PySem.W.clsIn K A.C_Send = some cd
  C_Back : Cn K mg "Back" A.C_Back A.Back_init
  na_Back_text : NoAttr K A.C_Back "text"
  na_Back_mood : NoAttr K A.C_Back "mood"
  na_Back_service : NoAttr K A.C_Back "service"
  na_Back_sign : NoAttr K A.C_Back "sign"
  na_Back_then : NoAttr K A.C_Back "then"
  st_Back : PySem.W.findIn K (.ref A.C_Back) "__str__" = some (some (.ref A.Row_str))
  su_Back : SupM K A.C_Back A.C_Back "__init__" A.Row_init
  cd_Back : ∃ cd, PySem.W.clsIn K A.C_Back = some cd
  C_End : Cn K mg "End" A.C_End A.End_init
  na_End_text : NoAttr K A.C_End "text"
  na_End_mood : NoAttr K A.C_End "mood"
  na_End_sign : NoAttr K A.C_End "sign"
  na_End_outcome : NoAttr K A.C_End "outcome"
  na_End_part : NoAttr K A.C_End "part"
  st_End : PySem.W.findIn K (.ref A.C_End) "__str__" = some (some (.ref A.Row_str))
  su_End : SupM K A.C_End A.C_End "__init__" A.Row_init
  cd_End : ∃ cd, PySem.W.clsIn K A.C_End = some cd
  C_Service : Cn K mg "Service" A.C_Service A.Service_init
  na_Service_text : NoAttr K A.C_Service "text"
  na_Service_name : NoAttr K A.C_Service "name"
  na_Service_kinds : NoAttr K A.C_Service "kinds"
  na_Service_waits : NoAttr K A.C_Service "waits"
  na_Service_leaves : NoAttr K A.C_Service "leaves"
  na_Service_rows : NoAttr K A.C_Service "rows"
  na_Service_told : NoAttr K A.C_Service "told"
  na_Service_moods : NoAttr K A.C_Service "moods"
  eq_Service : EqC K A.C_Service A.Service_eq
  st_Service : PySem.W.findIn K (.ref A.C_Service) "__str__" = some (some (.ref A.Service_str))
  ki_Begin_Row : PySem.W.kitOne K (.ref A.C_Begin) (.ref A.C_Row) = some true
  ki_Send_Row : PySem.W.kitOne K (.ref A.C_Send) (.ref A.C_Row) = some true
  ki_Back_Row : PySem.W.kitOne K (.ref A.C_Back) (.ref A.C_Row) = some true
  ki_End_Row : PySem.W.kitOne K (.ref A.C_End) (.ref A.C_Row) = some true
  ki_Service_Service : PySem.W.kitOne K (.ref A.C_Service) (.ref A.C_Service) = some true
  ki_str_Service : PySem.W.kitOne K (.type "str") (.ref A.C_Service) = some false
  nf_Service_Service : PySem.W.notFirst K A.C_Service (.ref A.C_Service) = true
  nf_Service_str : PySem.W.notFirst K A.C_Service (.type "str") = true
def at_text : Nat → Bool
  | 0 => true
  | 1 => true
  | 2 => true
  | 3 => true
  | 4 => true
  | 5 => true
  | _ => false
theorem hat_text {K : PySem.W.Frag} {mg : Str → Option Value} {A : Ad} (T : Tx K mg A) : ∀ c, at_text c = true → Cls K (A.G c) ∧ NoAttr K (A.G c) "text"
  | 0, h => ⟨T.C_Row.t.cl, T.na_Row_text⟩
  | 1, h => ⟨T.C_Begin.t.cl, T.na_Begin_text⟩
  | 2, h => ⟨T.C_Send.t.cl, T.na_Send_text⟩
  | 3, h => ⟨T.C_Back.t.cl, T.na_Back_text⟩
  | 4, h => ⟨T.C_End.t.cl, T.na_End_text⟩
  | 5, h => ⟨T.C_Service.t.cl, T.na_Service_text⟩
  | _ + 6, h => by cases h
def at_mark : Nat → Bool
  | 0 => false
  | 1 => true
  | 2 => true
  | 3 => false
  | 4 => false
  | 5 => false
  | _ => false
theorem hat_mark {K : PySem.W.Frag} {mg : Str → Option Value} {A : Ad} (T : Tx K mg A) : ∀ c, at_mark c = true → Cls K (A.G c) ∧ NoAttr K (A.G c) "mark"
  | 0, h => by cases h
  | 1, h => ⟨T.C_Begin.t.cl, T.na_Begin_mark⟩
  | 2, h => ⟨T.C_Send.t.cl, T.na_Send_mark⟩
  | 3, h => by cases h
  | 4, h => by cases h
  | 5, h => by cases h
  | _ + 6, h => by cases h
def at_kind : Nat → Bool
  | 0 => false
  | 1 => true
  | 2 => false
  | 3 => false
  | 4 => false
  | 5 => false
  | _ => false
theorem hat_kind {K : PySem.W.Frag} {mg : Str → Option Value} {A : Ad} (T : Tx K mg A) : ∀ c, at_kind c = true → Cls K (A.G c) ∧ NoAttr K (A.G c) "kind"
  | 0, h => by cases h
  | 1, h => ⟨T.C_Begin.t.cl, T.na_Begin_kind⟩
  | 2, h => by cases h
  | 3, h => by cases h
  | 4, h => by cases h
  | 5, h => by cases h
  | _ + 6, h => by cases h
def at_mood : Nat → Bool
  | 0 => false
  | 1 => true
  | 2 => true
  | 3 => true
  | 4 => true
  | 5 => false
  | _ => false
theorem hat_mood {K : PySem.W.Frag} {mg : Str → Option Value} {A : Ad} (T : Tx K mg A) : ∀ c, at_mood c = true → Cls K (A.G c) ∧ NoAttr K (A.G c) "mood"
  | 0, h => by cases h
  | 1, h => ⟨T.C_Begin.t.cl, T.na_Begin_mood⟩
  | 2, h => ⟨T.C_Send.t.cl, T.na_Send_mood⟩
  | 3, h => ⟨T.C_Back.t.cl, T.na_Back_mood⟩
  | 4, h => ⟨T.C_End.t.cl, T.na_End_mood⟩
  | 5, h => by cases h
  | _ + 6, h => by cases h
def at_service : Nat → Bool
  | 0 => false
  | 1 => false
  | 2 => true
  | 3 => true
  | 4 => false
  | 5 => false
  | _ => false
theorem hat_service {K : PySem.W.Frag} {mg : Str → Option Value} {A : Ad} (T : Tx K mg A) : ∀ c, at_service c = true → Cls K (A.G c) ∧ NoAttr K (A.G c) "service"
  | 0, h => by cases h
  | 1, h => by cases h
  | 2, h => ⟨T.C_Send.t.cl, T.na_Send_service⟩
  | 3, h => ⟨T.C_Back.t.cl, T.na_Back_service⟩
  | 4, h => by cases h
  | 5, h => by cases h
  | _ + 6, h => by cases h
def at_sign : Nat → Bool
  | 0 => false
  | 1 => false
  | 2 => false
  | 3 => true
  | 4 => true
  | 5 => false
  | _ => false
theorem hat_sign {K : PySem.W.Frag} {mg : Str → Option Value} {A : Ad} (T : Tx K mg A) : ∀ c, at_sign c = true → Cls K (A.G c) ∧ NoAttr K (A.G c) "sign"
  | 0, h => by cases h
  | 1, h => by cases h
  | 2, h => by cases h
  | 3, h => ⟨T.C_Back.t.cl, T.na_Back_sign⟩
  | 4, h => ⟨T.C_End.t.cl, T.na_End_sign⟩
  | 5, h => by cases h
  | _ + 6, h => by cases h
def at_then : Nat → Bool
  | 0 => false
  | 1 => false
  | 2 => false
  | 3 => true
  | 4 => false
  | 5 => false
  | _ => false
theorem hat_then {K : PySem.W.Frag} {mg : Str → Option Value} {A : Ad} (T : Tx K mg A) : ∀ c, at_then c = true → Cls K (A.G c) ∧ NoAttr K (A.G c) "then"
  | 0, h => by cases h
  | 1, h => by cases h
  | 2, h => by cases h
  | 3, h => ⟨T.C_Back.t.cl, T.na_Back_then⟩
  | 4, h => by cases h
  | 5, h => by cases h
  | _ + 6, h => by cases h
def at_outcome : Nat → Bool
  | 0 => false
  | 1 => false
  | 2 => false
  | 3 => false
  | 4 => true
  | 5 => false
  | _ => false
theorem hat_outcome {K : PySem.W.Frag} {mg : Str → Option Value} {A : Ad} (T : Tx K mg A) : ∀ c, at_outcome c = true → Cls K (A.G c) ∧ NoAttr K (A.G c) "outcome"
  | 0, h => by cases h
  | 1, h => by cases h
  | 2, h => by cases h
  | 3, h => by cases h
  | 4, h => ⟨T.C_End.t.cl, T.na_End_outcome⟩
  | 5, h => by cases h
  | _ + 6, h => by cases h
def at_part : Nat → Bool
  | 0 => false
  | 1 => false
  | 2 => false
  | 3 => false
  | 4 => true
  | 5 => false
  | _ => false
theorem hat_part {K : PySem.W.Frag} {mg : Str → Option Value} {A : Ad} (T : Tx K mg A) : ∀ c, at_part c = true → Cls K (A.G c) ∧ NoAttr K (A.G c) "part"
  | 0, h => by cases h
  | 1, h => by cases h
  | 2, h => by cases h
  | 3, h => by cases h
  | 4, h => ⟨T.C_End.t.cl, T.na_End_part⟩
  | 5, h => by cases h
  | _ + 6, h => by cases h
def at_name : Nat → Bool
  | 0 => false
  | 1 => false
  | 2 => false
  | 3 => false
  | 4 => false
  | 5 => true
  | _ => false
theorem hat_name {K : PySem.W.Frag} {mg : Str → Option Value} {A : Ad} (T : Tx K mg A) : ∀ c, at_name c = true → Cls K (A.G c) ∧ NoAttr K (A.G c) "name"
  | 0, h => by cases h
  | 1, h => by cases h
  | 2, h => by cases h
  | 3, h => by cases h
  | 4, h => by cases h
  | 5, h => ⟨T.C_Service.t.cl, T.na_Service_name⟩
  | _ + 6, h => by cases h
def at_kinds : Nat → Bool
  | 0 => false
  | 1 => false
  | 2 => false
  | 3 => false
  | 4 => false
  | 5 => true
  | _ => false
theorem hat_kinds {K : PySem.W.Frag} {mg : Str → Option Value} {A : Ad} (T : Tx K mg A) : ∀ c, at_kinds c = true → Cls K (A.G c) ∧ NoAttr K (A.G c) "kinds"
  | 0, h => by cases h
  | 1, h => by cases h
  | 2, h => by cases h
  | 3, h => by cases h
  | 4, h => by cases h
  | 5, h => ⟨T.C_Service.t.cl, T.na_Service_kinds⟩
  | _ + 6, h => by cases h
def at_waits : Nat → Bool
  | 0 => false
  | 1 => false
  | 2 => false
  | 3 => false
  | 4 => false
  | 5 => true
  | _ => false
theorem hat_waits {K : PySem.W.Frag} {mg : Str → Option Value} {A : Ad} (T : Tx K mg A) : ∀ c, at_waits c = true → Cls K (A.G c) ∧ NoAttr K (A.G c) "waits"
  | 0, h => by cases h
  | 1, h => by cases h
  | 2, h => by cases h
  | 3, h => by cases h
  | 4, h => by cases h
  | 5, h => ⟨T.C_Service.t.cl, T.na_Service_waits⟩
  | _ + 6, h => by cases h
def at_leaves : Nat → Bool
  | 0 => false
  | 1 => false
  | 2 => false
  | 3 => false
  | 4 => false
  | 5 => true
  | _ => false
theorem hat_leaves {K : PySem.W.Frag} {mg : Str → Option Value} {A : Ad} (T : Tx K mg A) : ∀ c, at_leaves c = true → Cls K (A.G c) ∧ NoAttr K (A.G c) "leaves"
  | 0, h => by cases h
  | 1, h => by cases h
  | 2, h => by cases h
  | 3, h => by cases h
  | 4, h => by cases h
  | 5, h => ⟨T.C_Service.t.cl, T.na_Service_leaves⟩
  | _ + 6, h => by cases h
def at_rows : Nat → Bool
  | 0 => false
  | 1 => false
  | 2 => false
  | 3 => false
  | 4 => false
  | 5 => true
  | _ => false
theorem hat_rows {K : PySem.W.Frag} {mg : Str → Option Value} {A : Ad} (T : Tx K mg A) : ∀ c, at_rows c = true → Cls K (A.G c) ∧ NoAttr K (A.G c) "rows"
  | 0, h => by cases h
  | 1, h => by cases h
  | 2, h => by cases h
  | 3, h => by cases h
  | 4, h => by cases h
  | 5, h => ⟨T.C_Service.t.cl, T.na_Service_rows⟩
  | _ + 6, h => by cases h
def at_told : Nat → Bool
  | 0 => false
  | 1 => false
  | 2 => false
  | 3 => false
  | 4 => false
  | 5 => true
  | _ => false
theorem hat_told {K : PySem.W.Frag} {mg : Str → Option Value} {A : Ad} (T : Tx K mg A) : ∀ c, at_told c = true → Cls K (A.G c) ∧ NoAttr K (A.G c) "told"
  | 0, h => by cases h
  | 1, h => by cases h
  | 2, h => by cases h
  | 3, h => by cases h
  | 4, h => by cases h
  | 5, h => ⟨T.C_Service.t.cl, T.na_Service_told⟩
  | _ + 6, h => by cases h
def at_moods : Nat → Bool
  | 0 => false
  | 1 => false
  | 2 => false
  | 3 => false
  | 4 => false
  | 5 => true
  | _ => false
theorem hat_moods {K : PySem.W.Frag} {mg : Str → Option Value} {A : Ad} (T : Tx K mg A) : ∀ c, at_moods c = true → Cls K (A.G c) ∧ NoAttr K (A.G c) "moods"
  | 0, h => by cases h
  | 1, h => by cases h
  | 2, h => by cases h
  | 3, h => by cases h
  | 4, h => by cases h
  | 5, h => ⟨T.C_Service.t.cl, T.na_Service_moods⟩
  | _ + 6, h => by cases h
def ki_str : Ty → Option Bool
  | .non => some false
  | .bl => some false
  | .int => some false
  | .str => some true
  | .lst => some false
  | .tup => some false
  | _ => none
theorem hki_str {K : PySem.W.Frag} {mg : Str → Option Value} {A : Ad} (T : Tx K mg A) : ∀ t b, ki_str t = some b → TyOk K A.G t ∧ PySem.W.kitOne K (tyW A.G t) (.type "str") = some b := by
  intro t b h
  unfold ki_str at h
  split at h
  · cases h; exact ⟨trivial, kit_ty (by decide +kernel)⟩
  · cases h; exact ⟨trivial, kit_ty (by decide +kernel)⟩
  · cases h; exact ⟨trivial, kit_ty (by decide +kernel)⟩
  · cases h; exact ⟨trivial, kit_ty (by decide +kernel)⟩
  · cases h; exact ⟨trivial, kit_ty (by decide +kernel)⟩
  · cases h; exact ⟨trivial, kit_ty (by decide +kernel)⟩
  · cases h
def ki_list_tuple : Ty → Option Bool
  | .non => some false
  | .bl => some false
  | .int => some false
  | .str => some false
  | .lst => some true
  | .tup => some true
  | _ => none
theorem hki_list_tuple {K : PySem.W.Frag} {mg : Str → Option Value} {A : Ad} (T : Tx K mg A) : ∀ t b, ki_list_tuple t = some b → TyOk K A.G t ∧ PySem.W.kitAny K (tyW A.G t) [.type "list", .type "tuple"] = some b := by
  intro t b h
  unfold ki_list_tuple at h
  split at h
  · cases h; exact ⟨trivial, kitAny2 (a := false) (b := false) (kit_ty (by decide +kernel)) (kit_ty (by decide +kernel))⟩
  · cases h; exact ⟨trivial, kitAny2 (a := false) (b := false) (kit_ty (by decide +kernel)) (kit_ty (by decide +kernel))⟩
  · cases h; exact ⟨trivial, kitAny2 (a := false) (b := false) (kit_ty (by decide +kernel)) (kit_ty (by decide +kernel))⟩
  · cases h; exact ⟨trivial, kitAny2 (a := false) (b := false) (kit_ty (by decide +kernel)) (kit_ty (by decide +kernel))⟩
  · cases h; exact ⟨trivial, kitAny2 (a := true) (b := false) (kit_ty (by decide +kernel)) (kit_ty (by decide +kernel))⟩
  · cases h; exact ⟨trivial, kitAny2 (a := false) (b := true) (kit_ty (by decide +kernel)) (kit_ty (by decide +kernel))⟩
  · cases h
def ki_tuple : Ty → Option Bool
  | .non => some false
  | .bl => some false
  | .int => some false
  | .str => some false
  | .lst => some false
  | .tup => some true
  | _ => none
theorem hki_tuple {K : PySem.W.Frag} {mg : Str → Option Value} {A : Ad} (T : Tx K mg A) : ∀ t b, ki_tuple t = some b → TyOk K A.G t ∧ PySem.W.kitOne K (tyW A.G t) (.type "tuple") = some b := by
  intro t b h
  unfold ki_tuple at h
  split at h
  · cases h; exact ⟨trivial, kit_ty (by decide +kernel)⟩
  · cases h; exact ⟨trivial, kit_ty (by decide +kernel)⟩
  · cases h; exact ⟨trivial, kit_ty (by decide +kernel)⟩
  · cases h; exact ⟨trivial, kit_ty (by decide +kernel)⟩
  · cases h; exact ⟨trivial, kit_ty (by decide +kernel)⟩
  · cases h; exact ⟨trivial, kit_ty (by decide +kernel)⟩
  · cases h
def ki_Row : Ty → Option Bool
  | .cls 1 => some true
  | .cls 2 => some true
  | .cls 3 => some true
  | .cls 4 => some true
  | _ => none
theorem hki_Row {K : PySem.W.Frag} {mg : Str → Option Value} {A : Ad} (T : Tx K mg A) : ∀ t b, ki_Row t = some b → TyOk K A.G t ∧ PySem.W.kitOne K (tyW A.G t) (.ref A.C_Row) = some b := by
  intro t b h
  unfold ki_Row at h
  split at h
  · cases h; exact ⟨T.C_Begin.t, T.ki_Begin_Row⟩
  · cases h; exact ⟨T.C_Send.t, T.ki_Send_Row⟩
  · cases h; exact ⟨T.C_Back.t, T.ki_Back_Row⟩
  · cases h; exact ⟨T.C_End.t, T.ki_End_Row⟩
  · cases h
def ki_Service : Ty → Option Bool
  | .cls 5 => some true
  | .str => some false
  | _ => none
theorem hki_Service {K : PySem.W.Frag} {mg : Str → Option Value} {A : Ad} (T : Tx K mg A) : ∀ t b, ki_Service t = some b → TyOk K A.G t ∧ PySem.W.kitOne K (tyW A.G t) (.ref A.C_Service) = some b := by
  intro t b h
  unfold ki_Service at h
  split at h
  · cases h; exact ⟨T.C_Service.t, T.ki_Service_Service⟩
  · cases h; exact ⟨trivial, T.ki_str_Service⟩
  · cases h
def nfT : Nat → Ty → Bool
  | 5, .cls 5 => true
  | 5, .str => true
  | _, _ => false
theorem hnf {K : PySem.W.Frag} {mg : Str → Option Value} {A : Ad} (T : Tx K mg A) : ∀ c t, nfT c t = true → TyOk K A.G t ∧ PySem.W.notFirst K (A.G c) (tyW A.G t) = true := by
  intro c t h
  unfold nfT at h
  split at h
  · exact ⟨T.C_Service.t, T.nf_Service_Service⟩
  · exact ⟨trivial, T.nf_Service_str⟩
  · cases h
def eqc_0 : List Nat := [5]
theorem heqc_0 {K : PySem.W.Frag} {mg : Str → Option Value} {A : Ad} (T : Tx K mg A) : ∀ c, eqc_0.contains c = true → EqC K (A.G c) A.Service_eq := by
  intro c h
  have h : c ∈ eqc_0 := by simpa using h
  simp only [eqc_0, List.mem_cons, List.not_mem_nil, or_false] at h
  rcases h with rfl
  · exact T.eq_Service
def stc_0 : List Nat := [1, 2, 3, 4]
theorem hstc_0 {K : PySem.W.Frag} {mg : Str → Option Value} {A : Ad} (T : Tx K mg A) : ∀ c, stc_0.contains c = true → PySem.W.findIn K (.ref (A.G c)) "__str__" = some (some (.ref A.Row_str)) := by
  intro c h
  have h : c ∈ stc_0 := by simpa using h
  simp only [stc_0, List.mem_cons, List.not_mem_nil, or_false] at h
  rcases h with rfl | rfl | rfl | rfl
  · exact T.st_Begin
  · exact T.st_Send
  · exact T.st_Back
  · exact T.st_End
def stc_1 : List Nat := [5]
theorem hstc_1 {K : PySem.W.Frag} {mg : Str → Option Value} {A : Ad} (T : Tx K mg A) : ∀ c, stc_1.contains c = true → PySem.W.findIn K (.ref (A.G c)) "__str__" = some (some (.ref A.Service_str)) := by
  intro c h
  have h : c ∈ stc_1 := by simpa using h
  simp only [stc_1, List.mem_cons, List.not_mem_nil, or_false] at h
  rcases h with rfl
  · exact T.st_Service
theorem hsu_Begin {K : PySem.W.Frag} {mg : Str → Option Value} {A : Ad} (T : Tx K mg A) : ∀ c, ([1] : List Nat).contains c = true → SupM K (A.G c) A.C_Begin "__init__" A.Row_init := by
  intro c h
  have h : c = 1 := by simpa using h
  subst h
  exact T.su_Begin
theorem hsu_Send {K : PySem.W.Frag} {mg : Str → Option Value} {A : Ad} (T : Tx K mg A) : ∀ c, ([2] : List Nat).contains c = true → SupM K (A.G c) A.C_Send "__init__" A.Row_init := by
  intro c h
  have h : c = 2 := by simpa using h
  subst h
  exact T.su_Send
theorem hsu_Back {K : PySem.W.Frag} {mg : Str → Option Value} {A : Ad} (T : Tx K mg A) : ∀ c, ([3] : List Nat).contains c = true → SupM K (A.G c) A.C_Back "__init__" A.Row_init := by
  intro c h
  have h : c = 3 := by simpa using h
  subst h
  exact T.su_Back
theorem hsu_End {K : PySem.W.Frag} {mg : Str → Option Value} {A : Ad} (T : Tx K mg A) : ∀ c, ([4] : List Nat).contains c = true → SupM K (A.G c) A.C_End "__init__" A.Row_init := by
  intro c h
  have h : c = 4 := by simpa using h
  subst h
  exact T.su_End
end K
namespace K
open PySem L2 S
def p_is_name_1 : MS := mRet (mApp dAll (mCons (mLc (.nm 1) [1] (mItAny (mVar 0)) (mYes) (mBin dIn (mVar 1) (mC (.str "abcdefghijklmnopqrstuvwxyz")))) (mNil)))
def m_is_name : MS := mSeq (mIfS (mOrB (mNotB (mTru (mIsi ki_str (mVar 0)))) (mOrB (mNotB (mTest (mChain dLe dLe (mC (.int 1)) (mApp dLen (mCons (mVar 0) (mNil))) (mC (.int 4))))) (mTest (mBin dIn (mVar 0) (mC (.tup [.str "none", .str "any", .str "same", .str "keep", .str "drop", .str "good", .str "bad", .str "old", .str "new", .str "both"])))))) (mRet (mC (.bl false))) (mNext)) (p_is_name_1)
def f_is_name : List D → Sto → R D := pur (mFun true 2 m_is_name)
theorem ok_is_name {K : PySem.W.Frag} {mg : Str → Option Value} {A : Ad} (T : Tx K mg A) {base : Heap} : FnOk PG A.w K mg base (L2.CX PG A.w) 1 A.is_name A.is_name_d ["value"] (spS K A.G 1 f_is_name) :=
  okPur <|
  fnSD (N := ["value", "letter"]) (k := 0) T.is_name.F sc_is_name rfl fun cdv AA outer s H E hr =>
    have tk := takes_of (X := cxOf (L2.CX PG A.w) PG A.w K mg base ["value", "letter"] "is_name" (defScope s_is_name) A.is_name cdv AA outer s H E) rfl rfl rfl rfl
    have hx := passes_call tk (fun _ _ _ _ h => h)
    (pSs_cons (pS_if (PW.pt (pS_or (pS_not (pS_tru (pS_isi (pe_bltn (v := .ty "str") (u := .type "str") (by rfl) T.b_str (by decide +kernel) rfl) (.ty _) (hki_str T) (by rfl) T.b_isinstance (pS_var 0 (pv 0))))) (pS_or (pS_not (pS_chainT op_le op_le ad_le ad_le pS_int (pS_callB cr_lenS ad_len (by rfl) T.b_len (by decide +kernel) (pSA_cons (pS_var 0 (pv 0)) pSA_nil)) (pS_glob (v := .int 4) rfl T.c_MOST_LETTERS ⟨_, rfl⟩ (fun _ => rfl)))) (pS_or1 (pS_cmpT op_inS ad_in (pS_var 0 (pv 0)) (pS_glob (v := .ref A.k_BARRED) rfl T.c_BARRED rfl (fun Z => ⟨_, _, rfl, T.t_BARRED Z.fz, reps_str ["none", "any", "same", "keep", "drop", "good", "bad", "old", "new", "both"]⟩)) (by rfl)))))) (pSs_one (pS_ret pS_bl)) pSs_nil) (pSs_one (pS_ret (pS_callB (cr_all rfl) ad_all (by rfl) T.b_all (by decide +kernel) (pSA_cons (pS_lc rfl sc_is_name.nd (pI_any (pS_var 0 (pv 0))) (blkOk_by (own := [("letter", 1)]) (N := ["value", "letter"]) (sc := defScope s_is_name) (by decide +kernel)) (fun _ _ _ _ _ => (pG_nm (i := 1) sc_is_name.nd rfl (Or.inl rfl))) (fun _ _ _ _ _ => pTs_nil) (fun _ _ _ _ _ => (pS_cmp op_inS ad_in (pS_var 1 (pv 1)) (pS_glob (v := .str "abcdefghijklmnopqrstuvwxyz") rfl T.c_LETTERS ⟨_, rfl⟩ (fun _ => rfl)) (by rfl)))) pSA_nil)))))
def m_is_word : MS := mRet (mOr (mCall 1 f_is_name [] (mCons (mVar 0) (mNil))) (mAnd (mIsi ki_str (mVar 0)) (mBin dIn (mVar 0) (mVar 1))))
def f_is_word : List D → Sto → R D := pur (mFun true 2 m_is_word)
theorem ok_is_word {K : PySem.W.Frag} {mg : Str → Option Value} {A : Ad} (T : Tx K mg A) {base : Heap} : FnOk PG A.w K mg base (L2.CX PG A.w) 2 A.is_word A.is_word_d ["value", "others"] (spS K A.G 2 f_is_word) :=
  okPur <|
  fnSD (N := ["value", "others"]) (k := 1) T.is_word.F sc_is_word rfl fun cdv AA outer s H E hr =>
    have tk := takes_of (X := cxOf (L2.CX PG A.w) PG A.w K mg base ["value", "others"] "is_word" (defScope s_is_word) A.is_word cdv AA outer s H E) rfl rfl rfl rfl
    have hx := passes_call tk (fun _ _ _ _ h => h)
    (pSs_one (pS_ret (pS_orV (pS_call (ok_is_name T) (hr.mono (by decide)) rfl T.is_name.g T.is_name.F.kp (T.is_name.F.bindsN fun _ _ _ _ _ _ us hl => match us, hl with | [_], _ => rfl) .nil (fun _ => rfl) tk (pSA_cons (pS_var 0 (pv 0)) pSA_nil)) (pe_one (pS_andV (pS_isi (pe_bltn (v := .ty "str") (u := .type "str") (by rfl) T.b_str (by decide +kernel) rfl) (.ty _) (hki_str T) (by rfl) T.b_isinstance (pS_var 0 (pv 0))) (pe_one (pS_cmp op_inS ad_in (pS_var 0 (pv 0)) (pS_var 1 (pv 1)) (by rfl))))))))
def m_is_mark : MS := mRet (mCall 2 f_is_word [] (mCons (mVar 0) (mCons (mTup (mCons (mC (.str "none")) (mNil))) (mNil))))
def f_is_mark : List D → Sto → R D := pur (mFun true 1 m_is_mark)
theorem ok_is_mark {K : PySem.W.Frag} {mg : Str → Option Value} {A : Ad} (T : Tx K mg A) {base : Heap} : FnOk PG A.w K mg base (L2.CX PG A.w) 3 A.is_mark A.is_mark_d ["value"] (spS K A.G 1 f_is_mark) :=
  okPur <|
  fnSD (N := ["value"]) (k := 2) T.is_mark.F sc_is_mark rfl fun cdv AA outer s H E hr =>
    have tk := takes_of (X := cxOf (L2.CX PG A.w) PG A.w K mg base ["value"] "is_mark" (defScope s_is_mark) A.is_mark cdv AA outer s H E) rfl rfl rfl rfl
    have hx := passes_call tk (fun _ _ _ _ h => h)
    (pSs_one (pS_ret (pS_call (ok_is_word T) (hr.mono (by decide)) rfl T.is_word.g T.is_word.F.kp (T.is_word.F.bindsN fun _ _ _ _ _ _ us hl => match us, hl with | [_, _], _ => rfl) .nil (fun _ => rfl) tk (pSA_cons (pS_var 0 (pv 0)) (pSA_cons (pS_tup (pSA_cons pS_str pSA_nil)) pSA_nil)))))
def m_is_sign : MS := mRet (mCall 2 f_is_word [] (mCons (mVar 0) (mCons (mTup (mCons (mC (.str "none")) (mNil))) (mNil))))
def f_is_sign : List D → Sto → R D := pur (mFun true 1 m_is_sign)
theorem ok_is_sign {K : PySem.W.Frag} {mg : Str → Option Value} {A : Ad} (T : Tx K mg A) {base : Heap} : FnOk PG A.w K mg base (L2.CX PG A.w) 3 A.is_sign A.is_sign_d ["value"] (spS K A.G 1 f_is_sign) :=
  okPur <|
  fnSD (N := ["value"]) (k := 2) T.is_sign.F sc_is_sign rfl fun cdv AA outer s H E hr =>
    have tk := takes_of (X := cxOf (L2.CX PG A.w) PG A.w K mg base ["value"] "is_sign" (defScope s_is_sign) A.is_sign cdv AA outer s H E) rfl rfl rfl rfl
    have hx := passes_call tk (fun _ _ _ _ h => h)
    (pSs_one (pS_ret (pS_call (ok_is_word T) (hr.mono (by decide)) rfl T.is_word.g T.is_word.F.kp (T.is_word.F.bindsN fun _ _ _ _ _ _ us hl => match us, hl with | [_, _], _ => rfl) .nil (fun _ => rfl) tk (pSA_cons (pS_var 0 (pv 0)) (pSA_cons (pS_tup (pSA_cons pS_str pSA_nil)) pSA_nil)))))
def m_is_sequence : MS := mRet (mIsi ki_list_tuple (mVar 0))
def f_is_sequence : List D → Sto → R D := pur (mFun true 1 m_is_sequence)
theorem ok_is_sequence {K : PySem.W.Frag} {mg : Str → Option Value} {A : Ad} (T : Tx K mg A) {base : Heap} : FnOk PG A.w K mg base (L2.CX PG A.w) 1 A.is_sequence A.is_sequence_d ["value"] (spS K A.G 1 f_is_sequence) :=
  okPur <|
  fnSD (N := ["value"]) (k := 0) T.is_sequence.F sc_is_sequence rfl fun cdv AA outer s H E hr =>
    have tk := takes_of (X := cxOf (L2.CX PG A.w) PG A.w K mg base ["value"] "is_sequence" (defScope s_is_sequence) A.is_sequence cdv AA outer s H E) rfl rfl rfl rfl
    have hx := passes_call tk (fun _ _ _ _ h => h)
    (pSs_one (pS_ret (pS_isiT (cls := [.ty "list", .ty "tuple"]) (us := [.type "list", .type "tuple"]) (pa_cons (pe_bltn (v := .ty "list") (u := .type "list") (by rfl) T.b_list (by decide +kernel) rfl) (pa_cons (pe_bltn (v := .ty "tuple") (u := .type "tuple") (by rfl) T.b_tuple (by decide +kernel) rfl) pa_nil)) (fun _ _ _ h => h) (.cons (.ty _) (.cons (.ty _) .nil)) (by show 2 ≤ sizeLine; decide) (hki_list_tuple T) (by rfl) T.b_isinstance (pS_var 0 (pv 0)))))
def p_are_names_1 : MS := mRet (mBin dEq (mApp dLen (mCons (mDc (.nm 1) [1] (mItAny (mVar 0)) (mYes) (mVar 1) (mC (.bl true))) (mNil))) (mApp dLen (mCons (mVar 0) (mNil))))
def m_are_names : MS := mSeq (mIfS (mOrB (mNotB (mTru (mCall 1 f_is_sequence [] (mCons (mVar 0) (mNil))))) (mNotB (mTru (mApp dAll (mCons (mLc (.nm 1) [1] (mItAny (mVar 0)) (mYes) (mCall 1 f_is_name [] (mCons (mVar 1) (mNil)))) (mNil)))))) (mRet (mC (.bl false))) (mNext)) (p_are_names_1)
def f_are_names : List D → Sto → R D := pur (mFun true 2 m_are_names)
theorem ok_are_names {K : PySem.W.Frag} {mg : Str → Option Value} {A : Ad} (T : Tx K mg A) {base : Heap} : FnOk PG A.w K mg base (L2.CX PG A.w) 2 A.are_names A.are_names_d ["value"] (spS K A.G 1 f_are_names) :=
  okPur <|
  fnSD (N := ["value", "name"]) (k := 1) T.are_names.F sc_are_names rfl fun cdv AA outer s H E hr =>
    have tk := takes_of (X := cxOf (L2.CX PG A.w) PG A.w K mg base ["value", "name"] "are_names" (defScope s_are_names) A.are_names cdv AA outer s H E) rfl rfl rfl rfl
    have hx := passes_call tk (fun _ _ _ _ h => h)
    (pSs_cons (pS_if (PW.pt (pS_or (pS_not (pS_tru (pS_call (ok_is_sequence T) (hr.mono (by decide)) rfl T.is_sequence.g T.is_sequence.F.kp (T.is_sequence.F.bindsN fun _ _ _ _ _ _ us hl => match us, hl with | [_], _ => rfl) .nil (fun _ => rfl) tk (pSA_cons (pS_var 0 (pv 0)) pSA_nil)))) (pS_or1 (pS_not (pS_tru (pS_callB (cr_all rfl) ad_all (by rfl) T.b_all (by decide +kernel) (pSA_cons (pS_lc rfl sc_are_names.nd (pI_any (pS_var 0 (pv 0))) (blkOk_by (own := [("name", 1)]) (N := ["value", "name"]) (sc := defScope s_are_names) (by decide +kernel)) (fun _ _ _ _ _ => (pG_nm (i := 1) sc_are_names.nd rfl (Or.inl rfl))) (fun _ _ _ _ _ => pTs_nil) (fun _ _ _ _ _ => (pS_call (ok_is_name T) (hr.mono (by decide)) rfl T.is_name.g T.is_name.F.kp (T.is_name.F.bindsN fun _ _ _ _ _ _ us hl => match us, hl with | [_], _ => rfl) .nil (fun _ => rfl) takes0 (pSA_cons (pS_var 1 (pv 1)) pSA_nil)))) pSA_nil))))))) (pSs_one (pS_ret pS_bl)) pSs_nil) (pSs_one (pS_ret (pS_cmp (op_eqS hr.units) ad_eq (pS_callB cr_lenS ad_len (by rfl) T.b_len (by decide +kernel) (pSA_cons (pS_dc rfl sc_are_names.nd (pI_any (pS_var 0 (pv 0))) (blkOk_by (own := [("name", 1)]) (N := ["value", "name"]) (sc := defScope s_are_names) (by decide +kernel)) (fun _ _ _ _ _ => (pG_nm (i := 1) sc_are_names.nd rfl (Or.inl rfl))) (fun _ _ _ _ _ => pTs_nil) (fun _ _ _ _ _ => (pS_var 1 (pv 1))) (fun _ _ _ _ _ => pS_bl)) pSA_nil)) (pS_callB cr_lenS ad_len (by rfl) T.b_len (by decide +kernel) (pSA_cons (pS_var 0 (pv 0)) pSA_nil)) (nomark _)))))
def m_Row_init : MS := mSetF at_text "text" (mVar 0) (mVar 1)
def f_Row_init : List D → Sto → R D := pur (mFun true 2 m_Row_init)
theorem ok_Row_init {K : PySem.W.Frag} {mg : Str → Option Value} {A : Ad} (T : Tx K mg A) {base : Heap} : FnOk PG A.w K mg base (L2.CX PG A.w) 1 A.Row_init A.Row_init_d ["self", "text"] (spS K A.G 2 f_Row_init) :=
  okPur <|
  fnSD (N := ["self", "text"]) (k := 0) T.Row_init.F sc_Row_init rfl fun cdv AA outer s H E hr =>
    have tk := takes_of (X := cxOf (L2.CX PG A.w) PG A.w K mg base ["self", "text"] "Row.__init__" (defScope s_Row_init) A.Row_init cdv AA outer s H E) rfl rfl rfl rfl
    have hx := passes_call tk (fun _ _ _ _ h => h)
    (pSs_one (pS_setF (hat_text T) (pS_var 0 (pv 0)) (pS_var 1 (pv 1))))
def m_Row_str : MS := mRet (mFmt (mFld at_text "text" (mVar 0)))
def f_Row_str : List D → Sto → R D := pur (mFun true 1 m_Row_str)
theorem ok_Row_str {K : PySem.W.Frag} {mg : Str → Option Value} {A : Ad} (T : Tx K mg A) {base : Heap} : FnOk PG A.w K mg base (L2.CX PG A.w) 1 A.Row_str A.Row_str_d ["self"] (spS K A.G 1 f_Row_str) :=
  okPur <|
  fnSD (N := ["self"]) (k := 0) T.Row_str.F sc_Row_str rfl fun cdv AA outer s H E hr =>
    have tk := takes_of (X := cxOf (L2.CX PG A.w) PG A.w K mg base ["self"] "Row.__str__" (defScope s_Row_str) A.Row_str cdv AA outer s H E) rfl rfl rfl rfl
    have hx := passes_call tk (fun _ _ _ _ h => h)
    (pSs_one (pS_ret (pS_js1 (pS_fmt (pS_fld (hat_text T) (pS_var 0 (pv 0)))))))
def m_need : MS := mIfS (mNotB (mTru (mVar 0))) (mNever) (mNext)
def f_need : List D → Sto → R D := pur (mFun true 2 m_need)
theorem ok_need {K : PySem.W.Frag} {mg : Str → Option Value} {A : Ad} (T : Tx K mg A) {base : Heap} : FnOk PG A.w K mg base (L2.CX PG A.w) 1 A.need A.need_d ["is_right", "word"] (spS K A.G 2 f_need) :=
  okPur <|
  fnSD (N := ["is_right", "word"]) (k := 0) T.need.F sc_need rfl fun cdv AA outer s H E hr =>
    have tk := takes_of (X := cxOf (L2.CX PG A.w) PG A.w K mg base ["is_right", "word"] "need" (defScope s_need) A.need cdv AA outer s H E) rfl rfl rfl rfl
    have hx := passes_call tk (fun _ _ _ _ h => h)
    (pSs_one (pS_if (pS_not (pS_tru (pS_var 0 (pv 0)))) (pSs_one pS_never) pSs_nil))
def p_Begin_init_1 : MS := mSup [1] 0 2 f_Row_init (mCons (mJs [mC (.str "begin "), mFmt (mVar 1), mC (.str " "), mFmt (mVar 2), mC (.str " "), mFmt (mVar 3)] Str.empty) (mNil))
def p_Begin_init_2 : MS := mSeq (mSetF at_mark "mark" (mVar 0) (mVar 1)) (mSeq (mSetF at_kind "kind" (mVar 0) (mVar 2)) (mSeq (mSetF at_mood "mood" (mVar 0) (mVar 3)) (p_Begin_init_1)))
def m_Begin_init : MS := mSeq (mDo (mCall 2 f_need [] (mCons (mOr (mCall 1 f_is_mark [] (mCons (mVar 1) (mNil))) (mBin dEq (mVar 1) (mC (.str "any")))) (mCons (mC (.str "mark")) (mNil))))) (mSeq (mDo (mCall 2 f_need [] (mCons (mCall 2 f_is_word [] (mCons (mVar 2) (mCons (mTup (mCons (mC (.str "any")) (mNil))) (mNil)))) (mCons (mC (.str "kind")) (mNil))))) (mSeq (mDo (mCall 2 f_need [] (mCons (mCall 1 f_is_name [] (mCons (mVar 3) (mNil))) (mCons (mC (.str "mood")) (mNil))))) (p_Begin_init_2)))
def f_Begin_init : List D → Sto → R D := pur (mFun true 4 m_Begin_init)
theorem ok_Begin_init {K : PySem.W.Frag} {mg : Str → Option Value} {A : Ad} (T : Tx K mg A) {base : Heap} : FnOk PG A.w K mg base (L2.CX PG A.w) 4 A.Begin_init A.Begin_init_d ["self", "mark", "kind", "mood"] (spS K A.G 4 f_Begin_init) := by
  obtain ⟨cdD, hD⟩ := T.cd_Begin
  exact okPur <| fnSS (N := ["self", "mark", "kind", "mood"]) (k := 3) T.Begin_init T.sup sc_Begin_init hD rfl rfl rfl rfl fun cdv cc AA outer s H E hr Sx =>
    have tk := takes_of (X := cxS (L2.CX PG A.w) PG A.w K mg base ["self", "mark", "kind", "mood"] "Begin.__init__" (defScope s_Begin_init) A.Begin_init cdv cc AA outer s H E) rfl rfl rfl rfl
    have hx := passes_call tk (fun _ _ _ _ h => h)
    (pSsA_cons (pSA_st (pS_do (pS_call (ok_need T) (hr.mono (by decide)) rfl T.need.g T.need.F.kp (T.need.F.bindsN fun _ _ _ _ _ _ us hl => match us, hl with | [_, _], _ => rfl) .nil (fun _ => rfl) tk (pSA_cons (pS_orV (pS_call (ok_is_mark T) (hr.mono (by decide)) rfl T.is_mark.g T.is_mark.F.kp (T.is_mark.F.bindsN fun _ _ _ _ _ _ us hl => match us, hl with | [_], _ => rfl) .nil (fun _ => rfl) tk (pSA_cons (pS_var 1 (pv 1)) pSA_nil)) (pe_one (pS_cmp (op_eqS hr.units) ad_eq (pS_var 1 (pv 1)) pS_str (nomark _)))) (pSA_cons pS_str pSA_nil))))) (pSsA_cons (pSA_st (pS_do (pS_call (ok_need T) (hr.mono (by decide)) rfl T.need.g T.need.F.kp (T.need.F.bindsN fun _ _ _ _ _ _ us hl => match us, hl with | [_, _], _ => rfl) .nil (fun _ => rfl) tk (pSA_cons (pS_call (ok_is_word T) (hr.mono (by decide)) rfl T.is_word.g T.is_word.F.kp (T.is_word.F.bindsN fun _ _ _ _ _ _ us hl => match us, hl with | [_, _], _ => rfl) .nil (fun _ => rfl) tk (pSA_cons (pS_var 2 (pv 2)) (pSA_cons (pS_tup (pSA_cons pS_str pSA_nil)) pSA_nil))) (pSA_cons pS_str pSA_nil))))) (pSsA_cons (pSA_st (pS_do (pS_call (ok_need T) (hr.mono (by decide)) rfl T.need.g T.need.F.kp (T.need.F.bindsN fun _ _ _ _ _ _ us hl => match us, hl with | [_, _], _ => rfl) .nil (fun _ => rfl) tk (pSA_cons (pS_call (ok_is_name T) (hr.mono (by decide)) rfl T.is_name.g T.is_name.F.kp (T.is_name.F.bindsN fun _ _ _ _ _ _ us hl => match us, hl with | [_], _ => rfl) .nil (fun _ => rfl) tk (pSA_cons (pS_var 3 (pv 3)) pSA_nil)) (pSA_cons pS_str pSA_nil))))) (pSsA_cons (pSA_st (pS_setF (hat_mark T) (pS_var 0 (pv 0)) (pS_var 1 (pv 1)))) (pSsA_cons (pSA_st (pS_setF (hat_kind T) (pS_var 0 (pv 0)) (pS_var 2 (pv 2)))) (pSsA_cons (pSA_st (pS_setF (hat_mood T) (pS_var 0 (pv 0)) (pS_var 3 (pv 3)))) (pSsA_one (pSA_super (i := 0) Sx (ok_Row_init T) (hsu_Begin T) (hr.mono (by decide)) (T.Row_init.F.bindsN fun _ _ _ _ _ _ us hl => match us, hl with | [_, _], _ => rfl) hx (pSA_cons (pS_js (pj_cons pS_str (pj_cons (pS_fmt (pS_var 1 (pv 1))) (pj_cons pS_str (pj_cons (pS_fmt (pS_var 2 (pv 2))) (pj_cons pS_str (pj_cons (pS_fmt (pS_var 3 (pv 3))) pj_nil))))))) pSA_nil)))))))))
def p_Send_init_1 : MS := mSup [2] 0 2 f_Row_init (mCons (mJs [mC (.str "send "), mFmt (mVar 1), mC (.str " "), mFmt (mVar 2), mC (.str " "), mFmt (mVar 3)] Str.empty) (mNil))
def p_Send_init_2 : MS := mSeq (mSetF at_mood "mood" (mVar 0) (mVar 1)) (mSeq (mSetF at_service "service" (mVar 0) (mVar 2)) (mSeq (mSetF at_mark "mark" (mVar 0) (mVar 3)) (p_Send_init_1)))
def m_Send_init : MS := mSeq (mDo (mCall 2 f_need [] (mCons (mCall 2 f_is_word [] (mCons (mVar 1) (mCons (mTup (mCons (mC (.str "any")) (mNil))) (mNil)))) (mCons (mC (.str "mood")) (mNil))))) (mSeq (mDo (mCall 2 f_need [] (mCons (mCall 2 f_is_word [] (mCons (mVar 2) (mCons (mTup (mCons (mC (.str "any")) (mNil))) (mNil)))) (mCons (mC (.str "service")) (mNil))))) (mSeq (mDo (mCall 2 f_need [] (mCons (mCall 2 f_is_word [] (mCons (mVar 3) (mCons (mTup (mCons (mC (.str "none")) (mCons (mC (.str "same")) (mNil)))) (mNil)))) (mCons (mC (.str "mark")) (mNil))))) (p_Send_init_2)))
def f_Send_init : List D → Sto → R D := pur (mFun true 4 m_Send_init)
theorem ok_Send_init {K : PySem.W.Frag} {mg : Str → Option Value} {A : Ad} (T : Tx K mg A) {base : Heap} : FnOk PG A.w K mg base (L2.CX PG A.w) 3 A.Send_init A.Send_init_d ["self", "mood", "service", "mark"] (spS K A.G 4 f_Send_init) := by
  obtain ⟨cdD, hD⟩ := T.cd_Send
  exact okPur <| fnSS (N := ["self", "mood", "service", "mark"]) (k := 2) T.Send_init T.sup sc_Send_init hD rfl rfl rfl rfl fun cdv cc AA outer s H E hr Sx =>
    have tk := takes_of (X := cxS (L2.CX PG A.w) PG A.w K mg base ["self", "mood", "service", "mark"] "Send.__init__" (defScope s_Send_init) A.Send_init cdv cc AA outer s H E) rfl rfl rfl rfl
    have hx := passes_call tk (fun _ _ _ _ h => h)
    (pSsA_cons (pSA_st (pS_do (pS_call (ok_need T) (hr.mono (by decide)) rfl T.need.g T.need.F.kp (T.need.F.bindsN fun _ _ _ _ _ _ us hl => match us, hl with | [_, _], _ => rfl) .nil (fun _ => rfl) tk (pSA_cons (pS_call (ok_is_word T) (hr.mono (by decide)) rfl T.is_word.g T.is_word.F.kp (T.is_word.F.bindsN fun _ _ _ _ _ _ us hl => match us, hl with | [_, _], _ => rfl) .nil (fun _ => rfl) tk (pSA_cons (pS_var 1 (pv 1)) (pSA_cons (pS_tup (pSA_cons pS_str pSA_nil)) pSA_nil))) (pSA_cons pS_str pSA_nil))))) (pSsA_cons (pSA_st (pS_do (pS_call (ok_need T) (hr.mono (by decide)) rfl T.need.g T.need.F.kp (T.need.F.bindsN fun _ _ _ _ _ _ us hl => match us, hl with | [_, _], _ => rfl) .nil (fun _ => rfl) tk (pSA_cons (pS_call (ok_is_word T) (hr.mono (by decide)) rfl T.is_word.g T.is_word.F.kp (T.is_word.F.bindsN fun _ _ _ _ _ _ us hl => match us, hl with | [_, _], _ => rfl) .nil (fun _ => rfl) tk (pSA_cons (pS_var 2 (pv 2)) (pSA_cons (pS_tup (pSA_cons pS_str pSA_nil)) pSA_nil))) (pSA_cons pS_str pSA_nil))))) (pSsA_cons (pSA_st (pS_do (pS_call (ok_need T) (hr.mono (by decide)) rfl T.need.g T.need.F.kp (T.need.F.bindsN fun _ _ _ _ _ _ us hl => match us, hl with | [_, _], _ => rfl) .nil (fun _ => rfl) tk (pSA_cons (pS_call (ok_is_word T) (hr.mono (by decide)) rfl T.is_word.g T.is_word.F.kp (T.is_word.F.bindsN fun _ _ _ _ _ _ us hl => match us, hl with | [_, _], _ => rfl) .nil (fun _ => rfl) tk (pSA_cons (pS_var 3 (pv 3)) (pSA_cons (pS_tup (pSA_cons pS_str (pSA_cons pS_str pSA_nil))) pSA_nil))) (pSA_cons pS_str pSA_nil))))) (pSsA_cons (pSA_st (pS_setF (hat_mood T) (pS_var 0 (pv 0)) (pS_var 1 (pv 1)))) (pSsA_cons (pSA_st (pS_setF (hat_service T) (pS_var 0 (pv 0)) (pS_var 2 (pv 2)))) (pSsA_cons (pSA_st (pS_setF (hat_mark T) (pS_var 0 (pv 0)) (pS_var 3 (pv 3)))) (pSsA_one (pSA_super (i := 0) Sx (ok_Row_init T) (hsu_Send T) (hr.mono (by decide)) (T.Row_init.F.bindsN fun _ _ _ _ _ _ us hl => match us, hl with | [_, _], _ => rfl) hx (pSA_cons (pS_js (pj_cons pS_str (pj_cons (pS_fmt (pS_var 1 (pv 1))) (pj_cons pS_str (pj_cons (pS_fmt (pS_var 2 (pv 2))) (pj_cons pS_str (pj_cons (pS_fmt (pS_var 3 (pv 3))) pj_nil))))))) pSA_nil)))))))))
def p_Back_init_1 : MS := mSup [3] 0 2 f_Row_init (mCons (mJs [mC (.str "back "), mFmt (mVar 1), mC (.str " "), mFmt (mVar 2), mC (.str " "), mFmt (mVar 3), mC (.str " "), mFmt (mVar 4)] Str.empty) (mNil))
def p_Back_init_2 : MS := mSeq (mSetF at_mood "mood" (mVar 0) (mVar 1)) (mSeq (mSetF at_service "service" (mVar 0) (mVar 2)) (mSeq (mSetF at_sign "sign" (mVar 0) (mVar 3)) (mSeq (mSetF at_then "then" (mVar 0) (mVar 4)) (p_Back_init_1))))
def m_Back_init : MS := mSeq (mDo (mCall 2 f_need [] (mCons (mCall 2 f_is_word [] (mCons (mVar 1) (mCons (mTup (mCons (mC (.str "any")) (mNil))) (mNil)))) (mCons (mC (.str "mood")) (mNil))))) (mSeq (mDo (mCall 2 f_need [] (mCons (mCall 2 f_is_word [] (mCons (mVar 2) (mCons (mTup (mCons (mC (.str "any")) (mNil))) (mNil)))) (mCons (mC (.str "service")) (mNil))))) (mSeq (mDo (mCall 2 f_need [] (mCons (mCall 2 f_is_word [] (mCons (mVar 3) (mCons (mTup (mCons (mC (.str "none")) (mCons (mC (.str "any")) (mNil)))) (mNil)))) (mCons (mC (.str "sign")) (mNil))))) (mSeq (mDo (mCall 2 f_need [] (mCons (mCall 2 f_is_word [] (mCons (mVar 4) (mCons (mTup (mCons (mC (.str "same")) (mNil))) (mNil)))) (mCons (mC (.str "then")) (mNil))))) (p_Back_init_2))))
def f_Back_init : List D → Sto → R D := pur (mFun true 5 m_Back_init)
theorem ok_Back_init {K : PySem.W.Frag} {mg : Str → Option Value} {A : Ad} (T : Tx K mg A) {base : Heap} : FnOk PG A.w K mg base (L2.CX PG A.w) 3 A.Back_init A.Back_init_d ["self", "mood", "service", "sign", "then"] (spS K A.G 5 f_Back_init) := by
  obtain ⟨cdD, hD⟩ := T.cd_Back
  exact okPur <| fnSS (N := ["self", "mood", "service", "sign", "then"]) (k := 2) T.Back_init T.sup sc_Back_init hD rfl rfl rfl rfl fun cdv cc AA outer s H E hr Sx =>
    have tk := takes_of (X := cxS (L2.CX PG A.w) PG A.w K mg base ["self", "mood", "service", "sign", "then"] "Back.__init__" (defScope s_Back_init) A.Back_init cdv cc AA outer s H E) rfl rfl rfl rfl
    have hx := passes_call tk (fun _ _ _ _ h => h)
    (pSsA_cons (pSA_st (pS_do (pS_call (ok_need T) (hr.mono (by decide)) rfl T.need.g T.need.F.kp (T.need.F.bindsN fun _ _ _ _ _ _ us hl => match us, hl with | [_, _], _ => rfl) .nil (fun _ => rfl) tk (pSA_cons (pS_call (ok_is_word T) (hr.mono (by decide)) rfl T.is_word.g T.is_word.F.kp (T.is_word.F.bindsN fun _ _ _ _ _ _ us hl => match us, hl with | [_, _], _ => rfl) .nil (fun _ => rfl) tk (pSA_cons (pS_var 1 (pv 1)) (pSA_cons (pS_tup (pSA_cons pS_str pSA_nil)) pSA_nil))) (pSA_cons pS_str pSA_nil))))) (pSsA_cons (pSA_st (pS_do (pS_call (ok_need T) (hr.mono (by decide)) rfl T.need.g T.need.F.kp (T.need.F.bindsN fun _ _ _ _ _ _ us hl => match us, hl with | [_, _], _ => rfl) .nil (fun _ => rfl) tk (pSA_cons (pS_call (ok_is_word T) (hr.mono (by decide)) rfl T.is_word.g T.is_word.F.kp (T.is_word.F.bindsN fun _ _ _ _ _ _ us hl => match us, hl with | [_, _], _ => rfl) .nil (fun _ => rfl) tk (pSA_cons (pS_var 2 (pv 2)) (pSA_cons (pS_tup (pSA_cons pS_str pSA_nil)) pSA_nil))) (pSA_cons pS_str pSA_nil))))) (pSsA_cons (pSA_st (pS_do (pS_call (ok_need T) (hr.mono (by decide)) rfl T.need.g T.need.F.kp (T.need.F.bindsN fun _ _ _ _ _ _ us hl => match us, hl with | [_, _], _ => rfl) .nil (fun _ => rfl) tk (pSA_cons (pS_call (ok_is_word T) (hr.mono (by decide)) rfl T.is_word.g T.is_word.F.kp (T.is_word.F.bindsN fun _ _ _ _ _ _ us hl => match us, hl with | [_, _], _ => rfl) .nil (fun _ => rfl) tk (pSA_cons (pS_var 3 (pv 3)) (pSA_cons (pS_tup (pSA_cons pS_str (pSA_cons pS_str pSA_nil))) pSA_nil))) (pSA_cons pS_str pSA_nil))))) (pSsA_cons (pSA_st (pS_do (pS_call (ok_need T) (hr.mono (by decide)) rfl T.need.g T.need.F.kp (T.need.F.bindsN fun _ _ _ _ _ _ us hl => match us, hl with | [_, _], _ => rfl) .nil (fun _ => rfl) tk (pSA_cons (pS_call (ok_is_word T) (hr.mono (by decide)) rfl T.is_word.g T.is_word.F.kp (T.is_word.F.bindsN fun _ _ _ _ _ _ us hl => match us, hl with | [_, _], _ => rfl) .nil (fun _ => rfl) tk (pSA_cons (pS_var 4 (pv 4)) (pSA_cons (pS_tup (pSA_cons pS_str pSA_nil)) pSA_nil))) (pSA_cons pS_str pSA_nil))))) (pSsA_cons (pSA_st (pS_setF (hat_mood T) (pS_var 0 (pv 0)) (pS_var 1 (pv 1)))) (pSsA_cons (pSA_st (pS_setF (hat_service T) (pS_var 0 (pv 0)) (pS_var 2 (pv 2)))) (pSsA_cons (pSA_st (pS_setF (hat_sign T) (pS_var 0 (pv 0)) (pS_var 3 (pv 3)))) (pSsA_cons (pSA_st (pS_setF (hat_then T) (pS_var 0 (pv 0)) (pS_var 4 (pv 4)))) (pSsA_one (pSA_super (i := 0) Sx (ok_Row_init T) (hsu_Back T) (hr.mono (by decide)) (T.Row_init.F.bindsN fun _ _ _ _ _ _ us hl => match us, hl with | [_, _], _ => rfl) hx (pSA_cons (pS_js (pj_cons pS_str (pj_cons (pS_fmt (pS_var 1 (pv 1))) (pj_cons pS_str (pj_cons (pS_fmt (pS_var 2 (pv 2))) (pj_cons pS_str (pj_cons (pS_fmt (pS_var 3 (pv 3))) (pj_cons pS_str (pj_cons (pS_fmt (pS_var 4 (pv 4))) pj_nil))))))))) pSA_nil)))))))))))
def p_End_init_1 : MS := mSup [4] 0 2 f_Row_init (mCons (mJs [mC (.str "end "), mFmt (mVar 1), mC (.str " "), mFmt (mVar 2), mC (.str " "), mFmt (mVar 3), mC (.str " "), mFmt (mVar 4)] Str.empty) (mNil))
def p_End_init_2 : MS := mSeq (mSetF at_mood "mood" (mVar 0) (mVar 1)) (mSeq (mSetF at_outcome "outcome" (mVar 0) (mVar 2)) (mSeq (mSetF at_sign "sign" (mVar 0) (mVar 3)) (mSeq (mSetF at_part "part" (mVar 0) (mVar 4)) (p_End_init_1))))
def m_End_init : MS := mSeq (mDo (mCall 2 f_need [] (mCons (mCall 2 f_is_word [] (mCons (mVar 1) (mCons (mTup (mCons (mC (.str "any")) (mNil))) (mNil)))) (mCons (mC (.str "mood")) (mNil))))) (mSeq (mDo (mCall 2 f_need [] (mCons (mAnd (mIsi ki_str (mVar 2)) (mBin dIn (mVar 2) (mTup (mCons (mC (.str "good")) (mCons (mC (.str "bad")) (mCons (mC (.str "any")) (mNil))))))) (mCons (mC (.str "outcome")) (mNil))))) (mSeq (mDo (mCall 2 f_need [] (mCons (mCall 1 f_is_sign [] (mCons (mVar 3) (mNil))) (mCons (mC (.str "sign")) (mNil))))) (mSeq (mDo (mCall 2 f_need [] (mCons (mAnd (mIsi ki_str (mVar 4)) (mBin dIn (mVar 4) (mTup (mCons (mC (.str "keep")) (mCons (mC (.str "drop")) (mNil)))))) (mCons (mC (.str "part")) (mNil))))) (p_End_init_2))))
def f_End_init : List D → Sto → R D := pur (mFun true 5 m_End_init)
theorem ok_End_init {K : PySem.W.Frag} {mg : Str → Option Value} {A : Ad} (T : Tx K mg A) {base : Heap} : FnOk PG A.w K mg base (L2.CX PG A.w) 4 A.End_init A.End_init_d ["self", "mood", "outcome", "sign", "part"] (spS K A.G 5 f_End_init) := by
  obtain ⟨cdD, hD⟩ := T.cd_End
  exact okPur <| fnSS (N := ["self", "mood", "outcome", "sign", "part"]) (k := 3) T.End_init T.sup sc_End_init hD rfl rfl rfl rfl fun cdv cc AA outer s H E hr Sx =>
    have tk := takes_of (X := cxS (L2.CX PG A.w) PG A.w K mg base ["self", "mood", "outcome", "sign", "part"] "End.__init__" (defScope s_End_init) A.End_init cdv cc AA outer s H E) rfl rfl rfl rfl
    have hx := passes_call tk (fun _ _ _ _ h => h)
    (pSsA_cons (pSA_st (pS_do (pS_call (ok_need T) (hr.mono (by decide)) rfl T.need.g T.need.F.kp (T.need.F.bindsN fun _ _ _ _ _ _ us hl => match us, hl with | [_, _], _ => rfl) .nil (fun _ => rfl) tk (pSA_cons (pS_call (ok_is_word T) (hr.mono (by decide)) rfl T.is_word.g T.is_word.F.kp (T.is_word.F.bindsN fun _ _ _ _ _ _ us hl => match us, hl with | [_, _], _ => rfl) .nil (fun _ => rfl) tk (pSA_cons (pS_var 1 (pv 1)) (pSA_cons (pS_tup (pSA_cons pS_str pSA_nil)) pSA_nil))) (pSA_cons pS_str pSA_nil))))) (pSsA_cons (pSA_st (pS_do (pS_call (ok_need T) (hr.mono (by decide)) rfl T.need.g T.need.F.kp (T.need.F.bindsN fun _ _ _ _ _ _ us hl => match us, hl with | [_, _], _ => rfl) .nil (fun _ => rfl) tk (pSA_cons (pS_andV (pS_isi (pe_bltn (v := .ty "str") (u := .type "str") (by rfl) T.b_str (by decide +kernel) rfl) (.ty _) (hki_str T) (by rfl) T.b_isinstance (pS_var 2 (pv 2))) (pe_one (pS_cmp op_inS ad_in (pS_var 2 (pv 2)) (pS_tup (pSA_cons pS_str (pSA_cons pS_str (pSA_cons pS_str pSA_nil)))) (by rfl)))) (pSA_cons pS_str pSA_nil))))) (pSsA_cons (pSA_st (pS_do (pS_call (ok_need T) (hr.mono (by decide)) rfl T.need.g T.need.F.kp (T.need.F.bindsN fun _ _ _ _ _ _ us hl => match us, hl with | [_, _], _ => rfl) .nil (fun _ => rfl) tk (pSA_cons (pS_call (ok_is_sign T) (hr.mono (by decide)) rfl T.is_sign.g T.is_sign.F.kp (T.is_sign.F.bindsN fun _ _ _ _ _ _ us hl => match us, hl with | [_], _ => rfl) .nil (fun _ => rfl) tk (pSA_cons (pS_var 3 (pv 3)) pSA_nil)) (pSA_cons pS_str pSA_nil))))) (pSsA_cons (pSA_st (pS_do (pS_call (ok_need T) (hr.mono (by decide)) rfl T.need.g T.need.F.kp (T.need.F.bindsN fun _ _ _ _ _ _ us hl => match us, hl with | [_, _], _ => rfl) .nil (fun _ => rfl) tk (pSA_cons (pS_andV (pS_isi (pe_bltn (v := .ty "str") (u := .type "str") (by rfl) T.b_str (by decide +kernel) rfl) (.ty _) (hki_str T) (by rfl) T.b_isinstance (pS_var 4 (pv 4))) (pe_one (pS_cmp op_inS ad_in (pS_var 4 (pv 4)) (pS_tup (pSA_cons pS_str (pSA_cons pS_str pSA_nil))) (by rfl)))) (pSA_cons pS_str pSA_nil))))) (pSsA_cons (pSA_st (pS_setF (hat_mood T) (pS_var 0 (pv 0)) (pS_var 1 (pv 1)))) (pSsA_cons (pSA_st (pS_setF (hat_outcome T) (pS_var 0 (pv 0)) (pS_var 2 (pv 2)))) (pSsA_cons (pSA_st (pS_setF (hat_sign T) (pS_var 0 (pv 0)) (pS_var 3 (pv 3)))) (pSsA_cons (pSA_st (pS_setF (hat_part T) (pS_var 0 (pv 0)) (pS_var 4 (pv 4)))) (pSsA_one (pSA_super (i := 0) Sx (ok_Row_init T) (hsu_End T) (hr.mono (by decide)) (T.Row_init.F.bindsN fun _ _ _ _ _ _ us hl => match us, hl with | [_, _], _ => rfl) hx (pSA_cons (pS_js (pj_cons pS_str (pj_cons (pS_fmt (pS_var 1 (pv 1))) (pj_cons pS_str (pj_cons (pS_fmt (pS_var 2 (pv 2))) (pj_cons pS_str (pj_cons (pS_fmt (pS_var 3 (pv 3))) (pj_cons pS_str (pj_cons (pS_fmt (pS_var 4 (pv 4))) pj_nil))))))))) pSA_nil)))))))))))
end K
namespace K
open PySem L2 S
def m_need_24 : MS := mIfS (mNotB (mTru (mVar 0))) (mNever) (mNext)
def f_need_24 : List D → Sto → R D := pur (mFun true 2 m_need_24)
theorem ok_need_24 {K : PySem.W.Frag} {mg : Str → Option Value} {A : Ad} (T : Tx K mg A) {base : Heap} : FnOk PG A.w K mg base (L2.CX PG A.w) 1 A.need_24 A.need_24_d ["is_right", "word"] (spS K A.G 2 f_need_24) :=
  okPur <|
  fnSD (N := ["is_right", "word"]) (k := 0) T.need_24.F sc_need_24 rfl fun cdv AA outer s H E hr =>
    have tk := takes_of (X := cxOf (L2.CX PG A.w) PG A.w K mg base ["is_right", "word"] "need" (defScope s_need_24) A.need_24 cdv AA outer s H E) rfl rfl rfl rfl
    have hx := passes_call tk (fun _ _ _ _ h => h)
    (pSs_one (pS_if (pS_not (pS_tru (pS_var 0 (pv 0)))) (pSs_one pS_never) pSs_nil))
def m_moods_of : MS := mSeq (mSet 1 (mIf (mTest (mBin dEq (mBin dIx (mVar 0) (mC (.int 0))) (mC (.str "begin")))) (mLst (mCons (mBin dIx (mVar 0) (mC (.int 3))) (mNil))) (mLst (mCons (mBin dIx (mVar 0) (mC (.int 1))) (mNil))))) (mSeq (mSet 1 (mIf (mTest (mBin dEq (mBin dIx (mVar 0) (mC (.int 0))) (mC (.str "back")))) (mLst (mStar (mVar 1) (mCons (mBin dIx (mVar 0) (mC (.int 4))) (mNil)))) (mVar 1))) (mRet (mLc (.nm 2) [2] (mItAny (mVar 1)) (mTest (mBin dNotIn (mVar 2) (mTup (mCons (mC (.str "any")) (mCons (mC (.str "same")) (mNil)))))) (mVar 2))))
def f_moods_of : List D → Sto → R D := pur (mFun true 3 m_moods_of)
theorem ok_moods_of {K : PySem.W.Frag} {mg : Str → Option Value} {A : Ad} (T : Tx K mg A) {base : Heap} : FnOk PG A.w K mg base (L2.CX PG A.w) 1 A.moods_of A.moods_of_d ["words"] (spS K A.G 1 f_moods_of) :=
  okPur <|
  fnSD (N := ["words", "some", "mood"]) (k := 0) T.moods_of.F sc_moods_of rfl fun cdv AA outer s H E hr =>
    have tk := takes_of (X := cxOf (L2.CX PG A.w) PG A.w K mg base ["words", "some", "mood"] "moods_of" (defScope s_moods_of) A.moods_of cdv AA outer s H E) rfl rfl rfl rfl
    have hx := passes_call tk (fun _ _ _ _ h => h)
    (pSs_cons (pS_set (i := 1) sc_moods_of.nd rfl (Or.inl rfl) (pS_ifE (pS_cmpT (op_eqS hr.units) ad_eq (pS_ix ix_S ad_ix (pS_var 0 (pv 0)) pS_int (fun _ _ => rfl)) pS_str (nomark _)) (pS_lst (pSA_cons (pS_ix ix_S ad_ix (pS_var 0 (pv 0)) pS_int (fun _ _ => rfl)) pSA_nil)) (pS_lst (pSA_cons (pS_ix ix_S ad_ix (pS_var 0 (pv 0)) pS_int (fun _ _ => rfl)) pSA_nil)))) (pSs_cons (pS_set (i := 1) sc_moods_of.nd rfl (Or.inl rfl) (pS_ifE (pS_cmpT (op_eqS hr.units) ad_eq (pS_ix ix_S ad_ix (pS_var 0 (pv 0)) pS_int (fun _ _ => rfl)) pS_str (nomark _)) (pS_lst (pSA_star (pS_var 1 (pv 1)) (pSA_cons (pS_ix ix_S ad_ix (pS_var 0 (pv 0)) pS_int (fun _ _ => rfl)) pSA_nil))) (pS_var 1 (pv 1)))) (pSs_one (pS_ret (pS_lc rfl sc_moods_of.nd (pI_any (pS_var 1 (pv 1))) (blkOk_by (own := [("mood", 2)]) (N := ["words", "some", "mood"]) (sc := defScope s_moods_of) (by decide +kernel)) (fun _ _ _ _ _ => (pG_nm (i := 2) sc_moods_of.nd rfl (Or.inl rfl))) (fun _ _ _ _ _ => (pTs_one (pS_cmpT op_notInS ad_notIn (pS_var 2 (pv 2)) (pS_tup (pSA_cons pS_str (pSA_cons pS_str pSA_nil))) (by rfl)))) (fun _ _ _ _ _ => (pS_var 2 (pv 2))))))))
def m_ascending : MS := mRet (mApp dTuple (mCons (mApp dSorted (mCons (mLc (.nm 1) [1] (mItDc (.nm 1) [1] (mItAny (mVar 0)) (mYes) (mVar 1) (mC (.bl true))) (mYes) (mApp dStr (mCons (mVar 1) (mNil)))) (mNil))) (mNil)))
def f_ascending : List D → Sto → R D := pur (mFun true 2 m_ascending)
theorem ok_ascending {K : PySem.W.Frag} {mg : Str → Option Value} {A : Ad} (T : Tx K mg A) {base : Heap} : FnOk PG A.w K mg base (L2.CX PG A.w) 1 A.ascending A.ascending_d ["words"] (spS K A.G 1 f_ascending) :=
  okPur <|
  fnSD (N := ["words", "word"]) (k := 0) T.ascending.F sc_ascending rfl fun cdv AA outer s H E hr =>
    have tk := takes_of (X := cxOf (L2.CX PG A.w) PG A.w K mg base ["words", "word"] "ascending" (defScope s_ascending) A.ascending cdv AA outer s H E) rfl rfl rfl rfl
    have hx := passes_call tk (fun _ _ _ _ h => h)
    (pSs_one (pS_ret (pS_callTy call_tuple_of ad_tuple (by rfl) T.b_tuple (by decide +kernel) (pSA_cons (pS_callB cr_sortedS ad_sorted (by rfl) T.b_sorted (by decide +kernel) (pSA_cons (pS_lc rfl sc_ascending.nd (pI_dc rfl sc_ascending.nd (pI_any (pS_var 0 (pv 0))) (blkOk_by (own := [("word", 1)]) (N := ["words", "word"]) (sc := defScope s_ascending) (by decide +kernel)) (fun _ _ _ _ _ => (pG_nm (i := 1) sc_ascending.nd rfl (Or.inl rfl))) (fun _ _ _ _ _ => pTs_nil) (fun _ _ _ _ _ => (pS_var 1 (pv 1))) (fun _ _ _ _ _ => pS_bl)) (blkOk_by (own := [("word", 1)]) (N := ["words", "word"]) (sc := defScope s_ascending) (by decide +kernel)) (fun _ _ _ _ _ => (pG_nm (i := 1) sc_ascending.nd rfl (Or.inl rfl))) (fun _ _ _ _ _ => pTs_nil) (fun _ _ _ _ _ => (pS_callTy cr_str ad_str (by rfl) T.b_str (by decide +kernel) (pSA_cons (pS_var 1 (pv 1)) pSA_nil)))) pSA_nil)) pSA_nil))))
def p_Service_init_1 : MS := mSetF at_text "text" (mVar 0) (mTxt dJoin (mC (.str "\n")) (mLst (mStar (mVar 6) (mStar (mLc (.nm 8) [8] (mItAny (mFld at_told "told" (mVar 0))) (mYes) (mTxt dJoin (mC (.str " ")) (mVar 8))) (mNil)))))
def p_Service_init_2 : MS := mSeq (mSet 6 (mIf (mTest (mBin dGt (mApp dLen (mCons (mVar 4) (mNil))) (mC (.int 0)))) (mLst (mStar (mVar 6) (mCons (mTxt dJoin (mC (.str " ")) (mLst (mCons (mC (.str "leaves")) (mStar (mVar 4) (mNil))))) (mNil)))) (mVar 6))) (p_Service_init_1)
def p_Service_init_3 : MS := mSeq (mSet 6 (mIf (mTest (mBin dGt (mApp dLen (mCons (mVar 3) (mNil))) (mC (.int 0)))) (mLst (mStar (mVar 6) (mCons (mTxt dJoin (mC (.str " ")) (mLst (mCons (mC (.str "waits")) (mStar (mVar 3) (mNil))))) (mNil)))) (mVar 6))) (p_Service_init_2)
def p_Service_init_4 : MS := mSeq (mSet 6 (mLst (mCons (mTxt dJoin (mC (.str " ")) (mLst (mCons (mC (.str "service")) (mCons (mVar 1) (mStar (mVar 2) (mNil)))))) (mNil)))) (p_Service_init_3)
def p_Service_init_5 : MS := mSeq (mSetF at_moods "moods" (mVar 0) (mCall 1 f_ascending [] (mCons (mLst (mCons (mC (.str "calm")) (mStar (mLc2 (.nm 8) [8, 9] (mItAny (mFld at_told "told" (mVar 0))) (mYes) (.nm 9) [9] (mItAny (mCall 1 f_moods_of [] (mCons (mVar 8) (mNil)))) (mYes) (mVar 9)) (mNil)))) (mNil)))) (p_Service_init_4)
def p_Service_init_6 : MS := mSeq (mSetF at_told "told" (mVar 0) (mLc (.nm 7) [7] (mItAny (mFld at_rows "rows" (mVar 0))) (mYes) (mTxt dSplit (mApp (dStrX stc_0 f_Row_str dStr) (mCons (mVar 7) (mNil))) (mC (.str " "))))) (p_Service_init_5)
def p_Service_init_7 : MS := mSeq (mSetF at_name "name" (mVar 0) (mVar 1)) (mSeq (mSetF at_kinds "kinds" (mVar 0) (mApp dTuple (mCons (mVar 2) (mNil)))) (mSeq (mSetF at_waits "waits" (mVar 0) (mApp dTuple (mCons (mVar 3) (mNil)))) (mSeq (mSetF at_leaves "leaves" (mVar 0) (mApp dTuple (mCons (mVar 4) (mNil)))) (mSeq (mSetF at_rows "rows" (mVar 0) (mApp dTuple (mCons (mVar 5) (mNil)))) (p_Service_init_6)))))
def m_Service_init : MS := mSeq (mDo (mCall 2 f_need_24 [] (mCons (mCall 1 f_is_name [] (mCons (mVar 1) (mNil))) (mCons (mC (.str "name")) (mNil))))) (mSeq (mDo (mCall 2 f_need_24 [] (mCons (mAnd (mCall 1 f_are_names [] (mCons (mVar 2) (mNil))) (mBin dGt (mApp dLen (mCons (mVar 2) (mNil))) (mC (.int 0)))) (mCons (mC (.str "kinds")) (mNil))))) (mSeq (mDo (mCall 2 f_need_24 [] (mCons (mCall 1 f_are_names [] (mCons (mVar 3) (mNil))) (mCons (mC (.str "waits")) (mNil))))) (mSeq (mDo (mCall 2 f_need_24 [] (mCons (mCall 1 f_are_names [] (mCons (mVar 4) (mNil))) (mCons (mC (.str "leaves")) (mNil))))) (mSeq (mDo (mCall 2 f_need_24 [] (mCons (mAnd (mCall 1 f_is_sequence [] (mCons (mVar 5) (mNil))) (mApp dAll (mCons (mLc (.nm 7) [7] (mItAny (mVar 5)) (mYes) (mIsi ki_Row (mVar 7))) (mNil)))) (mCons (mC (.str "rows")) (mNil))))) (p_Service_init_7)))))
def f_Service_init : List D → Sto → R D := pur (mFun true 10 m_Service_init)
theorem ok_Service_init {K : PySem.W.Frag} {mg : Str → Option Value} {A : Ad} (T : Tx K mg A) {base : Heap} : FnOk PG A.w K mg base (L2.CX PG A.w) 4 A.Service_init A.Service_init_d ["self", "name", "kinds", "waits", "leaves", "rows"] (spS K A.G 6 f_Service_init) :=
  okPur <|
  fnSD (N := ["self", "name", "kinds", "waits", "leaves", "rows", "lines", "row", "words", "mood"]) (k := 3) T.Service_init.F sc_Service_init rfl fun cdv AA outer s H E hr =>
    have tk := takes_of (X := cxOf (L2.CX PG A.w) PG A.w K mg base ["self", "name", "kinds", "waits", "leaves", "rows", "lines", "row", "words", "mood"] "Service.__init__" (defScope s_Service_init) A.Service_init cdv AA outer s H E) rfl rfl rfl rfl
    have hx := passes_call tk (fun _ _ _ _ h => h)
    (pSs_cons (pS_do (pS_call (ok_need_24 T) (hr.mono (by decide)) rfl T.need_24.g T.need_24.F.kp (T.need_24.F.bindsN fun _ _ _ _ _ _ us hl => match us, hl with | [_, _], _ => rfl) .nil (fun _ => rfl) tk (pSA_cons (pS_call (ok_is_name T) (hr.mono (by decide)) rfl T.is_name.g T.is_name.F.kp (T.is_name.F.bindsN fun _ _ _ _ _ _ us hl => match us, hl with | [_], _ => rfl) .nil (fun _ => rfl) tk (pSA_cons (pS_var 1 (pv 1)) pSA_nil)) (pSA_cons pS_str pSA_nil)))) (pSs_cons (pS_do (pS_call (ok_need_24 T) (hr.mono (by decide)) rfl T.need_24.g T.need_24.F.kp (T.need_24.F.bindsN fun _ _ _ _ _ _ us hl => match us, hl with | [_, _], _ => rfl) .nil (fun _ => rfl) tk (pSA_cons (pS_andV (pS_call (ok_are_names T) (hr.mono (by decide)) rfl T.are_names.g T.are_names.F.kp (T.are_names.F.bindsN fun _ _ _ _ _ _ us hl => match us, hl with | [_], _ => rfl) .nil (fun _ => rfl) tk (pSA_cons (pS_var 2 (pv 2)) pSA_nil)) (pe_one (pS_cmp op_gt ad_gt (pS_callB cr_lenS ad_len (by rfl) T.b_len (by decide +kernel) (pSA_cons (pS_var 2 (pv 2)) pSA_nil)) pS_int (nomark _)))) (pSA_cons pS_str pSA_nil)))) (pSs_cons (pS_do (pS_call (ok_need_24 T) (hr.mono (by decide)) rfl T.need_24.g T.need_24.F.kp (T.need_24.F.bindsN fun _ _ _ _ _ _ us hl => match us, hl with | [_, _], _ => rfl) .nil (fun _ => rfl) tk (pSA_cons (pS_call (ok_are_names T) (hr.mono (by decide)) rfl T.are_names.g T.are_names.F.kp (T.are_names.F.bindsN fun _ _ _ _ _ _ us hl => match us, hl with | [_], _ => rfl) .nil (fun _ => rfl) tk (pSA_cons (pS_var 3 (pv 3)) pSA_nil)) (pSA_cons pS_str pSA_nil)))) (pSs_cons (pS_do (pS_call (ok_need_24 T) (hr.mono (by decide)) rfl T.need_24.g T.need_24.F.kp (T.need_24.F.bindsN fun _ _ _ _ _ _ us hl => match us, hl with | [_, _], _ => rfl) .nil (fun _ => rfl) tk (pSA_cons (pS_call (ok_are_names T) (hr.mono (by decide)) rfl T.are_names.g T.are_names.F.kp (T.are_names.F.bindsN fun _ _ _ _ _ _ us hl => match us, hl with | [_], _ => rfl) .nil (fun _ => rfl) tk (pSA_cons (pS_var 4 (pv 4)) pSA_nil)) (pSA_cons pS_str pSA_nil)))) (pSs_cons (pS_do (pS_call (ok_need_24 T) (hr.mono (by decide)) rfl T.need_24.g T.need_24.F.kp (T.need_24.F.bindsN fun _ _ _ _ _ _ us hl => match us, hl with | [_, _], _ => rfl) .nil (fun _ => rfl) tk (pSA_cons (pS_andV (pS_call (ok_is_sequence T) (hr.mono (by decide)) rfl T.is_sequence.g T.is_sequence.F.kp (T.is_sequence.F.bindsN fun _ _ _ _ _ _ us hl => match us, hl with | [_], _ => rfl) .nil (fun _ => rfl) tk (pSA_cons (pS_var 5 (pv 5)) pSA_nil)) (pe_one (pS_callB (cr_all rfl) ad_all (by rfl) T.b_all (by decide +kernel) (pSA_cons (pS_lc rfl sc_Service_init.nd (pI_any (pS_var 5 (pv 5))) (blkOk_by (own := [("row", 7)]) (N := ["self", "name", "kinds", "waits", "leaves", "rows", "lines", "row", "words", "mood"]) (sc := defScope s_Service_init) (by decide +kernel)) (fun _ _ _ _ _ => (pG_nm (i := 7) sc_Service_init.nd rfl (Or.inl rfl))) (fun _ _ _ _ _ => pTs_nil) (fun _ _ _ _ _ => (pS_isi (pe_glob (v := .ref A.C_Row) rfl T.C_Row.g rfl) (.own _) (hki_Row T) (by rfl) T.b_isinstance (pS_var 7 (pv 7))))) pSA_nil)))) (pSA_cons pS_str pSA_nil)))) (pSs_cons (pS_setF (hat_name T) (pS_var 0 (pv 0)) (pS_var 1 (pv 1))) (pSs_cons (pS_setF (hat_kinds T) (pS_var 0 (pv 0)) (pS_callTy call_tuple_of ad_tuple (by rfl) T.b_tuple (by decide +kernel) (pSA_cons (pS_var 2 (pv 2)) pSA_nil))) (pSs_cons (pS_setF (hat_waits T) (pS_var 0 (pv 0)) (pS_callTy call_tuple_of ad_tuple (by rfl) T.b_tuple (by decide +kernel) (pSA_cons (pS_var 3 (pv 3)) pSA_nil))) (pSs_cons (pS_setF (hat_leaves T) (pS_var 0 (pv 0)) (pS_callTy call_tuple_of ad_tuple (by rfl) T.b_tuple (by decide +kernel) (pSA_cons (pS_var 4 (pv 4)) pSA_nil))) (pSs_cons (pS_setF (hat_rows T) (pS_var 0 (pv 0)) (pS_callTy call_tuple_of ad_tuple (by rfl) T.b_tuple (by decide +kernel) (pSA_cons (pS_var 5 (pv 5)) pSA_nil))) (pSs_cons (pS_setF (hat_told T) (pS_var 0 (pv 0)) (pS_lc rfl sc_Service_init.nd (pI_any (pS_fld (hat_rows T) (pS_var 0 (pv 0)))) (blkOk_by (own := [("row", 7)]) (N := ["self", "name", "kinds", "waits", "leaves", "rows", "lines", "row", "words", "mood"]) (sc := defScope s_Service_init) (by decide +kernel)) (fun _ _ _ _ _ => (pG_nm (i := 7) sc_Service_init.nd rfl (Or.inl rfl))) (fun _ _ _ _ _ => pTs_nil) (fun _ _ _ _ _ => (pS_split (pS_callTyE (S.CallR.or cr_str (call_strOwn T.Row_str.fn (fR (ok_Row_str T) (T.Row_str.F.bindsN fun _ _ _ _ _ _ us hl => match us, hl with | [_], _ => rfl)) (hr.mono (by decide)) passL)) (ad_strX (hstc_0 T) ad_str.e) (by rfl) T.b_str (by decide +kernel) (pSA_cons (pS_var 7 (pv 7)) pSA_nil)) pS_str)))) (pSs_cons (pS_setF (hat_moods T) (pS_var 0 (pv 0)) (pS_call (ok_ascending T) (hr.mono (by decide)) rfl T.ascending.g T.ascending.F.kp (T.ascending.F.bindsN fun _ _ _ _ _ _ us hl => match us, hl with | [_], _ => rfl) .nil (fun _ => rfl) tk (pSA_cons (pS_lst (pSA_cons (pS_glob (v := .str "calm") rfl T.c_CALM ⟨_, rfl⟩ (fun _ => rfl)) (pSA_star (pS_lc2 (vs1 := [9]) rfl sc_Service_init.nd (pI_any (pS_fld (hat_told T) (pS_var 0 (pv 0)))) (blkOk_by (own := [("words", 8), ("mood", 9)]) (N := ["self", "name", "kinds", "waits", "leaves", "rows", "lines", "row", "words", "mood"]) (sc := defScope s_Service_init) (by decide +kernel)) (by decide) (fun _ _ _ _ _ => (pG_nm (i := 8) sc_Service_init.nd rfl (Or.inl rfl))) (fun _ _ _ _ _ => pTs_nil) (fun _ _ _ _ _ => (pI_any (pS_call (ok_moods_of T) (hr.mono (by decide)) rfl T.moods_of.g T.moods_of.F.kp (T.moods_of.F.bindsN fun _ _ _ _ _ _ us hl => match us, hl with | [_], _ => rfl) .nil (fun _ => rfl) takes0 (pSA_cons (pS_var 8 (pv 8)) pSA_nil)))) (fun _ _ _ _ _ => (pG_nm (i := 9) sc_Service_init.nd rfl (Or.inl rfl))) (fun _ _ _ _ _ => pTs_nil) (fun _ _ _ _ _ => (pS_var 9 (pv 9)))) pSA_nil))) pSA_nil))) (pSs_cons (pS_set (i := 6) sc_Service_init.nd rfl (Or.inl rfl) (pS_lst (pSA_cons (pS_join pS_str (pS_lst (pSA_cons pS_str (pSA_cons (pS_var 1 (pv 1)) (pSA_star (pS_var 2 (pv 2)) pSA_nil))))) pSA_nil))) (pSs_cons (pS_set (i := 6) sc_Service_init.nd rfl (Or.inl rfl) (pS_ifE (pS_cmpT op_gt ad_gt (pS_callB cr_lenS ad_len (by rfl) T.b_len (by decide +kernel) (pSA_cons (pS_var 3 (pv 3)) pSA_nil)) pS_int (nomark _)) (pS_lst (pSA_star (pS_var 6 (pv 6)) (pSA_cons (pS_join pS_str (pS_lst (pSA_cons pS_str (pSA_star (pS_var 3 (pv 3)) pSA_nil)))) pSA_nil))) (pS_var 6 (pv 6)))) (pSs_cons (pS_set (i := 6) sc_Service_init.nd rfl (Or.inl rfl) (pS_ifE (pS_cmpT op_gt ad_gt (pS_callB cr_lenS ad_len (by rfl) T.b_len (by decide +kernel) (pSA_cons (pS_var 4 (pv 4)) pSA_nil)) pS_int (nomark _)) (pS_lst (pSA_star (pS_var 6 (pv 6)) (pSA_cons (pS_join pS_str (pS_lst (pSA_cons pS_str (pSA_star (pS_var 4 (pv 4)) pSA_nil)))) pSA_nil))) (pS_var 6 (pv 6)))) (pSs_one (pS_setF (hat_text T) (pS_var 0 (pv 0)) (pS_join pS_str (pS_lst (pSA_star (pS_var 6 (pv 6)) (pSA_star (pS_lc rfl sc_Service_init.nd (pI_any (pS_fld (hat_told T) (pS_var 0 (pv 0)))) (blkOk_by (own := [("words", 8)]) (N := ["self", "name", "kinds", "waits", "leaves", "rows", "lines", "row", "words", "mood"]) (sc := defScope s_Service_init) (by decide +kernel)) (fun _ _ _ _ _ => (pG_nm (i := 8) sc_Service_init.nd rfl (Or.inl rfl))) (fun _ _ _ _ _ => pTs_nil) (fun _ _ _ _ _ => (pS_join pS_str (pS_var 8 (pv 8))))) pSA_nil)))))))))))))))))))))
def m_Service_str : MS := mRet (mFmt (mFld at_text "text" (mVar 0)))
def f_Service_str : List D → Sto → R D := pur (mFun true 1 m_Service_str)
theorem ok_Service_str {K : PySem.W.Frag} {mg : Str → Option Value} {A : Ad} (T : Tx K mg A) {base : Heap} : FnOk PG A.w K mg base (L2.CX PG A.w) 1 A.Service_str A.Service_str_d ["self"] (spS K A.G 1 f_Service_str) :=
  okPur <|
  fnSD (N := ["self"]) (k := 0) T.Service_str.F sc_Service_str rfl fun cdv AA outer s H E hr =>
    have tk := takes_of (X := cxOf (L2.CX PG A.w) PG A.w K mg base ["self"] "Service.__str__" (defScope s_Service_str) A.Service_str cdv AA outer s H E) rfl rfl rfl rfl
    have hx := passes_call tk (fun _ _ _ _ h => h)
    (pSs_one (pS_ret (pS_js1 (pS_fmt (pS_fld (hat_text T) (pS_var 0 (pv 0)))))))
def m_Service_eq : MS := mRet (mAnd (mIsi ki_Service (mVar 1)) (mBin dEq (mFld at_text "text" (mVar 0)) (mFld at_text "text" (mVar 1))))
def f_Service_eq : List D → Sto → R D := pur (mFun true 2 m_Service_eq)
theorem ok_Service_eq {K : PySem.W.Frag} {mg : Str → Option Value} {A : Ad} (T : Tx K mg A) {base : Heap} : FnOk PG A.w K mg base (L2.CX PG A.w) 1 A.Service_eq A.Service_eq_d ["self", "other"] (spS K A.G 2 f_Service_eq) :=
  okPur <|
  fnSD (N := ["self", "other"]) (k := 0) T.Service_eq.F sc_Service_eq rfl fun cdv AA outer s H E hr =>
    have tk := takes_of (X := cxOf (L2.CX PG A.w) PG A.w K mg base ["self", "other"] "Service.__eq__" (defScope s_Service_eq) A.Service_eq cdv AA outer s H E) rfl rfl rfl rfl
    have hx := passes_call tk (fun _ _ _ _ h => h)
    (pSs_one (pS_ret (pS_andV (pS_isi (pe_glob (v := .ref A.C_Service) rfl T.C_Service.g rfl) (.own _) (hki_Service T) (by rfl) T.b_isinstance (pS_var 1 (pv 1))) (pe_one (pS_cmp (op_eqS hr.units) ad_eq (pS_fld (hat_text T) (pS_var 0 (pv 0))) (pS_fld (hat_text T) (pS_var 1 (pv 1))) (nomark _))))))
end K
namespace K
open PySem L2 S
def p__law_box_1 : MS := mSeq (mSet 3 (mBin dAdd (mBin dMod (mApp dInt (mCons (mBin dAdd (mBin dAdd (mBin dMulX (mBin dMod (mApp dInt (mCons (mVar 2) (mNil))) (mC (.int 2147483629))) (mC (.int 69621))) (mBin dMulX (mC (.int 40591)) (mVar 1))) (mC (.int 3))) (mNil))) (mC (.int 2147483629))) (mC (.int 1)))) (mSeq (mSet 4 (mIf (mTest (mBin dGe (mVar 2) (mBin dPow (mC (.int 10)) (mC (.int 18))))) (mVar 2) (mC (.int 0)))) (mRet (mLstC (mCons (mVar 4) (mCons (mVar 3) (mCons (mC (.int 0)) (mNil)))))))
def m__law_box : MS := mSeq (mSet 2 (mBin dAdd (mBin dMulX (mC (.int 6563)) (mVar 1)) (mC (.int 71)))) (mSeq (mIfS (mTest (mBin dLt (mVar 1) (mApp dLen (mCons (mVar 0) (mNil))))) (mSet 2 (mApp dAbs (mCons (mApp dInt (mCons (mBin dIx (mVar 0) (mVar 1)) (mNil))) (mNil)))) (mIfS (mTest (mBin dGt (mApp dLen (mCons (mVar 0) (mNil))) (mC (.int 0)))) (mSet 2 (mBin dAdd (mVar 2) (mBin dMulX (mBin dMod (mApp dInt (mCons (mBin dIx (mVar 0) (mBin dMod (mApp dInt (mCons (mVar 1) (mNil))) (mApp dLen (mCons (mVar 0) (mNil))))) (mNil))) (mC (.int 2147483629))) (mC (.int 50329))))) (mNext))) (p__law_box_1))
def f__law_box : List D → Sto → R D := mFun false 5 m__law_box
theorem ok__law_box {K : PySem.W.Frag} {mg : Str → Option Value} {A : Ad} (T : Tx K mg A) {base : Heap} : FnOk PG A.w K mg base (L2.CX PG A.w) 1 A._law_box A._law_box_d ["_law_script", "_law_k"] (spS K A.G 2 f__law_box) :=
  fnSD (N := ["_law_script", "_law_k", "_law_cell", "_law_seed", "_law_wide"]) (k := 0) T._law_box.F sc__law_box rfl fun cdv AA outer s H E hr =>
    have tk := takes_of (X := cxOf (L2.CX PG A.w) PG A.w K mg base ["_law_script", "_law_k", "_law_cell", "_law_seed", "_law_wide"] "_law_box" (defScope s__law_box) A._law_box cdv AA outer s H E) rfl rfl rfl rfl
    have hx := passes_call tk (fun _ _ _ _ h => h)
    (pSs_cons (pS_set (i := 2) sc__law_box.nd rfl (Or.inl rfl) (pS_op op_addS ad_add (pS_op op_mulX ad_mulX pS_int (pS_var 1 (pv 1))) pS_int)) (pSs_cons (pS_if (pS_cmpT op_ltS ad_lt (pS_var 1 (pv 1)) (pS_callB cr_lenS ad_len (by rfl) T.b_len (by decide +kernel) (pSA_cons (pS_var 0 (pv 0)) pSA_nil)) (nomark _)) (pSs_one (pS_set (i := 2) sc__law_box.nd rfl (Or.inl rfl) (pS_callB call_abs ad_abs (by rfl) T.b_abs (by decide +kernel) (pSA_cons (pS_callTy call_int1 ad_int (by rfl) T.b_int (by decide +kernel) (pSA_cons (pS_ix ix_S ad_ix (pS_var 0 (pv 0)) (pS_var 1 (pv 1)) (fun _ _ => rfl)) pSA_nil)) pSA_nil)))) (pSs_one (pS_if (pS_cmpT op_gt ad_gt (pS_callB cr_lenS ad_len (by rfl) T.b_len (by decide +kernel) (pSA_cons (pS_var 0 (pv 0)) pSA_nil)) pS_int (nomark _)) (pSs_one (pS_set (i := 2) sc__law_box.nd rfl (Or.inl rfl) (pS_op op_addS ad_add (pS_var 2 (pv 2)) (pS_op op_mulX ad_mulX (pS_op op_modN ad_mod (pS_callTy call_int1 ad_int (by rfl) T.b_int (by decide +kernel) (pSA_cons (pS_ix ix_S ad_ix (pS_var 0 (pv 0)) (pS_op op_modN ad_mod (pS_callTy call_int1 ad_int (by rfl) T.b_int (by decide +kernel) (pSA_cons (pS_var 1 (pv 1)) pSA_nil)) (pS_callB cr_lenS ad_len (by rfl) T.b_len (by decide +kernel) (pSA_cons (pS_var 0 (pv 0)) pSA_nil))) (fun _ _ => rfl)) pSA_nil)) pS_int) pS_int)))) pSs_nil))) (pSs_cons (pS_set (i := 3) sc__law_box.nd rfl (Or.inl rfl) (pS_op op_addS ad_add (pS_op op_modN ad_mod (pS_callTy call_int1 ad_int (by rfl) T.b_int (by decide +kernel) (pSA_cons (pS_op op_addS ad_add (pS_op op_addS ad_add (pS_op op_mulX ad_mulX (pS_op op_modN ad_mod (pS_callTy call_int1 ad_int (by rfl) T.b_int (by decide +kernel) (pSA_cons (pS_var 2 (pv 2)) pSA_nil)) pS_int) pS_int) (pS_op op_mulX ad_mulX pS_int (pS_var 1 (pv 1)))) pS_int) pSA_nil)) pS_int) pS_int)) (pSs_cons (pS_set (i := 4) sc__law_box.nd rfl (Or.inl rfl) (pS_ifE (pS_cmpT op_ge ad_ge (pS_var 2 (pv 2)) (pS_op op_pow ad_pow pS_int pS_int) (nomark _)) (pS_var 2 (pv 2)) pS_int)) (pSs_one (pS_ret (pS_lstC (pSA_cons (pS_var 4 (pv 4)) (pSA_cons (pS_var 3 (pv 3)) (pSA_cons pS_int pSA_nil))))))))))
def m__law_take : MS := mSeq (mIfS (mTest (mBin dGt (mBin dIx (mVar 0) (mC (.int 0))) (mC (.int 0)))) (mSeq (mSet 2 (mBin dMod (mApp dInt (mCons (mBin dIx (mVar 0) (mC (.int 0))) (mNil))) (mVar 1))) (mSeq (mSetIx (mVar 0) (mC (.int 0)) (mBin dDiv (mBin dIx (mVar 0) (mC (.int 0))) (mVar 1))) (mRet (mVar 2)))) (mNext)) (mSeq (mSetIx (mVar 0) (mC (.int 2)) (mBin dAdd (mBin dIx (mVar 0) (mC (.int 2))) (mC (.int 1)))) (mSeq (mSet 3 (mBin dMod (mApp dInt (mCons (mBin dMulX (mBin dAdd (mBin dIx (mVar 0) (mC (.int 1))) (mBin dMulX (mC (.int 104801)) (mBin dIx (mVar 0) (mC (.int 2))))) (mC (.int 48271))) (mNil))) (mC (.int 2147483647)))) (mSeq (mSetIx (mVar 0) (mC (.int 1)) (mBin dAdd (mBin dMod (mApp dInt (mCons (mBin dAdd (mBin dMulX (mVar 3) (mC (.int 69697))) (mC (.int 30161))) (mNil))) (mC (.int 2147483629))) (mC (.int 1)))) (mRet (mBin dMod (mApp dInt (mCons (mBin dDiv (mBin dAdd (mBin dMulX (mVar 3) (mC (.int 2147483647))) (mBin dIx (mVar 0) (mC (.int 1)))) (mC (.int 8191))) (mNil))) (mVar 1))))))
def f__law_take : List D → Sto → R D := pur (mFun true 4 m__law_take)
theorem ok__law_take {K : PySem.W.Frag} {mg : Str → Option Value} {A : Ad} (T : Tx K mg A) {base : Heap} : FnOk PG A.w K mg base (L2.CX PG A.w) 1 A._law_take A._law_take_d ["_law_box_here", "_law_many"] (spS K A.G 2 f__law_take) :=
  okPur <|
  fnSD (N := ["_law_box_here", "_law_many", "_law_digit", "_law_near"]) (k := 0) T._law_take.F sc__law_take rfl fun cdv AA outer s H E hr =>
    have tk := takes_of (X := cxOf (L2.CX PG A.w) PG A.w K mg base ["_law_box_here", "_law_many", "_law_digit", "_law_near"] "_law_take" (defScope s__law_take) A._law_take cdv AA outer s H E) rfl rfl rfl rfl
    have hx := passes_call tk (fun _ _ _ _ h => h)
    (pSs_cons (pS_if (pS_cmpT op_gt ad_gt (pS_ix ix_S ad_ix (pS_var 0 (pv 0)) pS_int (fun _ _ => rfl)) pS_int (nomark _)) (pSs_cons (pS_set (i := 2) sc__law_take.nd rfl (Or.inl rfl) (pS_op op_modN ad_mod (pS_callTy call_int1 ad_int (by rfl) T.b_int (by decide +kernel) (pSA_cons (pS_ix ix_S ad_ix (pS_var 0 (pv 0)) pS_int (fun _ _ => rfl)) pSA_nil)) (pS_var 1 (pv 1)))) (pSs_cons (pS_setIx (pS_var 0 (pv 0)) pS_int (pS_op op_fdivN ad_div (pS_ix ix_S ad_ix (pS_var 0 (pv 0)) pS_int (fun _ _ => rfl)) (pS_var 1 (pv 1)))) (pSs_one (pS_ret (pS_var 2 (pv 2)))))) pSs_nil) (pSs_cons (pS_setIx (pS_var 0 (pv 0)) pS_int (pS_op op_addS ad_add (pS_ix ix_S ad_ix (pS_var 0 (pv 0)) pS_int (fun _ _ => rfl)) pS_int)) (pSs_cons (pS_set (i := 3) sc__law_take.nd rfl (Or.inl rfl) (pS_op op_modN ad_mod (pS_callTy call_int1 ad_int (by rfl) T.b_int (by decide +kernel) (pSA_cons (pS_op op_mulX ad_mulX (pS_op op_addS ad_add (pS_ix ix_S ad_ix (pS_var 0 (pv 0)) pS_int (fun _ _ => rfl)) (pS_op op_mulX ad_mulX pS_int (pS_ix ix_S ad_ix (pS_var 0 (pv 0)) pS_int (fun _ _ => rfl)))) pS_int) pSA_nil)) pS_int)) (pSs_cons (pS_setIx (pS_var 0 (pv 0)) pS_int (pS_op op_addS ad_add (pS_op op_modN ad_mod (pS_callTy call_int1 ad_int (by rfl) T.b_int (by decide +kernel) (pSA_cons (pS_op op_addS ad_add (pS_op op_mulX ad_mulX (pS_var 3 (pv 3)) pS_int) pS_int) pSA_nil)) pS_int) pS_int)) (pSs_one (pS_ret (pS_op op_modN ad_mod (pS_callTy call_int1 ad_int (by rfl) T.b_int (by decide +kernel) (pSA_cons (pS_op op_fdivN ad_div (pS_op op_addS ad_add (pS_op op_mulX ad_mulX (pS_var 3 (pv 3)) pS_int) (pS_ix ix_S ad_ix (pS_var 0 (pv 0)) pS_int (fun _ _ => rfl))) pS_int) pSA_nil)) (pS_var 1 (pv 1)))))))))
def m__law_pick : MS := mRet (mBin dIx (mVar 1) (mCall 2 f__law_take [] (mCons (mVar 0) (mCons (mApp dLen (mCons (mVar 1) (mNil))) (mNil)))))
def f__law_pick : List D → Sto → R D := pur (mFun true 2 m__law_pick)
theorem ok__law_pick {K : PySem.W.Frag} {mg : Str → Option Value} {A : Ad} (T : Tx K mg A) {base : Heap} : FnOk PG A.w K mg base (L2.CX PG A.w) 2 A._law_pick A._law_pick_d ["_law_box_here", "_law_some_here"] (spS K A.G 2 f__law_pick) :=
  okPur <|
  fnSD (N := ["_law_box_here", "_law_some_here"]) (k := 1) T._law_pick.F sc__law_pick rfl fun cdv AA outer s H E hr =>
    have tk := takes_of (X := cxOf (L2.CX PG A.w) PG A.w K mg base ["_law_box_here", "_law_some_here"] "_law_pick" (defScope s__law_pick) A._law_pick cdv AA outer s H E) rfl rfl rfl rfl
    have hx := passes_call tk (fun _ _ _ _ h => h)
    (pSs_one (pS_ret (pS_ix ix_S ad_ix (pS_var 1 (pv 1)) (pS_call (ok__law_take T) (hr.mono (by decide)) rfl T._law_take.g T._law_take.F.kp (T._law_take.F.bindsN fun _ _ _ _ _ _ us hl => match us, hl with | [_, _], _ => rfl) .nil (fun _ => rfl) tk (pSA_cons (pS_var 0 (pv 0)) (pSA_cons (pS_callB cr_lenS ad_len (by rfl) T.b_len (by decide +kernel) (pSA_cons (pS_var 1 (pv 1)) pSA_nil)) pSA_nil))) (fun _ _ => rfl))))
def p__law_mixed_1 : MS := mDo (mLm dAppend (mVar 3) (mCons (mLm dPopAt (mVar 2) (mCons (mCall 2 f__law_take [] (mCons (mVar 0) (mCons (mApp dLen (mCons (mVar 2) (mNil))) (mNil)))) (mNil))) (mNil)))
def m__law_mixed : MS := mSeq (mPar [2, 3] (mCons (mApp dListC (mCons (mVar 1) (mNil))) (mCons (mLstC (mNil)) (mNil)))) (mSeq (mWhileGo (mTest (mBin dNeL (mVar 2) (mLst (mNil)))) (p__law_mixed_1) 20) (mRet (mVar 3)))
def f__law_mixed : List D → Sto → R D := pur (mFun true 4 m__law_mixed)
theorem ok__law_mixed {K : PySem.W.Frag} {mg : Str → Option Value} {A : Ad} (T : Tx K mg A) {base : Heap} : FnOk PG A.w K mg base (L2.CX PG A.w) 2 A._law_mixed A._law_mixed_d ["_law_box_here", "_law_some_here"] (spS K A.G 2 f__law_mixed) :=
  okPur <|
  fnSD (N := ["_law_box_here", "_law_some_here", "_law_left", "_law_found"]) (k := 1) T._law_mixed.F sc__law_mixed rfl fun cdv AA outer s H E hr =>
    have tk := takes_of (X := cxOf (L2.CX PG A.w) PG A.w K mg base ["_law_box_here", "_law_some_here", "_law_left", "_law_found"] "_law_mixed" (defScope s__law_mixed) A._law_mixed cdv AA outer s H E) rfl rfl rfl rfl
    have hx := passes_call tk (fun _ _ _ _ h => h)
    (pSs_cons (pS_par rfl sc__law_mixed.nd (i := 2) (j := 3) rfl rfl (by decide) rfl rfl (pSA_cons (pS_callTy call_list_of ad_listC (by rfl) T.b_list (by decide +kernel) (pSA_cons (pS_var 1 (pv 1)) pSA_nil)) (pSA_cons (pS_lstC pSA_nil) pSA_nil)) (by rfl)) (pSs_cons (pS_while 20 (passes_of rfl) (pS_cmpT (op_neSL hr.units) ad_neL (pS_var 2 (pv 2)) (pS_lst pSA_nil) (nomark _)) (pSs_one (pS_do (pS_lm (t := fun _ _ _ => False) ad_append (pe_bm PySem.F.plainAttrs_list PySem.F.slot_list_append PySem.F.type_list_append mt_append (pS_var 3 (pv 3)) (pSA_cons (pS_lm (t := fun _ _ _ => False) ad_popAt (pe_bm PySem.F.plainAttrs_list PySem.F.slot_list_pop PySem.F.type_list_pop mt_popAt (pS_var 2 (pv 2)) (pSA_cons (pS_call (ok__law_take T) (hr.mono (by decide)) rfl T._law_take.g T._law_take.F.kp (T._law_take.F.bindsN fun _ _ _ _ _ _ us hl => match us, hl with | [_, _], _ => rfl) .nil (fun _ => rfl) tk (pSA_cons (pS_var 0 (pv 0)) (pSA_cons (pS_callB cr_lenS ad_len (by rfl) T.b_len (by decide +kernel) (pSA_cons (pS_var 2 (pv 2)) pSA_nil)) pSA_nil))) pSA_nil))) pSA_nil)))))) (pSs_one (pS_ret (pS_var 3 (pv 3))))))
def p__law_names_1 : MS := mRet (mLc (.nm 6) [6] (mItRange (mCons (mVar 1) (mNil))) (mYes) (mBin dAdd (mBin dIx (mVar 3) (mBin dMod (mApp dInt (mCons (mBin dAdd (mVar 5) (mBin dMulX (mC (.int 7)) (mVar 6))) (mNil))) (mC (.int 26)))) (mBin dMulX (mC (.str "v")) (mBin dMod (mApp dInt (mCons (mVar 5) (mNil))) (mC (.int 4))))))
def p__law_names_2 : MS := mSeq (mIfS (mAndB (mTest (mBin dEq (mVar 4) (mC (.int 1)))) (mTest (mBin dLt (mVar 1) (mC (.int 5))))) (mRet (mCall 2 f__law_mixed [] (mCons (mVar 0) (mCons (mLc (.nm 6) [6] (mItRange (mCons (mVar 1) (mNil))) (mYes) (mSl (mC (.str "tttt")) (mNoPart) (mPart (mBin dAdd (mVar 6) (mC (.int 1)))))) (mNil))))) (mNext)) (p__law_names_1)
def p__law_names_3 : MS := mSeq (mIfS (mTest (mBin dEq (mVar 4) (mC (.int 0)))) (mRet (mLc (.nm 6) [6] (mItRange (mCons (mVar 1) (mNil))) (mYes) (mBin dIx (mVar 2) (mBin dMod (mApp dInt (mCons (mBin dAdd (mVar 5) (mBin dMulX (mC (.int 5)) (mVar 6))) (mNil))) (mC (.int 12)))))) (mNext)) (p__law_names_2)
def m__law_names : MS := mSeq (mSet 2 (mLst (mCons (mC (.str "send")) (mCons (mC (.str "back")) (mCons (mC (.str "end")) (mCons (mC (.str "root")) (mCons (mC (.str "wait")) (mCons (mC (.str "a")) (mCons (mC (.str "ab")) (mCons (mC (.str "abc")) (mCons (mC (.str "zzzz")) (mCons (mC (.str "row")) (mCons (mC (.str "hear")) (mCons (mC (.str "x")) (mNil))))))))))))))) (mSeq (mAsg (.tp [.nm 3, .nm 4, .nm 5]) (mTup (mCons (mC (.str "abcdefghijklmnopqrstuvwxyz")) (mCons (mCall 2 f__law_take [] (mCons (mVar 0) (mCons (mC (.int 3)) (mNil)))) (mCons (mCall 2 f__law_take [] (mCons (mVar 0) (mCons (mC (.int 26)) (mNil)))) (mNil)))))) (p__law_names_3))
def f__law_names : List D → Sto → R D := pur (mFun true 7 m__law_names)
theorem ok__law_names {K : PySem.W.Frag} {mg : Str → Option Value} {A : Ad} (T : Tx K mg A) {base : Heap} : FnOk PG A.w K mg base (L2.CX PG A.w) 3 A._law_names A._law_names_d ["_law_box_here", "_law_many"] (spS K A.G 2 f__law_names) :=
  okPur <|
  fnSD (N := ["_law_box_here", "_law_many", "_law_words_here", "_law_letters", "_law_form", "_law_spot", "_law_k"]) (k := 2) T._law_names.F sc__law_names rfl fun cdv AA outer s H E hr =>
    have tk := takes_of (X := cxOf (L2.CX PG A.w) PG A.w K mg base ["_law_box_here", "_law_many", "_law_words_here", "_law_letters", "_law_form", "_law_spot", "_law_k"] "_law_names" (defScope s__law_names) A._law_names cdv AA outer s H E) rfl rfl rfl rfl
    have hx := passes_call tk (fun _ _ _ _ h => h)
    (pSs_cons (pS_set (i := 2) sc__law_names.nd rfl (Or.inr rfl) (pS_lst (pSA_cons pS_str (pSA_cons pS_str (pSA_cons pS_str (pSA_cons pS_str (pSA_cons pS_str (pSA_cons pS_str (pSA_cons pS_str (pSA_cons pS_str (pSA_cons pS_str (pSA_cons pS_str (pSA_cons pS_str (pSA_cons pS_str pSA_nil)))))))))))))) (pSs_cons (pS_asg (pS_tup (pSA_cons pS_str (pSA_cons (pS_call (ok__law_take T) (hr.mono (by decide)) rfl T._law_take.g T._law_take.F.kp (T._law_take.F.bindsN fun _ _ _ _ _ _ us hl => match us, hl with | [_, _], _ => rfl) .nil (fun _ => rfl) tk (pSA_cons (pS_var 0 (pv 0)) (pSA_cons pS_int pSA_nil))) (pSA_cons (pS_call (ok__law_take T) (hr.mono (by decide)) rfl T._law_take.g T._law_take.F.kp (T._law_take.F.bindsN fun _ _ _ _ _ _ us hl => match us, hl with | [_, _], _ => rfl) .nil (fun _ => rfl) tk (pSA_cons (pS_var 0 (pv 0)) (pSA_cons pS_int pSA_nil))) pSA_nil)))) (pG_tp rfl (pGs_cons (pG_nm (i := 3) sc__law_names.nd rfl (Or.inr rfl)) (pGs_cons (pG_nm (i := 4) sc__law_names.nd rfl (Or.inl rfl)) (pGs_cons (pG_nm (i := 5) sc__law_names.nd rfl (Or.inr rfl)) pGs_nil))))) (pSs_cons (pS_if (pS_cmpT (op_eqS hr.units) ad_eq (pS_var 4 (pv 4)) pS_int (nomark _)) (pSs_one (pS_ret (pS_lc rfl sc__law_names.nd (pI_range1 rfl T.b_range (pSA_cons (pS_var 1 (pv 1)) pSA_nil)) (blkOk_by (own := [("_law_k", 6)]) (N := ["_law_box_here", "_law_many", "_law_words_here", "_law_letters", "_law_form", "_law_spot", "_law_k"]) (sc := defScope s__law_names) (by decide +kernel)) (fun _ _ _ _ _ => (pG_nm (i := 6) sc__law_names.nd rfl (Or.inl rfl))) (fun _ _ _ _ _ => pTs_nil) (fun _ _ _ _ _ => (pS_ix ix_S ad_ix (pS_var 2 (pv 2)) (pS_op op_modN ad_mod (pS_callTy call_int1 ad_int (by rfl) T.b_int (by decide +kernel) (pSA_cons (pS_op op_addS ad_add (pS_var 5 (pv 5)) (pS_op op_mulX ad_mulX pS_int (pS_var 6 (pv 6)))) pSA_nil)) pS_int) (fun _ _ => rfl)))))) pSs_nil) (pSs_cons (pS_if (PW.pt (pS_and (pS_cmpT (op_eqS hr.units) ad_eq (pS_var 4 (pv 4)) pS_int (nomark _)) (pS_and1 (pS_cmpT op_ltS ad_lt (pS_var 1 (pv 1)) pS_int (nomark _))))) (pSs_one (pS_ret (pS_call (ok__law_mixed T) (hr.mono (by decide)) rfl T._law_mixed.g T._law_mixed.F.kp (T._law_mixed.F.bindsN fun _ _ _ _ _ _ us hl => match us, hl with | [_, _], _ => rfl) .nil (fun _ => rfl) tk (pSA_cons (pS_var 0 (pv 0)) (pSA_cons (pS_lc rfl sc__law_names.nd (pI_range1 rfl T.b_range (pSA_cons (pS_var 1 (pv 1)) pSA_nil)) (blkOk_by (own := [("_law_k", 6)]) (N := ["_law_box_here", "_law_many", "_law_words_here", "_law_letters", "_law_form", "_law_spot", "_law_k"]) (sc := defScope s__law_names) (by decide +kernel)) (fun _ _ _ _ _ => (pG_nm (i := 6) sc__law_names.nd rfl (Or.inl rfl))) (fun _ _ _ _ _ => pTs_nil) (fun _ _ _ _ _ => (pS_sl pS_str pSO_none (pSO_some (pS_op op_addS ad_add (pS_var 6 (pv 6)) pS_int))))) pSA_nil))))) pSs_nil) (pSs_one (pS_ret (pS_lc rfl sc__law_names.nd (pI_range1 rfl T.b_range (pSA_cons (pS_var 1 (pv 1)) pSA_nil)) (blkOk_by (own := [("_law_k", 6)]) (N := ["_law_box_here", "_law_many", "_law_words_here", "_law_letters", "_law_form", "_law_spot", "_law_k"]) (sc := defScope s__law_names) (by decide +kernel)) (fun _ _ _ _ _ => (pG_nm (i := 6) sc__law_names.nd rfl (Or.inl rfl))) (fun _ _ _ _ _ => pTs_nil) (fun _ _ _ _ _ => (pS_op op_addS ad_add (pS_ix ix_S ad_ix (pS_var 3 (pv 3)) (pS_op op_modN ad_mod (pS_callTy call_int1 ad_int (by rfl) T.b_int (by decide +kernel) (pSA_cons (pS_op op_addS ad_add (pS_var 5 (pv 5)) (pS_op op_mulX ad_mulX pS_int (pS_var 6 (pv 6)))) pSA_nil)) pS_int) (fun _ _ => rfl)) (pS_op op_mulX ad_mulX pS_str (pS_op op_modN ad_mod (pS_callTy call_int1 ad_int (by rfl) T.b_int (by decide +kernel) (pSA_cons (pS_var 5 (pv 5)) pSA_nil)) pS_int)))))))))))
def m__law_row_text : MS := mRet (mTxt dJoin (mC (.str " ")) (mVar 0))
def f__law_row_text : List D → Sto → R D := pur (mFun true 1 m__law_row_text)
theorem ok__law_row_text {K : PySem.W.Frag} {mg : Str → Option Value} {A : Ad} (T : Tx K mg A) {base : Heap} : FnOk PG A.w K mg base (L2.CX PG A.w) 1 A._law_row_text A._law_row_text_d ["_law_row_here"] (spS K A.G 1 f__law_row_text) :=
  okPur <|
  fnSD (N := ["_law_row_here"]) (k := 0) T._law_row_text.F sc__law_row_text rfl fun cdv AA outer s H E hr =>
    have tk := takes_of (X := cxOf (L2.CX PG A.w) PG A.w K mg base ["_law_row_here"] "_law_row_text" (defScope s__law_row_text) A._law_row_text cdv AA outer s H E) rfl rfl rfl rfl
    have hx := passes_call tk (fun _ _ _ _ h => h)
    (pSs_one (pS_ret (pS_join pS_str (pS_var 0 (pv 0)))))
def m__law_row : MS := mSeq (mIfS (mTest (mBin dEq (mBin dIx (mVar 0) (mC (.int 0))) (mC (.str "begin")))) (mRet (mMakeF 1 4 f_Begin_init [] (mCons (mBin dIx (mVar 0) (mC (.int 1))) (mCons (mBin dIx (mVar 0) (mC (.int 2))) (mCons (mBin dIx (mVar 0) (mC (.int 3))) (mNil)))))) (mNext)) (mSeq (mIfS (mTest (mBin dEq (mBin dIx (mVar 0) (mC (.int 0))) (mC (.str "send")))) (mRet (mMakeF 2 4 f_Send_init [] (mCons (mBin dIx (mVar 0) (mC (.int 1))) (mCons (mBin dIx (mVar 0) (mC (.int 2))) (mCons (mBin dIx (mVar 0) (mC (.int 3))) (mNil)))))) (mNext)) (mSeq (mIfS (mTest (mBin dEq (mBin dIx (mVar 0) (mC (.int 0))) (mC (.str "back")))) (mRet (mMakeF 3 5 f_Back_init [] (mCons (mBin dIx (mVar 0) (mC (.int 1))) (mCons (mBin dIx (mVar 0) (mC (.int 2))) (mCons (mBin dIx (mVar 0) (mC (.int 3))) (mCons (mBin dIx (mVar 0) (mC (.int 4))) (mNil))))))) (mNext)) (mRet (mMakeF 4 5 f_End_init [] (mCons (mBin dIx (mVar 0) (mC (.int 1))) (mCons (mBin dIx (mVar 0) (mC (.int 2))) (mCons (mBin dIx (mVar 0) (mC (.int 3))) (mCons (mBin dIx (mVar 0) (mC (.int 4))) (mNil)))))))))
def f__law_row : List D → Sto → R D := pur (mFun true 1 m__law_row)
theorem ok__law_row {K : PySem.W.Frag} {mg : Str → Option Value} {A : Ad} (T : Tx K mg A) {base : Heap} : FnOk PG A.w K mg base (L2.CX PG A.w) 6 A._law_row A._law_row_d ["_law_row_here"] (spS K A.G 1 f__law_row) :=
  okPur <|
  fnSD (N := ["_law_row_here"]) (k := 5) T._law_row.F sc__law_row rfl fun cdv AA outer s H E hr =>
    have tk := takes_of (X := cxOf (L2.CX PG A.w) PG A.w K mg base ["_law_row_here"] "_law_row" (defScope s__law_row) A._law_row cdv AA outer s H E) rfl rfl rfl rfl
    have hx := passes_call tk (fun _ _ _ _ h => h)
    (pSs_cons (pS_if (pS_cmpT (op_eqS hr.units) ad_eq (pS_ix ix_S ad_ix (pS_var 0 (pv 0)) pS_int (fun _ _ => rfl)) pS_str (nomark _)) (pSs_one (pS_ret (pS_makeF (c := 1) T.C_Begin.m (ok_Begin_init T) (hr.mono (by decide)) rfl T.C_Begin.g T.Begin_init.b .nil (fun _ => rfl) hx (pSA_cons (pS_ix ix_S ad_ix (pS_var 0 (pv 0)) pS_int (fun _ _ => rfl)) (pSA_cons (pS_ix ix_S ad_ix (pS_var 0 (pv 0)) pS_int (fun _ _ => rfl)) (pSA_cons (pS_ix ix_S ad_ix (pS_var 0 (pv 0)) pS_int (fun _ _ => rfl)) pSA_nil)))))) pSs_nil) (pSs_cons (pS_if (pS_cmpT (op_eqS hr.units) ad_eq (pS_ix ix_S ad_ix (pS_var 0 (pv 0)) pS_int (fun _ _ => rfl)) pS_str (nomark _)) (pSs_one (pS_ret (pS_makeF (c := 2) T.C_Send.m (ok_Send_init T) (hr.mono (by decide)) rfl T.C_Send.g T.Send_init.b .nil (fun _ => rfl) hx (pSA_cons (pS_ix ix_S ad_ix (pS_var 0 (pv 0)) pS_int (fun _ _ => rfl)) (pSA_cons (pS_ix ix_S ad_ix (pS_var 0 (pv 0)) pS_int (fun _ _ => rfl)) (pSA_cons (pS_ix ix_S ad_ix (pS_var 0 (pv 0)) pS_int (fun _ _ => rfl)) pSA_nil)))))) pSs_nil) (pSs_cons (pS_if (pS_cmpT (op_eqS hr.units) ad_eq (pS_ix ix_S ad_ix (pS_var 0 (pv 0)) pS_int (fun _ _ => rfl)) pS_str (nomark _)) (pSs_one (pS_ret (pS_makeF (c := 3) T.C_Back.m (ok_Back_init T) (hr.mono (by decide)) rfl T.C_Back.g T.Back_init.b .nil (fun _ => rfl) hx (pSA_cons (pS_ix ix_S ad_ix (pS_var 0 (pv 0)) pS_int (fun _ _ => rfl)) (pSA_cons (pS_ix ix_S ad_ix (pS_var 0 (pv 0)) pS_int (fun _ _ => rfl)) (pSA_cons (pS_ix ix_S ad_ix (pS_var 0 (pv 0)) pS_int (fun _ _ => rfl)) (pSA_cons (pS_ix ix_S ad_ix (pS_var 0 (pv 0)) pS_int (fun _ _ => rfl)) pSA_nil))))))) pSs_nil) (pSs_one (pS_ret (pS_makeF (c := 4) T.C_End.m (ok_End_init T) (hr.mono (by decide)) rfl T.C_End.g T.End_init.b .nil (fun _ => rfl) hx (pSA_cons (pS_ix ix_S ad_ix (pS_var 0 (pv 0)) pS_int (fun _ _ => rfl)) (pSA_cons (pS_ix ix_S ad_ix (pS_var 0 (pv 0)) pS_int (fun _ _ => rfl)) (pSA_cons (pS_ix ix_S ad_ix (pS_var 0 (pv 0)) pS_int (fun _ _ => rfl)) (pSA_cons (pS_ix ix_S ad_ix (pS_var 0 (pv 0)) pS_int (fun _ _ => rfl)) pSA_nil))))))))))
def m__law_words : MS := mSeq (mIfS (mTest (mBin dEq (mBin dIx (mVar 0) (mC (.int 0))) (mC (.str "begin")))) (mRet (mLst (mCons (mTup (mCons (mC (.str "mark")) (mCons (mLst (mCons (mC (.str "none")) (mCons (mC (.str "any")) (mNil)))) (mNil)))) (mCons (mTup (mCons (mC (.str "kind")) (mCons (mLst (mCons (mC (.str "any")) (mNil))) (mNil)))) (mCons (mTup (mCons (mC (.str "mood")) (mCons (mLst (mNil)) (mNil)))) (mNil)))))) (mNext)) (mSeq (mIfS (mTest (mBin dEq (mBin dIx (mVar 0) (mC (.int 0))) (mC (.str "send")))) (mRet (mLst (mCons (mTup (mCons (mC (.str "mood")) (mCons (mLst (mCons (mC (.str "any")) (mNil))) (mNil)))) (mCons (mTup (mCons (mC (.str "service")) (mCons (mLst (mCons (mC (.str "any")) (mNil))) (mNil)))) (mCons (mTup (mCons (mC (.str "mark")) (mCons (mLst (mCons (mC (.str "none")) (mCons (mC (.str "same")) (mNil)))) (mNil)))) (mNil)))))) (mNext)) (mSeq (mIfS (mTest (mBin dEq (mBin dIx (mVar 0) (mC (.int 0))) (mC (.str "back")))) (mRet (mLst (mCons (mTup (mCons (mC (.str "mood")) (mCons (mLst (mCons (mC (.str "any")) (mNil))) (mNil)))) (mCons (mTup (mCons (mC (.str "service")) (mCons (mLst (mCons (mC (.str "any")) (mNil))) (mNil)))) (mCons (mTup (mCons (mC (.str "sign")) (mCons (mLst (mCons (mC (.str "none")) (mCons (mC (.str "any")) (mNil)))) (mNil)))) (mCons (mTup (mCons (mC (.str "then")) (mCons (mLst (mCons (mC (.str "same")) (mNil))) (mNil)))) (mNil))))))) (mNext)) (mRet (mLst (mCons (mTup (mCons (mC (.str "mood")) (mCons (mLst (mCons (mC (.str "any")) (mNil))) (mNil)))) (mCons (mTup (mCons (mC (.str "outcome")) (mCons (mLst (mCons (mC (.str "good")) (mCons (mC (.str "bad")) (mCons (mC (.str "any")) (mNil))))) (mNil)))) (mCons (mTup (mCons (mC (.str "sign")) (mCons (mLst (mCons (mC (.str "none")) (mNil))) (mNil)))) (mCons (mTup (mCons (mC (.str "part")) (mCons (mLst (mCons (mC (.str "keep")) (mCons (mC (.str "drop")) (mNil)))) (mNil)))) (mNil)))))))))
def f__law_words : List D → Sto → R D := pur (mFun true 1 m__law_words)
theorem ok__law_words {K : PySem.W.Frag} {mg : Str → Option Value} {A : Ad} (T : Tx K mg A) {base : Heap} : FnOk PG A.w K mg base (L2.CX PG A.w) 1 A._law_words A._law_words_d ["_law_row_here"] (spS K A.G 1 f__law_words) :=
  okPur <|
  fnSD (N := ["_law_row_here"]) (k := 0) T._law_words.F sc__law_words rfl fun cdv AA outer s H E hr =>
    have tk := takes_of (X := cxOf (L2.CX PG A.w) PG A.w K mg base ["_law_row_here"] "_law_words" (defScope s__law_words) A._law_words cdv AA outer s H E) rfl rfl rfl rfl
    have hx := passes_call tk (fun _ _ _ _ h => h)
    (pSs_cons (pS_if (pS_cmpT (op_eqS hr.units) ad_eq (pS_ix ix_S ad_ix (pS_var 0 (pv 0)) pS_int (fun _ _ => rfl)) pS_str (nomark _)) (pSs_one (pS_ret (pS_lst (pSA_cons (pS_tup (pSA_cons pS_str (pSA_cons (pS_lst (pSA_cons pS_str (pSA_cons pS_str pSA_nil))) pSA_nil))) (pSA_cons (pS_tup (pSA_cons pS_str (pSA_cons (pS_lst (pSA_cons pS_str pSA_nil)) pSA_nil))) (pSA_cons (pS_tup (pSA_cons pS_str (pSA_cons (pS_lst pSA_nil) pSA_nil))) pSA_nil)))))) pSs_nil) (pSs_cons (pS_if (pS_cmpT (op_eqS hr.units) ad_eq (pS_ix ix_S ad_ix (pS_var 0 (pv 0)) pS_int (fun _ _ => rfl)) pS_str (nomark _)) (pSs_one (pS_ret (pS_lst (pSA_cons (pS_tup (pSA_cons pS_str (pSA_cons (pS_lst (pSA_cons pS_str pSA_nil)) pSA_nil))) (pSA_cons (pS_tup (pSA_cons pS_str (pSA_cons (pS_lst (pSA_cons pS_str pSA_nil)) pSA_nil))) (pSA_cons (pS_tup (pSA_cons pS_str (pSA_cons (pS_lst (pSA_cons pS_str (pSA_cons pS_str pSA_nil))) pSA_nil))) pSA_nil)))))) pSs_nil) (pSs_cons (pS_if (pS_cmpT (op_eqS hr.units) ad_eq (pS_ix ix_S ad_ix (pS_var 0 (pv 0)) pS_int (fun _ _ => rfl)) pS_str (nomark _)) (pSs_one (pS_ret (pS_lst (pSA_cons (pS_tup (pSA_cons pS_str (pSA_cons (pS_lst (pSA_cons pS_str pSA_nil)) pSA_nil))) (pSA_cons (pS_tup (pSA_cons pS_str (pSA_cons (pS_lst (pSA_cons pS_str pSA_nil)) pSA_nil))) (pSA_cons (pS_tup (pSA_cons pS_str (pSA_cons (pS_lst (pSA_cons pS_str (pSA_cons pS_str pSA_nil))) pSA_nil))) (pSA_cons (pS_tup (pSA_cons pS_str (pSA_cons (pS_lst (pSA_cons pS_str pSA_nil)) pSA_nil))) pSA_nil))))))) pSs_nil) (pSs_one (pS_ret (pS_lst (pSA_cons (pS_tup (pSA_cons pS_str (pSA_cons (pS_lst (pSA_cons pS_str pSA_nil)) pSA_nil))) (pSA_cons (pS_tup (pSA_cons pS_str (pSA_cons (pS_lst (pSA_cons pS_str (pSA_cons pS_str (pSA_cons pS_str pSA_nil)))) pSA_nil))) (pSA_cons (pS_tup (pSA_cons pS_str (pSA_cons (pS_lst (pSA_cons pS_str pSA_nil)) pSA_nil))) (pSA_cons (pS_tup (pSA_cons pS_str (pSA_cons (pS_lst (pSA_cons pS_str (pSA_cons pS_str pSA_nil))) pSA_nil))) pSA_nil))))))))))
def p__law_drawn_row_1 : MS := mSeq (mSet 6 (mIf (mTest (mBin dNotIn (mVar 4) (mTup (mCons (mC (.str "outcome")) (mCons (mC (.str "part")) (mNil)))))) (mBin dGetK (mVar 2) (mIf (mTest (mBin dEq (mVar 4) (mC (.str "then")))) (mC (.str "mood")) (mVar 4))) (mLst (mNil)))) (mSeq (mSet 7 (mIf (mOrB (mTest (mBin dEqL (mVar 6) (mLst (mNil)))) (mAndB (mTest (mBin dNeL (mVar 5) (mLst (mNil)))) (mTest (mBin dEq (mCall 2 f__law_take [] (mCons (mVar 0) (mCons (mC (.int 3)) (mNil)))) (mC (.int 0)))))) (mVar 5) (mVar 6))) (mDo (mLm dAppend (mVar 3) (mCons (mCall 2 f__law_pick [] (mCons (mVar 0) (mCons (mVar 7) (mNil)))) (mNil)))))
def m__law_drawn_row : MS := mSeq (mSet 3 (mLstC (mCons (mVar 1) (mNil)))) (mSeq (mFor (.tp [.nm 4, .nm 5]) (mItAny (mCall 1 f__law_words [] (mCons (mTup (mCons (mVar 1) (mNil))) (mNil)))) (p__law_drawn_row_1)) (mRet (mApp dTuple (mCons (mVar 3) (mNil)))))
def f__law_drawn_row : List D → Sto → R D := pur (mFun true 8 m__law_drawn_row)
theorem ok__law_drawn_row {K : PySem.W.Frag} {mg : Str → Option Value} {A : Ad} (T : Tx K mg A) {base : Heap} : FnOk PG A.w K mg base (L2.CX PG A.w) 3 A._law_drawn_row A._law_drawn_row_d ["_law_box_here", "_law_sort", "_law_pools"] (spS K A.G 3 f__law_drawn_row) :=
  okPur <|
  fnSD (N := ["_law_box_here", "_law_sort", "_law_pools", "_law_found", "_law_word", "_law_others", "_law_names_here", "_law_near"]) (k := 2) T._law_drawn_row.F sc__law_drawn_row rfl fun cdv AA outer s H E hr =>
    have tk := takes_of (X := cxOf (L2.CX PG A.w) PG A.w K mg base ["_law_box_here", "_law_sort", "_law_pools", "_law_found", "_law_word", "_law_others", "_law_names_here", "_law_near"] "_law_drawn_row" (defScope s__law_drawn_row) A._law_drawn_row cdv AA outer s H E) rfl rfl rfl rfl
    have hx := passes_call tk (fun _ _ _ _ h => h)
    (pSs_cons (pS_set (i := 3) sc__law_drawn_row.nd rfl (Or.inl rfl) (pS_lstC (pSA_cons (pS_var 1 (pv 1)) pSA_nil))) (pSs_cons (pS_for (passes_of rfl) rfl (pI_any (pS_call (ok__law_words T) (hr.mono (by decide)) rfl T._law_words.g T._law_words.F.kp (T._law_words.F.bindsN fun _ _ _ _ _ _ us hl => match us, hl with | [_], _ => rfl) .nil (fun _ => rfl) tk (pSA_cons (pS_tup (pSA_cons (pS_var 1 (pv 1)) pSA_nil)) pSA_nil))) (pG_tp rfl (pGs_cons (pG_nm (i := 4) sc__law_drawn_row.nd rfl (Or.inl rfl)) (pGs_cons (pG_nm (i := 5) sc__law_drawn_row.nd rfl (Or.inl rfl)) pGs_nil))) (pSs_cons (pS_set (i := 6) sc__law_drawn_row.nd rfl (Or.inl rfl) (pS_ifE (pS_cmpT op_notInS ad_notIn (pS_var 4 (pv 4)) (pS_tup (pSA_cons pS_str (pSA_cons pS_str pSA_nil))) (by rfl)) (pS_getK (units1 hr) (pS_var 2 (pv 2)) (pS_ifE (pS_cmpT (op_eqS hr.units) ad_eq (pS_var 4 (pv 4)) pS_str (nomark _)) pS_str (pS_var 4 (pv 4)))) (pS_lst pSA_nil))) (pSs_cons (pS_set (i := 7) sc__law_drawn_row.nd rfl (Or.inl rfl) (pS_ifE (PW.pt (pS_or (pS_cmpT (op_eqSL hr.units) ad_eqL (pS_var 6 (pv 6)) (pS_lst pSA_nil) (nomark _)) (pS_or1 (PW.pt (pS_and (pS_cmpT (op_neSL hr.units) ad_neL (pS_var 5 (pv 5)) (pS_lst pSA_nil) (nomark _)) (pS_and1 (pS_cmpT (op_eqS hr.units) ad_eq (pS_call (ok__law_take T) (hr.mono (by decide)) rfl T._law_take.g T._law_take.F.kp (T._law_take.F.bindsN fun _ _ _ _ _ _ us hl => match us, hl with | [_, _], _ => rfl) .nil (fun _ => rfl) tk (pSA_cons (pS_var 0 (pv 0)) (pSA_cons pS_int pSA_nil))) pS_int (nomark _)))))))) (pS_var 5 (pv 5)) (pS_var 6 (pv 6)))) (pSs_one (pS_do (pS_lm (t := fun _ _ _ => False) ad_append (pe_bm PySem.F.plainAttrs_list PySem.F.slot_list_append PySem.F.type_list_append mt_append (pS_var 3 (pv 3)) (pSA_cons (pS_call (ok__law_pick T) (hr.mono (by decide)) rfl T._law_pick.g T._law_pick.F.kp (T._law_pick.F.bindsN fun _ _ _ _ _ _ us hl => match us, hl with | [_, _], _ => rfl) .nil (fun _ => rfl) tk (pSA_cons (pS_var 0 (pv 0)) (pSA_cons (pS_var 7 (pv 7)) pSA_nil))) pSA_nil)))))))) (pSs_one (pS_ret (pS_callTy call_tuple_of ad_tuple (by rfl) T.b_tuple (by decide +kernel) (pSA_cons (pS_var 3 (pv 3)) pSA_nil))))))
end K
namespace K
open PySem L2 S
theorem kb__law_service_of_Service_init_0 {K : PySem.W.Frag} {mg : Str → Option Value} {A : Ad} (T : Tx K mg A) : KBa K A.Service_init_d ["self", "name", "kinds", "waits", "leaves", "rows"] 6 [] [0, 1, 2, 3, 4, 5] [.ref A.e_Service_init_0, .ref A.e_Service_init_1, .ref A.e_Service_init_2] := kba_of T.Service_init.F (by simp) fun _ _ _ _ _ _ _ us ws its h1 h2 h3 => match us, ws, its, h1, h2, h3 with | [_, _, _, _, _, _], [], [_, _, _], _, _, _ => ⟨_, rfl, rfl⟩
def m__law_service_of : MS := mSeq (mSet 1 (mLc (.nm 2) [2] (mItAny (mBin dGetK (mVar 0) (mC (.str "rows")))) (mYes) (mCall 1 f__law_row [] (mCons (mVar 2) (mNil))))) (mRet (mMakeA 5 6 f_Service_init [0, 1, 2, 3, 4, 5] (mArgs 5 0 (mCons (mBin dGetK (mVar 0) (mC (.str "name"))) (mCons (mBin dGetK (mVar 0) (mC (.str "kinds"))) (mCons (mBin dGetK (mVar 0) (mC (.str "waits"))) (mCons (mApp dTuple (mCons (mBin dGetK (mVar 0) (mC (.str "leaves"))) (mNil))) (mCons (mVar 1) (mNil)))))) (mNil) [.tup [], .tup [], .tup []])))
def f__law_service_of : List D → Sto → R D := pur (mFun true 3 m__law_service_of)
theorem ok__law_service_of {K : PySem.W.Frag} {mg : Str → Option Value} {A : Ad} (T : Tx K mg A) {base : Heap} : FnOk PG A.w K mg base (L2.CX PG A.w) 7 A._law_service_of A._law_service_of_d ["_law_one"] (spS K A.G 1 f__law_service_of) :=
  okPur <|
  fnSD (N := ["_law_one", "_law_rows", "_law_row_here"]) (k := 6) T._law_service_of.F sc__law_service_of rfl fun cdv AA outer s H E hr =>
    have tk := takes_of (X := cxOf (L2.CX PG A.w) PG A.w K mg base ["_law_one", "_law_rows", "_law_row_here"] "_law_service_of" (defScope s__law_service_of) A._law_service_of cdv AA outer s H E) rfl rfl rfl rfl
    have hx := passes_call tk (fun _ _ _ _ h => h)
    (pSs_cons (pS_setLc (i := 1) rfl sc__law_service_of.nd rfl rfl (sw_true rfl rfl rfl (by decide +kernel)) (pI_any (pS_getK (units1 hr) (pS_var 0 (pv 0)) pS_str)) (blkOk_by (own := [("_law_row_here", 2)]) (N := ["_law_one", "_law_rows", "_law_row_here"]) (sc := defScope s__law_service_of) (by decide +kernel)) (fun _ _ _ _ _ => (pG_nm (i := 2) sc__law_service_of.nd rfl (Or.inl rfl))) (fun _ _ _ _ _ => pTs_nil) (fun _ _ _ _ _ => (pS_call (ok__law_row T) (hr.mono (by decide)) rfl T._law_row.g T._law_row.F.kp (T._law_row.F.bindsN fun _ _ _ _ _ _ us hl => match us, hl with | [_], _ => rfl) .nil (fun _ => rfl) takes0 (pSA_cons (pS_var 2 (pv 2)) pSA_nil)))) (pSs_one (pS_ret (pS_makeA (c := 5) T.C_Service.m (ok_Service_init T) (hr.mono (by decide)) rfl T.C_Service.g (kb__law_service_of_Service_init_0 T) (fun Z => ⟨_, _, rfl, ⟨_, _, rfl, T.e_Service_init_0 _, rfl⟩, ⟨_, _, rfl, ⟨_, _, rfl, T.e_Service_init_1 _, rfl⟩, ⟨_, _, rfl, ⟨_, _, rfl, T.e_Service_init_2 _, rfl⟩, rfl⟩⟩⟩) hx (pSA_cons (pS_getK (units1 hr) (pS_var 0 (pv 0)) pS_str) (pSA_cons (pS_getK (units1 hr) (pS_var 0 (pv 0)) pS_str) (pSA_cons (pS_getK (units1 hr) (pS_var 0 (pv 0)) pS_str) (pSA_cons (pS_callTy call_tuple_of ad_tuple (by rfl) T.b_tuple (by decide +kernel) (pSA_cons (pS_getK (units1 hr) (pS_var 0 (pv 0)) pS_str) pSA_nil)) (pSA_cons (pS_var 1 (pv 1)) pSA_nil))))) pSK_nil))))
def p__law_lines_of_1 : MS := mIfS (mTest (mBin dGt (mApp dLen (mCons (mBin dGetK (mVar 0) (mVar 2)) (mNil))) (mC (.int 0)))) (mDo (mLm dAppend (mVar 1) (mCons (mTxt dJoin (mC (.str " ")) (mBin dAdd (mLst (mCons (mVar 2) (mNil))) (mApp dList (mCons (mBin dGetK (mVar 0) (mVar 2)) (mNil))))) (mNil)))) (mNext)
def m__law_lines_of : MS := mSeq (mSet 1 (mLstC (mCons (mTxt dJoin (mC (.str " ")) (mBin dAdd (mLst (mCons (mC (.str "service")) (mCons (mBin dGetK (mVar 0) (mC (.str "name"))) (mNil)))) (mApp dList (mCons (mBin dGetK (mVar 0) (mC (.str "kinds"))) (mNil))))) (mNil)))) (mSeq (mFor (.nm 2) (mItAny (mTup (mCons (mC (.str "waits")) (mCons (mC (.str "leaves")) (mNil))))) (p__law_lines_of_1)) (mRet (mBin dAdd (mVar 1) (mLc (.nm 3) [3] (mItAny (mBin dGetK (mVar 0) (mC (.str "rows")))) (mYes) (mCall 1 f__law_row_text [] (mCons (mVar 3) (mNil)))))))
def f__law_lines_of : List D → Sto → R D := pur (mFun true 4 m__law_lines_of)
theorem ok__law_lines_of {K : PySem.W.Frag} {mg : Str → Option Value} {A : Ad} (T : Tx K mg A) {base : Heap} : FnOk PG A.w K mg base (L2.CX PG A.w) 2 A._law_lines_of A._law_lines_of_d ["_law_one"] (spS K A.G 1 f__law_lines_of) :=
  okPur <|
  fnSD (N := ["_law_one", "_law_found", "_law_word", "_law_row_here"]) (k := 1) T._law_lines_of.F sc__law_lines_of rfl fun cdv AA outer s H E hr =>
    have tk := takes_of (X := cxOf (L2.CX PG A.w) PG A.w K mg base ["_law_one", "_law_found", "_law_word", "_law_row_here"] "_law_lines_of" (defScope s__law_lines_of) A._law_lines_of cdv AA outer s H E) rfl rfl rfl rfl
    have hx := passes_call tk (fun _ _ _ _ h => h)
    (pSs_cons (pS_set (i := 1) sc__law_lines_of.nd rfl (Or.inl rfl) (pS_lstC (pSA_cons (pS_join pS_str (pS_op op_addS ad_add (pS_lst (pSA_cons pS_str (pSA_cons (pS_getK (units1 hr) (pS_var 0 (pv 0)) pS_str) pSA_nil))) (pS_callTy call_list_of ad_list (by rfl) T.b_list (by decide +kernel) (pSA_cons (pS_getK (units1 hr) (pS_var 0 (pv 0)) pS_str) pSA_nil)))) pSA_nil))) (pSs_cons (pS_for (passes_of rfl) rfl (pI_any (pS_tup (pSA_cons pS_str (pSA_cons pS_str pSA_nil)))) (pG_nm (i := 2) sc__law_lines_of.nd rfl (Or.inl rfl)) (pSs_one (pS_if (pS_cmpT op_gt ad_gt (pS_callB cr_lenS ad_len (by rfl) T.b_len (by decide +kernel) (pSA_cons (pS_getK (units1 hr) (pS_var 0 (pv 0)) (pS_var 2 (pv 2))) pSA_nil)) pS_int (nomark _)) (pSs_one (pS_do (pS_lm (t := fun _ _ _ => False) ad_append (pe_bm PySem.F.plainAttrs_list PySem.F.slot_list_append PySem.F.type_list_append mt_append (pS_var 1 (pv 1)) (pSA_cons (pS_join pS_str (pS_op op_addS ad_add (pS_lst (pSA_cons (pS_var 2 (pv 2)) pSA_nil)) (pS_callTy call_list_of ad_list (by rfl) T.b_list (by decide +kernel) (pSA_cons (pS_getK (units1 hr) (pS_var 0 (pv 0)) (pS_var 2 (pv 2))) pSA_nil)))) pSA_nil))))) pSs_nil))) (pSs_one (pS_ret (pS_op op_addS ad_add (pS_var 1 (pv 1)) (pS_lc rfl sc__law_lines_of.nd (pI_any (pS_getK (units1 hr) (pS_var 0 (pv 0)) pS_str)) (blkOk_by (own := [("_law_row_here", 3)]) (N := ["_law_one", "_law_found", "_law_word", "_law_row_here"]) (sc := defScope s__law_lines_of) (by decide +kernel)) (fun _ _ _ _ _ => (pG_nm (i := 3) sc__law_lines_of.nd rfl (Or.inl rfl))) (fun _ _ _ _ _ => pTs_nil) (fun _ _ _ _ _ => (pS_call (ok__law_row_text T) (hr.mono (by decide)) rfl T._law_row_text.g T._law_row_text.F.kp (T._law_row_text.F.bindsN fun _ _ _ _ _ _ us hl => match us, hl with | [_], _ => rfl) .nil (fun _ => rfl) takes0 (pSA_cons (pS_var 3 (pv 3)) pSA_nil)))))))))
def m__law_some : MS := mRet (mSl (mCall 2 f__law_mixed [] (mCons (mVar 0) (mCons (mVar 1) (mNil)))) (mNoPart) (mPart (mBin dAdd (mVar 2) (mCall 2 f__law_take [] (mCons (mVar 0) (mCons (mBin dSub (mBin dAdd (mApp dLen (mCons (mVar 1) (mNil))) (mC (.int 1))) (mVar 2)) (mNil)))))))
def f__law_some : List D → Sto → R D := pur (mFun true 3 m__law_some)
theorem ok__law_some {K : PySem.W.Frag} {mg : Str → Option Value} {A : Ad} (T : Tx K mg A) {base : Heap} : FnOk PG A.w K mg base (L2.CX PG A.w) 3 A._law_some A._law_some_d ["_law_box_here", "_law_names_here", "_law_fewest"] (spS K A.G 3 f__law_some) :=
  okPur <|
  fnSD (N := ["_law_box_here", "_law_names_here", "_law_fewest"]) (k := 2) T._law_some.F sc__law_some rfl fun cdv AA outer s H E hr =>
    have tk := takes_of (X := cxOf (L2.CX PG A.w) PG A.w K mg base ["_law_box_here", "_law_names_here", "_law_fewest"] "_law_some" (defScope s__law_some) A._law_some cdv AA outer s H E) rfl rfl rfl rfl
    have hx := passes_call tk (fun _ _ _ _ h => h)
    (pSs_one (pS_ret (pS_sl (pS_call (ok__law_mixed T) (hr.mono (by decide)) rfl T._law_mixed.g T._law_mixed.F.kp (T._law_mixed.F.bindsN fun _ _ _ _ _ _ us hl => match us, hl with | [_, _], _ => rfl) .nil (fun _ => rfl) tk (pSA_cons (pS_var 0 (pv 0)) (pSA_cons (pS_var 1 (pv 1)) pSA_nil))) pSO_none (pSO_some (pS_op op_addS ad_add (pS_var 2 (pv 2)) (pS_call (ok__law_take T) (hr.mono (by decide)) rfl T._law_take.g T._law_take.F.kp (T._law_take.F.bindsN fun _ _ _ _ _ _ us hl => match us, hl with | [_, _], _ => rfl) .nil (fun _ => rfl) tk (pSA_cons (pS_var 0 (pv 0)) (pSA_cons (pS_op op_sub ad_sub (pS_op op_addS ad_add (pS_callB cr_lenS ad_len (by rfl) T.b_len (by decide +kernel) (pSA_cons (pS_var 1 (pv 1)) pSA_nil)) pS_int) (pS_var 2 (pv 2))) pSA_nil))))))))
def p__law_any_service_1 : MS := mSeq (mDo (mDm dUpd (mVar 9) (mCons (mDisp [(mC (.str "waits"), mCall 3 f__law_some [] (mCons (mVar 0) (mCons (mVar 2) (mCons (mC (.int 0)) (mNil))))), (mC (.str "leaves"), mCall 3 f__law_some [] (mCons (mVar 0) (mCons (mVar 2) (mCons (mC (.int 0)) (mNil)))))]) (mNil)))) (mRet (mVar 9))
def p__law_any_service_2 : MS := mSeq (mSet 9 (mDispC [(mC (.str "name"), mVar 1), (mC (.str "kinds"), mVar 4), (mC (.str "rows"), mVar 8)])) (p__law_any_service_1)
def p__law_any_service_3 : MS := mSeq (mSet 8 (mLc (.nm 11) [11] (mItAny (mVar 7)) (mYes) (mCall 3 f__law_drawn_row [] (mCons (mVar 0) (mCons (mVar 11) (mCons (mVar 6) (mNil))))))) (p__law_any_service_2)
def p__law_any_service_4 : MS := mSeq (mSet 7 (mLc (.nm 10) [10] (mItRange (mCons (mCall 2 f__law_take [] (mCons (mVar 0) (mCons (mC (.int 6)) (mNil)))) (mNil))) (mYes) (mCall 2 f__law_pick [] (mCons (mVar 0) (mCons (mLst (mCons (mC (.str "begin")) (mCons (mC (.str "send")) (mCons (mC (.str "back")) (mCons (mC (.str "end")) (mNil)))))) (mNil)))))) (p__law_any_service_3)
def p__law_any_service_5 : MS := mSeq (mSet 6 (mDisp [(mC (.str "mark"), mSl (mVar 3) (mPart (mC (.int 4))) (mPart (mC (.int 6)))), (mC (.str "kind"), mVar 4), (mC (.str "mood"), mVar 5), (mC (.str "service"), mApp dList (mCons (mVar 2) (mNil))), (mC (.str "sign"), mSl (mVar 3) (mPart (mC (.int 5))) (mPart (mC (.int 7))))])) (p__law_any_service_4)
def m__law_any_service : MS := mSeq (mPar [4, 5] (mCons (mCall 3 f__law_some [] (mCons (mVar 0) (mCons (mSl (mVar 3) (mNoPart) (mPart (mC (.int 2)))) (mCons (mC (.int 1)) (mNil))))) (mCons (mBin dAdd (mLst (mCons (mC (.str "calm")) (mNil))) (mSl (mVar 3) (mPart (mC (.int 2))) (mPart (mC (.int 4))))) (mNil)))) (p__law_any_service_5)
def f__law_any_service : List D → Sto → R D := pur (mFun true 12 m__law_any_service)
theorem ok__law_any_service {K : PySem.W.Frag} {mg : Str → Option Value} {A : Ad} (T : Tx K mg A) {base : Heap} : FnOk PG A.w K mg base (L2.CX PG A.w) 4 A._law_any_service A._law_any_service_d ["_law_box_here", "_law_name", "_law_names_here", "_law_words_here"] (spS K A.G 4 f__law_any_service) :=
  okPur <|
  fnSD (N := ["_law_box_here", "_law_name", "_law_names_here", "_law_words_here", "_law_kinds", "_law_moods_here", "_law_pools", "_law_some_here", "_law_rows", "_law_found", "_law_turn", "_law_sort"]) (k := 3) T._law_any_service.F sc__law_any_service rfl fun cdv AA outer s H E hr =>
    have tk := takes_of (X := cxOf (L2.CX PG A.w) PG A.w K mg base ["_law_box_here", "_law_name", "_law_names_here", "_law_words_here", "_law_kinds", "_law_moods_here", "_law_pools", "_law_some_here", "_law_rows", "_law_found", "_law_turn", "_law_sort"] "_law_any_service" (defScope s__law_any_service) A._law_any_service cdv AA outer s H E) rfl rfl rfl rfl
    have hx := passes_call tk (fun _ _ _ _ h => h)
    (pSs_cons (pS_par rfl sc__law_any_service.nd (i := 4) (j := 5) rfl rfl (by decide) rfl rfl (pSA_cons (pS_call (ok__law_some T) (hr.mono (by decide)) rfl T._law_some.g T._law_some.F.kp (T._law_some.F.bindsN fun _ _ _ _ _ _ us hl => match us, hl with | [_, _, _], _ => rfl) .nil (fun _ => rfl) tk (pSA_cons (pS_var 0 (pv 0)) (pSA_cons (pS_sl (pS_var 3 (pv 3)) pSO_none (pSO_some pS_int)) (pSA_cons pS_int pSA_nil)))) (pSA_cons (pS_op op_addS ad_add (pS_lst (pSA_cons pS_str pSA_nil)) (pS_sl (pS_var 3 (pv 3)) (pSO_some pS_int) (pSO_some pS_int))) pSA_nil)) (by rfl)) (pSs_cons (pS_set (i := 6) sc__law_any_service.nd rfl (Or.inr rfl) (pS_disp (pps_cons pS_str (pS_sl (pS_var 3 (pv 3)) (pSO_some pS_int) (pSO_some pS_int)) (pps_cons pS_str (pS_var 4 (pv 4)) (pps_cons pS_str (pS_var 5 (pv 5)) (pps_cons pS_str (pS_callTy call_list_of ad_list (by rfl) T.b_list (by decide +kernel) (pSA_cons (pS_var 2 (pv 2)) pSA_nil)) (pps_cons pS_str (pS_sl (pS_var 3 (pv 3)) (pSO_some pS_int) (pSO_some pS_int)) pps_nil))))))) (pSs_cons (pS_setLc (i := 7) rfl sc__law_any_service.nd rfl rfl (sw_true rfl rfl rfl (by decide +kernel)) (pI_range1 rfl T.b_range (pSA_cons (pS_call (ok__law_take T) (hr.mono (by decide)) rfl T._law_take.g T._law_take.F.kp (T._law_take.F.bindsN fun _ _ _ _ _ _ us hl => match us, hl with | [_, _], _ => rfl) .nil (fun _ => rfl) tk (pSA_cons (pS_var 0 (pv 0)) (pSA_cons pS_int pSA_nil))) pSA_nil)) (blkOk_by (own := [("_law_turn", 10)]) (N := ["_law_box_here", "_law_name", "_law_names_here", "_law_words_here", "_law_kinds", "_law_moods_here", "_law_pools", "_law_some_here", "_law_rows", "_law_found", "_law_turn", "_law_sort"]) (sc := defScope s__law_any_service) (by decide +kernel)) (fun _ _ _ _ _ => (pG_nm (i := 10) sc__law_any_service.nd rfl (Or.inl rfl))) (fun _ _ _ _ _ => pTs_nil) (fun _ _ _ _ _ => (pS_call (ok__law_pick T) (hr.mono (by decide)) rfl T._law_pick.g T._law_pick.F.kp (T._law_pick.F.bindsN fun _ _ _ _ _ _ us hl => match us, hl with | [_, _], _ => rfl) .nil (fun _ => rfl) takes0 (pSA_cons (pS_var 0 (pv 0)) (pSA_cons (pS_lst (pSA_cons pS_str (pSA_cons pS_str (pSA_cons pS_str (pSA_cons pS_str pSA_nil))))) pSA_nil))))) (pSs_cons (pS_setLc (i := 8) rfl sc__law_any_service.nd rfl rfl (sw_true rfl rfl rfl (by decide +kernel)) (pI_any (pS_var 7 (pv 7))) (blkOk_by (own := [("_law_sort", 11)]) (N := ["_law_box_here", "_law_name", "_law_names_here", "_law_words_here", "_law_kinds", "_law_moods_here", "_law_pools", "_law_some_here", "_law_rows", "_law_found", "_law_turn", "_law_sort"]) (sc := defScope s__law_any_service) (by decide +kernel)) (fun _ _ _ _ _ => (pG_nm (i := 11) sc__law_any_service.nd rfl (Or.inl rfl))) (fun _ _ _ _ _ => pTs_nil) (fun _ _ _ _ _ => (pS_call (ok__law_drawn_row T) (hr.mono (by decide)) rfl T._law_drawn_row.g T._law_drawn_row.F.kp (T._law_drawn_row.F.bindsN fun _ _ _ _ _ _ us hl => match us, hl with | [_, _, _], _ => rfl) .nil (fun _ => rfl) takes0 (pSA_cons (pS_var 0 (pv 0)) (pSA_cons (pS_var 11 (pv 11)) (pSA_cons (pS_var 6 (pv 6)) pSA_nil)))))) (pSs_cons (pS_set (i := 9) sc__law_any_service.nd rfl (Or.inl rfl) (pS_dispC (pps_cons pS_str (pS_var 1 (pv 1)) (pps_cons pS_str (pS_var 4 (pv 4)) (pps_cons pS_str (pS_var 8 (pv 8)) pps_nil))))) (pSs_cons (pS_do (pS_dm ad_upd (pe_bm PySem.F.plainAttrs_dict PySem.F.slot_dict_update PySem.F.type_dict_update mt_upd (pS_var 9 (pv 9)) (pSA_cons (pS_disp (pps_cons pS_str (pS_call (ok__law_some T) (hr.mono (by decide)) rfl T._law_some.g T._law_some.F.kp (T._law_some.F.bindsN fun _ _ _ _ _ _ us hl => match us, hl with | [_, _, _], _ => rfl) .nil (fun _ => rfl) tk (pSA_cons (pS_var 0 (pv 0)) (pSA_cons (pS_var 2 (pv 2)) (pSA_cons pS_int pSA_nil)))) (pps_cons pS_str (pS_call (ok__law_some T) (hr.mono (by decide)) rfl T._law_some.g T._law_some.F.kp (T._law_some.F.bindsN fun _ _ _ _ _ _ us hl => match us, hl with | [_, _, _], _ => rfl) .nil (fun _ => rfl) tk (pSA_cons (pS_var 0 (pv 0)) (pSA_cons (pS_var 2 (pv 2)) (pSA_cons pS_int pSA_nil)))) pps_nil))) pSA_nil)))) (pSs_one (pS_ret (pS_var 9 (pv 9))))))))))
def p__law_moods_1 : MS := mSeq (mDo (mLm dExtend (mVar 1) (mCons (mIf (mTest (mBin dEq (mBin dIx (mVar 2) (mC (.int 0))) (mC (.str "begin")))) (mLst (mCons (mBin dIx (mVar 2) (mC (.int 3))) (mNil))) (mLst (mCons (mBin dIx (mVar 2) (mC (.int 1))) (mNil)))) (mNil)))) (mDo (mLm dExtend (mVar 1) (mCons (mIf (mTest (mBin dEq (mBin dIx (mVar 2) (mC (.int 0))) (mC (.str "back")))) (mLst (mCons (mBin dIx (mVar 2) (mC (.int 4))) (mNil))) (mLst (mNil))) (mNil))))
def m__law_moods : MS := mSeq (mSet 1 (mLstC (mCons (mC (.str "calm")) (mNil)))) (mSeq (mFor (.nm 2) (mItAny (mVar 0)) (p__law_moods_1)) (mFzV 1 (mRet (mApp dTuple (mCons (mSortedSet (mLc (.nm 3) [3] (mItAny (mVar 1)) (mTest (mBin dNotIn (mVar 3) (mTup (mCons (mC (.str "any")) (mCons (mC (.str "same")) (mNil)))))) (mApp (dStrX stc_1 f_Service_str (dStrX stc_0 f_Row_str dStr)) (mCons (mVar 3) (mNil))))) (mNil))))))
def f__law_moods : List D → Sto → R D := pur (mFun true 4 m__law_moods)
theorem ok__law_moods {K : PySem.W.Frag} {mg : Str → Option Value} {A : Ad} (T : Tx K mg A) {base : Heap} : FnOk PG A.w K mg base (L2.CX PG A.w) 4 A._law_moods A._law_moods_d ["_law_rows"] (spS K A.G 1 f__law_moods) :=
  okPur <|
  fnSD (N := ["_law_rows", "_law_found", "_law_row_here", "_law_mood"]) (k := 3) T._law_moods.F sc__law_moods rfl fun cdv AA outer s H E hr =>
    have tk := takes_of (X := cxOf (L2.CX PG A.w) PG A.w K mg base ["_law_rows", "_law_found", "_law_row_here", "_law_mood"] "_law_moods" (defScope s__law_moods) A._law_moods cdv AA outer s H E) rfl rfl rfl rfl
    have hx := passes_call tk (fun _ _ _ _ h => h)
    (pSs_cons (pS_set (i := 1) sc__law_moods.nd rfl (Or.inl rfl) (pS_lstC (pSA_cons pS_str pSA_nil))) (pSs_cons (pS_for (passes_of rfl) rfl (pI_any (pS_var 0 (pv 0))) (pG_nm (i := 2) sc__law_moods.nd rfl (Or.inl rfl)) (pSs_cons (pS_do (pS_lm (t := fun _ _ _ => False) ad_extend (pe_bm PySem.F.plainAttrs_list PySem.F.slot_list_extend PySem.F.type_list_extend mt_extend (pS_var 1 (pv 1)) (pSA_cons (pS_ifE (pS_cmpT (op_eqS hr.units) ad_eq (pS_ix ix_S ad_ix (pS_var 2 (pv 2)) pS_int (fun _ _ => rfl)) pS_str (nomark _)) (pS_lst (pSA_cons (pS_ix ix_S ad_ix (pS_var 2 (pv 2)) pS_int (fun _ _ => rfl)) pSA_nil)) (pS_lst (pSA_cons (pS_ix ix_S ad_ix (pS_var 2 (pv 2)) pS_int (fun _ _ => rfl)) pSA_nil))) pSA_nil)))) (pSs_one (pS_do (pS_lm (t := fun _ _ _ => False) ad_extend (pe_bm PySem.F.plainAttrs_list PySem.F.slot_list_extend PySem.F.type_list_extend mt_extend (pS_var 1 (pv 1)) (pSA_cons (pS_ifE (pS_cmpT (op_eqS hr.units) ad_eq (pS_ix ix_S ad_ix (pS_var 2 (pv 2)) pS_int (fun _ _ => rfl)) pS_str (nomark _)) (pS_lst (pSA_cons (pS_ix ix_S ad_ix (pS_var 2 (pv 2)) pS_int (fun _ _ => rfl)) pSA_nil)) (pS_lst pSA_nil)) pSA_nil))))))) (pSs_one (pS_fzv (i := 1) (pS_ret (pS_callTy call_tuple_of ad_tuple (by rfl) T.b_tuple (by decide +kernel) (pSA_cons (pS_sortedSet rfl (by rfl) T.b_sorted (by rfl) T.b_set (pS_lc rfl sc__law_moods.nd (pI_any (pS_var 1 (pv 1))) (blkOk_by (own := [("_law_mood", 3)]) (N := ["_law_rows", "_law_found", "_law_row_here", "_law_mood"]) (sc := defScope s__law_moods) (by decide +kernel)) (fun _ _ _ _ _ => (pG_nm (i := 3) sc__law_moods.nd rfl (Or.inl rfl))) (fun _ _ _ _ _ => (pTs_one (pS_cmpT op_notInS ad_notIn (pS_var 3 (pv 3)) (pS_tup (pSA_cons pS_str (pSA_cons pS_str pSA_nil))) (by rfl)))) (fun _ _ _ _ _ => (pS_callTyE (S.CallR.or (S.CallR.or cr_str (call_strOwn T.Row_str.fn (fR (ok_Row_str T) (T.Row_str.F.bindsN fun _ _ _ _ _ _ us hl => match us, hl with | [_], _ => rfl)) (hr.mono (by decide)) passL)) (call_strOwn T.Service_str.fn (fR (ok_Service_str T) (T.Service_str.F.bindsN fun _ _ _ _ _ _ us hl => match us, hl with | [_], _ => rfl)) (hr.mono (by decide)) passL)) (ad_strX (hstc_1 T) (ad_strX (hstc_0 T) ad_str.e)) (by rfl) T.b_str (by decide +kernel) (pSA_cons (pS_var 3 (pv 3)) pSA_nil))))) pSA_nil)))))))
end K
namespace K
open PySem L2 S
def m__law_right : MS := mSeq (mIfS (mTest (mBin dNe (mApp dRepr (mCons (mTup (mCons (mFld at_name "name" (mVar 0)) (mCons (mFld at_kinds "kinds" (mVar 0)) (mCons (mFld at_waits "waits" (mVar 0)) (mNil))))) (mNil))) (mApp dRepr (mCons (mTup (mCons (mBin dGetK (mVar 1) (mC (.str "name"))) (mCons (mApp dTuple (mCons (mBin dGetK (mVar 1) (mC (.str "kinds"))) (mNil))) (mCons (mApp dTuple (mCons (mBin dGetK (mVar 1) (mC (.str "waits"))) (mNil))) (mNil))))) (mNil))))) (mRet (mC (.bl false))) (mNext)) (mSeq (mIfS (mOrB (mTest (mBin dNe (mApp dRepr (mCons (mFld at_leaves "leaves" (mVar 0)) (mNil))) (mApp dRepr (mCons (mApp dTuple (mCons (mBin dGetK (mVar 1) (mC (.str "leaves"))) (mNil))) (mNil))))) (mNotB (mTru (mIsi ki_tuple (mFld at_rows "rows" (mVar 0)))))) (mRet (mC (.bl false))) (mNext)) (mSeq (mIfS (mTest (mBin dNe (mLc (.nm 2) [2] (mItAny (mFld at_rows "rows" (mVar 0))) (mYes) (mApp (dStrX stc_1 f_Service_str (dStrX stc_0 f_Row_str dStr)) (mCons (mVar 2) (mNil)))) (mLc (.nm 2) [2] (mItAny (mBin dGetK (mVar 1) (mC (.str "rows")))) (mYes) (mCall 1 f__law_row_text [] (mCons (mVar 2) (mNil)))))) (mRet (mC (.bl false))) (mNext)) (mRet (mAnd (mBin dEq (mFld at_moods "moods" (mVar 0)) (mCall 1 f__law_moods [] (mCons (mBin dGetK (mVar 1) (mC (.str "rows"))) (mNil)))) (mBin dEq (mApp (dStrX stc_1 f_Service_str (dStrX stc_0 f_Row_str dStr)) (mCons (mVar 0) (mNil))) (mTxt dJoin (mC (.str "\n")) (mCall 1 f__law_lines_of [] (mCons (mVar 1) (mNil)))))))))
def f__law_right : List D → Sto → R D := pur (mFun true 3 m__law_right)
theorem ok__law_right {K : PySem.W.Frag} {mg : Str → Option Value} {A : Ad} (T : Tx K mg A) {base : Heap} : FnG PG A.w K mg base (L2.CX PG A.w) 5 A._law_right A._law_right_d ["_law_made", "_law_one"] (spS K A.G 2 f__law_right) :=
  okPurG <|
  fnSDG (N := ["_law_made", "_law_one", "_law_row_here"]) (k := 4) T._law_right.F sc__law_right rfl fun cdv AA outer s H E hr hg =>
    have tk := takes_of (X := cxOf (L2.CX PG A.w) PG A.w K mg base ["_law_made", "_law_one", "_law_row_here"] "_law_right" (defScope s__law_right) A._law_right cdv AA outer s H E) rfl rfl rfl rfl
    have hx := passes_call tk (fun _ _ _ _ h => h)
    (pSs_cons (pS_if (pS_cmpT (op_neS hr.units) ad_ne (pS_callB (call_repr hg hr) ad_repr (by rfl) T.b_repr (by decide +kernel) (pSA_cons (pS_tup (pSA_cons (pS_fld (hat_name T) (pS_var 0 (pv 0))) (pSA_cons (pS_fld (hat_kinds T) (pS_var 0 (pv 0))) (pSA_cons (pS_fld (hat_waits T) (pS_var 0 (pv 0))) pSA_nil)))) pSA_nil)) (pS_callB (call_repr hg hr) ad_repr (by rfl) T.b_repr (by decide +kernel) (pSA_cons (pS_tup (pSA_cons (pS_getK (units1 hr) (pS_var 1 (pv 1)) pS_str) (pSA_cons (pS_callTy call_tuple_of ad_tuple (by rfl) T.b_tuple (by decide +kernel) (pSA_cons (pS_getK (units1 hr) (pS_var 1 (pv 1)) pS_str) pSA_nil)) (pSA_cons (pS_callTy call_tuple_of ad_tuple (by rfl) T.b_tuple (by decide +kernel) (pSA_cons (pS_getK (units1 hr) (pS_var 1 (pv 1)) pS_str) pSA_nil)) pSA_nil)))) pSA_nil)) (nomark _)) (pSs_one (pS_ret pS_bl)) pSs_nil) (pSs_cons (pS_if (PW.pt (pS_or (pS_cmpT (op_neS hr.units) ad_ne (pS_callB (call_repr hg hr) ad_repr (by rfl) T.b_repr (by decide +kernel) (pSA_cons (pS_fld (hat_leaves T) (pS_var 0 (pv 0))) pSA_nil)) (pS_callB (call_repr hg hr) ad_repr (by rfl) T.b_repr (by decide +kernel) (pSA_cons (pS_callTy call_tuple_of ad_tuple (by rfl) T.b_tuple (by decide +kernel) (pSA_cons (pS_getK (units1 hr) (pS_var 1 (pv 1)) pS_str) pSA_nil)) pSA_nil)) (nomark _)) (pS_or1 (pS_not (pS_tru (pS_isi (pe_bltn (v := .ty "tuple") (u := .type "tuple") (by rfl) T.b_tuple (by decide +kernel) rfl) (.ty _) (hki_tuple T) (by rfl) T.b_isinstance (pS_fld (hat_rows T) (pS_var 0 (pv 0))))))))) (pSs_one (pS_ret pS_bl)) pSs_nil) (pSs_cons (pS_if (pS_cmpT (op_neS hr.units) ad_ne (pS_lc rfl sc__law_right.nd (pI_any (pS_fld (hat_rows T) (pS_var 0 (pv 0)))) (blkOk_by (own := [("_law_row_here", 2)]) (N := ["_law_made", "_law_one", "_law_row_here"]) (sc := defScope s__law_right) (by decide +kernel)) (fun _ _ _ _ _ => (pG_nm (i := 2) sc__law_right.nd rfl (Or.inl rfl))) (fun _ _ _ _ _ => pTs_nil) (fun _ _ _ _ _ => (pS_callTyE (S.CallR.or (S.CallR.or cr_str (call_strOwn T.Row_str.fn (fR (ok_Row_str T) (T.Row_str.F.bindsN fun _ _ _ _ _ _ us hl => match us, hl with | [_], _ => rfl)) (hr.mono (by decide)) passL)) (call_strOwn T.Service_str.fn (fR (ok_Service_str T) (T.Service_str.F.bindsN fun _ _ _ _ _ _ us hl => match us, hl with | [_], _ => rfl)) (hr.mono (by decide)) passL)) (ad_strX (hstc_1 T) (ad_strX (hstc_0 T) ad_str.e)) (by rfl) T.b_str (by decide +kernel) (pSA_cons (pS_var 2 (pv 2)) pSA_nil)))) (pS_lc rfl sc__law_right.nd (pI_any (pS_getK (units1 hr) (pS_var 1 (pv 1)) pS_str)) (blkOk_by (own := [("_law_row_here", 2)]) (N := ["_law_made", "_law_one", "_law_row_here"]) (sc := defScope s__law_right) (by decide +kernel)) (fun _ _ _ _ _ => (pG_nm (i := 2) sc__law_right.nd rfl (Or.inl rfl))) (fun _ _ _ _ _ => pTs_nil) (fun _ _ _ _ _ => (pS_call (ok__law_row_text T) (hr.mono (by decide)) rfl T._law_row_text.g T._law_row_text.F.kp (T._law_row_text.F.bindsN fun _ _ _ _ _ _ us hl => match us, hl with | [_], _ => rfl) .nil (fun _ => rfl) takes0 (pSA_cons (pS_var 2 (pv 2)) pSA_nil)))) (nomark _)) (pSs_one (pS_ret pS_bl)) pSs_nil) (pSs_one (pS_ret (pS_andV (pS_cmp (op_eqS hr.units) ad_eq (pS_fld (hat_moods T) (pS_var 0 (pv 0))) (pS_call (ok__law_moods T) (hr.mono (by decide)) rfl T._law_moods.g T._law_moods.F.kp (T._law_moods.F.bindsN fun _ _ _ _ _ _ us hl => match us, hl with | [_], _ => rfl) .nil (fun _ => rfl) tk (pSA_cons (pS_getK (units1 hr) (pS_var 1 (pv 1)) pS_str) pSA_nil)) (nomark _)) (pe_one (pS_cmp (op_eqS hr.units) ad_eq (pS_callTyE (S.CallR.or (S.CallR.or cr_str (call_strOwn T.Row_str.fn (fR (ok_Row_str T) (T.Row_str.F.bindsN fun _ _ _ _ _ _ us hl => match us, hl with | [_], _ => rfl)) (hr.mono (by decide)) hx)) (call_strOwn T.Service_str.fn (fR (ok_Service_str T) (T.Service_str.F.bindsN fun _ _ _ _ _ _ us hl => match us, hl with | [_], _ => rfl)) (hr.mono (by decide)) hx)) (ad_strX (hstc_1 T) (ad_strX (hstc_0 T) ad_str.e)) (by rfl) T.b_str (by decide +kernel) (pSA_cons (pS_var 0 (pv 0)) pSA_nil)) (pS_join pS_str (pS_call (ok__law_lines_of T) (hr.mono (by decide)) rfl T._law_lines_of.g T._law_lines_of.F.kp (T._law_lines_of.F.bindsN fun _ _ _ _ _ _ us hl => match us, hl with | [_], _ => rfl) .nil (fun _ => rfl) tk (pSA_cons (pS_var 1 (pv 1)) pSA_nil))) (nomark _)))))))))
def p_law_1 : MS := mRet (mC (.bl true))
def p_law_2 : MS := mIfS (mOrB (mTest (mBin (dOwnNe eqc_0 nfT f_Service_eq dNe) (mVar 9) (mCall 1 f__law_service_of [] (mCons (mVar 6) (mNil))))) (mOrB (mTest (mBin (dOwnEq eqc_0 nfT f_Service_eq dEq) (mVar 9) (mApp (dStrX stc_1 f_Service_str (dStrX stc_0 f_Row_str dStr)) (mCons (mVar 9) (mNil))))) (mTest (mBin (dOwnEq eqc_0 nfT f_Service_eq dEq) (mVar 9) (mBin dGetK (mVar 6) (mC (.str "name"))))))) (mRet (mC (.bl false))) (mNext)
def p_law_3 : MS := mSeq (mIfS (mOrB (mTest (mBin dNe (mBin (dOwnEq eqc_0 nfT f_Service_eq dEq) (mVar 9) (mCall 1 f__law_service_of [] (mCons (mVar 7) (mNil)))) (mVar 11))) (mTest (mBin dEq (mBin (dOwnNe eqc_0 nfT f_Service_eq dNe) (mVar 9) (mCall 1 f__law_service_of [] (mCons (mVar 7) (mNil)))) (mVar 11)))) (mRet (mC (.bl false))) (mNext)) (p_law_2)
def p_law_4 : MS := mSeq (mSet 11 (mBin dEq (mCall 1 f__law_lines_of [] (mCons (mVar 6) (mNil))) (mCall 1 f__law_lines_of [] (mCons (mVar 7) (mNil))))) (p_law_3)
def p_law_5 : MS := mSeq (mIfS (mOrB (mNotB (mTru (mCall 2 f__law_right [] (mCons (mVar 9) (mCons (mVar 6) (mNil)))))) (mNotB (mTru (mCall 2 f__law_right [] (mCons (mCall 1 f__law_service_of [] (mCons (mVar 6) (mNil))) (mCons (mVar 6) (mNil))))))) (mRet (mC (.bl false))) (mNext)) (p_law_4)
def p_law_6 : MS := mDo (mLm dAppend (mVar 10) (mCons (mC (.str "more")) (mNil)))
def p_law_7 : MS := mSeq (mFor (.nm 10) (mItAny (mVar 8)) (p_law_6)) (p_law_5)
theorem kb_law_Service_init_0 {K : PySem.W.Frag} {mg : Str → Option Value} {A : Ad} (T : Tx K mg A) : KBa K A.Service_init_d ["self", "name", "kinds", "waits", "leaves", "rows"] 6 [] [0, 1, 2, 3, 4, 5] [.ref A.e_Service_init_0, .ref A.e_Service_init_1, .ref A.e_Service_init_2] := kba_of T.Service_init.F (by simp) fun _ _ _ _ _ _ _ us ws its h1 h2 h3 => match us, ws, its, h1, h2, h3 with | [_, _, _, _, _, _], [], [_, _, _], _, _, _ => ⟨_, rfl, rfl⟩
def p_law_8 : MS := mSeq (mSet 9 (mTmpR 8 0 (mTmpR 8 1 (mTmpR 8 2 (mTmpR 8 3 (mMakeA 5 6 f_Service_init [0, 1, 2, 3, 4, 5] (mArgs 5 0 (mCons (mBin dGetK (mVar 6) (mC (.str "name"))) (mCons (mBin dIx (mVar 8) (mC (.int 0))) (mCons (mBin dIx (mVar 8) (mC (.int 1))) (mCons (mBin dIx (mVar 8) (mC (.int 2))) (mCons (mBin dIx (mVar 8) (mC (.int 3))) (mNil)))))) (mNil) [.tup [], .tup [], .tup []]))))))) (p_law_7)
def p_law_9 : MS := mSeq (mSet 8 (mLst (mCons (mApp dListC (mCons (mBin dGetK (mVar 6) (mC (.str "kinds"))) (mNil))) (mCons (mApp dListC (mCons (mBin dGetK (mVar 6) (mC (.str "waits"))) (mNil))) (mCons (mApp dListC (mCons (mBin dGetK (mVar 6) (mC (.str "leaves"))) (mNil))) (mCons (mLcC (.nm 13) [13] (mItAny (mBin dGetK (mVar 6) (mC (.str "rows")))) (mYes) (mCall 1 f__law_row [] (mCons (mVar 13) (mNil)))) (mNil))))))) (p_law_8)
def p_law_10 : MS := mSeq (mAsg (.tp [.nm 6, .nm 7]) (mLc (.nm 12) [12] (mItRange (mCons (mC (.int 2)) (mNil))) (mYes) (mCall 4 f__law_any_service [] (mCons (mVar 2) (mCons (mBin dIx (mVar 4) (mC (.int 0))) (mCons (mVar 4) (mCons (mVar 5) (mNil)))))))) (p_law_9)
def p_law_11 : MS := mSeq (mAsg (.tp [.nm 4, .nm 5]) (mTup (mCons (mCall 2 f__law_names [] (mCons (mVar 2) (mCons (mBin dAdd (mC (.int 1)) (mCall 2 f__law_take [] (mCons (mVar 2) (mCons (mC (.int 4)) (mNil))))) (mNil)))) (mCons (mCall 2 f__law_names [] (mCons (mVar 2) (mCons (mC (.int 7)) (mNil)))) (mNil))))) (p_law_10)
def p_law_12 : MS := p_law_11
def p_law_13 : MS := mSeq (mSet 2 (mCall 2 f__law_box [] (mCons (mVar 0) (mCons (mVar 1) (mNil))))) (mFor (.nm 3) (mItRange (mCons (mC (.int 3)) (mNil))) (p_law_12))
def m_law : MS := mSeq (mFor (.nm 1) (mItRange (mCons (mApp dMax (mCons (mC (.int 1)) (mCons (mApp dMin (mCons (mC (.int 4)) (mCons (mApp dLen (mCons (mVar 0) (mNil))) (mNil)))) (mNil)))) (mNil))) (p_law_13)) (p_law_1)
def f_law : List D → Sto → R D := pur (mFun true 14 m_law)
theorem ok_law {K : PySem.W.Frag} {mg : Str → Option Value} {A : Ad} (T : Tx K mg A) {base : Heap} : FnG PG A.w K mg base (L2.CX PG A.w) 8 A.law A.law_d ["_law_script"] (spS K A.G 1 f_law) :=
  okPurG <|
  fnSDG (N := ["_law_script", "_law_k", "_law_box_here", "_law_turn", "_law_names_here", "_law_words_here", "_law_one", "_law_other", "_law_lots", "_law_made", "_law_some_here", "_law_due", "_law_more", "_law_row_here"]) (k := 7) T.law.F sc_law rfl fun cdv AA outer s H E hr hg =>
    have tk := takes_of (X := cxOf (L2.CX PG A.w) PG A.w K mg base ["_law_script", "_law_k", "_law_box_here", "_law_turn", "_law_names_here", "_law_words_here", "_law_one", "_law_other", "_law_lots", "_law_made", "_law_some_here", "_law_due", "_law_more", "_law_row_here"] "law" (defScope s_law) A.law cdv AA outer s H E) rfl rfl rfl rfl
    have hx := passes_call tk (fun _ _ _ _ h => h)
    (pSs_cons (pS_for (passes_of rfl) rfl (pI_range1 rfl T.b_range (pSA_cons (pS_callB (call_max2 rfl) ad_max (by rfl) T.b_max (by decide +kernel) (pSA_cons pS_int (pSA_cons (pS_callB (call_min2 rfl) ad_min (by rfl) T.b_min (by decide +kernel) (pSA_cons pS_int (pSA_cons (pS_callB cr_lenS ad_len (by rfl) T.b_len (by decide +kernel) (pSA_cons (pS_var 0 (pv 0)) pSA_nil)) pSA_nil))) pSA_nil))) pSA_nil)) (pG_nm (i := 1) sc_law.nd rfl (Or.inl rfl)) (pSs_cons (pS_set (i := 2) sc_law.nd rfl (Or.inr rfl) (pS_call (ok__law_box T) (hr.mono (by decide)) rfl T._law_box.g T._law_box.F.kp (T._law_box.F.bindsN fun _ _ _ _ _ _ us hl => match us, hl with | [_, _], _ => rfl) .nil (fun _ => rfl) tk (pSA_cons (pS_var 0 (pv 0)) (pSA_cons (pS_var 1 (pv 1)) pSA_nil)))) (pSs_one (pS_for (passes_of rfl) rfl (pI_range1 rfl T.b_range (pSA_cons pS_int pSA_nil)) (pG_nm (i := 3) sc_law.nd rfl (Or.inl rfl)) (pSs_cons (pS_asg (pS_tup (pSA_cons (pS_call (ok__law_names T) (hr.mono (by decide)) rfl T._law_names.g T._law_names.F.kp (T._law_names.F.bindsN fun _ _ _ _ _ _ us hl => match us, hl with | [_, _], _ => rfl) .nil (fun _ => rfl) tk (pSA_cons (pS_var 2 (pv 2)) (pSA_cons (pS_op op_addS ad_add pS_int (pS_call (ok__law_take T) (hr.mono (by decide)) rfl T._law_take.g T._law_take.F.kp (T._law_take.F.bindsN fun _ _ _ _ _ _ us hl => match us, hl with | [_, _], _ => rfl) .nil (fun _ => rfl) tk (pSA_cons (pS_var 2 (pv 2)) (pSA_cons pS_int pSA_nil)))) pSA_nil))) (pSA_cons (pS_call (ok__law_names T) (hr.mono (by decide)) rfl T._law_names.g T._law_names.F.kp (T._law_names.F.bindsN fun _ _ _ _ _ _ us hl => match us, hl with | [_, _], _ => rfl) .nil (fun _ => rfl) tk (pSA_cons (pS_var 2 (pv 2)) (pSA_cons pS_int pSA_nil))) pSA_nil))) (pG_tp rfl (pGs_cons (pG_nm (i := 4) sc_law.nd rfl (Or.inr rfl)) (pGs_cons (pG_nm (i := 5) sc_law.nd rfl (Or.inr rfl)) pGs_nil)))) (pSs_cons (pS_asg (pS_lc rfl sc_law.nd (pI_range1 rfl T.b_range (pSA_cons pS_int pSA_nil)) (blkOk_by (own := [("_law_more", 12)]) (N := ["_law_script", "_law_k", "_law_box_here", "_law_turn", "_law_names_here", "_law_words_here", "_law_one", "_law_other", "_law_lots", "_law_made", "_law_some_here", "_law_due", "_law_more", "_law_row_here"]) (sc := defScope s_law) (by decide +kernel)) (fun _ _ _ _ _ => (pG_nm (i := 12) sc_law.nd rfl (Or.inl rfl))) (fun _ _ _ _ _ => pTs_nil) (fun _ _ _ _ _ => (pS_call (ok__law_any_service T) (hr.mono (by decide)) rfl T._law_any_service.g T._law_any_service.F.kp (T._law_any_service.F.bindsN fun _ _ _ _ _ _ us hl => match us, hl with | [_, _, _, _], _ => rfl) .nil (fun _ => rfl) takes0 (pSA_cons (pS_var 2 (pv 2)) (pSA_cons (pS_ix ix_S ad_ix (pS_var 4 (pv 4)) pS_int (fun _ _ => rfl)) (pSA_cons (pS_var 4 (pv 4)) (pSA_cons (pS_var 5 (pv 5)) pSA_nil))))))) (pG_tp rfl (pGs_cons (pG_nm (i := 6) sc_law.nd rfl (Or.inl rfl)) (pGs_cons (pG_nm (i := 7) sc_law.nd rfl (Or.inl rfl)) pGs_nil)))) (pSs_cons (pS_set (i := 8) sc_law.nd rfl (Or.inl rfl) (pS_lst (pSA_cons (pS_callTy call_list_of ad_listC (by rfl) T.b_list (by decide +kernel) (pSA_cons (pS_getK (units1 hr) (pS_var 6 (pv 6)) pS_str) pSA_nil)) (pSA_cons (pS_callTy call_list_of ad_listC (by rfl) T.b_list (by decide +kernel) (pSA_cons (pS_getK (units1 hr) (pS_var 6 (pv 6)) pS_str) pSA_nil)) (pSA_cons (pS_callTy call_list_of ad_listC (by rfl) T.b_list (by decide +kernel) (pSA_cons (pS_getK (units1 hr) (pS_var 6 (pv 6)) pS_str) pSA_nil)) (pSA_cons (pS_lcC rfl sc_law.nd (pI_any (pS_getK (units1 hr) (pS_var 6 (pv 6)) pS_str)) (blkOk_by (own := [("_law_row_here", 13)]) (N := ["_law_script", "_law_k", "_law_box_here", "_law_turn", "_law_names_here", "_law_words_here", "_law_one", "_law_other", "_law_lots", "_law_made", "_law_some_here", "_law_due", "_law_more", "_law_row_here"]) (sc := defScope s_law) (by decide +kernel)) (fun _ _ _ _ _ => (pG_nm (i := 13) sc_law.nd rfl (Or.inl rfl))) (fun _ _ _ _ _ => pTs_nil) (fun _ _ _ _ _ => (pS_call (ok__law_row T) (hr.mono (by decide)) rfl T._law_row.g T._law_row.F.kp (T._law_row.F.bindsN fun _ _ _ _ _ _ us hl => match us, hl with | [_], _ => rfl) .nil (fun _ => rfl) takes0 (pSA_cons (pS_var 13 (pv 13)) pSA_nil)))) pSA_nil)))))) (pSs_cons (pS_set (i := 9) sc_law.nd rfl (Or.inl rfl) (pS_tmpR (i := 8) (j := 0) (pS_tmpR (i := 8) (j := 1) (pS_tmpR (i := 8) (j := 2) (pS_tmpR (i := 8) (j := 3) (pS_makeA (c := 5) T.C_Service.m (ok_Service_init T) (hr.mono (by decide)) rfl T.C_Service.g (kb_law_Service_init_0 T) (fun Z => ⟨_, _, rfl, ⟨_, _, rfl, T.e_Service_init_0 _, rfl⟩, ⟨_, _, rfl, ⟨_, _, rfl, T.e_Service_init_1 _, rfl⟩, ⟨_, _, rfl, ⟨_, _, rfl, T.e_Service_init_2 _, rfl⟩, rfl⟩⟩⟩) hx (pSA_cons (pS_getK (units1 hr) (pS_var 6 (pv 6)) pS_str) (pSA_cons (pS_ix ix_S ad_ix (pS_var 8 (pv 8)) pS_int (fun _ _ => rfl)) (pSA_cons (pS_ix ix_S ad_ix (pS_var 8 (pv 8)) pS_int (fun _ _ => rfl)) (pSA_cons (pS_ix ix_S ad_ix (pS_var 8 (pv 8)) pS_int (fun _ _ => rfl)) (pSA_cons (pS_ix ix_S ad_ix (pS_var 8 (pv 8)) pS_int (fun _ _ => rfl)) pSA_nil))))) pSK_nil)))))) (pSs_cons (pS_for (passes_of rfl) rfl (pI_any (pS_var 8 (pv 8))) (pG_nm (i := 10) sc_law.nd rfl (Or.inl rfl)) (pSs_one (pS_do (pS_lm (t := fun _ _ _ => False) ad_append (pe_bm PySem.F.plainAttrs_list PySem.F.slot_list_append PySem.F.type_list_append mt_append (pS_var 10 (pv 10)) (pSA_cons pS_str pSA_nil)))))) (pSs_cons (pS_if (PW.pt (pS_or (pS_not (pS_tru (pS_callG (ok__law_right T) hg (hr.mono (by decide)) rfl T._law_right.g T._law_right.F.kp (T._law_right.F.bindsN fun _ _ _ _ _ _ us hl => match us, hl with | [_, _], _ => rfl) tk (pSA_cons (pS_var 9 (pv 9)) (pSA_cons (pS_var 6 (pv 6)) pSA_nil))))) (pS_or1 (pS_not (pS_tru (pS_callG (ok__law_right T) hg (hr.mono (by decide)) rfl T._law_right.g T._law_right.F.kp (T._law_right.F.bindsN fun _ _ _ _ _ _ us hl => match us, hl with | [_, _], _ => rfl) tk (pSA_cons (pS_call (ok__law_service_of T) (hr.mono (by decide)) rfl T._law_service_of.g T._law_service_of.F.kp (T._law_service_of.F.bindsN fun _ _ _ _ _ _ us hl => match us, hl with | [_], _ => rfl) .nil (fun _ => rfl) tk (pSA_cons (pS_var 6 (pv 6)) pSA_nil)) (pSA_cons (pS_var 6 (pv 6)) pSA_nil)))))))) (pSs_one (pS_ret pS_bl)) pSs_nil) (pSs_cons (pS_set (i := 11) sc_law.nd rfl (Or.inl rfl) (pS_cmp (op_eqS hr.units) ad_eq (pS_call (ok__law_lines_of T) (hr.mono (by decide)) rfl T._law_lines_of.g T._law_lines_of.F.kp (T._law_lines_of.F.bindsN fun _ _ _ _ _ _ us hl => match us, hl with | [_], _ => rfl) .nil (fun _ => rfl) tk (pSA_cons (pS_var 6 (pv 6)) pSA_nil)) (pS_call (ok__law_lines_of T) (hr.mono (by decide)) rfl T._law_lines_of.g T._law_lines_of.F.kp (T._law_lines_of.F.bindsN fun _ _ _ _ _ _ us hl => match us, hl with | [_], _ => rfl) .nil (fun _ => rfl) tk (pSA_cons (pS_var 7 (pv 7)) pSA_nil)) (nomark _))) (pSs_cons (pS_if (PW.pt (pS_or (pS_cmpT (op_neS hr.units) ad_ne (pS_cmpE (S.OpR.or (op_eqS hr.units) (op_ownEq (fR (ok_Service_eq T) (T.Service_eq.F.bindsN fun _ _ _ _ _ _ us hl => match us, hl with | [_, _], _ => rfl)) (hr.mono (by decide)) hx)) (ad_ownEq (heqc_0 T) (hnf T) ad_eq.e) (pS_var 9 (pv 9)) (pS_call (ok__law_service_of T) (hr.mono (by decide)) rfl T._law_service_of.g T._law_service_of.F.kp (T._law_service_of.F.bindsN fun _ _ _ _ _ _ us hl => match us, hl with | [_], _ => rfl) .nil (fun _ => rfl) tk (pSA_cons (pS_var 7 (pv 7)) pSA_nil)) (nomark _)) (pS_var 11 (pv 11)) (nomark _)) (pS_or1 (pS_cmpT (op_eqS hr.units) ad_eq (pS_cmpE (S.OpR.or (op_neS hr.units) (op_ownNe (fR (ok_Service_eq T) (T.Service_eq.F.bindsN fun _ _ _ _ _ _ us hl => match us, hl with | [_, _], _ => rfl)) (hr.mono (by decide)) hx)) (ad_ownNe (heqc_0 T) (hnf T) ad_ne.e) (pS_var 9 (pv 9)) (pS_call (ok__law_service_of T) (hr.mono (by decide)) rfl T._law_service_of.g T._law_service_of.F.kp (T._law_service_of.F.bindsN fun _ _ _ _ _ _ us hl => match us, hl with | [_], _ => rfl) .nil (fun _ => rfl) tk (pSA_cons (pS_var 7 (pv 7)) pSA_nil)) (nomark _)) (pS_var 11 (pv 11)) (nomark _))))) (pSs_one (pS_ret pS_bl)) pSs_nil) (pSs_one (pS_if (PW.pt (pS_or (pS_cmpTE (S.OpR.or (op_neS hr.units) (op_ownNe (fR (ok_Service_eq T) (T.Service_eq.F.bindsN fun _ _ _ _ _ _ us hl => match us, hl with | [_, _], _ => rfl)) (hr.mono (by decide)) hx)) (ad_ownNe (heqc_0 T) (hnf T) ad_ne.e) (pS_var 9 (pv 9)) (pS_call (ok__law_service_of T) (hr.mono (by decide)) rfl T._law_service_of.g T._law_service_of.F.kp (T._law_service_of.F.bindsN fun _ _ _ _ _ _ us hl => match us, hl with | [_], _ => rfl) .nil (fun _ => rfl) tk (pSA_cons (pS_var 6 (pv 6)) pSA_nil)) (nomark _)) (pS_or (pS_cmpTE (S.OpR.or (op_eqS hr.units) (op_ownEq (fR (ok_Service_eq T) (T.Service_eq.F.bindsN fun _ _ _ _ _ _ us hl => match us, hl with | [_, _], _ => rfl)) (hr.mono (by decide)) hx)) (ad_ownEq (heqc_0 T) (hnf T) ad_eq.e) (pS_var 9 (pv 9)) (pS_callTyE (S.CallR.or (S.CallR.or cr_str (call_strOwn T.Row_str.fn (fR (ok_Row_str T) (T.Row_str.F.bindsN fun _ _ _ _ _ _ us hl => match us, hl with | [_], _ => rfl)) (hr.mono (by decide)) hx)) (call_strOwn T.Service_str.fn (fR (ok_Service_str T) (T.Service_str.F.bindsN fun _ _ _ _ _ _ us hl => match us, hl with | [_], _ => rfl)) (hr.mono (by decide)) hx)) (ad_strX (hstc_1 T) (ad_strX (hstc_0 T) ad_str.e)) (by rfl) T.b_str (by decide +kernel) (pSA_cons (pS_var 9 (pv 9)) pSA_nil)) (nomark _)) (pS_or1 (pS_cmpTE (S.OpR.or (op_eqS hr.units) (op_ownEq (fR (ok_Service_eq T) (T.Service_eq.F.bindsN fun _ _ _ _ _ _ us hl => match us, hl with | [_, _], _ => rfl)) (hr.mono (by decide)) hx)) (ad_ownEq (heqc_0 T) (hnf T) ad_eq.e) (pS_var 9 (pv 9)) (pS_getK (units1 hr) (pS_var 6 (pv 6)) pS_str) (nomark _)))))) (pSs_one (pS_ret pS_bl)) pSs_nil)))))))))))))) (pSs_one (pS_ret pS_bl)))
end K
namespace K
open PySem L2 S
/-! ### draws -/
theorem st_same {st : Sto} {i : Nat} {c c' : C} (h : st[i]? = some c) : (st.set i c')[i]? = some c' := by
  have := (List.getElem?_eq_some_iff.mp h).1
  rw [List.getElem?_set_self this]
theorem gc_same {st st' : Sto} {d : D} (h : st'.length = st.length) : gc st.length d st' = .ok d st' := by
  unfold gc
  rw [List.take_of_length_le (Nat.le_of_eq h)]
  split <;> rfl
theorem take_ok {st : Sto} {i : Nat} {w s c many : Int} (h : st[i]? = some (.lst [.int w, .int s, .int c])) (h0 : 0 < many) (h1 : many < 1073741824) :
    ∃ r w' s' c', f__law_take [.ptr i, .int many] st = .ok (.int r) (st.set i (.lst [.int w', .int s', .int c'])) ∧ 0 ≤ r ∧ r < many := by
  have hb : belowL 0 [D.ptr i, .int many] = false := rfl
  have hm : many ≠ 0 := by omega
  have hm2 : many.natAbs < 1073741824 := by omega
  have rr : ∀ x : Int, 0 ≤ x.fmod many ∧ x.fmod many < many := fun x => ⟨Int.fmod_nonneg_of_pos _ h0, Int.fmod_lt_of_pos _ h0⟩
  unfold f__law_take pur
  rw [hb, if_neg (by decide)]
  by_cases hw : 0 < w
  · refine ⟨w.fmod many, w.fdiv many, s, c, ?_, (rr w).1, (rr w).2⟩
    simp [mFun, m__law_take, mSeq, mIfS, mTest, mBin, mVar, mC, mSet, mRet, mSetIx, mDo, mApp, mCons, mNil, R.bind, dIx, rd, h, atI, ixN, dGt, dI, hw, dMod, dDiv, hm, hm2, dInt, dSetIx, dFrz]
    rw [gc_same (by simp)]
  · refine ⟨Int.fmod (Int.fdiv (((s + 104801 * (c + 1)) * 48271).fmod 2147483647 * 2147483647 + (((((s + 104801 * (c + 1)) * 48271).fmod 2147483647) * 69697 + 30161).fmod 2147483629 + 1)) 8191) many, w, ((((s + 104801 * (c + 1)) * 48271).fmod 2147483647) * 69697 + 30161).fmod 2147483629 + 1, c + 1, ?_, (rr _).1, (rr _).2⟩
    simp [mFun, m__law_take, mSeq, mIfS, mTest, mBin, mVar, mC, mSet, mRet, mSetIx, mDo, mApp, mCons, mNil, R.bind, dIx, rd, h, atI, ixN, dGt, dI, hw, dMod, dDiv, hm, hm2, dInt, dSetIx, dFrz, dAdd, dMul, dMulX, mNext, st_same h, List.set_set]
    rw [gc_same (by simp)]
theorem atI_of {α : Type} {ys : List α} {j : Nat} {i : Int} {y : α} (hi : i = j) (h : ys[j]? = some y) : atI ys i = some y := by
  subst hi
  have := (List.getElem?_eq_some_iff.mp h).1
  obtain ⟨_, rfl⟩ := List.getElem?_eq_some_iff.mp h
  simp [atI, ixN, this]
theorem box_fin {st : Sto} {sc : D} {k c : Int} : ∃ w s, mFun false 5 (fun _ st => p__law_box_1 [some sc, some (.int k), some (.int c), none, none] st) [sc, .int k] st = .ok (.ptr st.length) (st ++ [.lst [.int w, .int s, .int 0]]) := by
  have hp : dPow (.int 10) (.int 18) st = .ok (.int 1000000000000000000) st := by
    have : (0 : Int) ≤ 18 ∧ (18 : Int) ≤ 1000000 ∧ (10 : Int).natAbs < 2 ^ 64 := by decide
    simp [dPow, this]
  have h3 : 3 ≤ sizeLine := by unfold sizeLine; omega
  by_cases hc : (1000000000000000000 : Int) ≤ c
  · refine ⟨c, ((c.fmod 2147483629 * 69621 + 40591 * k + 3).fmod 2147483629 + 1), ?_⟩
    simp [mFun, p__law_box_1, mSeq, mSet, mBin, mVar, mC, mApp, mCons, mNil, R.bind, mRet, mLstC, mIf, mTest, dAdd, rd, dMul, dMulX, dMod, dInt, dGe, dI, hp, hc, h3, gc, below]
  · refine ⟨0, ((c.fmod 2147483629 * 69621 + 40591 * k + 3).fmod 2147483629 + 1), ?_⟩
    simp [mFun, p__law_box_1, mSeq, mSet, mBin, mVar, mC, mApp, mCons, mNil, R.bind, mRet, mLstC, mIf, mTest, dAdd, rd, dMul, dMulX, dMod, dInt, dGe, dI, hp, hc, h3, gc, below]
theorem box_at {st : Sto} {xs : List Int} {k c : Int} (hk : k < xs.length) (hx : atI (xs.map D.int) k = some (D.int c)) : ∃ w s, f__law_box [.rls (xs.map D.int), .int k] st = .ok (.ptr st.length) (st ++ [.lst [.int w, .int s, .int 0]]) := by
  obtain ⟨w, s, e⟩ := box_fin (st := st) (sc := .rls (xs.map D.int)) (k := k) (c := if c < 0 then -c else c)
  refine ⟨w, s, Eq.trans ?_ e⟩
  simp [f__law_box, mFun, m__law_box, mSeq, mSet, mBin, mVar, mC, mApp, mCons, mNil, R.bind, dAdd, dMul, dMulX, rd, mIfS, mTest, dLt, dLen, hk, dIx, hx, dInt, dAbs]
theorem box_past {st : Sto} {xs : List Int} {k c : Int} (hk : ¬ k < xs.length) (h0 : 0 < (xs.length : Int)) (hx : atI (xs.map D.int) (Int.fmod k (xs.length : Int)) = some (D.int c)) : ∃ w s, f__law_box [.rls (xs.map D.int), .int k] st = .ok (.ptr st.length) (st ++ [.lst [.int w, .int s, .int 0]]) := by
  obtain ⟨w, s, e⟩ := box_fin (st := st) (sc := .rls (xs.map D.int)) (k := k) (c := 6563 * k + 71 + (c.fmod 2147483629 * 50329))
  refine ⟨w, s, Eq.trans ?_ e⟩
  have hz : (xs.length : Int) ≠ 0 := by omega
  have hl : dLen [D.rls (xs.map D.int)] st = .ok (.int xs.length) st := by simp [dLen, rd]
  revert hk h0 hx hz hl
  generalize (xs.length : Int) = n
  intro hk h0 hx hz hl
  simp [f__law_box, mFun, m__law_box, mSeq, mSet, mBin, mVar, mC, mApp, mCons, mNil, R.bind, dAdd, dMul, dMulX, rd, mIfS, mTest, dLt, hl, hk, dIx, hx, dInt, dAbs, dGt, dI, h0, dMod, hz]
theorem box_none {st : Sto} {k : Int} (hk : 0 ≤ k) : ∃ w s, f__law_box [.rls [], .int k] st = .ok (.ptr st.length) (st ++ [.lst [.int w, .int s, .int 0]]) := by
  obtain ⟨w, s, e⟩ := box_fin (st := st) (sc := .rls []) (k := k) (c := 6563 * k + 71)
  refine ⟨w, s, Eq.trans ?_ e⟩
  have hk' : ¬ k < 0 := by omega
  simp [f__law_box, mFun, m__law_box, mSeq, mSet, mBin, mVar, mC, mApp, mCons, mNil, R.bind, dAdd, dMul, dMulX, rd, mIfS, mTest, dLt, dLen, hk', dGt, dI, mNext]
theorem box_ok {st : Sto} {xs : List Int} {k : Nat} : ∃ w s, f__law_box [.rls (xs.map D.int), .int k] st = .ok (.ptr st.length) (st ++ [.lst [.int w, .int s, .int 0]]) := by
  by_cases hk : k < xs.length
  · exact box_at (by omega) (atI_of rfl (List.getElem?_map.trans (by rw [List.getElem?_eq_getElem hk]; rfl)))
  · by_cases h0 : 0 < xs.length
    · have hm : k % xs.length < xs.length := Nat.mod_lt _ h0
      refine box_past (by omega) (by omega) (atI_of (j := k % xs.length) ?_ (List.getElem?_map.trans (by rw [List.getElem?_eq_getElem hm]; rfl)))
      rw [Int.fmod_eq_emod_of_nonneg _ (by omega)]; rfl
    · obtain rfl : xs = [] := List.length_eq_zero_iff.mp (by omega)
      exact box_none (by omega)
/-! ### what a draw leaves as it was -/
def Box (st : Sto) (i : Nat) : Prop := ∃ w s c : Int, st[i]? = some (.lst [.int w, .int s, .int c])
structure Drawn (i : Nat) (st st' : Sto) : Prop where
  box : Box st' i
  len : st.length ≤ st'.length
  off : ∀ k, k < st.length → k ≠ i → st'[k]? = st[k]?
theorem Box.lt {st : Sto} {i : Nat} (h : Box st i) : i < st.length := by
  obtain ⟨w, s, c, h⟩ := h
  exact (List.getElem?_eq_some_iff.mp h).1
theorem Drawn.refl {i : Nat} {st : Sto} (h : Box st i) : Drawn i st st := ⟨h, Nat.le_refl _, fun _ _ _ => rfl⟩
theorem Drawn.trans {i : Nat} {a b c : Sto} (h : Drawn i a b) (h' : Drawn i b c) : Drawn i a c :=
  ⟨h'.box, Nat.le_trans h.len h'.len, fun k hk hi => (h'.off k (Nat.lt_of_lt_of_le hk h.len) hi).trans (h.off k hk hi)⟩
/-- new cells, and a change of one of these -/
theorem Drawn.app {i : Nat} {st r : Sto} (h : Box st i) : Drawn i st (st ++ r) := by
  obtain ⟨w, s, c, h⟩ := h
  have lt := (List.getElem?_eq_some_iff.mp h).1
  exact ⟨⟨w, s, c, by rw [List.getElem?_append_left lt]; exact h⟩, by simp, fun k hk _ => List.getElem?_append_left hk⟩
theorem Drawn.put {i j : Nat} {a b : Sto} {c : C} (h : Drawn i a b) (hj : a.length ≤ j) (hi : i < a.length) : Drawn i a (b.set j c) := by
  obtain ⟨⟨w, s, c', hb⟩, hl, ho⟩ := h
  exact ⟨⟨w, s, c', by rw [List.getElem?_set_ne (by omega)]; exact hb⟩, by simpa using hl, fun k hk hi => by rw [List.getElem?_set_ne (by omega)]; exact ho k hk hi⟩
theorem Drawn.gc {i : Nat} {st st' : Sto} {d : D} (h : Drawn i st st') (hi : i < st.length) : ∃ st2, S.gc st.length d st' = .ok d st2 ∧ Drawn i st st2 := by
  unfold S.gc
  split
  · obtain ⟨⟨w, s, c, hb⟩, hl, ho⟩ := h
    exact ⟨_, rfl, ⟨w, s, c, by rw [List.getElem?_take_of_lt hi]; exact hb⟩, by simp; omega, fun k hk hk' => by rw [List.getElem?_take_of_lt hk]; exact ho k hk hk'⟩
  · exact ⟨_, rfl, h⟩
theorem take_d {st : Sto} {i : Nat} {many : Int} (h : Box st i) (h0 : 0 < many) (h1 : many < 1073741824) : ∃ (r : Nat) (st' : Sto), (r : Int) < many ∧ f__law_take [.ptr i, .int many] st = .ok (.int r) st' ∧ Drawn i st st' := by
  obtain ⟨w, s, c, h⟩ := h
  obtain ⟨r, w', s', c', e, r0, r1⟩ := take_ok h h0 h1
  obtain ⟨n, rfl⟩ : ∃ n : Nat, r = n := ⟨r.toNat, by omega⟩
  exact ⟨n, _, r1, e, ⟨w', s', c', st_same h⟩, by simp, fun k _ hk => List.getElem?_set_ne (Ne.symm hk)⟩
theorem box_d {st : Sto} {xs : List Int} {k : Nat} : ∃ st0, f__law_box [.rls (xs.map D.int), .int k] st = .ok (.ptr st.length) st0 ∧ Box st0 st.length ∧ ∃ c, st0 = st ++ [c] := by
  obtain ⟨w, s, h⟩ := box_ok (st := st) (xs := xs) (k := k)
  exact ⟨_, h, ⟨w, s, 0, by simp⟩, _, rfl⟩
def noPtr : D → Bool
  | .ptr _ => false
  | _ => true
theorem noPtr_of {ds : List D} (h : ds.all noPtr = true) : ∀ d ∈ ds, ∀ i, d ≠ .ptr i := fun d hd i e => by
  have := List.all_eq_true.mp h d hd
  rw [e] at this
  cases this
theorem noPtr_strs (ws : List Str) : (ws.map D.str).all noPtr = true := by
  simp [List.all_map, noPtr]
theorem pick_d {st : Sto} {i : Nat} {ds : List D} (h : Box st i) (h0 : ds ≠ []) (h1 : ds.length < 1000) (hp : ds.all noPtr = true) : ∃ d st', d ∈ ds ∧ f__law_pick [.ptr i, .lst ds] st = .ok d st' ∧ Drawn i st st' := by
  have hl := List.length_pos_iff.mpr h0
  obtain ⟨r, st1, r1, e, D1⟩ := take_d (many := ds.length) h (by omega) (by omega)
  have hk : r < ds.length := by omega
  have hx : atI ds (r : Int) = some ds[r] := atI_of rfl (List.getElem?_eq_getElem hk)
  obtain ⟨st2, e2, D2⟩ := D1.gc (d := ds[r]) h.lt
  refine ⟨ds[r], st2, List.getElem_mem hk, ?_, D2⟩
  rw [← e2]
  refine call_at rfl ?_ (noPtr_of hp _ (List.getElem_mem hk))
  show m__law_pick [some (.ptr i), some (.lst ds)] st = _
  simp [m__law_pick, mRet, mBin, mVar, mCall, mCons, mNil, mApp, R.bind, dLen, rd, e, dIx, hx]
theorem pick_s {st : Sto} {i : Nat} {ws : List Str} (h : Box st i) (h0 : ws ≠ []) (h1 : ws.length < 1000) : ∃ x st', x ∈ ws ∧ f__law_pick [.ptr i, .lst (ws.map D.str)] st = .ok (.str x) st' ∧ Drawn i st st' := by
  obtain ⟨d, st', m, e, D⟩ := pick_d (ds := ws.map D.str) h (by simpa using h0) (by simpa using h1) (noPtr_strs ws)
  obtain ⟨x, hx, rfl⟩ := List.mem_map.mp m
  exact ⟨x, st', hx, e, D⟩
end K
namespace K
open PySem L2 S
theorem ne_nilP {st : Sto} {i : Nat} {x : D} {xs : List D} (h : st[i]? = some (.lst (x :: xs))) : dNeL (.ptr i) (.lst []) st = .ok (.bl true) st := by
  simp [dNeL, rd, h]
theorem ne_nil0 {st : Sto} {i : Nat} (h : st[i]? = some (.lst [])) : dNeL (.ptr i) (.lst []) st = .ok (.bl false) st := by
  simp [dNeL, rd, h, dNe, eqD, isFl, toPy, toPyL, SeqAt.shaped]
  rfl
theorem erase_perm {α : Type} : ∀ (xs : List α) (r : Nat) (h : r < xs.length), (xs[r] :: xs.eraseIdx r).Perm xs
  | x :: xs, 0, _ => List.Perm.refl _
  | x :: xs, r + 1, h => (List.Perm.swap x _ _).trans (List.Perm.cons x (erase_perm xs r (by simpa using h)))
theorem mix_loop {i n : Nat} {sc : D} : ∀ (f : Nat) (left found : List D) (st0 st : Sto), left.length < f → found.length + left.length < 1000 → n = st0.length → i < n → Drawn i st0 st → st[n]? = some (.lst left) → st[n + 1]? = some (.lst found) →
    ∃ found' st', mWhileGo (mTest (mBin dNeL (mVar 2) (mLst (mNil)))) (p__law_mixed_1) f [some (.ptr i), some sc, some (.ptr n), some (.ptr (n + 1))] st = .nx [some (.ptr i), some sc, some (.ptr n), some (.ptr (n + 1))] st' ∧ st'[n + 1]? = some (.lst found') ∧ found'.Perm (found ++ left) ∧ Drawn i st0 st'
  | 0, _, _, _, _, h, _, _, _, _, _, _ => absurd h (Nat.not_lt_zero _)
  | f + 1, left, found, st0, st, hf, hz, hn, hi, hD, hl, hfo => by
    cases left with
    | nil => exact ⟨found, st, by simp [mWhileGo, mTest, mBin, mVar, mLst, mNil, R.bind, ne_nil0 hl], hfo, by simp, hD⟩
    | cons x xs =>
      obtain ⟨r, st1, r1, e1, D1⟩ := take_d (many := ((x :: xs).length : Int)) hD.box (by rw [List.length_cons]; omega) (by simp at hz ⊢; omega)
      have hr : r < (x :: xs).length := by omega
      have n0 : n < st.length := (List.getElem?_eq_some_iff.mp hl).1
      have n1 : n + 1 < st.length := (List.getElem?_eq_some_iff.mp hfo).1
      have l1 : st1[n]? = some (.lst (x :: xs)) := (D1.off n n0 (by omega)).trans hl
      have f1 : st1[n + 1]? = some (.lst found) := (D1.off (n + 1) n1 (by omega)).trans hfo
      have f2 : (st1.set n (.lst ((x :: xs).eraseIdx r)))[n + 1]? = some (.lst found) := by rw [List.getElem?_set_ne (by omega)]; exact f1
      have hD2 : Drawn i st0 ((st1.set n (.lst ((x :: xs).eraseIdx r))).set (n + 1) (.lst (found ++ [(x :: xs)[r]]))) := ((hD.trans D1).put (by omega) (by omega)).put (by omega) (by omega)
      have hlen : ((x :: xs).eraseIdx r).length = xs.length := by rw [List.length_eraseIdx_of_lt hr]; simp
      obtain ⟨found', st', e2, h1, h2, h3⟩ := mix_loop f ((x :: xs).eraseIdx r) (found ++ [(x :: xs)[r]]) st0 _ (by rw [hlen]; simp at hf; omega) (by rw [hlen]; simp at hz ⊢; omega) hn hi hD2 (by rw [List.getElem?_set_ne (by omega)]; exact st_same l1) (st_same f2)
      refine ⟨found', st', ?_, h1, h2.trans ?_, h3⟩
      · have hk : (0 : Int) ≤ r ∧ (r : Int) < 1000000 := by simp at hz hr; omega
        have hp : dPopAt (.ptr n) [.int r] st1 = .ok (x :: xs)[r] (st1.set n (.lst ((x :: xs).eraseIdx r))) := by
          simp [dPopAt, l1, hk, List.getElem?_eq_getElem hr]
        have hz' : found.length < sizeLine := by rw [sizeLine_eq]; simp at hz; omega
        have e1' : f__law_take [.ptr i, .int ((xs.length : Int) + 1)] st = .ok (.int r) st1 := by simpa using e1
        have ht := ne_nilP hl
        unfold mWhileGo
        simp only [mTest, mBin, mVar, mLst, mNil, R.bind, List.getElem?_cons_succ, List.getElem?_cons_zero, ht, sizeLine_eq, List.length_nil, Nat.zero_le, if_true]
        have hb : p__law_mixed_1 [some (.ptr i), some sc, some (.ptr n), some (.ptr (n + 1))] st = .nx [some (.ptr i), some sc, some (.ptr n), some (.ptr (n + 1))] ((st1.set n (.lst ((x :: xs).eraseIdx r))).set (n + 1) (.lst (found ++ [(x :: xs)[r]]))) := by
          simp [p__law_mixed_1, mDo, mLm, mVar, R.bind, isLst, rd, hfo, hl, mCons, mNil, mCall, mApp, dLen, e1', hp, dAppend, f2, hz']
        rw [hb]
        exact e2
      · rw [List.append_assoc]
        exact List.Perm.append_left found (erase_perm _ r hr)
theorem mixed_ok {st : Sto} {i : Nat} {xs : List D} (h : Box st i) (hl : xs.length < 20) : ∃ ys st', f__law_mixed [.ptr i, .lst xs] st = .ok (.lst ys) st' ∧ ys.Perm xs ∧ Drawn i st st' := by
  have hi := h.lt
  obtain ⟨ys, st1, e1, h1, h2, D1⟩ := mix_loop (i := i) (n := st.length) (sc := .lst xs) 20 xs [] st (st ++ [.lst xs] ++ [.lst []]) hl (by simp; omega) rfl hi (by rw [List.append_assoc]; exact Drawn.app h) (by simp) (by simp)
  have D2 : Drawn i st (st1.set (st.length + 1) .dead) := D1.put (by omega) hi
  obtain ⟨st2, e2, D3⟩ := D2.gc (d := .lst ys) hi
  refine ⟨ys, st2, ?_, by simpa using h2, D3⟩
  rw [← e2]
  unfold f__law_mixed pur
  rw [show belowL 0 [D.ptr i, .lst xs] = false from rfl, if_neg (by decide)]
  have hm : m__law_mixed [some (.ptr i), some (.lst xs), none, none] st = .rt (.ptr (st.length + 1)) st1 := by
    simp only [List.append_assoc] at e1
    simp [m__law_mixed, mSeq, mPar, mCons, mNil, mApp, mVar, R.bind, dListC, items, rd, mLstC, putAll, mRet]
    simp at e1
    simp [e1]
  unfold mFun
  rw [show (List.map some [D.ptr i, .lst xs] ++ List.replicate (4 - [D.ptr i, .lst xs].length) none) = [some (.ptr i), some (.lst xs), none, none] from rfl, hm]
  simp [dFrz, h1, R.bind]
end K
namespace K
open PySem L2 S
/-! ### names and words -/
def lets : List Nat := (Str.ofString "abcdefghijklmnopqrstuvwxyz").cps.toList
def barred : List Str := ["none", "any", "same", "keep", "drop", "good", "bad", "old", "new", "both"]
def isName (x : Str) : Bool := decide (1 ≤ x.length) && (decide (x.length ≤ 4) && (!decide (x ∈ barred) && x.cps.toList.all (fun c => decide (c ∈ lets))))
def isNameD : D → Bool
  | .str x => isName x
  | _ => false
def inD (d : D) (ws : List Str) : Bool := match d with
  | .str x => decide (x ∈ ws)
  | _ => false
theorem inV_strs {x : Str} : ∀ {ws : List Str}, inV (.str x) (ws.map V.str) = decide (x ∈ ws)
  | [] => by simp [inV]
  | w :: ws => by
    have ih := inV_strs (x := x) (ws := ws)
    unfold inV at ih ⊢
    rw [List.map_cons, List.any_cons, ih]
    simp [eqV]
    by_cases h : w = x
    · simp [h]
    · simp [h, Ne.symm h]
theorem fl_strs (ws : List Str) : (ws.map D.str).map fl = ws.map V.str := by simp [fl]
theorem isFl_strs (ws : List Str) : (ws.map D.str).all isFl = true := by simp [isFl]
theorem in_tup {x : Str} {ws : List Str} {st : Sto} : dIn (.str x) (.tup (ws.map D.str)) st = .ok (.bl (decide (x ∈ ws))) st := by
  show (if isFl (.str x) && (ws.map D.str).all isFl then R.ok (D.bl (inV (fl (.str x)) ((ws.map D.str).map fl))) st else .stuck) = _
  rw [isFl_strs, fl_strs]
  show (R.ok (D.bl (inV (V.str x) (ws.map V.str))) st) = _
  rw [inV_strs]
theorem sign_in {c : Nat} {st : Sto} : dIn (.str ⟨#[c]⟩) (.str "abcdefghijklmnopqrstuvwxyz") st = .ok (.bl (decide (c ∈ lets))) st := by
  simp [dIn, items, rd, lets]
theorem signs_all {x : Str} {a0 a1 : Option D} {st : Sto} (h : x.length ≤ 1000) : mLcGo (.nm 1) [1] mYes (mBin dIn (mVar 1) (mC (.str "abcdefghijklmnopqrstuvwxyz"))) (signs x) [a0, a1] st [] = .ok (x.cps.toList.map fun c => D.bl (decide (c ∈ lets))) st := by
  have e := lc_pure (t := .nm 1) (vs := [1]) (mt := mYes) (me := mBin dIn (mVar 1) (mC (.str "abcdefghijklmnopqrstuvwxyz"))) (fun d => match d with | .str ⟨⟨[c]⟩⟩ => some (.bl (decide (c ∈ lets))) | _ => none) (env := [a0, a1]) (st := st) (ds := signs x) (acc := []) (by
    rw [sizeLine_eq]; simp [signs]; have : x.cps.size = x.length := rfl; omega) fun d hd => by
      obtain ⟨c, _, rfl⟩ := List.mem_map.mp hd
      exact ⟨_, true, rfl, rfl, fun _ => ⟨.bl (decide (c ∈ lets)), by simp [mBin, mVar, mC, wipeE, R.bind, sign_in], rfl⟩, fun h => by cases h⟩
  rw [e, List.nil_append]
  unfold signs
  rw [List.filterMap_map]
  congr 1
  induction x.cps.toList with
  | nil => rfl
  | cons c cs ih => simp [List.filterMap_cons] at ih ⊢; exact ih
theorem all_bls {st : Sto} {bs : List Bool} : dAll [.lst (bs.map D.bl)] st = .ok (.bl (bs.all id)) st := by
  have h1 : ∀ bs : List Bool, (bs.map D.bl).all isB = true := fun bs => by simp [isB]
  have h2 : ∀ bs : List Bool, (bs.map D.bl).map bOf = bs := fun bs => by induction bs with
    | nil => rfl
    | cons b bs ih => simp [bOf] at ih ⊢; exact ih
  simp only [dAll, itemsL, rd, h1, if_true, h2]
theorem name_str {x : Str} {st : Sto} (h : x.length ≤ 1000) : f_is_name [.str x] st = .ok (.bl (isName x)) st := by
  refine call_rt (st' := []) rfl ?_ rfl
  show m_is_name [some (.str x), none] [] = _
  have hz : x.length ≤ sizeLine := by rw [sizeLine_eq]; omega
  have hi := in_tup (x := x) (ws := barred) (st := [])
  unfold barred at hi
  simp only [List.map_cons, List.map_nil] at hi
  have hs := signs_all (x := x) (a0 := some (.str x)) (a1 := none) (st := []) h
  have e : (x.cps.toList.map fun c => D.bl (decide (c ∈ lets))) = (x.cps.toList.map fun c => decide (c ∈ lets)).map D.bl := by simp
  rw [e] at hs
  have ha := all_bls (st := []) (bs := x.cps.toList.map fun c => decide (c ∈ lets))
  have ea : (x.cps.toList.map fun c => decide (c ∈ lets)).all id = x.cps.toList.all (fun c => decide (c ∈ lets)) := by rw [List.all_map]; rfl
  rw [ea] at ha
  have hp : p_is_name_1 [some (.str x), none] [] = .rt (.bl (x.cps.toList.all (fun c => decide (c ∈ lets)))) [] := by
    unfold p_is_name_1 mRet mApp mCons mLc mItAny
    have hv : mVar 0 [some (.str x), none] [] = .ok (.str x) [] := rfl
    simp only [hv, R.bind, hs, mNil, ha]
  unfold isName
  unfold barred
  revert hi hp
  generalize decide (x ∈ [Str.ofString "none", Str.ofString "any", Str.ofString "same", Str.ofString "keep", Str.ofString "drop", Str.ofString "good", Str.ofString "bad", Str.ofString "old", Str.ofString "new", Str.ofString "both"]) = b3
  generalize x.cps.toList.all (fun c => decide (c ∈ lets)) = b4
  intro hi hp
  by_cases h1 : 1 ≤ x.length
  · have i1 : (1 : Int) ≤ (x.length : Int) := by omega
    by_cases h2 : x.length ≤ 4
    · have i2 : (x.length : Int) ≤ 4 := by omega
      cases b3 with
      | true => simp [m_is_name, mSeq, mIfS, mOrB, mNotB, mTru, mIsi, mVar, R.bind, dIsi, rd, tyD, ki_str, truthD, mTest, mChain, mC, mApp, mCons, mNil, dLen, hz, dLe, dI, i1, i2, h1, h2, mBin, hi, mRet]
      | false =>
        simp [m_is_name, mSeq, mIfS, mOrB, mNotB, mTru, mIsi, mVar, R.bind, dIsi, rd, tyD, ki_str, truthD, mTest, mChain, mC, mApp, mCons, mNil, dLen, hz, dLe, dI, i1, i2, h1, h2, mBin, hi, mRet, mNext, hp]
    · have i2 : ¬ (x.length : Int) ≤ 4 := by omega
      simp [m_is_name, mSeq, mIfS, mOrB, mNotB, mTru, mIsi, mVar, R.bind, dIsi, rd, tyD, ki_str, truthD, mTest, mChain, mC, mApp, mCons, mNil, dLen, hz, dLe, dI, i1, i2, h1, h2, mRet]
  · have i1 : ¬ (1 : Int) ≤ (x.length : Int) := by omega
    simp [m_is_name, mSeq, mIfS, mOrB, mNotB, mTru, mIsi, mVar, R.bind, dIsi, rd, tyD, ki_str, truthD, mTest, mChain, mC, mApp, mCons, mNil, dLen, hz, dLe, dI, i1, h1, mRet]
end K
namespace K
open PySem L2 S
/-! ### any values -/
/-- data, texts not long -/
structure Va (d : D) : Prop where
  py : ∃ p, toPy d = some p ∧ p.canLay0 = true ∧ p.depth ≤ 10
  bel : below 0 d = true
  len : ∀ x, d = .str x → x.length ≤ 10
theorem belowL_cons {d : D} {ds : List D} (h : below 0 d = true) (h' : belowL 0 ds = true) : belowL 0 (d :: ds) = true := by
  unfold belowL
  rw [h, h']; rfl
theorem below_strs : ∀ ws : List Str, belowL 0 (ws.map D.str) = true
  | [] => rfl
  | w :: ws => belowL_cons rfl (below_strs ws)
theorem name_ok {d : D} {st : Sto} (h : Va d) : f_is_name [d] st = .ok (.bl (isNameD d)) st := by
  have hb : belowL 0 [d] = true := belowL_cons h.bel rfl
  obtain ⟨p, hp, _⟩ := h.py
  cases d with
  | str x => exact name_str (by have := h.len x rfl; omega)
  | non => exact call_rt (st' := []) hb rfl rfl
  | bl b => exact call_rt (st' := []) hb rfl rfl
  | int i => exact call_rt (st' := []) hb rfl rfl
  | lst xs => exact call_rt (st' := []) hb rfl rfl
  | rls xs => exact call_rt (st' := []) hb rfl rfl
  | tup xs => exact call_rt (st' := []) hb rfl rfl
  | dct ks xs => unfold toPy at hp; cases hp
  | ins c ns xs => unfold toPy at hp; cases hp
  | ptr i => unfold toPy at hp; cases hp
  | cls c => unfold toPy at hp; cases hp
  | dkd ks ds => unfold toPy at hp; cases hp
  | ptp xs => unfold toPy at hp; cases hp
  | fn a => unfold toPy at hp; cases hp
theorem isi_str {d : D} {st : Sto} (h : Va d) : dIsi ki_str d st = .ok (.bl (match d with | .str _ => true | _ => false)) st := by
  obtain ⟨p, hp, _⟩ := h.py
  cases d with
  | dct ks xs => unfold toPy at hp; cases hp
  | ins c ns xs => unfold toPy at hp; cases hp
  | ptr i => unfold toPy at hp; cases hp
  | cls c => unfold toPy at hp; cases hp
  | dkd ks ds => unfold toPy at hp; cases hp
  | ptp xs => unfold toPy at hp; cases hp
  | fn a => unfold toPy at hp; cases hp
  | _ => rfl
/-- isinstance(d, str) and d in ws -/
theorem isin_ok {d : D} {st : Sto} {ws : List Str} {env : S.Env} {i j : Nat} (h : Va d) (hi : env[i]? = some (some d)) (hj : env[j]? = some (some (.tup (ws.map D.str)))) : mAnd (mIsi ki_str (mVar i)) (mBin dIn (mVar i) (mVar j)) env st = .ok (.bl (inD d ws)) st := by
  have e := isi_str (st := st) h
  cases d with
  | str x => simp [mAnd, mIsi, mVar, hi, R.bind, e, mBin, hj, in_tup, inD]
  | _ => simp [mAnd, mIsi, mVar, hi, R.bind, e, inD]
theorem word_ok {d : D} {ws : List Str} {st : Sto} (h : Va d) : f_is_word [d, .tup (ws.map D.str)] st = .ok (.bl (isNameD d || inD d ws)) st := by
  refine call_rt (st' := []) (belowL_cons h.bel (belowL_cons (below_strs ws) rfl)) ?_ rfl
  show m_is_word [some d, some (.tup (ws.map D.str))] [] = _
  have e := isin_ok (st := []) (ws := ws) (env := [some d, some (.tup (ws.map D.str))]) (i := 0) (j := 1) h rfl rfl
  have hn := name_ok (st := []) h
  unfold m_is_word mRet mOr
  rw [show mCall 1 f_is_name [] (mCons (mVar 0) mNil) [some d, some (.tup (ws.map D.str))] [] = f_is_name [d] [] from rfl, hn]
  cases isNameD d with
  | true => rfl
  | false => simp only [R.bind, Bool.false_eq_true, if_false, e, Bool.false_or]
theorem word1 {d : D} {a : Str} {st : Sto} (h : Va d) : f_is_word [d, .tup [.str a]] st = .ok (.bl (isNameD d || inD d [a])) st := word_ok (ws := [a]) h
theorem word2 {d : D} {a b : Str} {st : Sto} (h : Va d) : f_is_word [d, .tup [.str a, .str b]] st = .ok (.bl (isNameD d || inD d [a, b])) st := word_ok (ws := [a, b]) h
theorem mark_ok {d : D} {st : Sto} (h : Va d) : f_is_mark [d] st = .ok (.bl (isNameD d || inD d ["none"])) st := by
  refine call_rt (st' := []) (belowL_cons h.bel rfl) ?_ rfl
  show m_is_mark [some d] [] = _
  simp [m_is_mark, mRet, mCall, mCons, mVar, mTup, mC, mNil, R.bind, sizeLine_eq, word1 h]
theorem sign_ok {d : D} {st : Sto} (h : Va d) : f_is_sign [d] st = .ok (.bl (isNameD d || inD d ["none"])) st := by
  refine call_rt (st' := []) (belowL_cons h.bel rfl) ?_ rfl
  show m_is_sign [some d] [] = _
  simp [m_is_sign, mRet, mCall, mCons, mVar, mTup, mC, mNil, R.bind, sizeLine_eq, word1 h]
theorem need_ok {w : Str} {st : Sto} : f_need [.bl true, .str w] st = .ok .non st := call_nx (st' := []) (env := [some (.bl true), some (.str w)]) rfl rfl
theorem eq_any {d : D} {st : Sto} (h : Va d) : dEq d (.str "any") st = .ok (.bl (inD d ["any"])) st := by
  obtain ⟨p, hp, h1, h2⟩ := h.py
  have hs : SeqAt.shaped (.str "any") = true := by decide +kernel
  have hsp : SeqAt.shaped p = true := by
    unfold SeqAt.shaped
    rw [h1, decide_eq_true (by omega)]; rfl
  cases d with
  | str x => simp [dEq, eqD, isFl, fl, scal, inD]
  | non => rfl
  | bl b => rfl
  | int i => rfl
  | lst xs =>
    unfold dEq eqD
    rw [show rd st (.lst xs) = .lst xs from rfl, hp, show toPy (rd st (.str "any")) = some (.str "any") from rfl]
    simp only [isFl, Bool.false_and, Bool.false_eq_true, if_false, hsp, hs, Bool.and_true, if_true, inD]
    unfold toPy at hp
    cases hq : toPyL xs with
    | none => rw [hq] at hp; cases hp
    | some ps => rw [hq] at hp; cases hp; rfl
  | rls xs =>
    unfold dEq eqD
    rw [show rd st (.rls xs) = .rls xs from rfl, hp, show toPy (rd st (.str "any")) = some (.str "any") from rfl]
    simp only [isFl, Bool.false_and, Bool.false_eq_true, if_false, hsp, hs, Bool.and_true, if_true, inD]
    unfold toPy at hp
    cases hq : toPyL xs with
    | none => rw [hq] at hp; cases hp
    | some ps => rw [hq] at hp; cases hp; rfl
  | tup xs =>
    unfold dEq eqD
    rw [show rd st (.tup xs) = .tup xs from rfl, hp, show toPy (rd st (.str "any")) = some (.str "any") from rfl]
    simp only [isFl, Bool.false_and, Bool.false_eq_true, if_false, hsp, hs, Bool.and_true, if_true, inD]
    unfold toPy at hp
    cases hq : toPyL xs with
    | none => rw [hq] at hp; cases hp
    | some ps => rw [hq] at hp; cases hp; rfl
  | dct ks xs => unfold toPy at hp; cases hp
  | ins c ns xs => unfold toPy at hp; cases hp
  | ptr i => unfold toPy at hp; cases hp
  | cls c => unfold toPy at hp; cases hp
  | dkd ks ds => unfold toPy at hp; cases hp
  | ptp xs => unfold toPy at hp; cases hp
  | fn a => unfold toPy at hp; cases hp
end K
namespace K
open PySem L2 S
/-! ### rows -/
theorem in_two {d : D} {a b : Str} : (inD d [a] || inD d [b]) = inD d [a, b] := by
  cases d with
  | str x => simp [inD]
  | _ => rfl
theorem fmt_var {env : S.Env} {st : Sto} {i : Nat} {x : Str} (h : env[i]? = some (some (.str x))) (hx : x.length ≤ 1000) : mFmt (mVar i) env st = .ok (.str x) st := by
  have hz : x.length ≤ sizeLine := by rw [sizeLine_eq]; omega
  simp [mFmt, mVar, h, R.bind, hz]
def cat (ys : List Str) : Str := ys.foldl (· ++ ·) Str.empty
theorem text_row {c : Nat} {ns : List Str} {es : List D} {t : Str} (h : at_text c = true) (hn : ns.length < 1000) : f_Row_init [.ptr 0, .str t] [.ins c ns es] = .ok .non [.ins c (putN "text" ns) (putX "text" (.str t) ns es)] := by
  unfold f_Row_init pur
  rw [show belowL 0 [D.ptr 0, .str t] = false from rfl, if_neg (by decide)]
  show (match m_Row_init [some (.ptr 0), some (.str t)] [.ins c ns es] with
    | .nx _ st' => gc 1 .non st'
    | .rt d st' => if true = true then (dFrz d st').bind fun d' st2 => gc 1 d' st2 else gc 1 d st'
    | .exc _ c ns ds st' => gcX 1 c ns ds st'
    | _ => .stuck) = _
  simp [m_Row_init, mSetF, mDo, mBin, mVar, R.bind, dPutF, h, hn]
  exact gc_same (st := [.ins c ns es]) rfl
theorem sup_made {c : Nat} {ns : List Str} {es : List D} {env : S.Env} {ms : List M} {ys : List Str} {cs : List Nat} (h : at_text c = true) (hc : cs.contains c = true) (hn : ns.length < 1000) (h0 : env[0]? = some (some (.ptr 0)))
    (hj : All2 (fun m y => m env [.ins c ns es] = .ok (.str y) [.ins c ns es]) ms ys) (hl : (ys.map (·.length)).sum ≤ 100000) : mSup cs 0 2 f_Row_init (mCons (mJs ms Str.empty) mNil) env [.ins c ns es] = .nx env [.ins c (putN "text" ns) (putX "text" (.str (cat ys)) ns es)] := by
  have hj := js_ok (acc := Str.empty) hj (by rw [sizeLine_eq]; have h3 : Str.empty.length = 0 := by decide +kernel
                                             omega)
  unfold mSup mDo
  simp only [h0, rd, List.getElem?_cons_zero, hc, if_true, mCons, mNil, hj, R.bind, List.length_cons, List.length_nil, text_row h hn]
  rfl
theorem l_sp : (Str.ofString " ").length = 1 := by decide +kernel
theorem begin_made {a b c : Str} (ha : a.length ≤ 10) (hb : b.length ≤ 10) (hc : c.length ≤ 10) : p_Begin_init_2 [some (.ptr 0), some (.str a), some (.str b), some (.str c)] [.ins 1 [] []] = .nx [some (.ptr 0), some (.str a), some (.str b), some (.str c)] [.ins 1 ["mark", "kind", "mood", "text"] [.str a, .str b, .str c, .str (cat ["begin ", a, " ", b, " ", c])]] := by
  have e : p_Begin_init_2 [some (.ptr 0), some (.str a), some (.str b), some (.str c)] [.ins 1 [] []] = p_Begin_init_1 [some (.ptr 0), some (.str a), some (.str b), some (.str c)] [.ins 1 ["mark", "kind", "mood"] [.str a, .str b, .str c]] := by
    simp [p_Begin_init_2, mSeq, mSetF, mDo, mBin, mVar, R.bind, dPutF, at_mark, at_kind, at_mood, putN, putX, str_eq]
  rw [e]
  have h1 : (Str.ofString "begin ").length = 6 := by decide +kernel
  have r := sup_made (c := 1) (ns := ["mark", "kind", "mood"]) (es := [.str a, .str b, .str c]) (env := [some (.ptr 0), some (.str a), some (.str b), some (.str c)]) (ms := [mC (.str "begin "), mFmt (mVar 1), mC (.str " "), mFmt (mVar 2), mC (.str " "), mFmt (mVar 3)]) (ys := ["begin ", a, " ", b, " ", c]) (cs := [1]) rfl rfl (by decide) rfl
    (.cons rfl (.cons (fmt_var rfl (by omega)) (.cons rfl (.cons (fmt_var rfl (by omega)) (.cons rfl (.cons (fmt_var rfl (by omega)) .nil)))))) (by simp [h1, l_sp]; omega)
  simp [putN, putX, str_eq] at r
  exact r
theorem send_made {a b c : Str} (ha : a.length ≤ 10) (hb : b.length ≤ 10) (hc : c.length ≤ 10) : p_Send_init_2 [some (.ptr 0), some (.str a), some (.str b), some (.str c)] [.ins 2 [] []] = .nx [some (.ptr 0), some (.str a), some (.str b), some (.str c)] [.ins 2 ["mood", "service", "mark", "text"] [.str a, .str b, .str c, .str (cat ["send ", a, " ", b, " ", c])]] := by
  have e : p_Send_init_2 [some (.ptr 0), some (.str a), some (.str b), some (.str c)] [.ins 2 [] []] = p_Send_init_1 [some (.ptr 0), some (.str a), some (.str b), some (.str c)] [.ins 2 ["mood", "service", "mark"] [.str a, .str b, .str c]] := by
    simp [p_Send_init_2, mSeq, mSetF, mDo, mBin, mVar, R.bind, dPutF, at_mark, at_service, at_mood, putN, putX, str_eq]
  rw [e]
  have h1 : (Str.ofString "send ").length = 5 := by decide +kernel
  have r := sup_made (c := 2) (ns := ["mood", "service", "mark"]) (es := [.str a, .str b, .str c]) (env := [some (.ptr 0), some (.str a), some (.str b), some (.str c)]) (ms := [mC (.str "send "), mFmt (mVar 1), mC (.str " "), mFmt (mVar 2), mC (.str " "), mFmt (mVar 3)]) (ys := ["send ", a, " ", b, " ", c]) (cs := [2]) rfl rfl (by decide) rfl
    (.cons rfl (.cons (fmt_var rfl (by omega)) (.cons rfl (.cons (fmt_var rfl (by omega)) (.cons rfl (.cons (fmt_var rfl (by omega)) .nil)))))) (by simp [h1, l_sp]; omega)
  simp [putN, putX, str_eq] at r
  exact r
theorem back_made {a b c d : Str} (ha : a.length ≤ 10) (hb : b.length ≤ 10) (hc : c.length ≤ 10) (hd : d.length ≤ 10) : p_Back_init_2 [some (.ptr 0), some (.str a), some (.str b), some (.str c), some (.str d)] [.ins 3 [] []] = .nx [some (.ptr 0), some (.str a), some (.str b), some (.str c), some (.str d)] [.ins 3 ["mood", "service", "sign", "then", "text"] [.str a, .str b, .str c, .str d, .str (cat ["back ", a, " ", b, " ", c, " ", d])]] := by
  have e : p_Back_init_2 [some (.ptr 0), some (.str a), some (.str b), some (.str c), some (.str d)] [.ins 3 [] []] = p_Back_init_1 [some (.ptr 0), some (.str a), some (.str b), some (.str c), some (.str d)] [.ins 3 ["mood", "service", "sign", "then"] [.str a, .str b, .str c, .str d]] := by
    simp [p_Back_init_2, mSeq, mSetF, mDo, mBin, mVar, R.bind, dPutF, at_sign, at_service, at_mood, at_then, putN, putX, str_eq]
  rw [e]
  have h1 : (Str.ofString "back ").length = 5 := by decide +kernel
  have r := sup_made (c := 3) (ns := ["mood", "service", "sign", "then"]) (es := [.str a, .str b, .str c, .str d]) (env := [some (.ptr 0), some (.str a), some (.str b), some (.str c), some (.str d)]) (ms := [mC (.str "back "), mFmt (mVar 1), mC (.str " "), mFmt (mVar 2), mC (.str " "), mFmt (mVar 3), mC (.str " "), mFmt (mVar 4)]) (ys := ["back ", a, " ", b, " ", c, " ", d]) (cs := [3]) rfl rfl (by decide) rfl
    (.cons rfl (.cons (fmt_var rfl (by omega)) (.cons rfl (.cons (fmt_var rfl (by omega)) (.cons rfl (.cons (fmt_var rfl (by omega)) (.cons rfl (.cons (fmt_var rfl (by omega)) .nil)))))))) (by simp [h1, l_sp]; omega)
  simp [putN, putX, str_eq] at r
  exact r
theorem end_made {a b c d : Str} (ha : a.length ≤ 10) (hb : b.length ≤ 10) (hc : c.length ≤ 10) (hd : d.length ≤ 10) : p_End_init_2 [some (.ptr 0), some (.str a), some (.str b), some (.str c), some (.str d)] [.ins 4 [] []] = .nx [some (.ptr 0), some (.str a), some (.str b), some (.str c), some (.str d)] [.ins 4 ["mood", "outcome", "sign", "part", "text"] [.str a, .str b, .str c, .str d, .str (cat ["end ", a, " ", b, " ", c, " ", d])]] := by
  have e : p_End_init_2 [some (.ptr 0), some (.str a), some (.str b), some (.str c), some (.str d)] [.ins 4 [] []] = p_End_init_1 [some (.ptr 0), some (.str a), some (.str b), some (.str c), some (.str d)] [.ins 4 ["mood", "outcome", "sign", "part"] [.str a, .str b, .str c, .str d]] := by
    simp [p_End_init_2, mSeq, mSetF, mDo, mBin, mVar, R.bind, dPutF, at_sign, at_outcome, at_mood, at_part, putN, putX, str_eq]
  rw [e]
  have h1 : (Str.ofString "end ").length = 4 := by decide +kernel
  have r := sup_made (c := 4) (ns := ["mood", "outcome", "sign", "part"]) (es := [.str a, .str b, .str c, .str d]) (env := [some (.ptr 0), some (.str a), some (.str b), some (.str c), some (.str d)]) (ms := [mC (.str "end "), mFmt (mVar 1), mC (.str " "), mFmt (mVar 2), mC (.str " "), mFmt (mVar 3), mC (.str " "), mFmt (mVar 4)]) (ys := ["end ", a, " ", b, " ", c, " ", d]) (cs := [4]) rfl rfl (by decide) rfl
    (.cons rfl (.cons (fmt_var rfl (by omega)) (.cons rfl (.cons (fmt_var rfl (by omega)) (.cons rfl (.cons (fmt_var rfl (by omega)) (.cons rfl (.cons (fmt_var rfl (by omega)) .nil)))))))) (by simp [h1, l_sp]; omega)
  simp [putN, putX, str_eq] at r
  exact r
end K
namespace K
open PySem L2 S
theorem seq_need {e : M} {w : Str} {env : S.Env} {st : Sto} {r : MS} (h : e env st = .ok (.bl true) st) : mSeq (mDo (mCall 2 f_need [] (mCons e (mCons (mC (.str w)) mNil)))) r env st = r env st :=
  seq_nx (do_ok (call_ok (cons_ok h (cons_ok rfl nil_ok)) rfl need_ok))
section
variable {env : S.Env} {st : Sto} {i : Nat} {d : D}
theorem e_word1 {a : Str} (h : Va d) (hi : env[i]? = some (some d)) : mCall 2 f_is_word [] (mCons (mVar i) (mCons (mTup (mCons (mC (.str a)) mNil)) mNil)) env st = .ok (.bl (isNameD d || inD d [a])) st := by
  simp [mCall, mCons, mVar, hi, mTup, mC, mNil, R.bind, sizeLine_eq, word1 h]
theorem e_word2 {a b : Str} (h : Va d) (hi : env[i]? = some (some d)) : mCall 2 f_is_word [] (mCons (mVar i) (mCons (mTup (mCons (mC (.str a)) (mCons (mC (.str b)) mNil))) mNil)) env st = .ok (.bl (isNameD d || inD d [a, b])) st := by
  simp [mCall, mCons, mVar, hi, mTup, mC, mNil, R.bind, sizeLine_eq, word2 h]
theorem e_name (h : Va d) (hi : env[i]? = some (some d)) : mCall 1 f_is_name [] (mCons (mVar i) mNil) env st = .ok (.bl (isNameD d)) st := by
  simp [mCall, mCons, mVar, hi, mNil, R.bind, name_ok h]
theorem e_sign (h : Va d) (hi : env[i]? = some (some d)) : mCall 1 f_is_sign [] (mCons (mVar i) mNil) env st = .ok (.bl (isNameD d || inD d ["none"])) st := by
  simp [mCall, mCons, mVar, hi, mNil, R.bind, sign_ok h]
theorem e_mark (h : Va d) (hi : env[i]? = some (some d)) : mOr (mCall 1 f_is_mark [] (mCons (mVar i) mNil)) (mBin dEq (mVar i) (mC (.str "any"))) env st = .ok (.bl (isNameD d || inD d ["none", "any"])) st := by
  rw [← in_two, ← Bool.or_assoc]
  simp only [mOr, mCall, mCons, mVar, hi, mNil, R.bind, mark_ok h, List.append_nil, List.length_cons, List.length_nil, if_true, mBin, mC, eq_any h]
  cases (isNameD d || inD d ["none"]) <;> rfl
theorem e_in2 {a b : Str} (h : Va d) (hi : env[i]? = some (some d)) : mAnd (mIsi ki_str (mVar i)) (mBin dIn (mVar i) (mTup (mCons (mC (.str a)) (mCons (mC (.str b)) mNil)))) env st = .ok (.bl (inD d [a, b])) st := by
  have e := isi_str (st := st) h
  cases d with
  | str x =>
    have e2 := in_tup (x := x) (ws := [a, b]) (st := st)
    simp only [List.map_cons, List.map_nil] at e2
    simp only [mAnd, mIsi, mVar, hi, R.bind, e, mBin, mTup, mCons, mC, mNil, sizeLine_eq, List.length_cons, List.length_nil, if_true, e2, inD, show ((0 + 1 + 1 ≤ 16777216) = True) from eq_true (by decide)]
  | _ => simp [mAnd, mIsi, mVar, hi, R.bind, e, inD]
theorem e_in3 {a b c : Str} (h : Va d) (hi : env[i]? = some (some d)) : mAnd (mIsi ki_str (mVar i)) (mBin dIn (mVar i) (mTup (mCons (mC (.str a)) (mCons (mC (.str b)) (mCons (mC (.str c)) mNil))))) env st = .ok (.bl (inD d [a, b, c])) st := by
  have e := isi_str (st := st) h
  cases d with
  | str x =>
    have e2 := in_tup (x := x) (ws := [a, b, c]) (st := st)
    simp only [List.map_cons, List.map_nil] at e2
    simp only [mAnd, mIsi, mVar, hi, R.bind, e, mBin, mTup, mCons, mC, mNil, sizeLine_eq, List.length_cons, List.length_nil, if_true, e2, inD, show ((0 + 1 + 1 + 1 ≤ 16777216) = True) from eq_true (by decide)]
  | _ => simp [mAnd, mIsi, mVar, hi, R.bind, e, inD]
end
theorem eqL_nil {ds : List D} {st : Sto} : dEqL (.lst ds) (.lst []) st = .ok (.bl ds.isEmpty) st := by
  cases ds with
  | nil =>
    simp [dEqL, rd, dEq, eqD, isFl, toPy, toPyL, SeqAt.shaped]
    rfl
  | cons d ds => simp [dEqL, rd]
theorem neL_nil {ds : List D} {st : Sto} : dNeL (.lst ds) (.lst []) st = .ok (.bl (!ds.isEmpty)) st := by
  cases ds with
  | nil =>
    simp [dNeL, rd, dNe, eqD, isFl, toPy, toPyL, SeqAt.shaped]
    rfl
  | cons d ds => simp [dNeL, rd]
def pr (w : Str) (ws : List Str) : D := .tup [.str w, .lst (ws.map D.str)]
def wB : List (Str × List Str) := [("mark", ["none", "any"]), ("kind", ["any"]), ("mood", [])]
def wS : List (Str × List Str) := [("mood", ["any"]), ("service", ["any"]), ("mark", ["none", "same"])]
def wK : List (Str × List Str) := [("mood", ["any"]), ("service", ["any"]), ("sign", ["none", "any"]), ("then", ["same"])]
def wE : List (Str × List Str) := [("mood", ["any"]), ("outcome", ["good", "bad", "any"]), ("sign", ["none"]), ("part", ["keep", "drop"])]
def prs (l : List (Str × List Str)) : D := .lst (l.map fun p => pr p.1 p.2)
theorem eq_strs {st : Sto} {a b : Str} : dEq (.str a) (.str b) st = .ok (.bl (decide (a = b))) st := by
  simp [dEq, eqD, isFl, fl, scal]
end K
namespace K
open PySem L2 S
/-! ### drawn names -/
def w12 : List Str := ["send", "back", "end", "root", "wait", "a", "ab", "abc", "zzzz", "row", "hear", "x"]
def abc : Str := "abcdefghijklmnopqrstuvwxyz"
def n0 (spot k : Nat) : Str := w12.getD ((spot + 5 * k) % 12) ""
def n1 (k : Nat) : Str := cutS "tttt" none (some ((k : Int) + 1))
def n2 (spot k : Nat) : Str := (⟨#[abc.cps.toList.getD ((spot + 7 * k) % 26) 0]⟩ : Str) ++ repS "v" (spot % 4)
/-- neither of the two strangers' words -/
def nzB (x : Str) : Bool := !decide (x = Str.ofString "zx") && !decide (x = Str.ofString "zy")
structure Nm0 (ns : List Str) (n : Nat) : Prop where
  len : ns.length = n
  nm : ∀ x ∈ ns, isName x = true
  nd : ns.Nodup
structure Nms (ns : List Str) (n : Nat) : Prop extends Nm0 ns n where
  nz : ∀ x ∈ ns, nzB x = true
def okNs (ns : List Str) : Bool := ns.all isName && (decide ns.Nodup && ns.all nzB)
theorem nms_of {ns : List Str} {n : Nat} (h : okNs ns = true) (hl : ns.length = n) : Nms ns n := by
  unfold okNs at h
  rw [Bool.and_eq_true, Bool.and_eq_true] at h
  exact ⟨⟨hl, fun x hx => List.all_eq_true.mp h.1 x hx, of_decide_eq_true h.2.1⟩, fun x hx => List.all_eq_true.mp h.2.2 x hx⟩
theorem all0 : ((List.range 26).all fun s => (List.range 8).all fun n => okNs ((List.range n).map (n0 s))) = true := by kernel_rfl
theorem all1 : ((List.range 5).all fun n => okNs ((List.range n).map n1)) = true := by kernel_rfl
theorem all2 : ((List.range 26).all fun s => (List.range 8).all fun n => okNs ((List.range n).map (n2 s))) = true := by kernel_rfl
theorem ok0 {s n : Nat} (hs : s < 26) (hn : n ≤ 7) : okNs ((List.range n).map (n0 s)) = true :=
  List.all_eq_true.mp (List.all_eq_true.mp all0 s (List.mem_range.mpr hs)) n (List.mem_range.mpr (Nat.lt_succ_of_le hn))
theorem ok1 {n : Nat} (hn : n < 5) : okNs ((List.range n).map n1) = true := List.all_eq_true.mp all1 n (List.mem_range.mpr hn)
theorem ok2 {s n : Nat} (hs : s < 26) (hn : n ≤ 7) : okNs ((List.range n).map (n2 s)) = true :=
  List.all_eq_true.mp (List.all_eq_true.mp all2 s (List.mem_range.mpr hs)) n (List.mem_range.mpr (Nat.lt_succ_of_le hn))
theorem fmod_nat (a b : Nat) : Int.fmod (a : Int) (b : Int) = ((a % b : Nat) : Int) := by
  rw [Int.fmod_eq_emod_of_nonneg _ (by omega)]; rfl
section
variable {i n s : Nat} {fm : Int} {a6 : Option D} {st : Sto}
theorem rng {env : S.Env} (h : env[1]? = some (some (.int (n : Nat)))) (hn : n ≤ 1000) : mItRange (mCons (mVar 1) mNil) env st = .ok (rangeD 0 n) st := by
  have h1 : -4611686018427387904 ≤ (n : Int) ∧ (n : Int) < 4611686018427387904 := by omega
  simp [mItRange, mCons, mVar, h, mNil, R.bind, h1]
theorem nm0 (hn : n ≤ 1000) : mLc (.nm 6) [6] (mItRange (mCons (mVar 1) (mNil))) (mYes) (mBin dIx (mVar 2) (mBin dMod (mApp dInt (mCons (mBin dAdd (mVar 5) (mBin dMulX (mC (.int 5)) (mVar 6))) (mNil))) (mC (.int 12)))) [some (.ptr i), some (.int n), some (.lst (w12.map D.str)), some (.str abc), some (.int fm), some (.int s), a6] st = .ok (.lst (((List.range n).map (n0 s)).map D.str)) st := by
  have e := lc_range (t := .nm 6) (vs := [6]) (mt := mYes) (me := mBin dIx (mVar 2) (mBin dMod (mApp dInt (mCons (mBin dAdd (mVar 5) (mBin dMulX (mC (.int 5)) (mVar 6))) (mNil))) (mC (.int 12)))) (fun k => .str (n0 s k)) (env := [some (.ptr i), some (.int n), some (.lst (w12.map D.str)), some (.str abc), some (.int fm), some (.int s), a6]) (st := st) (n := n) (by omega) fun k hk => by
    refine ⟨_, rfl, rfl, ?_⟩
    have hm : Int.fmod ((s : Int) + 5 * (k : Int)) 12 = (((s + 5 * k) % 12 : Nat) : Int) := fmod_nat (s + 5 * k) 12
    have hl : (s + 5 * k) % 12 < 12 := Nat.mod_lt _ (by decide)
    have hx : atI (w12.map D.str) (Int.fmod ((s : Int) + 5 * (k : Int)) 12) = some (.str (n0 s k)) := by
      refine atI_of hm ?_
      rw [List.getElem?_map, List.getElem?_eq_getElem (show (s + 5 * k) % 12 < w12.length from hl)]
      show some (D.str _) = some (D.str (w12.getD ((s + 5 * k) % 12) ""))
      rw [List.getD_eq_getElem?_getD, List.getElem?_eq_getElem (show (s + 5 * k) % 12 < w12.length from hl)]
      rfl
    simp [mBin, mVar, mC, wipeE, R.bind, mApp, mCons, mNil, dMulX, dMul, dAdd, rd, dInt, dMod, dIx, hx]
  unfold mLc
  rw [rng rfl hn]
  simp only [R.bind, e, List.map_map]
  rfl
theorem nm1 (hn : n ≤ 4) : mLc (.nm 6) [6] (mItRange (mCons (mVar 1) (mNil))) (mYes) (mSl (mC (.str "tttt")) (mNoPart) (mPart (mBin dAdd (mVar 6) (mC (.int 1))))) [some (.ptr i), some (.int n), some (.lst (w12.map D.str)), some (.str abc), some (.int fm), some (.int s), a6] st = .ok (.lst (((List.range n).map n1).map D.str)) st := by
  have e := lc_range (t := .nm 6) (vs := [6]) (mt := mYes) (me := mSl (mC (.str "tttt")) (mNoPart) (mPart (mBin dAdd (mVar 6) (mC (.int 1))))) (fun k => .str (n1 k)) (env := [some (.ptr i), some (.int n), some (.lst (w12.map D.str)), some (.str abc), some (.int fm), some (.int s), a6]) (st := st) (n := n) (by omega) fun k hk => by
    refine ⟨_, rfl, rfl, ?_⟩
    have ht : (Str.ofString "tttt").length = 4 := by decide +kernel
    simp [mSl, mC, mNoPart, mPart, mBin, mVar, wipeE, R.bind, dAdd, rd, dSl, ht, sizeLine_eq, n1]
  unfold mLc
  rw [rng rfl (by omega)]
  simp only [R.bind, e, List.map_map]
  rfl
theorem nm2 (hn : n ≤ 1000) : mLc (.nm 6) [6] (mItRange (mCons (mVar 1) (mNil))) (mYes) (mBin dAdd (mBin dIx (mVar 3) (mBin dMod (mApp dInt (mCons (mBin dAdd (mVar 5) (mBin dMulX (mC (.int 7)) (mVar 6))) (mNil))) (mC (.int 26)))) (mBin dMulX (mC (.str "v")) (mBin dMod (mApp dInt (mCons (mVar 5) (mNil))) (mC (.int 4))))) [some (.ptr i), some (.int n), some (.lst (w12.map D.str)), some (.str abc), some (.int fm), some (.int s), a6] st = .ok (.lst (((List.range n).map (n2 s)).map D.str)) st := by
  have e := lc_range (t := .nm 6) (vs := [6]) (mt := mYes) (me := mBin dAdd (mBin dIx (mVar 3) (mBin dMod (mApp dInt (mCons (mBin dAdd (mVar 5) (mBin dMulX (mC (.int 7)) (mVar 6))) (mNil))) (mC (.int 26)))) (mBin dMulX (mC (.str "v")) (mBin dMod (mApp dInt (mCons (mVar 5) (mNil))) (mC (.int 4))))) (fun k => .str (n2 s k)) (env := [some (.ptr i), some (.int n), some (.lst (w12.map D.str)), some (.str abc), some (.int fm), some (.int s), a6]) (st := st) (n := n) (by omega) fun k hk => by
    refine ⟨_, rfl, rfl, ?_⟩
    have hm : Int.fmod ((s : Int) + 7 * (k : Int)) 26 = (((s + 7 * k) % 26 : Nat) : Int) := fmod_nat (s + 7 * k) 26
    have hm4 : Int.fmod (s : Int) 4 = ((s % 4 : Nat) : Int) := fmod_nat s 4
    have h4 : s % 4 < 4 := Nat.mod_lt _ (by decide)
    have hl : (s + 7 * k) % 26 < abc.cps.toList.length := by
      have : abc.cps.toList.length = 26 := by decide +kernel
      rw [this]
      exact Nat.mod_lt _ (by decide)
    have hx : atI abc.cps.toList (Int.fmod ((s : Int) + 7 * (k : Int)) 26) = some (abc.cps.toList.getD ((s + 7 * k) % 26) 0) := by
      refine atI_of hm ?_
      rw [List.getD_eq_getElem?_getD, List.getElem?_eq_getElem hl]
      rfl
    have ha : abc.length ≤ sizeLine := by decide +kernel
    have hv : 1 ≤ (Str.ofString "v").length ∧ (Str.ofString "v").length ≤ 1000 := by decide +kernel
    have hr : dMulX (.str "v") (.int (Int.fmod (s : Int) 4)) st = .ok (.str (repS "v" (s % 4))) st := by
      rw [hm4]
      have : (0 : Int) ≤ ((s % 4 : Nat) : Int) ∧ ((s % 4 : Nat) : Int) ≤ 1000 ∧ 1 ≤ (Str.ofString "v").length ∧ (Str.ofString "v").length ≤ 1000 := ⟨by omega, by omega, hv.1, hv.2⟩
      show (if (0 : Int) ≤ ((s % 4 : Nat) : Int) ∧ ((s % 4 : Nat) : Int) ≤ 1000 ∧ 1 ≤ (Str.ofString "v").length ∧ (Str.ofString "v").length ≤ 1000 then R.ok (D.str (repS "v" (((s % 4 : Nat) : Int)).toNat)) st else .stuck) = _
      rw [if_pos this, Int.toNat_natCast]
    have hz : (⟨#[abc.cps.toList.getD ((s + 7 * k) % 26) 0]⟩ : Str).length + (repS "v" (s % 4)).length ≤ sizeLine := by
      have : ∀ q, q < 4 → (repS "v" q).length ≤ 3 := by decide +kernel
      have := this _ h4
      have h1 : (⟨#[abc.cps.toList.getD ((s + 7 * k) % 26) 0]⟩ : Str).length = 1 := rfl
      rw [sizeLine_eq, h1]; omega
    have m7 : dMulX (.int 7) (.int (k : Int)) st = .ok (.int (7 * k)) st := by simp [dMulX, dMul]
    simp [mBin, mVar, mC, wipeE, R.bind, mApp, mCons, mNil, m7, dAdd, rd, dInt, dMod, dIx, hx, ha, hr, hz, n2]
    simpa using hz
  unfold mLc
  rw [rng rfl hn]
  simp only [R.bind, e, List.map_map]
  rfl
end
theorem perm_strs {ys : List D} {ns : List Str} (h : ys.Perm (ns.map D.str)) : ∃ ms : List Str, ys = ms.map D.str ∧ ms.Perm ns := by
  refine ⟨ys.map sOf, ?_, ?_⟩
  · have : ∀ y ∈ ys, y = .str (sOf y) := fun y hy => by
      obtain ⟨x, _, rfl⟩ := List.mem_map.mp (h.mem_iff.mp hy)
      rfl
    rw [List.map_map]
    conv => lhs; rw [← List.map_id ys]
    exact List.map_congr_left fun y hy => this y hy
  · have := h.map sOf
    rw [List.map_map] at this
    have e : (sOf ∘ D.str) = id := funext fun x => rfl
    rw [e, List.map_id] at this
    exact this
theorem Nms.perm {ns ms : List Str} {n : Nat} (h : Nms ns n) (p : ms.Perm ns) : Nms ms n := ⟨⟨p.length_eq.trans h.len, fun x hx => h.nm x (p.mem_iff.mp hx), p.symm.nodup h.nd⟩, fun x hx => h.nz x (p.mem_iff.mp hx)⟩
theorem names_head {i n fm s : Nat} {st st1 st2 : Sto} (e1 : f__law_take [.ptr i, .int 3] st = .ok (.int fm) st1) (e2 : f__law_take [.ptr i, .int 26] st1 = .ok (.int s) st2) : m__law_names [some (.ptr i), some (.int n), none, none, none, none, none] st = p__law_names_3 [some (.ptr i), some (.int n), some (.lst (w12.map D.str)), some (.str abc), some (.int fm), some (.int s), none] st2 := by
  simp [m__law_names, mSeq, mSet, mLst, mCons, mNil, mC, R.bind, sizeLine_eq, mAsg, mTup, mCall, mVar, e1, e2, Tg.at, Tg.ats, items, rd, w12, abc]
section
variable {i n s : Nat} {fm : Nat} {st : Sto}
abbrev nenv (i n s fm : Nat) : S.Env := [some (.ptr i), some (.int n), some (.lst (w12.map D.str)), some (.str abc), some (.int fm), some (.int s), none]
theorem t_0 : mTest (mBin dEq (mVar 4) (mC (.int 0))) (nenv i n s fm) st = .ok (decide ((fm : Int) = 0)) st := by
  simp [mTest, mBin, mVar, mC, R.bind, dEq, eqD, isFl, fl, scal]
theorem t_1 : mAndB (mTest (mBin dEq (mVar 4) (mC (.int 1)))) (mTest (mBin dLt (mVar 1) (mC (.int 5)))) (nenv i n s fm) st = .ok (decide ((fm : Int) = 1) && decide ((n : Int) < 5)) st := by
  by_cases c1 : (fm : Int) = 1
  · simp [mAndB, mTest, mBin, mVar, mC, R.bind, dEq, eqD, isFl, fl, scal, dLt, c1]
  · simp [mAndB, mTest, mBin, mVar, mC, R.bind, dEq, eqD, isFl, fl, scal, dLt, c1]
theorem s_3 (hn : n ≤ 1000) (h : (fm : Int) = 0) : p__law_names_3 (nenv i n s fm) st = .rt (.lst (((List.range n).map (n0 s)).map D.str)) st := by
  unfold p__law_names_3
  exact seq_if_rt (t_0.trans (by rw [decide_eq_true h])) (ret_ok (nm0 hn))
theorem s_32 (h : ¬ (fm : Int) = 0) : p__law_names_3 (nenv i n s fm) st = p__law_names_2 (nenv i n s fm) st := by
  unfold p__law_names_3
  exact seq_if_f (t_0.trans (by rw [decide_eq_false h]))
theorem s_2 {ys : List D} {st3 : Sto} (hn : n ≤ 4) (h : (fm : Int) = 1) (e3 : f__law_mixed [.ptr i, .lst (((List.range n).map n1).map D.str)] st = .ok (.lst ys) st3) : p__law_names_2 (nenv i n s fm) st = .rt (.lst ys) st3 := by
  have hv : mVar 0 (nenv i n s fm) st = .ok (.ptr i) st := rfl
  have hc : mCall 2 f__law_mixed [] (mCons (mVar 0) (mCons (mLc (.nm 6) [6] (mItRange (mCons (mVar 1) (mNil))) (mYes) (mSl (mC (.str "tttt")) (mNoPart) (mPart (mBin dAdd (mVar 6) (mC (.int 1)))))) (mNil))) (nenv i n s fm) st = .ok (.lst ys) st3 := by
    exact call_ok (cons_ok hv (cons_ok (nm1 hn) nil_ok)) rfl e3
  unfold p__law_names_2
  exact seq_if_rt (t_1.trans (by rw [decide_eq_true h, decide_eq_true (show (n : Int) < 5 by omega)]; rfl)) (ret_ok hc)
theorem s_21 (h : ¬ ((fm : Int) = 1 ∧ (n : Int) < 5)) : p__law_names_2 (nenv i n s fm) st = p__law_names_1 (nenv i n s fm) st := by
  have e : (decide ((fm : Int) = 1) && decide ((n : Int) < 5)) = false := by
    rw [← Bool.decide_and]; exact decide_eq_false h
  unfold p__law_names_2
  exact seq_if_f (t_1.trans (by rw [e]))
theorem s_1 (hn : n ≤ 1000) : p__law_names_1 (nenv i n s fm) st = .rt (.lst (((List.range n).map (n2 s)).map D.str)) st := by
  unfold p__law_names_1
  exact ret_ok (nm2 hn)
end
theorem names_ok {st : Sto} {i n : Nat} (h : Box st i) (hn : n ≤ 7) : ∃ ns st', f__law_names [.ptr i, .int n] st = .ok (.lst (ns.map D.str)) st' ∧ Nms ns n ∧ Drawn i st st' := by
  obtain ⟨fm, st1, f1, e1, D1⟩ := take_d (many := 3) h (by decide) (by decide)
  obtain ⟨s, st2, s1, e2, D2⟩ := take_d (many := 26) D1.box (by decide) (by decide)
  have hi := h.lt
  have D12 := D1.trans D2
  have head := names_head (n := n) e1 e2
  have fin : ∀ {ns : List Str} {st3 : Sto}, Nms ns n → Drawn i st st3 → p__law_names_3 (nenv i n s fm) st2 = .rt (.lst (ns.map D.str)) st3 →
      ∃ ns st', f__law_names [.ptr i, .int n] st = .ok (.lst (ns.map D.str)) st' ∧ Nms ns n ∧ Drawn i st st' := fun {ns st3} hn D3 e => by
    obtain ⟨st4, e4, D4⟩ := D3.gc (d := .lst (ns.map D.str)) hi
    refine ⟨ns, st4, ?_, hn, D4⟩
    rw [← e4]
    exact call_at rfl (head.trans e) (fun _ h => by cases h)
  have hs : s < 26 := by omega
  by_cases q0 : (fm : Int) = 0
  · exact fin (nms_of (ok0 hs hn) (by simp)) D12 (s_3 (by omega) q0)
  · by_cases q1 : (fm : Int) = 1 ∧ (n : Int) < 5
    · obtain ⟨ys, st3, e3, p3, D3⟩ := mixed_ok (xs := ((List.range n).map n1).map D.str) D2.box (by simp; omega)
      obtain ⟨ms, rfl, pm⟩ := perm_strs p3
      exact fin (Nms.perm (nms_of (ok1 (by omega)) (by simp)) pm) (D12.trans D3) ((s_32 q0).trans (s_2 (by omega) q1.1 e3))
    · exact fin (nms_of (ok2 hs hn) (by simp)) D12 ((s_32 q0).trans ((s_21 q1).trans (s_1 (by omega))))
end K
namespace K
open PySem L2 S
/-! ### drawn rows -/
/-- pools of names -/
structure Pool (P : D) (pl : Str → List Str) : Prop where
  get : ∀ w ∈ [Str.ofString "mark", Str.ofString "kind", Str.ofString "mood", Str.ofString "service", Str.ofString "sign"], ∀ st, dGetK P (.str w) st = .ok (.lst ((pl w).map D.str)) st
  ne : ∀ w ∈ [Str.ofString "mark", Str.ofString "kind", Str.ofString "mood", Str.ofString "service", Str.ofString "sign"], pl w ≠ []
  len : ∀ w ∈ [Str.ofString "mark", Str.ofString "kind", Str.ofString "mood", Str.ofString "service", Str.ofString "sign"], (pl w).length < 1000
/-- which pool serves -/
def pw (w : Str) : Str := if w = Str.ofString "then" then Str.ofString "mood" else w
def isO (w : Str) : Bool := decide (w ∈ [Str.ofString "outcome", Str.ofString "part"])
def Fits (pl : Str → List Str) (p : Str × List Str) (x : Str) : Prop := x ∈ p.2 ∨ (isO p.1 = false ∧ x ∈ pl (pw p.1))
/-- a place of a row whose words can be drawn -/
def Can (p : Str × List Str) : Prop := p.2.length < 1000 ∧ (isO p.1 = true ∧ p.2 ≠ [] ∨ isO p.1 = false ∧ pw p.1 ∈ [Str.ofString "mark", Str.ofString "kind", Str.ofString "mood", Str.ofString "service", Str.ofString "sign"])
section
variable {P : D} {pl : Str → List Str} {i f : Nat} {srt : Option D} {w : Str} {ws : List Str} {a6 a7 : Option D} {st : Sto}
theorem dr_names_o (h : isO w = true) : mIf (mTest (mBin dNotIn (mVar 4) (mTup (mCons (mC (.str "outcome")) (mCons (mC (.str "part")) (mNil)))))) (mBin dGetK (mVar 2) (mIf (mTest (mBin dEq (mVar 4) (mC (.str "then")))) (mC (.str "mood")) (mVar 4))) (mLst (mNil)) [some (.ptr i), srt, some P, some (.ptr f), some (.str w), some (.lst (ws.map D.str)), a6, a7] st = .ok (.lst []) st := by
  have e : dNotIn (.str w) (.tup [.str "outcome", .str "part"]) st = .ok (.bl (!isO w)) st := by
    have := inV_strs (x := w) (ws := [Str.ofString "outcome", Str.ofString "part"])
    simp only [List.map_cons, List.map_nil] at this
    simp [dNotIn, items, rd, isFl, fl, this, isO]
  simp [mIf, mTest, mBin, mVar, mTup, mCons, mC, mNil, R.bind, sizeLine_eq, e, h, mLst]
theorem dr_names_p (hP : Pool P pl) (h : isO w = false) (hw : pw w ∈ [Str.ofString "mark", Str.ofString "kind", Str.ofString "mood", Str.ofString "service", Str.ofString "sign"]) : mIf (mTest (mBin dNotIn (mVar 4) (mTup (mCons (mC (.str "outcome")) (mCons (mC (.str "part")) (mNil)))))) (mBin dGetK (mVar 2) (mIf (mTest (mBin dEq (mVar 4) (mC (.str "then")))) (mC (.str "mood")) (mVar 4))) (mLst (mNil)) [some (.ptr i), srt, some P, some (.ptr f), some (.str w), some (.lst (ws.map D.str)), a6, a7] st = .ok (.lst ((pl (pw w)).map D.str)) st := by
  have e : dNotIn (.str w) (.tup [.str "outcome", .str "part"]) st = .ok (.bl (!isO w)) st := by
    have := inV_strs (x := w) (ws := [Str.ofString "outcome", Str.ofString "part"])
    simp only [List.map_cons, List.map_nil] at this
    simp [dNotIn, items, rd, isFl, fl, this, isO]
  have e2 : mIf (mTest (mBin dEq (mVar 4) (mC (.str "then")))) (mC (.str "mood")) (mVar 4) [some (.ptr i), srt, some P, some (.ptr f), some (.str w), some (.lst (ws.map D.str)), a6, a7] st = .ok (.str (pw w)) st := by
    unfold pw
    by_cases q : w = Str.ofString "then"
    · simp [mIf, mTest, mBin, mVar, mC, R.bind, eq_strs, q]
    · simp [mIf, mTest, mBin, mVar, mC, R.bind, eq_strs, q]
  have e3 := hP.get _ hw st
  have e4 : mBin dGetK (mVar 2) (mIf (mTest (mBin dEq (mVar 4) (mC (.str "then")))) (mC (.str "mood")) (mVar 4)) [some (.ptr i), srt, some P, some (.ptr f), some (.str w), some (.lst (ws.map D.str)), a6, a7] st = .ok (.lst ((pl (pw w)).map D.str)) st := (bin_ok rfl e2).trans e3
  have t : mTest (mBin dNotIn (mVar 4) (mTup (mCons (mC (.str "outcome")) (mCons (mC (.str "part")) (mNil))))) [some (.ptr i), srt, some P, some (.ptr f), some (.str w), some (.lst (ws.map D.str)), a6, a7] st = .ok true st := by
    simp [mTest, mBin, mVar, mTup, mCons, mC, mNil, R.bind, sizeLine_eq, e, h]
  unfold mIf
  rw [t]
  exact e4
/-- which words are near -/
theorem dr_near {ns : List Str} (h : Box st i) : ∃ near st', mIf (mOrB (mTest (mBin dEqL (mVar 6) (mLst (mNil)))) (mAndB (mTest (mBin dNeL (mVar 5) (mLst (mNil)))) (mTest (mBin dEq (mCall 2 f__law_take [] (mCons (mVar 0) (mCons (mC (.int 3)) (mNil)))) (mC (.int 0)))))) (mVar 5) (mVar 6) [some (.ptr i), srt, some P, some (.ptr f), some (.str w), some (.lst (ws.map D.str)), some (.lst (ns.map D.str)), a7] st = .ok (.lst (near.map D.str)) st' ∧ Drawn i st st' ∧ (near = ws ∧ (ns = [] ∨ ws ≠ []) ∨ near = ns ∧ ns ≠ []) := by
  cases ns with
  | nil => exact ⟨ws, st, by simp [mIf, mOrB, mTest, mBin, mVar, mLst, mNil, R.bind, eqL_nil], Drawn.refl h, .inl ⟨rfl, .inl rfl⟩⟩
  | cons n ns =>
    cases ws with
    | nil => exact ⟨n :: ns, st, by simp [mIf, mOrB, mTest, mBin, mVar, mLst, mNil, R.bind, eqL_nil, mAndB, neL_nil], Drawn.refl h, .inr ⟨rfl, by simp⟩⟩
    | cons x ws =>
      obtain ⟨r, st1, r1, e, D1⟩ := take_d (many := 3) h (by decide) (by decide)
      by_cases q : r = 0
      · exact ⟨x :: ws, st1, by simp [mIf, mOrB, mTest, mBin, mVar, mLst, mNil, R.bind, eqL_nil, mAndB, neL_nil, mCall, mCons, mC, e, dEq, eqD, isFl, fl, scal, q], D1, .inl ⟨rfl, .inr (by simp)⟩⟩
      · exact ⟨n :: ns, st1, by simp [mIf, mOrB, mTest, mBin, mVar, mLst, mNil, R.bind, eqL_nil, mAndB, neL_nil, mCall, mCons, mC, e, dEq, eqD, isFl, fl, scal, q], D1, .inr ⟨rfl, by simp⟩⟩
end
theorem dr_it {P : D} {pl : Str → List Str} {i : Nat} {srt : Option D} {p : Str × List Str} {a6 a7 : Option D} {st0 st : Sto} {acc : List D} (hP : Pool P pl) (hc : Can p) (hi : i < st0.length) (hD : Drawn i st0 st) (hf : st[st0.length]? = some (.lst acc)) (ha : acc.length < 1000) :
    ∃ x b6 b7 st', p__law_drawn_row_1 [some (.ptr i), srt, some P, some (.ptr st0.length), some (.str p.1), some (.lst (p.2.map D.str)), a6, a7] st = .nx [some (.ptr i), srt, some P, some (.ptr st0.length), some (.str p.1), some (.lst (p.2.map D.str)), b6, b7] st' ∧ Drawn i st0 st' ∧ st'[st0.length]? = some (.lst (acc ++ [.str x])) ∧ Fits pl p x := by
  obtain ⟨w, ws⟩ := p
  obtain ⟨hl, hc⟩ := hc
  have hft : st0.length < st.length := (List.getElem?_eq_some_iff.mp hf).1
  have hz : acc.length < sizeLine := by rw [sizeLine_eq]; omega
  have go : ∀ (ns : List Str), mIf (mTest (mBin dNotIn (mVar 4) (mTup (mCons (mC (.str "outcome")) (mCons (mC (.str "part")) (mNil)))))) (mBin dGetK (mVar 2) (mIf (mTest (mBin dEq (mVar 4) (mC (.str "then")))) (mC (.str "mood")) (mVar 4))) (mLst (mNil)) [some (.ptr i), srt, some P, some (.ptr st0.length), some (.str w), some (.lst (ws.map D.str)), a6, a7] st = .ok (.lst (ns.map D.str)) st →
      (∀ near, (near = ws ∧ (ns = [] ∨ ws ≠ []) ∨ near = ns ∧ ns ≠ []) → near ≠ [] ∧ near.length < 1000 ∧ ∀ x ∈ near, Fits pl (w, ws) x) →
      ∃ x b6 b7 st', p__law_drawn_row_1 [some (.ptr i), srt, some P, some (.ptr st0.length), some (.str w), some (.lst (ws.map D.str)), a6, a7] st = .nx [some (.ptr i), srt, some P, some (.ptr st0.length), some (.str w), some (.lst (ws.map D.str)), b6, b7] st' ∧ Drawn i st0 st' ∧ st'[st0.length]? = some (.lst (acc ++ [.str x])) ∧ Fits pl (w, ws) x := fun ns e1 hn => by
    obtain ⟨near, st1, e2, D1, q⟩ := dr_near (P := P) (f := st0.length) (srt := srt) (w := w) (ws := ws) (a7 := a7) (ns := ns) hD.box
    obtain ⟨n1, n2, n3⟩ := hn near q
    obtain ⟨x, st2, m, e3, D2⟩ := pick_s (ws := near) D1.box n1 n2
    have D3 := D1.trans D2
    have hf2 : st2[st0.length]? = some (.lst acc) := (D3.off _ hft (by omega)).trans hf
    refine ⟨x, some (.lst (ns.map D.str)), some (.lst (near.map D.str)), st2.set st0.length (.lst (acc ++ [.str x])), ?_, (hD.trans D3).put (Nat.le_refl _) hi, st_same hf2, n3 x m⟩
    unfold p__law_drawn_row_1
    rw [seq_nx (set_ok e1)]
    show mSeq _ _ [some (.ptr i), srt, some P, some (.ptr st0.length), some (.str w), some (.lst (ws.map D.str)), some (.lst (ns.map D.str)), a7] st = _
    rw [seq_nx (set_ok e2)]
    show mDo _ [some (.ptr i), srt, some P, some (.ptr st0.length), some (.str w), some (.lst (ws.map D.str)), some (.lst (ns.map D.str)), some (.lst (near.map D.str))] st1 = _
    refine do_ok (d := .non) ?_
    have hf1 : st1[st0.length]? = some (.lst acc) := (D1.off _ hft (by omega)).trans hf
    simp [mLm, mVar, R.bind, isLst, rd, hf1, mCons, mCall, mNil, e3, dAppend, hf2, hz]
  rcases hc with ⟨h1, h2⟩ | ⟨h1, h2⟩
  · refine go [] (dr_names_o h1) fun near q => ?_
    rcases q with ⟨rfl, _⟩ | ⟨_, q⟩
    · exact ⟨h2, hl, fun x hx => .inl hx⟩
    · exact absurd rfl q
  · refine go (pl (pw w)) (dr_names_p hP h1 h2) fun near q => ?_
    rcases q with ⟨rfl, q | q⟩ | ⟨rfl, q⟩
    · exact absurd q (hP.ne _ h2)
    · exact ⟨q, hl, fun x hx => .inl hx⟩
    · exact ⟨q, hP.len _ h2, fun x hx => .inr ⟨h1, hx⟩⟩
theorem dr_loop {P : D} {pl : Str → List Str} {i : Nat} {srt : Option D} {st0 : Sto} (hP : Pool P pl) (hi : i < st0.length) : ∀ (l : List (Str × List Str)) (a4 a5 a6 a7 : Option D) (st : Sto) (acc : List D), (∀ p ∈ l, Can p) → Drawn i st0 st → st[st0.length]? = some (.lst acc) → acc.length + l.length < 1000 →
    ∃ xs env st', mForGo (.tp [.nm 4, .nm 5]) p__law_drawn_row_1 (l.map fun p => pr p.1 p.2) [some (.ptr i), srt, some P, some (.ptr st0.length), a4, a5, a6, a7] st = .nx ([some (.ptr i), srt, some P, some (.ptr st0.length)] ++ env) st' ∧ Drawn i st0 st' ∧ st'[st0.length]? = some (.lst (acc ++ xs.map D.str)) ∧ All2 (Fits pl) l xs
  | [], a4, a5, a6, a7, st, acc, _, hD, hf, _ => ⟨[], [a4, a5, a6, a7], st, rfl, hD, by simpa using hf, .nil⟩
  | p :: l, a4, a5, a6, a7, st, acc, hc, hD, hf, hl => by
    obtain ⟨x, b6, b7, st1, e1, D1, f1, q1⟩ := dr_it (srt := srt) (a6 := a6) (a7 := a7) hP (hc p (.head _)) hi hD hf (by simp at hl; omega)
    obtain ⟨xs, env, st2, e2, D2, f2, q2⟩ := dr_loop hP hi l (some (.str p.1)) (some (.lst (p.2.map D.str))) b6 b7 st1 (acc ++ [.str x]) (fun z hz => hc z (.tail _ hz)) D1 f1 (by simp at hl ⊢; omega)
    refine ⟨x :: xs, env, st2, ?_, D2, by simpa using f2, .cons q1 q2⟩
    rw [← e2]
    show (match p__law_drawn_row_1 [some (.ptr i), srt, some P, some (.ptr st0.length), some (.str p.1), some (.lst (p.2.map D.str)), a6, a7] st with
      | .nx env2 st2 => mForGo (.tp [.nm 4, .nm 5]) p__law_drawn_row_1 (l.map fun (p : Str × List Str) => pr p.1 p.2) env2 st2
      | .ct env2 st2 => mForGo (.tp [.nm 4, .nm 5]) p__law_drawn_row_1 (l.map fun (p : Str × List Str) => pr p.1 p.2) env2 st2
      | .bk env2 st2 => .nx env2 st2
      | r => r) = _
    rw [e1]
inductive SortW : Str → List (Str × List Str) → Prop
  | b : SortW "begin" wB
  | s : SortW "send" wS
  | k : SortW "back" wK
  | e : SortW "end" wE
theorem can_all {sort : Str} {l : List (Str × List Str)} (h : SortW sort l) : (∀ p ∈ l, Can p) ∧ l.length < 10 := by
  have c : ∀ {p : Str × List Str}, (decide (p.2.length < 1000) && (isO p.1 && !p.2.isEmpty || !isO p.1 && decide (pw p.1 ∈ [Str.ofString "mark", Str.ofString "kind", Str.ofString "mood", Str.ofString "service", Str.ofString "sign"]))) = true → Can p := fun {p} h => by
    simp only [Bool.and_eq_true, decide_eq_true_eq, Bool.or_eq_true, Bool.not_eq_true'] at h
    exact ⟨h.1, h.2.imp (fun q => ⟨q.1, by intro z; rw [z] at q; simp at q⟩) id⟩
  have d : ∀ {l : List (Str × List Str)}, (l.all fun p => decide (p.2.length < 1000) && (isO p.1 && !p.2.isEmpty || !isO p.1 && decide (pw p.1 ∈ [Str.ofString "mark", Str.ofString "kind", Str.ofString "mood", Str.ofString "service", Str.ofString "sign"]))) = true → ∀ p ∈ l, Can p := fun {l} h p hp => c (List.all_eq_true.mp h p hp)
  cases h <;> exact ⟨d (by kernel_rfl), by decide⟩
theorem words_t {sort : Str} {l : List (Str × List Str)} {st : Sto} (h : SortW sort l) : f__law_words [.tup [.str sort]] st = .ok (prs l) st := by
  cases h <;> kernel_rfl
theorem drawn_ok {P : D} {pl : Str → List Str} {i : Nat} {sort : Str} {l : List (Str × List Str)} {st : Sto} (h : Box st i) (hP : Pool P pl) (hs : SortW sort l) : ∃ xs st', f__law_drawn_row [.ptr i, .str sort, P] st = .ok (.tup (.str sort :: xs.map D.str)) st' ∧ Drawn i st st' ∧ All2 (Fits pl) l xs := by
  have hi := h.lt
  obtain ⟨hc, hl⟩ := can_all hs
  obtain ⟨xs, env, st1, e1, D1, f1, q⟩ := dr_loop (srt := some (.str sort)) hP hi l none none none none (st ++ [.lst [.str sort]]) [.str sort] hc (Drawn.app h) (by simp) (by simp; omega)
  obtain ⟨st2, e2, D2⟩ := D1.gc (d := .tup (.str sort :: xs.map D.str)) hi
  refine ⟨xs, st2, ?_, D2, q⟩
  rw [← e2]
  refine call_at rfl ?_ (fun _ h => by cases h)
  show m__law_drawn_row [some (.ptr i), some (.str sort), some P, none, none, none, none, none] st = _
  unfold m__law_drawn_row
  rw [seq_nx (set_ok (d := .ptr st.length) (st' := st ++ [.lst [.str sort]]) (by simp [mLstC, mCons, mVar, mNil, R.bind, sizeLine_eq]))]
  show mSeq _ _ [some (.ptr i), some (.str sort), some P, some (.ptr st.length), none, none, none, none] _ = _
  have hit : mItAny (mCall 1 f__law_words [] (mCons (mTup (mCons (mVar 1) mNil)) mNil)) [some (.ptr i), some (.str sort), some P, some (.ptr st.length), none, none, none, none] (st ++ [.lst [.str sort]]) = .ok (l.map fun p => pr p.1 p.2) (st ++ [.lst [.str sort]]) := by
    simp [mItAny, mCall, mCons, mTup, mVar, mNil, R.bind, sizeLine_eq, words_t hs, prs, itemsF]
  refine (seq_nx (env' := [some (.ptr i), some (.str sort), some P, some (.ptr st.length)] ++ env) (st' := st1) ?_).trans ?_
  · unfold mFor
    rw [hit]
    exact e1
  · refine ret_ok ?_
    simp [mApp, mCons, mVar, mNil, R.bind, dTuple, items, rd, f1]
end K
namespace K
open PySem L2 S
/-! ### words of small letters -/
def low (x : Str) : Bool := x.cps.toList.all (fun c => decide (c ∈ lets)) && (decide (x.length ≤ 10) && decide (1 ≤ x.length))
theorem low_name {x : Str} (h : isName x = true) : low x = true := by
  unfold isName at h
  unfold low
  simp only [Bool.and_eq_true, decide_eq_true_eq] at h ⊢
  exact ⟨h.2.2.2, by omega, h.1⟩
theorem low_len {x : Str} (h : low x = true) : x.length ≤ 10 := by
  unfold low at h
  simp only [Bool.and_eq_true, decide_eq_true_eq] at h
  exact h.2.1
theorem lets_ok : (lets.all fun c => decide (c < 0x110000)) = true := by decide +kernel
theorem low_ok {x : Str} (h : low x = true) : PyData.strOk x = true := by
  unfold low at h
  rw [Bool.and_eq_true] at h
  unfold PyData.strOk
  rw [← Array.all_toList]
  refine List.all_eq_true.mpr fun c hc => ?_
  have := List.all_eq_true.mp h.1 c hc
  exact List.all_eq_true.mp lets_ok c (of_decide_eq_true this)
theorem low_va {x : Str} (h : low x = true) : Va (.str x) := ⟨⟨.str x, rfl, low_ok h, Nat.zero_le _⟩, rfl, fun y e => by cases e; exact low_len h⟩
theorem low_nin {x : Str} {c : Nat} (h : low x = true) (hc : decide (c ∈ lets) = false) : c ∉ TL.tl x := by
  intro hm
  unfold low at h
  rw [Bool.and_eq_true] at h
  have := List.all_eq_true.mp h.1 c hm
  rw [hc] at this
  cases this
/-! ### rows -/
def wok (p : Str × List Str) (x : Str) : Bool := decide (x ∈ p.2) || (!isO p.1 && isName x)
/-- a row by its sort and its words -/
structure RowOk (r : Str × List Str) : Prop where
  ex : ∃ l, SortW r.1 l ∧ All2 (fun p x => wok p x = true) l r.2
def lowL (l : List (Str × List Str)) : Bool := l.all fun p => p.2.all low
theorem lowL_ok {sort : Str} {l : List (Str × List Str)} (h : SortW sort l) : low sort = true ∧ ∀ p ∈ l, ∀ x ∈ p.2, low x = true := by
  have d : ∀ {l : List (Str × List Str)}, lowL l = true → ∀ p ∈ l, ∀ x ∈ p.2, low x = true := fun {l} h p hp x hx => List.all_eq_true.mp (List.all_eq_true.mp h p hp) x hx
  cases h <;> exact ⟨by decide +kernel, d (by kernel_rfl)⟩
theorem all_low {l : List (Str × List Str)} {xs : List Str} (h : All2 (fun p x => wok p x = true) l xs) (h1 : ∀ p ∈ l, ∀ x ∈ p.2, low x = true) : ∀ x ∈ xs, low x = true := by
  induction h with
  | nil => intro x hx; simp at hx
  | cons p _ ih =>
    intro x hx
    rcases List.mem_cons.mp hx with rfl | hx
    · unfold wok at p
      rw [Bool.or_eq_true, Bool.and_eq_true, decide_eq_true_eq] at p
      rcases p with p | ⟨_, p⟩
      · exact h1 _ (.head _) _ p
      · exact low_name p
    · exact ih (fun q hq => h1 q (.tail _ hq)) x hx
theorem RowOk.low {r : Str × List Str} (h : RowOk r) : ∀ x ∈ r.1 :: r.2, K.low x = true := by
  obtain ⟨l, hs, ha⟩ := h.ex
  have q := lowL_ok hs
  intro x hx
  rcases List.mem_cons.mp hx with rfl | hx
  · exact q.1
  · exact all_low ha q.2 x hx
def rt (r : Str × List Str) : Str := Txt.join " " (r.1 :: r.2)
def rowC (sort : Str) : Nat := if sort = Str.ofString "begin" then 1 else if sort = Str.ofString "send" then 2 else if sort = Str.ofString "back" then 3 else 4
def rowN (sort : Str) : List Str := if sort = Str.ofString "begin" then ["mark", "kind", "mood", "text"] else if sort = Str.ofString "send" then ["mood", "service", "mark", "text"] else if sort = Str.ofString "back" then ["mood", "service", "sign", "then", "text"] else ["mood", "outcome", "sign", "part", "text"]
def rowD (r : Str × List Str) : D := .ins (rowC r.1) (rowN r.1) (r.2.map D.str ++ [.str (rt r)])
theorem cat4 {s a b c : Str} {s' : Str} (h : s' = s ++ Str.ofString " ") : cat [s', a, Str.ofString " ", b, Str.ofString " ", c] = rt (s, [a, b, c]) := by
  subst h
  show _ = Txt.join (Str.ofString " ") [s, a, b, c]
  rw [TL.join_eq]
  show Str.empty ++ (s ++ Str.ofString " ") ++ a ++ Str.ofString " " ++ b ++ Str.ofString " " ++ c = s ++ Str.ofString " " ++ (a ++ Str.ofString " " ++ (b ++ Str.ofString " " ++ c))
  rw [str_emp]
  simp only [str_assoc]
theorem cat5 {s a b c d : Str} {s' : Str} (h : s' = s ++ Str.ofString " ") : cat [s', a, Str.ofString " ", b, Str.ofString " ", c, Str.ofString " ", d] = rt (s, [a, b, c, d]) := by
  subst h
  show _ = Txt.join (Str.ofString " ") [s, a, b, c, d]
  rw [TL.join_eq]
  show Str.empty ++ (s ++ Str.ofString " ") ++ a ++ Str.ofString " " ++ b ++ Str.ofString " " ++ c ++ Str.ofString " " ++ d = s ++ Str.ofString " " ++ (a ++ Str.ofString " " ++ (b ++ Str.ofString " " ++ (c ++ Str.ofString " " ++ d)))
  rw [str_emp]
  simp only [str_assoc]
theorem wok_n {w : Str} {ws : List Str} {x : Str} (h : wok (w, ws) x = true) : (isNameD (.str x) || inD (.str x) ws) = true := by
  unfold wok at h
  simp only [Bool.or_eq_true, Bool.and_eq_true] at h ⊢
  exact h.elim .inr fun q => .inl q.2
theorem wok_0 {w : Str} {x : Str} (h : wok (w, []) x = true) : isNameD (.str x) = true := by
  unfold wok at h
  simp at h
  exact h.2
theorem wok_o {w : Str} {ws : List Str} {x : Str} (hw : isO w = true) (h : wok (w, ws) x = true) : inD (.str x) ws = true := by
  unfold wok at h
  rw [hw] at h
  simpa [inD] using h
theorem sb_begin {a b c : Str} {st : Sto} (h1 : wok ("mark", ["none", "any"]) a = true) (h2 : wok ("kind", ["any"]) b = true) (h3 : wok ("mood", []) c = true) (ha : low a = true) (hb : low b = true) (hc : low c = true) : pur (dNewF 1 4 f_Begin_init) [.str a, .str b, .str c] st = .ok (rowD ("begin", [a, b, c])) st := by
  have va := low_va ha; have vb := low_va hb; have vc := low_va hc
  have e : rowD ("begin", [a, b, c]) = .ins 1 ["mark", "kind", "mood", "text"] [.str a, .str b, .str c, .str (rt ("begin", [a, b, c]))] := by simp [rowD, rowC, rowN, str_eq]
  have run : m_Begin_init [some (.ptr 0), some (.str a), some (.str b), some (.str c)] [.ins 1 [] []] = .nx [some (.ptr 0), some (.str a), some (.str b), some (.str c)] [.ins 1 ["mark", "kind", "mood", "text"] [.str a, .str b, .str c, .str (rt ("begin", [a, b, c]))]] := by
    unfold m_Begin_init
    rw [seq_need ((e_mark va rfl).trans (by rw [wok_n h1])), seq_need ((e_word1 vb rfl).trans (by rw [wok_n h2])), seq_need ((e_name vc rfl).trans (by rw [wok_0 h3])), begin_made (low_len ha) (low_len hb) (low_len hc), cat4 (s := "begin") (by decide +kernel)]
  rw [e]
  exact new_nx rfl rfl run rfl
theorem sb_send {a b c : Str} {st : Sto} (h1 : wok ("mood", ["any"]) a = true) (h2 : wok ("service", ["any"]) b = true) (h3 : wok ("mark", ["none", "same"]) c = true) (ha : low a = true) (hb : low b = true) (hc : low c = true) : pur (dNewF 2 4 f_Send_init) [.str a, .str b, .str c] st = .ok (rowD ("send", [a, b, c])) st := by
  have va := low_va ha; have vb := low_va hb; have vc := low_va hc
  have e : rowD ("send", [a, b, c]) = .ins 2 ["mood", "service", "mark", "text"] [.str a, .str b, .str c, .str (rt ("send", [a, b, c]))] := by simp [rowD, rowC, rowN, str_eq]
  have run : m_Send_init [some (.ptr 0), some (.str a), some (.str b), some (.str c)] [.ins 2 [] []] = .nx [some (.ptr 0), some (.str a), some (.str b), some (.str c)] [.ins 2 ["mood", "service", "mark", "text"] [.str a, .str b, .str c, .str (rt ("send", [a, b, c]))]] := by
    unfold m_Send_init
    rw [seq_need ((e_word1 va rfl).trans (by rw [wok_n h1])), seq_need ((e_word1 vb rfl).trans (by rw [wok_n h2])), seq_need ((e_word2 vc rfl).trans (by rw [wok_n h3])), send_made (low_len ha) (low_len hb) (low_len hc), cat4 (s := "send") (by decide +kernel)]
  rw [e]
  exact new_nx rfl rfl run rfl
theorem sb_back {a b c d : Str} {st : Sto} (h1 : wok ("mood", ["any"]) a = true) (h2 : wok ("service", ["any"]) b = true) (h3 : wok ("sign", ["none", "any"]) c = true) (h4 : wok ("then", ["same"]) d = true) (ha : low a = true) (hb : low b = true) (hc : low c = true) (hd : low d = true) : pur (dNewF 3 5 f_Back_init) [.str a, .str b, .str c, .str d] st = .ok (rowD ("back", [a, b, c, d])) st := by
  have va := low_va ha; have vb := low_va hb; have vc := low_va hc; have vd := low_va hd
  have e : rowD ("back", [a, b, c, d]) = .ins 3 ["mood", "service", "sign", "then", "text"] [.str a, .str b, .str c, .str d, .str (rt ("back", [a, b, c, d]))] := by simp [rowD, rowC, rowN, str_eq]
  have run : m_Back_init [some (.ptr 0), some (.str a), some (.str b), some (.str c), some (.str d)] [.ins 3 [] []] = .nx [some (.ptr 0), some (.str a), some (.str b), some (.str c), some (.str d)] [.ins 3 ["mood", "service", "sign", "then", "text"] [.str a, .str b, .str c, .str d, .str (rt ("back", [a, b, c, d]))]] := by
    unfold m_Back_init
    rw [seq_need ((e_word1 va rfl).trans (by rw [wok_n h1])), seq_need ((e_word1 vb rfl).trans (by rw [wok_n h2])), seq_need ((e_word2 vc rfl).trans (by rw [wok_n h3])), seq_need ((e_word1 vd rfl).trans (by rw [wok_n h4])), back_made (low_len ha) (low_len hb) (low_len hc) (low_len hd), cat5 (s := "back") (by decide +kernel)]
  rw [e]
  exact new_nx rfl rfl run rfl
theorem sb_end {a b c d : Str} {st : Sto} (h1 : wok ("mood", ["any"]) a = true) (h2 : wok ("outcome", ["good", "bad", "any"]) b = true) (h3 : wok ("sign", ["none"]) c = true) (h4 : wok ("part", ["keep", "drop"]) d = true) (ha : low a = true) (hb : low b = true) (hc : low c = true) (hd : low d = true) : pur (dNewF 4 5 f_End_init) [.str a, .str b, .str c, .str d] st = .ok (rowD ("end", [a, b, c, d])) st := by
  have va := low_va ha; have vb := low_va hb; have vc := low_va hc; have vd := low_va hd
  have e : rowD ("end", [a, b, c, d]) = .ins 4 ["mood", "outcome", "sign", "part", "text"] [.str a, .str b, .str c, .str d, .str (rt ("end", [a, b, c, d]))] := by simp [rowD, rowC, rowN, str_eq]
  have run : m_End_init [some (.ptr 0), some (.str a), some (.str b), some (.str c), some (.str d)] [.ins 4 [] []] = .nx [some (.ptr 0), some (.str a), some (.str b), some (.str c), some (.str d)] [.ins 4 ["mood", "outcome", "sign", "part", "text"] [.str a, .str b, .str c, .str d, .str (rt ("end", [a, b, c, d]))]] := by
    unfold m_End_init
    rw [seq_need ((e_word1 va rfl).trans (by rw [wok_n h1])), seq_need ((e_in3 vb rfl).trans (by rw [wok_o (by decide +kernel) h2])), seq_need ((e_sign vc rfl).trans (by rw [wok_n h3])), seq_need ((e_in2 vd rfl).trans (by rw [wok_o (by decide +kernel) h4])), end_made (low_len ha) (low_len hb) (low_len hc) (low_len hd), cat5 (s := "end") (by decide +kernel)]
  rw [e]
  exact new_nx rfl rfl run rfl
/-- the words of a row, at their places -/
theorem RowOk.split {r : Str × List Str} (h : RowOk r) : (∃ a b c, r = (Str.ofString "begin", [a, b, c]) ∧ wok ("mark", ["none", "any"]) a = true ∧ wok ("kind", ["any"]) b = true ∧ wok ("mood", []) c = true) ∨ (∃ a b c, r = (Str.ofString "send", [a, b, c]) ∧ wok ("mood", ["any"]) a = true ∧ wok ("service", ["any"]) b = true ∧ wok ("mark", ["none", "same"]) c = true) ∨
    (∃ a b c d, r = (Str.ofString "back", [a, b, c, d]) ∧ wok ("mood", ["any"]) a = true ∧ wok ("service", ["any"]) b = true ∧ wok ("sign", ["none", "any"]) c = true ∧ wok ("then", ["same"]) d = true) ∨ (∃ a b c d, r = (Str.ofString "end", [a, b, c, d]) ∧ wok ("mood", ["any"]) a = true ∧ wok ("outcome", ["good", "bad", "any"]) b = true ∧ wok ("sign", ["none"]) c = true ∧ wok ("part", ["keep", "drop"]) d = true) := by
  obtain ⟨sort, xs⟩ := r
  obtain ⟨l, hs, ha⟩ := h.ex
  dsimp only at hs ha
  cases hs with
  | b =>
    cases ha with | cons p1 q => cases q with | cons p2 q => cases q with | cons p3 q => cases q; exact .inl ⟨_, _, _, rfl, p1, p2, p3⟩
  | s =>
    cases ha with | cons p1 q => cases q with | cons p2 q => cases q with | cons p3 q => cases q; exact .inr (.inl ⟨_, _, _, rfl, p1, p2, p3⟩)
  | k =>
    cases ha with | cons p1 q => cases q with | cons p2 q => cases q with | cons p3 q => cases q with | cons p4 q => cases q; exact .inr (.inr (.inl ⟨_, _, _, _, rfl, p1, p2, p3, p4⟩))
  | e =>
    cases ha with | cons p1 q => cases q with | cons p2 q => cases q with | cons p3 q => cases q with | cons p4 q => cases q; exact .inr (.inr (.inr ⟨_, _, _, _, rfl, p1, p2, p3, p4⟩))
theorem row_made {r : Str × List Str} {st : Sto} (h : RowOk r) : f__law_row [.tup (.str r.1 :: r.2.map D.str)] st = .ok (rowD r) st := by
  have hl := h.low
  have bel : ∀ (s : Str) (xs : List Str), belowL 0 [D.tup (.str s :: xs.map D.str)] = true := fun s xs => belowL_cons (below_strs (s :: xs)) rfl
  have belr : below 0 (rowD r) = true := by
    show belowL 0 (r.2.map D.str ++ [.str (rt r)]) = true
    have := below_strs (r.2 ++ [rt r])
    rwa [List.map_append] at this
  rcases h.split with ⟨a, b, c, rfl, h1, h2, h3⟩ | ⟨a, b, c, rfl, h1, h2, h3⟩ | ⟨a, b, c, d, rfl, h1, h2, h3, h4⟩ | ⟨a, b, c, d, rfl, h1, h2, h3, h4⟩
  · have e := sb_begin (st := []) h1 h2 h3 (hl a (by simp)) (hl b (by simp)) (hl c (by simp))
    refine call_rt (st' := []) (bel _ _) (?_ : m__law_row [some (.tup [.str "begin", .str a, .str b, .str c])] [] = _) belr
    simp [m__law_row, mSeq, mIfS, mTest, mBin, mVar, mC, R.bind, dIx, rd, atI, ixN, eq_strs, mRet, mMakeF, mCons, mNil, e]
  · have e := sb_send (st := []) h1 h2 h3 (hl a (by simp)) (hl b (by simp)) (hl c (by simp))
    refine call_rt (st' := []) (bel _ _) (?_ : m__law_row [some (.tup [.str "send", .str a, .str b, .str c])] [] = _) belr
    simp [m__law_row, mSeq, mIfS, mTest, mBin, mVar, mC, R.bind, dIx, rd, atI, ixN, eq_strs, mRet, mMakeF, mCons, mNil, e, str_eq, mNext]
  · have e := sb_back (st := []) h1 h2 h3 h4 (hl a (by simp)) (hl b (by simp)) (hl c (by simp)) (hl d (by simp))
    refine call_rt (st' := []) (bel _ _) (?_ : m__law_row [some (.tup [.str "back", .str a, .str b, .str c, .str d])] [] = _) belr
    simp [m__law_row, mSeq, mIfS, mTest, mBin, mVar, mC, R.bind, dIx, rd, atI, ixN, eq_strs, mRet, mMakeF, mCons, mNil, e, str_eq, mNext]
  · have e := sb_end (st := []) h1 h2 h3 h4 (hl a (by simp)) (hl b (by simp)) (hl c (by simp)) (hl d (by simp))
    refine call_rt (st' := []) (bel _ _) (?_ : m__law_row [some (.tup [.str "end", .str a, .str b, .str c, .str d])] [] = _) belr
    simp [m__law_row, mSeq, mIfS, mTest, mBin, mVar, mC, R.bind, dIx, rd, atI, ixN, eq_strs, mRet, mMakeF, mCons, mNil, e, str_eq, mNext]
end K
namespace K
open PySem L2 S
/-! ### services -/
/-- a list, a tuple, a list that is locked -/
def sq (b : Nat) (xs : List D) : D := match b with
  | 0 => .tup xs
  | 1 => .lst xs
  | _ => .rls xs
theorem sq_items {b : Nat} {xs : List D} {st : Sto} : items st (sq b xs) = some xs := by rcases b with _ | _ | b <;> rfl
theorem sq_below {b : Nat} {xs : List D} (h : belowL 0 xs = true) : below 0 (sq b xs) = true := by rcases b with _ | _ | b <;> exact h
theorem sq_len {b : Nat} {xs : List D} {st : Sto} : dLen [sq b xs] st = .ok (.int xs.length) st := by rcases b with _ | _ | b <;> rfl
theorem sq_any {b : Nat} {xs : List D} {env : S.Env} {st : Sto} {i : Nat} (h : env[i]? = some (some (sq b xs))) : mItAny (mVar i) env st = .ok xs st := by
  have e : mVar i env st = .ok (sq b xs) st := by simp [mVar, h]
  unfold mItAny
  rw [e]
  rcases b with _ | _ | b <;> rfl
theorem seq_is {b : Nat} {xs : List D} {st : Sto} (h : belowL 0 xs = true) : f_is_sequence [sq b xs] st = .ok (.bl true) st := by
  refine call_rt (st' := []) (belowL_cons (sq_below h) rfl) ?_ rfl
  show m_is_sequence [some (sq b xs)] [] = _
  rcases b with _ | _ | b <;> rfl
theorem all_names {ks : List Str} {st : Sto} {e0 e1 : Option D} (h : ∀ x ∈ ks, isName x = true) (hl : ks.length ≤ 1000) : mLcGo (.nm 1) [1] mYes (mCall 1 f_is_name [] (mCons (mVar 1) mNil)) (ks.map D.str) [e0, e1] st [] = .ok (ks.map fun _ => D.bl true) st := by
  refine (lc_map D.str (fun _ => D.bl true) (by rw [sizeLine_eq]; simp; omega) fun x hx => ⟨_, rfl, rfl, ?_⟩).trans (by rw [List.nil_append])
  refine call_ok (ds := [.str x]) (cons_ok rfl nil_ok) rfl ?_
  have := name_str (x := x) (st := st) (by have := low_len (low_name (h x hx)); omega)
  rw [this, h x hx]
theorem bls_true {α : Type} (ks : List α) : ((ks.map fun _ => true).all id) = true := by simp
theorem names_are {b : Nat} {ks : List Str} {st : Sto} (h : ∀ x ∈ ks, isName x = true) (hn : ks.Nodup) (hl : ks.length ≤ 1000) : f_are_names [sq b (ks.map D.str)] st = .ok (.bl true) st := by
  refine call_rt (st' := []) (belowL_cons (sq_below (below_strs ks)) rfl) ?_ rfl
  show m_are_names [some (sq b (ks.map D.str)), none] [] = _
  have e1 : mCall 1 f_is_sequence [] (mCons (mVar 0) mNil) [some (sq b (ks.map D.str)), none] [] = .ok (.bl true) [] := call_ok (ds := [sq b (ks.map D.str)]) (cons_ok rfl nil_ok) rfl (seq_is (below_strs ks))
  have e2 : mLc (.nm 1) [1] (mItAny (mVar 0)) mYes (mCall 1 f_is_name [] (mCons (mVar 1) mNil)) [some (sq b (ks.map D.str)), none] [] = .ok (.lst (ks.map fun _ => D.bl true)) [] := by
    unfold mLc
    rw [sq_any rfl]
    simp only [R.bind, all_names h hl]
  have e3 : mApp dAll (mCons (mLc (.nm 1) [1] (mItAny (mVar 0)) mYes (mCall 1 f_is_name [] (mCons (mVar 1) mNil))) mNil) [some (sq b (ks.map D.str)), none] [] = .ok (.bl true) [] := by
    refine (app_ok (cons_ok e2 nil_ok)).trans ?_
    have := all_bls (st := []) (bs := ks.map fun _ => true)
    rw [List.map_map] at this
    rw [bls_true] at this
    exact this
  have t : mOrB (mNotB (mTru (mCall 1 f_is_sequence [] (mCons (mVar 0) mNil)))) (mNotB (mTru (mApp dAll (mCons (mLc (.nm 1) [1] (mItAny (mVar 0)) mYes (mCall 1 f_is_name [] (mCons (mVar 1) mNil))) mNil)))) [some (sq b (ks.map D.str)), none] [] = .ok false [] := by
    unfold mOrB mNotB mTru
    simp only [e1, e3, R.bind, truthD, rd]
    rfl
  unfold m_are_names
  rw [seq_if_f t]
  unfold p_are_names_1
  refine ret_ok ?_
  have e4 : mDc (.nm 1) [1] (mItAny (mVar 0)) mYes (mVar 1) (mC (.bl true)) [some (sq b (ks.map D.str)), none] [] = .ok (.dct ((addU [] ks).map fun a => (Sum.inr a : Key)) ((addU [] ks).map fun _ => D.bl true)) [] := by
    unfold mDc
    rw [sq_any rfl]
    have := dc_strs (t := .nm 1) (vs := [1]) (mt := mYes) (mk := mVar 1) (mv := mC (.bl true)) (env := [some (sq b (ks.map D.str)), none]) (st := []) (xs := ks) (acc := []) (by simp; omega) fun x hx => ⟨_, rfl, rfl, rfl, rfl⟩
    simp only [List.map_nil] at this
    simp only [R.bind, this]
  have hu : addU [] ks = ks := by rw [addU_nodup ks [] (by simpa using hn)]; simp
  rw [hu] at e4
  have l1 : mApp dLen (mCons (mDc (.nm 1) [1] (mItAny (mVar 0)) mYes (mVar 1) (mC (.bl true))) mNil) [some (sq b (ks.map D.str)), none] [] = .ok (.int ks.length) [] := (app_ok (cons_ok e4 nil_ok)).trans (by simp [dLen, rd])
  have l2 : mApp dLen (mCons (mVar 0) mNil) [some (sq b (ks.map D.str)), none] [] = .ok (.int ks.length) [] := (app_ok (cons_ok rfl nil_ok)).trans (by rw [sq_len]; simp)
  refine (bin_ok l1 l2).trans ?_
  simp [dEq, eqD, isFl, fl, scal]
/-! #### texts of words -/
theorem join_d {z : Str} {ws : List Str} {st : Sto} (h : (ws.map fun x => x.length).sum + ws.length * z.length ≤ 16777216) : dJoin (.str z) (.lst (ws.map D.str)) st = .ok (.str (Txt.join z ws)) st := by
  have h1 : (ws.map D.str).all isS = true := by simp [isS]
  have h2 : (ws.map D.str).map sOf = ws := by
    rw [List.map_map]
    have : (sOf ∘ D.str) = id := funext fun _ => rfl
    rw [this, List.map_id]
  show (if (ws.map D.str).all isS && decide ((((ws.map D.str).map sOf).map fun x => x.length).sum + (ws.map D.str).length * z.length ≤ 16777216) then R.ok (D.str (Txt.join z ((ws.map D.str).map sOf))) st else .stuck) = _
  rw [h1, h2, List.length_map, decide_eq_true h]
  rfl
theorem sum_le {n : Nat} : ∀ {ws : List Str}, (∀ x ∈ ws, x.length ≤ n) → (ws.map fun x => x.length).sum ≤ n * ws.length
  | [], _ => by simp
  | w :: ws, h => by
    have h1 := h w (.head _)
    have h2 := sum_le (n := n) (ws := ws) fun x hx => h x (.tail _ hx)
    simp only [List.map_cons, List.sum_cons, List.length_cons, Nat.mul_succ]
    omega
theorem join_len {z : Str} : ∀ (ws : List Str), (Txt.join z ws).length ≤ (ws.map fun x => x.length).sum + ws.length * z.length := by
  intro ws
  rw [TL.join_eq]
  induction ws with
  | nil =>
    show Str.empty.length ≤ _
    have : Str.empty.length = 0 := by decide +kernel
    omega
  | cons w ws ih =>
    cases ws with
    | nil =>
      show w.length ≤ _
      simp
    | cons v ws =>
      show (w ++ z ++ Str.join z (v :: ws)).length ≤ _
      rw [str_len, str_len]
      simp only [List.map_cons, List.sum_cons, List.length_cons, Nat.succ_mul] at ih ⊢
      omega
theorem l_nl : (Str.ofString "\n").length = 1 := by decide +kernel
theorem words_len {ws : List Str} (h : ∀ x ∈ ws, low x = true) : (Txt.join (Str.ofString " ") ws).length ≤ 11 * ws.length := by
  have h1 := join_len (z := Str.ofString " ") ws
  have h2 := sum_le (n := 10) (ws := ws) fun x hx => low_len (h x hx)
  rw [l_sp] at h1
  omega
theorem words_join {ws : List Str} {st : Sto} (h : ∀ x ∈ ws, low x = true) (hl : ws.length ≤ 1000) : dJoin (.str " ") (.lst (ws.map D.str)) st = .ok (.str (Txt.join " " ws)) st := by
  refine join_d ?_
  have h2 := sum_le (n := 10) (ws := ws) fun x hx => low_len (h x hx)
  rw [l_sp]
  omega
theorem words_split {ws : List Str} {st : Sto} (h : ∀ x ∈ ws, low x = true) (hn : ws ≠ []) (hl : ws.length ≤ 1000) : dSplit (.str (Txt.join " " ws)) (.str " ") st = .ok (.lst (ws.map D.str)) st := by
  have e : Txt.split (Txt.join (Str.ofString " ") ws) (Str.ofString " ") = ws := TL.split_join (s := 32) (S := []) (by decide +kernel) (by decide +kernel) hn fun p hp => low_nin (h p hp) (by decide +kernel)
  have h1 := words_len h
  have h0 : ((Str.ofString " ").length == 0) = false := by rw [l_sp]; rfl
  have hz : (Txt.join (Str.ofString " ") ws).length + 2 ≤ sizeLine := by rw [sizeLine_eq]; omega
  show (if ((Str.ofString " ").length == 0) = false ∧ (Txt.join (Str.ofString " ") ws).length + 2 ≤ sizeLine then R.ok (D.lst ((Txt.split (Txt.join (Str.ofString " ") ws) (Str.ofString " ")).map D.str)) st else .stuck) = _
  rw [if_pos ⟨h0, hz⟩, e]
/-! #### rows as texts -/
theorem row_str {r : Str × List Str} {st : Sto} (h : RowOk r) : f_Row_str [rowD r] st = .ok (.str (rt r)) st := by
  have hl := h.low
  have h1 := words_len hl
  have hlen : (r.1 :: r.2).length ≤ 5 := by
    rcases h.split with ⟨a, b, c, rfl, _⟩ | ⟨a, b, c, rfl, _⟩ | ⟨a, b, c, d, rfl, _⟩ | ⟨a, b, c, d, rfl, _⟩ <;> simp
  have hz : (rt r).length ≤ sizeLine := by rw [sizeLine_eq]; show (Txt.join (Str.ofString " ") (r.1 :: r.2)).length ≤ _; omega
  have belr : below 0 (rowD r) = true := by
    show belowL 0 (r.2.map D.str ++ [.str (rt r)]) = true
    have := below_strs (r.2 ++ [rt r])
    rwa [List.map_append] at this
  refine call_rt (st' := []) (belowL_cons belr rfl) ?_ rfl
  show m_Row_str [some (rowD r)] [] = _
  revert hz
  rcases h.split with ⟨a, b, c, rfl, _⟩ | ⟨a, b, c, rfl, _⟩ | ⟨a, b, c, d, rfl, _⟩ | ⟨a, b, c, d, rfl, _⟩ <;> intro hz <;> simp [m_Row_str, mRet, mFmt, mFld, mVar, R.bind, dFld, rd, rowD, rowC, rowN, at_text, look, str_eq, hz]
theorem row_words {r : Str × List Str} {st : Sto} {env : S.Env} {i : Nat} (h : RowOk r) (hi : env[i]? = some (some (rowD r))) : mTxt dSplit (mApp (dStrX stc_0 f_Row_str dStr) (mCons (mVar i) mNil)) (mC (.str " ")) env st = .ok (.lst ((r.1 :: r.2).map D.str)) st := by
  have hl := h.low
  have hlen : (r.1 :: r.2).length ≤ 5 := by
    rcases h.split with ⟨a, b, c, rfl, _⟩ | ⟨a, b, c, rfl, _⟩ | ⟨a, b, c, d, rfl, _⟩ | ⟨a, b, c, d, rfl, _⟩ <;> simp
  have e1 : dStrX stc_0 f_Row_str dStr [rowD r] st = .ok (.str (rt r)) st := by
    have e := row_str (st := st) h
    have hc : stc_0.contains (rowC r.1) = true := by
      rcases h.split with ⟨a, b, c, rfl, _⟩ | ⟨a, b, c, rfl, _⟩ | ⟨a, b, c, d, rfl, _⟩ | ⟨a, b, c, d, rfl, _⟩ <;> simp [rowC, str_eq, stc_0]
    show (if stc_0.contains (rowC r.1) = true then (f_Row_str [rowD r] st).bind _ else _) = _
    rw [if_pos hc, e]
    rfl
  have e2 := words_split (st := st) hl (by simp) (by omega)
  have e3 : mApp (dStrX stc_0 f_Row_str dStr) (mCons (mVar i) mNil) env st = .ok (.str (rt r)) st := by
    refine (app_ok (cons_ok ?_ nil_ok)).trans e1
    simp [mVar, hi]
  unfold mTxt
  rw [e3]
  exact e2
end K
namespace K
open PySem L2 S
/-! ### moods -/
def moL (r : Str × List Str) : List Str := ((if r.1 = Str.ofString "begin" then [r.2.getD 2 ""] else [r.2.getD 0 ""]) ++ (if r.1 = Str.ofString "back" then [r.2.getD 3 ""] else [])).filter fun x => !decide (x ∈ [Str.ofString "any", Str.ofString "same"])
theorem nin2 {x : Str} {st : Sto} : dNotIn (.str x) (.tup [.str "any", .str "same"]) st = .ok (.bl (!decide (x ∈ [Str.ofString "any", Str.ofString "same"]))) st := by
  have := inV_strs (x := x) (ws := [Str.ofString "any", Str.ofString "same"])
  simp only [List.map_cons, List.map_nil] at this
  simp only [dNotIn, items, rd, isFl, Bool.true_and, List.all_cons, List.all_nil, if_true, List.map_cons, List.map_nil, fl, this, Bool.and_self]
theorem mo_flt {ws : List Str} {st : Sto} {e0 e1 e2 : Option D} (hl : ws.length ≤ 1000) : mLcGo (.nm 2) [2] (mTest (mBin dNotIn (mVar 2) (mTup (mCons (mC (.str "any")) (mCons (mC (.str "same")) (mNil)))))) (mVar 2) (ws.map D.str) [e0, e1, e2] st [] = .ok ((ws.filter fun x => !decide (x ∈ [Str.ofString "any", Str.ofString "same"])).map D.str) st := by
  refine (lc_filter D.str D.str (fun x => !decide (x ∈ [Str.ofString "any", Str.ofString "same"])) (by rw [sizeLine_eq]; simp; omega) fun x hx => ⟨_, rfl, ?_, fun _ => rfl⟩).trans (by rw [List.nil_append])
  have e : mBin dNotIn (mVar 2) (mTup (mCons (mC (.str "any")) (mCons (mC (.str "same")) (mNil)))) [e0, e1, some (.str x)] st = .ok (.bl (!decide (x ∈ [Str.ofString "any", Str.ofString "same"]))) st := by
    refine (bin_ok (d := .str x) (e := .tup [.str "any", .str "same"]) rfl ?_).trans nin2
    simp [mTup, mCons, mC, mNil, R.bind, sizeLine_eq]
  show (mBin dNotIn (mVar 2) (mTup (mCons (mC (.str "any")) (mCons (mC (.str "same")) (mNil)))) [e0, e1, some (.str x)] st).bind _ = _
  rw [e]
  rfl
theorem moods_r {r : Str × List Str} {st : Sto} (h : RowOk r) : f_moods_of [.lst ((r.1 :: r.2).map D.str)] st = .ok (.lst ((moL r).map D.str)) st := by
  refine call_rt (st' := []) (belowL_cons (below_strs _) rfl) ?_ (below_strs _)
  have f3 : ∀ {ws : List Str} {e0 : Option D}, ws.length ≤ 1000 → mRet (mLc (.nm 2) [2] (mItAny (mVar 1)) (mTest (mBin dNotIn (mVar 2) (mTup (mCons (mC (.str "any")) (mCons (mC (.str "same")) (mNil)))))) (mVar 2)) [e0, some (.lst (ws.map D.str)), none] [] = .rt (.lst ((ws.filter fun x => !decide (x ∈ [Str.ofString "any", Str.ofString "same"])).map D.str)) [] := fun {ws e0} hl => by
    refine ret_ok ?_
    have hi : mItAny (mVar 1) [e0, some (.lst (ws.map D.str)), none] [] = .ok (ws.map D.str) [] := by simp [mItAny, mVar, R.bind, itemsF]
    unfold mLc
    rw [hi]
    simp only [R.bind, mo_flt hl]
  rcases h.split with ⟨a, b, c, rfl, _⟩ | ⟨a, b, c, rfl, _⟩ | ⟨a, b, c, d, rfl, _⟩ | ⟨a, b, c, d, rfl, _⟩
  · show m_moods_of [some (.lst [.str "begin", .str a, .str b, .str c]), none, none] [] = _
    unfold m_moods_of
    refine (seq_nx (set_ok (d := .lst [.str c]) (st' := []) (by simp [mIf, mTest, mBin, mVar, mC, R.bind, dIx, rd, atI, ixN, eq_strs, mLst, mCons, mNil, sizeLine_eq]))).trans ?_
    refine (seq_nx (set_ok (d := .lst [.str c]) (st' := []) (by simp [mIf, mTest, mBin, mVar, mC, R.bind, dIx, rd, atI, ixN, eq_strs, str_eq]))).trans ?_
    refine (f3 (ws := [c]) (by simp)).trans ?_
    simp [moL, str_eq]
  · show m_moods_of [some (.lst [.str "send", .str a, .str b, .str c]), none, none] [] = _
    unfold m_moods_of
    refine (seq_nx (set_ok (d := .lst [.str a]) (st' := []) (by simp [mIf, mTest, mBin, mVar, mC, R.bind, dIx, rd, atI, ixN, eq_strs, mLst, mCons, mNil, sizeLine_eq, str_eq]))).trans ?_
    refine (seq_nx (set_ok (d := .lst [.str a]) (st' := []) (by simp [mIf, mTest, mBin, mVar, mC, R.bind, dIx, rd, atI, ixN, eq_strs, str_eq]))).trans ?_
    refine (f3 (ws := [a]) (by simp)).trans ?_
    simp [moL, str_eq]
  · show m_moods_of [some (.lst [.str "back", .str a, .str b, .str c, .str d]), none, none] [] = _
    unfold m_moods_of
    refine (seq_nx (set_ok (d := .lst [.str a]) (st' := []) (by simp [mIf, mTest, mBin, mVar, mC, R.bind, dIx, rd, atI, ixN, eq_strs, mLst, mCons, mNil, sizeLine_eq, str_eq]))).trans ?_
    refine (seq_nx (set_ok (d := .lst [.str a, .str d]) (st' := []) (by simp [mIf, mTest, mBin, mVar, mC, R.bind, dIx, rd, atI, ixN, eq_strs, mLst, mStar, items, mCons, mNil, sizeLine_eq, str_eq]))).trans ?_
    refine (f3 (ws := [a, d]) (by simp)).trans ?_
    simp [moL, str_eq]
  · show m_moods_of [some (.lst [.str "end", .str a, .str b, .str c, .str d]), none, none] [] = _
    unfold m_moods_of
    refine (seq_nx (set_ok (d := .lst [.str a]) (st' := []) (by simp [mIf, mTest, mBin, mVar, mC, R.bind, dIx, rd, atI, ixN, eq_strs, mLst, mCons, mNil, sizeLine_eq, str_eq]))).trans ?_
    refine (seq_nx (set_ok (d := .lst [.str a]) (st' := []) (by simp [mIf, mTest, mBin, mVar, mC, R.bind, dIx, rd, atI, ixN, eq_strs, str_eq]))).trans ?_
    refine (f3 (ws := [a]) (by simp)).trans ?_
    simp [moL, str_eq]
/-- words, each once, ascending -/
def asc (ws : List Str) : List Str := sortS (addU [] ws)
theorem asc_ok {ws : List Str} {st : Sto} (hl : ws.length < 64) : f_ascending [.lst (ws.map D.str)] st = .ok (.tup ((asc ws).map D.str)) st := by
  refine call_rt (st' := []) (belowL_cons (below_strs ws) rfl) ?_ (below_strs _)
  show m_ascending [some (.lst (ws.map D.str)), none] [] = _
  have hu := addU_len ws []
  have hd : mItDc (.nm 1) [1] (mItAny (mVar 0)) mYes (mVar 1) (mC (.bl true)) [some (.lst (ws.map D.str)), none] [] = .ok ((addU [] ws).map D.str) [] := by
    have hi : mItAny (mVar 0) [some (.lst (ws.map D.str)), none] [] = .ok (ws.map D.str) [] := by simp [mItAny, mVar, R.bind, itemsF]
    have := dc_strs (t := .nm 1) (vs := [1]) (mt := mYes) (mk := mVar 1) (mv := mC (.bl true)) (env := [some (.lst (ws.map D.str)), none]) (st := []) (xs := ws) (acc := []) (by simp; omega) fun x hx => ⟨_, rfl, rfl, rfl, rfl⟩
    simp only [List.map_nil] at this
    unfold mItDc
    rw [hi]
    simp only [R.bind, this, List.map_map]
    rfl
  have hlc : mLc (.nm 1) [1] (mItDc (.nm 1) [1] (mItAny (mVar 0)) mYes (mVar 1) (mC (.bl true))) mYes (mApp dStr (mCons (mVar 1) mNil)) [some (.lst (ws.map D.str)), none] [] = .ok (.lst ((addU [] ws).map D.str)) [] := by
    unfold mLc
    rw [hd]
    have := lc_map (t := .nm 1) (vs := [1]) (mt := mYes) (me := mApp dStr (mCons (mVar 1) mNil)) (env := [some (.lst (ws.map D.str)), none]) (st := []) D.str D.str (xs := addU [] ws) (acc := []) (by rw [sizeLine_eq]; simp at hu ⊢; omega) fun x hx => ⟨_, rfl, rfl, rfl⟩
    simp only [R.bind, this, List.nil_append]
  have hs : dSorted [.lst ((addU [] ws).map D.str)] [] = .ok (.lst ((asc ws).map D.str)) [] := by
    have h1 : ((addU [] ws).map D.str).all isS = true := by simp [isS]
    have h2 : ((addU [] ws).map D.str).map sOf = addU [] ws := by
      rw [List.map_map]
      have : (sOf ∘ D.str) = id := funext fun _ => rfl
      rw [this, List.map_id]
    show (if ((addU [] ws).map D.str).all isS && decide (((addU [] ws).map D.str).length < 64) then R.ok (D.lst ((sortS (((addU [] ws).map D.str).map sOf)).map D.str)) [] else .stuck) = _
    rw [h1, h2, List.length_map, decide_eq_true (by simp at hu; omega)]
    rfl
  unfold m_ascending
  refine ret_ok ?_
  have e1 : mApp dSorted (mCons (mLc (.nm 1) [1] (mItDc (.nm 1) [1] (mItAny (mVar 0)) mYes (mVar 1) (mC (.bl true))) mYes (mApp dStr (mCons (mVar 1) mNil))) mNil) [some (.lst (ws.map D.str)), none] [] = .ok (.lst ((asc ws).map D.str)) [] := (app_ok (cons_ok hlc nil_ok)).trans hs
  refine (app_ok (cons_ok e1 nil_ok)).trans ?_
  simp [dTuple, items, rd]
end K
namespace K
open PySem L2 S
/-! ### a service, made -/
structure Sv where
  nm : Str
  ks : List Str
  ws : List Str
  ls : List Str
  rs : List (Str × List Str)
structure NmL (xs : List Str) : Prop where
  nm : ∀ x ∈ xs, isName x = true
  nd : xs.Nodup
  len : xs.length ≤ 30
structure SvOk (s : Sv) : Prop where
  nm : isName s.nm = true
  ks : NmL s.ks
  k0 : s.ks ≠ []
  ws : NmL s.ws
  ls : NmL s.ls
  rs : ∀ r ∈ s.rs, RowOk r
  rl : s.rs.length ≤ 30
theorem NmL.low {xs : List Str} (h : NmL xs) : ∀ x ∈ xs, K.low x = true := fun x hx => low_name (h.nm x hx)
def svMo (s : Sv) : List Str := asc ("calm" :: s.rs.flatMap moL)
def svHead (s : Sv) : List Str := Txt.join " " ("service" :: s.nm :: s.ks) :: ((if s.ws = [] then [] else [Txt.join " " ("waits" :: s.ws)]) ++ (if s.ls = [] then [] else [Txt.join " " ("leaves" :: s.ls)]))
def svLines (s : Sv) : List Str := svHead s ++ s.rs.map rt
def svText (s : Sv) : Str := Txt.join "\n" (svLines s)
def wdD (r : Str × List Str) : D := .lst ((r.1 :: r.2).map D.str)
def svNs : List Str := ["name", "kinds", "waits", "leaves", "rows", "told", "moods", "text"]
def svEs (s : Sv) : List D := [.str s.nm, .tup (s.ks.map D.str), .tup (s.ws.map D.str), .tup (s.ls.map D.str), .tup (s.rs.map rowD), .lst (s.rs.map wdD), .tup ((svMo s).map D.str), .str (svText s)]
def svD (s : Sv) : D := .ins 5 svNs (svEs s)
theorem bel_row (r : Str × List Str) : below 0 (rowD r) = true := by
  show belowL 0 (r.2.map D.str ++ [.str (rt r)]) = true
  have := below_strs (r.2 ++ [rt r])
  rwa [List.map_append] at this
theorem bel_map {α : Type} {f : α → D} (h : ∀ a, below 0 (f a) = true) : ∀ xs : List α, belowL 0 (xs.map f) = true
  | [] => rfl
  | x :: xs => belowL_cons (h x) (bel_map h xs)
theorem bel_sv (s : Sv) : belowL 0 (svEs s) = true :=
  belowL_cons rfl (belowL_cons (below_strs _) (belowL_cons (below_strs _) (belowL_cons (below_strs _) (belowL_cons (bel_map bel_row _) (belowL_cons (bel_map (f := wdD) (fun r => below_strs (r.1 :: r.2)) _) (belowL_cons (below_strs _) (belowL_cons rfl rfl)))))))
theorem need2_ok {w : Str} {st : Sto} : f_need_24 [.bl true, .str w] st = .ok .non st := call_nx (st' := []) (env := [some (.bl true), some (.str w)]) rfl rfl
theorem seq_need2 {e : M} {w : Str} {env : S.Env} {st : Sto} {r : MS} (h : e env st = .ok (.bl true) st) : mSeq (mDo (mCall 2 f_need_24 [] (mCons e (mCons (mC (.str w)) mNil)))) r env st = r env st :=
  seq_nx (do_ok (call_ok (cons_ok h (cons_ok rfl nil_ok)) rfl need2_ok))
section
variable {s : Sv} {b1 b2 b3 b4 : Nat} {e6 e7 e8 e9 : Option D} {st : Sto}
def senv (s : Sv) (b1 b2 b3 b4 : Nat) (e6 e7 e8 e9 : Option D) : S.Env := [some (.ptr 0), some (.str s.nm), some (sq b1 (s.ks.map D.str)), some (sq b2 (s.ws.map D.str)), some (sq b3 (s.ls.map D.str)), some (sq b4 (s.rs.map rowD)), e6, e7, e8, e9]
theorem s_rows (h : SvOk s) : mAnd (mCall 1 f_is_sequence [] (mCons (mVar 5) mNil)) (mApp dAll (mCons (mLc (.nm 7) [7] (mItAny (mVar 5)) mYes (mIsi ki_Row (mVar 7))) mNil)) (senv s b1 b2 b3 b4 e6 e7 e8 e9) st = .ok (.bl true) st := by
  have e1 : mCall 1 f_is_sequence [] (mCons (mVar 5) mNil) (senv s b1 b2 b3 b4 e6 e7 e8 e9) st = .ok (.bl true) st := call_ok (ds := [sq b4 (s.rs.map rowD)]) (cons_ok rfl nil_ok) rfl (seq_is (bel_map bel_row _))
  have e2 : mLc (.nm 7) [7] (mItAny (mVar 5)) mYes (mIsi ki_Row (mVar 7)) (senv s b1 b2 b3 b4 e6 e7 e8 e9) st = .ok (.lst (s.rs.map fun _ => D.bl true)) st := by
    unfold mLc
    rw [sq_any (b := b4) (xs := s.rs.map rowD) rfl]
    have := lc_map (t := .nm 7) (vs := [7]) (mt := mYes) (me := mIsi ki_Row (mVar 7)) (env := senv s b1 b2 b3 b4 e6 e7 e8 e9) (st := st) rowD (fun _ => D.bl true) (xs := s.rs) (acc := []) (by rw [sizeLine_eq]; have := h.rl; simp; omega) fun r hr => by
      refine ⟨_, rfl, rfl, ?_⟩
      show dIsi ki_Row (rowD r) st = _
      rcases (h.rs r hr).split with ⟨a, b, c, rfl, _⟩ | ⟨a, b, c, rfl, _⟩ | ⟨a, b, c, d, rfl, _⟩ | ⟨a, b, c, d, rfl, _⟩ <;> simp [dIsi, rd, rowD, rowC, str_eq, tyD, ki_Row]
    simp only [R.bind, this, List.nil_append]
  have e3 : mApp dAll (mCons (mLc (.nm 7) [7] (mItAny (mVar 5)) mYes (mIsi ki_Row (mVar 7))) mNil) (senv s b1 b2 b3 b4 e6 e7 e8 e9) st = .ok (.bl true) st := by
    refine (app_ok (cons_ok e2 nil_ok)).trans ?_
    have := all_bls (st := st) (bs := s.rs.map fun _ => true)
    rw [List.map_map, bls_true] at this
    exact this
  unfold mAnd
  rw [e1]
  exact e3
theorem s_kinds (h : SvOk s) : mAnd (mCall 1 f_are_names [] (mCons (mVar 2) mNil)) (mBin dGt (mApp dLen (mCons (mVar 2) mNil)) (mC (.int 0))) (senv s b1 b2 b3 b4 e6 e7 e8 e9) st = .ok (.bl true) st := by
  have e1 : mCall 1 f_are_names [] (mCons (mVar 2) mNil) (senv s b1 b2 b3 b4 e6 e7 e8 e9) st = .ok (.bl true) st := call_ok (ds := [sq b1 (s.ks.map D.str)]) (cons_ok rfl nil_ok) rfl (names_are h.ks.nm h.ks.nd (by have := h.ks.len; omega))
  have hp := List.length_pos_iff.mpr h.k0
  have e2 : mBin dGt (mApp dLen (mCons (mVar 2) mNil)) (mC (.int 0)) (senv s b1 b2 b3 b4 e6 e7 e8 e9) st = .ok (.bl true) st := by
    refine (bin_ok ((app_ok (ds := [sq b1 (s.ks.map D.str)]) (cons_ok rfl nil_ok)).trans sq_len) rfl).trans ?_
    simp [dGt, dI]
    exact hp
  unfold mAnd
  rw [e1]
  exact e2
theorem s_needs (h : SvOk s) : m_Service_init (senv s b1 b2 b3 b4 e6 e7 e8 e9) st = p_Service_init_7 (senv s b1 b2 b3 b4 e6 e7 e8 e9) st := by
  have e1 : mCall 1 f_is_name [] (mCons (mVar 1) mNil) (senv s b1 b2 b3 b4 e6 e7 e8 e9) st = .ok (.bl true) st := call_ok (ds := [.str s.nm]) (cons_ok rfl nil_ok) rfl ((name_str (by have := low_len (low_name h.nm); omega)).trans (by rw [h.nm]))
  have e3 : mCall 1 f_are_names [] (mCons (mVar 3) mNil) (senv s b1 b2 b3 b4 e6 e7 e8 e9) st = .ok (.bl true) st := call_ok (ds := [sq b2 (s.ws.map D.str)]) (cons_ok rfl nil_ok) rfl (names_are h.ws.nm h.ws.nd (by have := h.ws.len; omega))
  have e4 : mCall 1 f_are_names [] (mCons (mVar 4) mNil) (senv s b1 b2 b3 b4 e6 e7 e8 e9) st = .ok (.bl true) st := call_ok (ds := [sq b3 (s.ls.map D.str)]) (cons_ok rfl nil_ok) rfl (names_are h.ls.nm h.ls.nd (by have := h.ls.len; omega))
  unfold m_Service_init
  rw [seq_need2 e1, seq_need2 (s_kinds h), seq_need2 e3, seq_need2 e4, seq_need2 (s_rows h)]
/-- a field is set on the one cell -/
theorem setf_ok {ok : Nat → Bool} {f : Str} {mv : M} {env : S.Env} {c : Nat} {ns : List Str} {es : List D} {d : D} {r : MS} (h0 : env[0]? = some (some (.ptr 0))) (hc : ok c = true) (hn : ns.length < 1000) (h : mv env [.ins c ns es] = .ok d [.ins c ns es]) : mSeq (mSetF ok f (mVar 0) mv) r env [.ins c ns es] = r env [.ins c (putN f ns) (putX f d ns es)] := by
  refine seq_nx (do_ok (d := .non) ?_)
  refine (bin_ok h (e := .ptr 0) (st2 := [.ins c ns es]) (by simp [mVar, h0])).trans ?_
  simp [dPutF, hc, hn]
theorem setl_ok {ok : Nat → Bool} {f : Str} {mv : M} {env : S.Env} {c : Nat} {ns : List Str} {es : List D} {d : D} (h0 : env[0]? = some (some (.ptr 0))) (hc : ok c = true) (hn : ns.length < 1000) (h : mv env [.ins c ns es] = .ok d [.ins c ns es]) : mSetF ok f (mVar 0) mv env [.ins c ns es] = .nx env [.ins c (putN f ns) (putX f d ns es)] := by
  refine do_ok (d := .non) ?_
  refine (bin_ok h (e := .ptr 0) (st2 := [.ins c ns es]) (by simp [mVar, h0])).trans ?_
  simp [dPutF, hc, hn]
theorem tup_ok {i : Nat} {b : Nat} {xs : List D} {env : S.Env} (h : env[i]? = some (some (sq b xs))) : mApp dTuple (mCons (mVar i) mNil) env st = .ok (.tup xs) st := by
  refine (app_ok (ds := [sq b xs]) (st1 := st) (cons_ok (st1 := st) (by simp [mVar, h]) nil_ok)).trans ?_
  show (match items st (sq b xs) with | some xs => R.ok (D.tup xs) st | none => .stuck) = _
  rw [sq_items]
def ns5 : List Str := ["name", "kinds", "waits", "leaves", "rows"]
def es5 (s : Sv) : List D := [.str s.nm, .tup (s.ks.map D.str), .tup (s.ws.map D.str), .tup (s.ls.map D.str), .tup (s.rs.map rowD)]
theorem s_p7 : p_Service_init_7 (senv s b1 b2 b3 b4 e6 e7 e8 e9) [.ins 5 [] []] = p_Service_init_6 (senv s b1 b2 b3 b4 e6 e7 e8 e9) [.ins 5 ns5 (es5 s)] := by
  unfold p_Service_init_7
  rw [setf_ok (d := .str s.nm) rfl rfl (by decide) rfl, setf_ok rfl rfl (by decide) (tup_ok (i := 2) (b := b1) rfl)]
  rw [setf_ok rfl rfl (by decide) (tup_ok (i := 3) (b := b2) rfl), setf_ok rfl rfl (by decide) (tup_ok (i := 4) (b := b3) rfl), setf_ok rfl rfl (by decide) (tup_ok (i := 5) (b := b4) rfl)]
  simp [putN, putX, str_eq, ns5, es5]
end
end K
namespace K
open PySem L2 S
theorem star_ok {m : M} {ma : MA} {env : S.Env} {st st1 st2 : Sto} {d : D} {xs ys : List D} (h : m env st = .ok d st1) (hi : items st1 d = some xs) (h' : ma env st1 = .ok ys st2) : mStar m ma env st = .ok (xs ++ ys) st2 := by
  unfold mStar
  rw [h]
  show (match items st1 d with | some xs => (ma env st1).bind fun r st2 => R.ok (xs ++ r) st2 | none => .stuck) = _
  rw [hi, h']
  rfl
theorem lst_ok {ma : MA} {env : S.Env} {st st1 : Sto} {ds : List D} (h : ma env st = .ok ds st1) (hl : ds.length ≤ 100000) : mLst ma env st = .ok (.lst ds) st1 := by
  unfold mLst
  rw [h]
  show (if ds.length ≤ sizeLine then R.ok (D.lst ds) st1 else .stuck) = _
  rw [if_pos (by rw [sizeLine_eq]; omega)]
theorem txt_ok {f : D → D → Sto → R D} {m n : M} {env : S.Env} {st st1 st2 : Sto} {z : Str} {d : D} (h : m env st = .ok (.str z) st1) (h' : n env st1 = .ok d st2) : mTxt f m n env st = f (.str z) d st2 := by
  unfold mTxt
  rw [h]
  show R.bind (n env st1) _ = _
  rw [h']
  rfl
section
variable {s : Sv} {b1 b2 b3 b4 : Nat} {e6 e7 e8 e9 : Option D} {st : Sto}
theorem fld_ok {ok : Nat → Bool} {f : Str} {env : S.Env} {c : Nat} {ns : List Str} {es : List D} {d : D} (h0 : env[0]? = some (some (.ptr 0))) (hc : ok c = true) (h : look f ns es = some d) : mFld ok f (mVar 0) env [.ins c ns es] = .ok d [.ins c ns es] := by
  simp [mFld, mVar, h0, R.bind, dFld, rd, hc, h]
theorem it_fld {ok : Nat → Bool} {f : Str} {env : S.Env} {c : Nat} {ns : List Str} {es xs : List D} {d : D} (h0 : env[0]? = some (some (.ptr 0))) (hc : ok c = true) (h : look f ns es = some d) (hd : d = .lst xs ∨ d = .tup xs) : mItAny (mFld ok f (mVar 0)) env [.ins c ns es] = .ok xs [.ins c ns es] := by
  unfold mItAny
  rw [fld_ok h0 hc h]
  rcases hd with rfl | rfl <;> rfl
def ns6 : List Str := ["name", "kinds", "waits", "leaves", "rows", "told"]
def es6 (s : Sv) : List D := es5 s ++ [.lst (s.rs.map wdD)]
theorem s_p6 (h : SvOk s) : p_Service_init_6 (senv s b1 b2 b3 b4 e6 e7 e8 e9) [.ins 5 ns5 (es5 s)] = p_Service_init_5 (senv s b1 b2 b3 b4 e6 e7 e8 e9) [.ins 5 ns6 (es6 s)] := by
  have e : mLc (.nm 7) [7] (mItAny (mFld at_rows "rows" (mVar 0))) mYes (mTxt dSplit (mApp (dStrX stc_0 f_Row_str dStr) (mCons (mVar 7) mNil)) (mC (.str " "))) (senv s b1 b2 b3 b4 e6 e7 e8 e9) [.ins 5 ns5 (es5 s)] = .ok (.lst (s.rs.map wdD)) [.ins 5 ns5 (es5 s)] := by
    unfold mLc
    rw [it_fld (xs := s.rs.map rowD) (d := .tup (s.rs.map rowD)) rfl rfl (by simp [look, ns5, es5, str_eq]) (.inr rfl)]
    have := lc_map (t := .nm 7) (vs := [7]) (mt := mYes) (me := mTxt dSplit (mApp (dStrX stc_0 f_Row_str dStr) (mCons (mVar 7) mNil)) (mC (.str " "))) (env := senv s b1 b2 b3 b4 e6 e7 e8 e9) (st := [.ins 5 ns5 (es5 s)]) rowD wdD (xs := s.rs) (acc := []) (by rw [sizeLine_eq]; have := h.rl; simp; omega) fun r hr => ⟨_, rfl, rfl, row_words (h.rs r hr) rfl⟩
    simp only [R.bind, this, List.nil_append]
  unfold p_Service_init_6
  rw [setf_ok rfl rfl (by decide) e]
  simp [putN, putX, str_eq, ns5, es5, ns6, es6]
def ns7 : List Str := ["name", "kinds", "waits", "leaves", "rows", "told", "moods"]
def es7 (s : Sv) : List D := es5 s ++ [.lst (s.rs.map wdD), .tup ((svMo s).map D.str)]
theorem mo_len (r : Str × List Str) : (moL r).length ≤ 2 := by
  unfold moL
  refine Nat.le_trans (List.length_filter_le _ _) ?_
  split <;> split <;> simp
theorem flat_len {α β : Type} {f : α → List β} {n : Nat} (h : ∀ a, (f a).length ≤ n) : ∀ xs : List α, (xs.flatMap f).length ≤ n * xs.length
  | [] => by simp
  | x :: xs => by
    have h1 := h x
    have h2 := flat_len h xs
    rw [List.flatMap_cons, List.length_append, List.length_cons, Nat.mul_succ]
    omega
theorem s_p5 (h : SvOk s) : p_Service_init_5 (senv s b1 b2 b3 b4 e6 e7 e8 e9) [.ins 5 ns6 (es6 s)] = p_Service_init_4 (senv s b1 b2 b3 b4 e6 e7 e8 e9) [.ins 5 ns7 (es7 s)] := by
  have hfl := flat_len (n := 2) mo_len s.rs
  have hrl := h.rl
  have e1 : mLc2 (.nm 8) [8, 9] (mItAny (mFld at_told "told" (mVar 0))) mYes (.nm 9) [9] (mItAny (mCall 1 f_moods_of [] (mCons (mVar 8) mNil))) mYes (mVar 9) (senv s b1 b2 b3 b4 e6 e7 e8 e9) [.ins 5 ns6 (es6 s)] = .ok (.lst ((s.rs.flatMap moL).map D.str)) [.ins 5 ns6 (es6 s)] := by
    unfold mLc2
    rw [it_fld (xs := s.rs.map wdD) (d := .lst (s.rs.map wdD)) rfl rfl (by simp [look, ns6, es6, es5, str_eq]) (.inl rfl)]
    have := lc2_map (t := .nm 8) (vs := [8, 9]) (mt := mYes) (t1 := .nm 9) (vs1 := [9]) (mi1 := mItAny (mCall 1 f_moods_of [] (mCons (mVar 8) mNil))) (mt1 := mYes) (me := mVar 9) (env := senv s b1 b2 b3 b4 e6 e7 e8 e9) (st := [.ins 5 ns6 (es6 s)]) wdD moL D.str D.str (xs := s.rs) (acc := []) (by rw [sizeLine_eq]; simp only [List.length_nil]; omega) fun r hr => by
      refine ⟨_, rfl, rfl, ?_, fun b hb => ⟨_, rfl, rfl, rfl⟩⟩
      have e : mCall 1 f_moods_of [] (mCons (mVar 8) mNil) [some (.ptr 0), some (.str s.nm), some (sq b1 (s.ks.map D.str)), some (sq b2 (s.ws.map D.str)), some (sq b3 (s.ls.map D.str)), some (sq b4 (s.rs.map rowD)), e6, e7, some (wdD r), none] [.ins 5 ns6 (es6 s)] = .ok (.lst ((moL r).map D.str)) [.ins 5 ns6 (es6 s)] := call_ok (ds := [wdD r]) (cons_ok rfl nil_ok) rfl (moods_r (h.rs r hr))
      show mItAny (mCall 1 f_moods_of [] (mCons (mVar 8) mNil)) [some (.ptr 0), some (.str s.nm), some (sq b1 (s.ks.map D.str)), some (sq b2 (s.ws.map D.str)), some (sq b3 (s.ls.map D.str)), some (sq b4 (s.rs.map rowD)), e6, e7, some (wdD r), none] _ = _
      unfold mItAny
      rw [e]
      rfl
    simp only [R.bind, this, List.nil_append]
  have e2 : mLst (mCons (mC (.str "calm")) (mStar (mLc2 (.nm 8) [8, 9] (mItAny (mFld at_told "told" (mVar 0))) mYes (.nm 9) [9] (mItAny (mCall 1 f_moods_of [] (mCons (mVar 8) mNil))) mYes (mVar 9)) mNil)) (senv s b1 b2 b3 b4 e6 e7 e8 e9) [.ins 5 ns6 (es6 s)] = .ok (.lst (((Str.ofString "calm") :: s.rs.flatMap moL).map D.str)) [.ins 5 ns6 (es6 s)] := by
    refine (lst_ok (cons_ok rfl (star_ok e1 rfl nil_ok)) (by simp only [List.length_cons, List.length_append, List.length_map, List.length_nil]; omega)).trans ?_
    simp
  have e4 : mCall 1 f_ascending [] (mCons (mLst (mCons (mC (.str "calm")) (mStar (mLc2 (.nm 8) [8, 9] (mItAny (mFld at_told "told" (mVar 0))) mYes (.nm 9) [9] (mItAny (mCall 1 f_moods_of [] (mCons (mVar 8) mNil))) mYes (mVar 9)) mNil))) mNil) (senv s b1 b2 b3 b4 e6 e7 e8 e9) [.ins 5 ns6 (es6 s)] = .ok (.tup ((svMo s).map D.str)) [.ins 5 ns6 (es6 s)] :=
    call_ok (cons_ok e2 nil_ok) rfl (asc_ok (by simp only [List.length_cons]; omega))
  unfold p_Service_init_5
  rw [setf_ok rfl rfl (by decide) e4]
  simp [putN, putX, str_eq, ns6, es6, es5, ns7, es7]
/-- lines of words -/
theorem line_ok {w : Str} {ma : MA} {env : S.Env} {st : Sto} {ws : List Str} (h : ma env st = .ok (ws.map D.str) st) (hw : low w = true) (hl : ∀ x ∈ ws, low x = true) (hn : ws.length ≤ 900) : mTxt dJoin (mC (.str " ")) (mLst (mCons (mC (.str w)) ma)) env st = .ok (.str (Txt.join " " (w :: ws))) st := by
  refine (txt_ok rfl (lst_ok (ds := (w :: ws).map D.str) (cons_ok rfl h) (by simp; omega))).trans ?_
  exact words_join (fun x hx => by
    rcases List.mem_cons.mp hx with rfl | hx
    · exact hw
    · exact hl x hx) (by simp; omega)
theorem s_p4 (h : SvOk s) : p_Service_init_4 (senv s b1 b2 b3 b4 e6 e7 e8 e9) st = p_Service_init_3 (senv s b1 b2 b3 b4 (some (.lst [.str (Txt.join " " ("service" :: s.nm :: s.ks))])) e7 e8 e9) st := by
  have hk := h.ks.len
  have e : mTxt dJoin (mC (.str " ")) (mLst (mCons (mC (.str "service")) (mCons (mVar 1) (mStar (mVar 2) mNil)))) (senv s b1 b2 b3 b4 e6 e7 e8 e9) st = .ok (.str (Txt.join " " ("service" :: s.nm :: s.ks))) st := by
    refine line_ok (ws := s.nm :: s.ks) ?_ (by decide +kernel) (fun x hx => ?_) (by simp; omega)
    · refine (cons_ok rfl (star_ok (d := sq b1 (s.ks.map D.str)) rfl sq_items nil_ok)).trans ?_
      simp
    · rcases List.mem_cons.mp hx with rfl | hx
      · exact low_name h.nm
      · exact h.ks.low x hx
  unfold p_Service_init_4
  exact seq_nx (set_ok (lst_ok (cons_ok e nil_ok) (by simp)))
theorem s_p32 {ls : List Str} {e0 : Option D} (hn : NmL s.ws) (hl : ls.length ≤ 100) : p_Service_init_3 (senv s b1 b2 b3 b4 (some (.lst (ls.map D.str))) e7 e8 e9) st = p_Service_init_2 (senv s b1 b2 b3 b4 (some (.lst ((ls ++ (if s.ws = [] then [] else [Txt.join (Str.ofString " ") (Str.ofString "waits" :: s.ws)])).map D.str))) e7 e8 e9) st := by
  have hk := hn.len
  unfold p_Service_init_3
  refine seq_nx (set_ok ?_)
  have ht : mTest (mBin dGt (mApp dLen (mCons (mVar 3) mNil)) (mC (.int 0))) (senv s b1 b2 b3 b4 (some (.lst (ls.map D.str))) e7 e8 e9) st = .ok (decide (0 < s.ws.length)) st := by
    have : mBin dGt (mApp dLen (mCons (mVar 3) mNil)) (mC (.int 0)) (senv s b1 b2 b3 b4 (some (.lst (ls.map D.str))) e7 e8 e9) st = .ok (.bl (decide (0 < s.ws.length))) st := by
      refine (bin_ok ((app_ok (ds := [sq b2 (s.ws.map D.str)]) (cons_ok rfl nil_ok)).trans sq_len) rfl).trans ?_
      simp [dGt, dI]
    unfold mTest
    rw [this]
    rfl
  unfold mIf
  rw [ht]
  by_cases q : s.ws = []
  · rw [if_pos q, q, List.append_nil]
    rfl
  · rw [if_neg q, decide_eq_true (List.length_pos_iff.mpr q)]
    show mLst _ _ _ = _
    have e : mTxt dJoin (mC (.str " ")) (mLst (mCons (mC (.str "waits")) (mStar (mVar 3) mNil))) (senv s b1 b2 b3 b4 (some (.lst (ls.map D.str))) e7 e8 e9) st = .ok (.str (Txt.join " " ("waits" :: s.ws))) st :=
      line_ok (ws := s.ws) ((star_ok (d := sq b2 (s.ws.map D.str)) rfl sq_items nil_ok).trans (by simp)) (by decide +kernel) hn.low (by omega)
    refine (lst_ok (star_ok (d := .lst (ls.map D.str)) rfl rfl (cons_ok e nil_ok)) (by simp; omega)).trans ?_
    simp
theorem s_p21 {ls : List Str} (hn : NmL s.ls) (hl : ls.length ≤ 100) : p_Service_init_2 (senv s b1 b2 b3 b4 (some (.lst (ls.map D.str))) e7 e8 e9) st = p_Service_init_1 (senv s b1 b2 b3 b4 (some (.lst ((ls ++ (if s.ls = [] then [] else [Txt.join (Str.ofString " ") (Str.ofString "leaves" :: s.ls)])).map D.str))) e7 e8 e9) st := by
  have hk := hn.len
  unfold p_Service_init_2
  refine seq_nx (set_ok ?_)
  have ht : mTest (mBin dGt (mApp dLen (mCons (mVar 4) mNil)) (mC (.int 0))) (senv s b1 b2 b3 b4 (some (.lst (ls.map D.str))) e7 e8 e9) st = .ok (decide (0 < s.ls.length)) st := by
    have : mBin dGt (mApp dLen (mCons (mVar 4) mNil)) (mC (.int 0)) (senv s b1 b2 b3 b4 (some (.lst (ls.map D.str))) e7 e8 e9) st = .ok (.bl (decide (0 < s.ls.length))) st := by
      refine (bin_ok ((app_ok (ds := [sq b3 (s.ls.map D.str)]) (cons_ok rfl nil_ok)).trans sq_len) rfl).trans ?_
      simp [dGt, dI]
    unfold mTest
    rw [this]
    rfl
  unfold mIf
  rw [ht]
  by_cases q : s.ls = []
  · rw [if_pos q, q, List.append_nil]
    rfl
  · rw [if_neg q, decide_eq_true (List.length_pos_iff.mpr q)]
    show mLst _ _ _ = _
    have e : mTxt dJoin (mC (.str " ")) (mLst (mCons (mC (.str "leaves")) (mStar (mVar 4) mNil))) (senv s b1 b2 b3 b4 (some (.lst (ls.map D.str))) e7 e8 e9) st = .ok (.str (Txt.join " " ("leaves" :: s.ls))) st :=
      line_ok (ws := s.ls) ((star_ok (d := sq b3 (s.ls.map D.str)) rfl sq_items nil_ok).trans (by simp)) (by decide +kernel) hn.low (by omega)
    refine (lst_ok (star_ok (d := .lst (ls.map D.str)) rfl rfl (cons_ok e nil_ok)) (by simp; omega)).trans ?_
    simp
end
end K
namespace K
open PySem L2 S
section
variable {s : Sv} {b1 b2 b3 b4 : Nat} {e6 e7 e8 e9 : Option D} {st : Sto}
theorem SvOk.head_len (h : SvOk s) : (svHead s).length ≤ 3 ∧ ∀ x ∈ svHead s, x.length ≤ 400 := by
  have hk := h.ks.len; have hw := h.ws.len; have hl := h.ls.len
  have l0 : (Txt.join (Str.ofString " ") (Str.ofString "service" :: s.nm :: s.ks)).length ≤ 400 := by
    have := words_len (ws := Str.ofString "service" :: s.nm :: s.ks) fun x hx => by
      rcases List.mem_cons.mp hx with rfl | hx
      · decide +kernel
      · rcases List.mem_cons.mp hx with rfl | hx
        · exact low_name h.nm
        · exact h.ks.low x hx
    simp at this
    omega
  have l1 : (Txt.join (Str.ofString " ") (Str.ofString "waits" :: s.ws)).length ≤ 400 := by
    have := words_len (ws := Str.ofString "waits" :: s.ws) fun x hx => by
      rcases List.mem_cons.mp hx with rfl | hx
      · decide +kernel
      · exact h.ws.low x hx
    simp at this
    omega
  have l2 : (Txt.join (Str.ofString " ") (Str.ofString "leaves" :: s.ls)).length ≤ 400 := by
    have := words_len (ws := Str.ofString "leaves" :: s.ls) fun x hx => by
      rcases List.mem_cons.mp hx with rfl | hx
      · decide +kernel
      · exact h.ls.low x hx
    simp at this
    omega
  unfold svHead
  by_cases q1 : s.ws = [] <;> by_cases q2 : s.ls = [] <;> simp only [q1, q2, if_true, if_false, List.append_nil, List.nil_append]
  · exact ⟨by simp, fun x hx => by simp at hx; subst hx; exact l0⟩
  · exact ⟨by simp, fun x hx => by
                                         simp at hx
                                         rcases hx with rfl | rfl
                                         · exact l0
                                         · exact l2⟩
  · exact ⟨by simp, fun x hx => by
                                         simp at hx
                                         rcases hx with rfl | rfl
                                         · exact l0
                                         · exact l1⟩
  · exact ⟨by simp, fun x hx => by
                                         simp at hx
                                         rcases hx with rfl | rfl | rfl
                                         · exact l0
                                         · exact l1
                                         · exact l2⟩
theorem RowOk.len {r : Str × List Str} (h : RowOk r) : (rt r).length ≤ 400 := by
  have h1 := words_len h.low
  have hlen : (r.1 :: r.2).length ≤ 5 := by
    rcases h.split with ⟨a, b, c, rfl, _⟩ | ⟨a, b, c, rfl, _⟩ | ⟨a, b, c, d, rfl, _⟩ | ⟨a, b, c, d, rfl, _⟩ <;> simp
  show (Txt.join (Str.ofString " ") (r.1 :: r.2)).length ≤ _
  omega
theorem SvOk.lines_len (h : SvOk s) : (svLines s).length ≤ 33 ∧ ∀ x ∈ svLines s, x.length ≤ 400 := by
  obtain ⟨h1, h2⟩ := h.head_len
  have hr := h.rl
  refine ⟨by unfold svLines; simp; omega, fun x hx => ?_⟩
  rcases List.mem_append.mp hx with hx | hx
  · exact h2 x hx
  · obtain ⟨r, hr, rfl⟩ := List.mem_map.mp hx
    exact (h.rs r hr).len
theorem s_p1 (h : SvOk s) : p_Service_init_1 (senv s b1 b2 b3 b4 (some (.lst ((svHead s).map D.str))) e7 e8 e9) [.ins 5 ns7 (es7 s)] = .nx (senv s b1 b2 b3 b4 (some (.lst ((svHead s).map D.str))) e7 e8 e9) [.ins 5 svNs (svEs s)] := by
  obtain ⟨n1, n2⟩ := h.lines_len
  have hh := h.head_len.1
  have hr := h.rl
  have e1 : mLc (.nm 8) [8] (mItAny (mFld at_told "told" (mVar 0))) mYes (mTxt dJoin (mC (.str " ")) (mVar 8)) (senv s b1 b2 b3 b4 (some (.lst ((svHead s).map D.str))) e7 e8 e9) [.ins 5 ns7 (es7 s)] = .ok (.lst ((s.rs.map rt).map D.str)) [.ins 5 ns7 (es7 s)] := by
    unfold mLc
    rw [it_fld (xs := s.rs.map wdD) (d := .lst (s.rs.map wdD)) rfl rfl (by simp [look, ns7, es7, es5, str_eq]) (.inl rfl)]
    have := lc_map (t := .nm 8) (vs := [8]) (mt := mYes) (me := mTxt dJoin (mC (.str " ")) (mVar 8)) (env := senv s b1 b2 b3 b4 (some (.lst ((svHead s).map D.str))) e7 e8 e9) (st := [.ins 5 ns7 (es7 s)]) wdD (fun r => .str (rt r)) (xs := s.rs) (acc := []) (by rw [sizeLine_eq]; simp; omega) fun r hr => by
      refine ⟨_, rfl, rfl, ?_⟩
      refine (txt_ok rfl (d := wdD r) rfl).trans ?_
      have hlen : (r.1 :: r.2).length ≤ 5 := by
        rcases (h.rs r hr).split with ⟨a, b, c, rfl, _⟩ | ⟨a, b, c, rfl, _⟩ | ⟨a, b, c, d, rfl, _⟩ | ⟨a, b, c, d, rfl, _⟩ <;> simp
      exact words_join (h.rs r hr).low (by omega)
    simp only [R.bind, this, List.nil_append, List.map_map]
    rfl
  have e2 : mLst (mStar (mVar 6) (mStar (mLc (.nm 8) [8] (mItAny (mFld at_told "told" (mVar 0))) mYes (mTxt dJoin (mC (.str " ")) (mVar 8))) mNil)) (senv s b1 b2 b3 b4 (some (.lst ((svHead s).map D.str))) e7 e8 e9) [.ins 5 ns7 (es7 s)] = .ok (.lst ((svLines s).map D.str)) [.ins 5 ns7 (es7 s)] := by
    refine (lst_ok (star_ok (d := .lst ((svHead s).map D.str)) rfl rfl (star_ok e1 rfl nil_ok)) (by simp; omega)).trans ?_
    simp [svLines]
  have e3 : mTxt dJoin (mC (.str "\n")) (mLst (mStar (mVar 6) (mStar (mLc (.nm 8) [8] (mItAny (mFld at_told "told" (mVar 0))) mYes (mTxt dJoin (mC (.str " ")) (mVar 8))) mNil))) (senv s b1 b2 b3 b4 (some (.lst ((svHead s).map D.str))) e7 e8 e9) [.ins 5 ns7 (es7 s)] = .ok (.str (svText s)) [.ins 5 ns7 (es7 s)] := by
    refine (txt_ok rfl e2).trans (join_d ?_)
    have := sum_le n2
    rw [l_nl]
    omega
  unfold p_Service_init_1
  rw [setl_ok rfl rfl (by decide) e3]
  simp [putN, putX, str_eq, ns7, es7, es5, svNs, svEs]
theorem service_run (h : SvOk s) : m_Service_init (senv s b1 b2 b3 b4 none none none none) [.ins 5 [] []] = .nx (senv s b1 b2 b3 b4 (some (.lst ((svHead s).map D.str))) none none none) [.ins 5 svNs (svEs s)] := by
  have hh := h.head_len.1
  rw [s_needs h, s_p7, s_p6 h, s_p5 h, s_p4 h]
  have e1 := s_p32 (s := s) (b1 := b1) (b2 := b2) (b3 := b3) (b4 := b4) (e7 := none) (e8 := none) (e9 := none) (e0 := none) (st := [.ins 5 ns7 (es7 s)]) (ls := [Txt.join " " ("service" :: s.nm :: s.ks)]) h.ws (by simp)
  have e2 := s_p21 (s := s) (b1 := b1) (b2 := b2) (b3 := b3) (b4 := b4) (e7 := none) (e8 := none) (e9 := none) (st := [.ins 5 ns7 (es7 s)]) (ls := [Txt.join " " ("service" :: s.nm :: s.ks)] ++ (if s.ws = [] then [] else [Txt.join (Str.ofString " ") (Str.ofString "waits" :: s.ws)])) h.ls (by split <;> simp)
  refine (e1.trans e2).trans ?_
  have e3 : ([Txt.join " " ("service" :: s.nm :: s.ks)] ++ (if s.ws = [] then [] else [Txt.join (Str.ofString " ") (Str.ofString "waits" :: s.ws)])) ++ (if s.ls = [] then [] else [Txt.join (Str.ofString " ") (Str.ofString "leaves" :: s.ls)]) = svHead s := by
    simp [svHead]
  rw [e3]
  exact s_p1 h
theorem service_made (h : SvOk s) : pur (dNewA 5 6 f_Service_init [0, 1, 2, 3, 4, 5]) [.str s.nm, sq b1 (s.ks.map D.str), sq b2 (s.ws.map D.str), sq b3 (s.ls.map D.str), sq b4 (s.rs.map rowD), .tup [], .tup [], .tup []] st = .ok (svD s) st := by
  refine newA_nx (es := [.str s.nm, sq b1 (s.ks.map D.str), sq b2 (s.ws.map D.str), sq b3 (s.ls.map D.str), sq b4 (s.rs.map rowD)]) ?_ rfl rfl (service_run h) (bel_sv s)
  exact belowL_cons rfl (belowL_cons (sq_below (below_strs _)) (belowL_cons (sq_below (below_strs _)) (belowL_cons (sq_below (below_strs _)) (belowL_cons (sq_below (bel_map bel_row _)) rfl))))
end
end K
namespace K
open PySem L2 S
/-! ### some of the names -/
theorem cut_pre {xs : List D} {k : Nat} (h : k ≤ xs.length) : cutD xs none (some (k : Int)) = xs.take k := by
  have e1 : HT.sIx xs.length 0 none = 0 := rfl
  have e2 : HT.sIx xs.length xs.length (some (k : Int)) = k := by
    rw [HT.sIx_nat]
    omega
  unfold cutD
  rw [e1, e2]
  simp
structure Sub (k : Nat) (ms ns : List Str) : Prop where
  len : k ≤ ms.length
  le : ms.length ≤ ns.length
  mem : ∀ x ∈ ms, x ∈ ns
  nd : ns.Nodup → ms.Nodup
theorem some_ok {st : Sto} {i k : Nat} {ns : List Str} (h : Box st i) (hl : ns.length < 20) (hk : k ≤ ns.length) : ∃ ms st', f__law_some [.ptr i, .lst (ns.map D.str), .int k] st = .ok (.lst (ms.map D.str)) st' ∧ Sub k ms ns ∧ Drawn i st st' := by
  have hi := h.lt
  obtain ⟨ys, st1, e1, p1, D1⟩ := mixed_ok (xs := ns.map D.str) h (by simpa using hl)
  obtain ⟨ms, rfl, p⟩ := perm_strs p1
  obtain ⟨r, st2, r1, e2, D2⟩ := take_d (many := (ns.length : Int) + 1 - k) D1.box (by omega) (by omega)
  have hr : k + r ≤ (ms.map D.str).length := by rw [List.length_map, p.length_eq]; omega
  obtain ⟨st3, e3, D3⟩ := (D1.trans D2).gc (d := .lst ((ms.take (k + r)).map D.str)) hi
  refine ⟨ms.take (k + r), st3, ?_, ⟨?_, ?_, ?_, ?_⟩, D3⟩
  · rw [← e3]
    refine call_at rfl ?_ (fun _ h => by cases h)
    show m__law_some [some (.ptr i), some (.lst (ns.map D.str)), some (.int k)] st = _
    refine ret_ok ?_
    have e4 := cut_pre hr
    rw [Int.natCast_add] at e4
    simp [mSl, mCall, mCons, mVar, mNil, R.bind, e1, mNoPart, mPart, mBin, mApp, dLen, items, rd, dAdd, dSub, dI, mC, e2, dSl, e4]
  · simp; rw [p.length_eq]; simp at hr; rw [p.length_eq] at hr; omega
  · simp; rw [p.length_eq]; omega
  · exact fun x hx => p.mem_iff.mp (List.mem_of_mem_take hx)
  · exact fun q => (p.symm.nodup q).sublist (List.take_sublist _ _)
end K
namespace K
open PySem L2 S
/-! ### any service -/
def poolK : List Key := [.inr "mark", .inr "kind", .inr "mood", .inr "service", .inr "sign"]
def pl5 (a b c d e : List Str) (w : Str) : List Str := if w = Str.ofString "mark" then a else if w = Str.ofString "kind" then b else if w = Str.ofString "mood" then c else if w = Str.ofString "service" then d else e
theorem pool5 {a b c d e : List Str} (ha : a ≠ [] ∧ a.length < 1000) (hb : b ≠ [] ∧ b.length < 1000) (hc : c ≠ [] ∧ c.length < 1000) (hd : d ≠ [] ∧ d.length < 1000) (he : e ≠ [] ∧ e.length < 1000) :
    Pool (.dct poolK [.lst (a.map D.str), .lst (b.map D.str), .lst (c.map D.str), .lst (d.map D.str), .lst (e.map D.str)]) (pl5 a b c d e) := by
  have k : ∀ w, pl5 a b c d e w ≠ [] ∧ (pl5 a b c d e w).length < 1000 := fun w => by
    unfold pl5
    split
    · exact ha
    · split
      · exact hb
      · split
        · exact hc
        · split
          · exact hd
          · exact he
  refine ⟨fun w hw st => ?_, fun w _ => (k w).1, fun w _ => (k w).2⟩
  simp only [List.mem_cons, List.not_mem_nil, or_false] at hw
  rcases hw with rfl | rfl | rfl | rfl | rfl <;> simp [dGetK, rd, kOf, lookK, poolK, pl5, str_eq]
def rowT (r : Str × List Str) : D := .tup (.str r.1 :: r.2.map D.str)
def oneK : List Key := [.inr "name", .inr "kinds", .inr "rows", .inr "waits", .inr "leaves"]
def oneD (s : Sv) : D := .dct oneK [.str s.nm, .lst (s.ks.map D.str), .lst (s.rs.map rowT), .lst (s.ws.map D.str), .lst (s.ls.map D.str)]
theorem fits_wok {pl : Str → List Str} {p : Str × List Str} {x : Str} (hp : ∀ w, ∀ x ∈ pl w, isName x = true) (h : Fits pl p x) : wok p x = true := by
  unfold wok
  rcases h with h | ⟨h1, h2⟩
  · simp [h]
  · simp [h1, hp _ _ h2]
theorem all2_imp {α β : Type} {P Q : α → β → Prop} (h : ∀ a b, P a b → Q a b) {l : List α} {m : List β} (q : All2 P l m) : All2 Q l m := by
  induction q with
  | nil => exact .nil
  | cons p _ ih => exact .cons (h _ _ p) ih
theorem sort_ex {x : Str} (h : x ∈ [Str.ofString "begin", Str.ofString "send", Str.ofString "back", Str.ofString "end"]) : ∃ l, SortW x l := by
  simp only [List.mem_cons, List.not_mem_nil, or_false] at h
  rcases h with rfl | rfl | rfl | rfl
  · exact ⟨_, .b⟩
  · exact ⟨_, .s⟩
  · exact ⟨_, .k⟩
  · exact ⟨_, .e⟩
theorem all2_map {α : Type} {P : D → D → Prop} {f : α → D} (R : α → Prop) (h : ∀ d y, P d y → ∃ a, y = f a ∧ R a) {l m : List D} (q : All2 P l m) : ∃ as : List α, m = as.map f ∧ (∀ a ∈ as, R a) ∧ as.length = l.length := by
  induction q with
  | nil => exact ⟨[], rfl, by simp, rfl⟩
  | cons p _ ih =>
    obtain ⟨as, e, h1, h2⟩ := ih
    obtain ⟨a, e2, h3⟩ := h _ _ p
    exact ⟨a :: as, by simp [e, e2], by simpa [h3] using h1, by simp [h2]⟩
abbrev sorts4 : List Str := [Str.ofString "begin", Str.ofString "send", Str.ofString "back", Str.ofString "end"]
section
variable {i : Nat} {e0 e1 e2 e3 e4 e5 e6 e7 e8 e9 ea eb : Option D} {st st0 : Sto}
/-- the sorts of the rows -/
theorem as_sorts (h : Box st i) : ∃ (ss : List Str) (st' : Sto), mLc (.nm 10) [10] (mItRange (mCons (mCall 2 f__law_take [] (mCons (mVar 0) (mCons (mC (.int 6)) (mNil)))) (mNil))) (mYes) (mCall 2 f__law_pick [] (mCons (mVar 0) (mCons (mLst (mCons (mC (.str "begin")) (mCons (mC (.str "send")) (mCons (mC (.str "back")) (mCons (mC (.str "end")) (mNil)))))) (mNil)))) [some (.ptr i), e1, e2, e3, e4, e5, e6, e7, e8, e9, ea, eb] st = .ok (.lst (ss.map D.str)) st' ∧ Drawn i st st' ∧ (∀ x ∈ ss, x ∈ sorts4) ∧ ss.length ≤ 5 := by
  obtain ⟨r, st1, r1, q1, D1⟩ := take_d (many := 6) h (by decide) (by decide)
  have hit : mItRange (mCons (mCall 2 f__law_take [] (mCons (mVar 0) (mCons (mC (.int 6)) (mNil)))) (mNil)) [some (.ptr i), e1, e2, e3, e4, e5, e6, e7, e8, e9, ea, eb] st = .ok (rangeD 0 r) st1 := by
    have : (-4611686018427387904 : Int) ≤ r ∧ (r : Int) < 4611686018427387904 := by omega
    simp [mItRange, mCons, mCall, mVar, mC, mNil, R.bind, q1, this]
  obtain ⟨ys, st2, e, I2, A⟩ := lc_inv (t := .nm 10) (vs := [10]) (mt := mYes) (me := mCall 2 f__law_pick [] (mCons (mVar 0) (mCons (mLst (mCons (mC (.str "begin")) (mCons (mC (.str "send")) (mCons (mC (.str "back")) (mCons (mC (.str "end")) (mNil)))))) (mNil)))) (fun s => Drawn i st s) (fun _ y => ∃ x, y = .str x ∧ x ∈ sorts4) (env := [some (.ptr i), e1, e2, e3, e4, e5, e6, e7, e8, e9, ea, eb]) (ds := rangeD 0 r) (acc := []) (st := st1) (by rw [sizeLine_eq]; simp [rangeD]; omega) D1 fun d _ st2 I => by
    obtain ⟨x, st3, hx, q3, D3⟩ := pick_s (ws := sorts4) I.box (by simp) (by simp)
    refine ⟨[some (.ptr i), e1, e2, e3, e4, e5, e6, e7, e8, e9, some d, eb], .str x, st3, rfl, rfl, ?_, I.trans D3, x, rfl, hx⟩
    refine call_ok (ds := [.ptr i, .lst (sorts4.map D.str)]) ?_ rfl q3
    simp [mCons, mVar, mLst, mC, mNil, R.bind, sizeLine_eq]
  obtain ⟨ss, rfl, h1, h2⟩ := all2_map (f := D.str) (fun x => x ∈ sorts4) (fun d y q => q) A
  refine ⟨ss, st2, ?_, I2, h1, ?_⟩
  · unfold mLc
    rw [hit]
    simp only [R.bind, e, List.nil_append]
  · rw [h2]; simp [rangeD]; omega
/-- the rows -/
theorem as_rows {P : D} {pl : Str → List Str} {ss : List Str} (h : Box st i) (hP : Pool P pl) (hpl : ∀ w, ∀ x ∈ pl w, isName x = true) (hs : ∀ x ∈ ss, x ∈ sorts4) (hl : ss.length ≤ 5) : ∃ (rs : List (Str × List Str)) (st' : Sto), mLc (.nm 11) [11] (mItAny (mVar 7)) (mYes) (mCall 3 f__law_drawn_row [] (mCons (mVar 0) (mCons (mVar 11) (mCons (mVar 6) (mNil))))) [some (.ptr i), e1, e2, e3, e4, e5, some P, some (.lst (ss.map D.str)), e8, e9, ea, eb] st = .ok (.lst (rs.map rowT)) st' ∧ Drawn i st st' ∧ (∀ r ∈ rs, RowOk r) ∧ rs.length ≤ 5 := by
  obtain ⟨ys, st2, e, I2, A⟩ := lc_inv (t := .nm 11) (vs := [11]) (mt := mYes) (me := mCall 3 f__law_drawn_row [] (mCons (mVar 0) (mCons (mVar 11) (mCons (mVar 6) (mNil))))) (fun s => Drawn i st s) (fun _ y => ∃ r, y = rowT r ∧ RowOk r) (env := [some (.ptr i), e1, e2, e3, e4, e5, some P, some (.lst (ss.map D.str)), e8, e9, ea, eb]) (ds := ss.map D.str) (acc := []) (st := st) (by rw [sizeLine_eq]; simp; omega) (Drawn.refl h) fun d hd st2 I => by
    obtain ⟨x, hx, rfl⟩ := List.mem_map.mp hd
    obtain ⟨l, hw⟩ := sort_ex (hs x hx)
    obtain ⟨xs, st3, q3, D3, q⟩ := drawn_ok I.box hP hw
    refine ⟨_, rowT (x, xs), st3, rfl, rfl, ?_, I.trans D3, (x, xs), rfl, ⟨l, hw, all2_imp (fun a b => fits_wok hpl) q⟩⟩
    exact call_ok (ds := [.ptr i, .str x, P]) rfl rfl q3
  obtain ⟨rs, rfl, h1, h2⟩ := all2_map (f := rowT) RowOk (fun d y q => q) A
  refine ⟨rs, st2, ?_, I2, h1, ?_⟩
  · unfold mLc
    rw [show mItAny (mVar 7) [some (.ptr i), e1, e2, e3, e4, e5, some P, some (.lst (ss.map D.str)), e8, e9, ea, eb] st = .ok (ss.map D.str) st from rfl]
    simp only [R.bind, e, List.nil_append]
  · rw [h2]; simpa using hl
end
end K
namespace K
open PySem L2 S
theorem call_frz {n j : Nat} {ms : MS} {ds es : List D} {ks : List Key} {st st' : Sto} (hb : belowL 0 ds = false) (h : ms (ds.map some ++ List.replicate (n - ds.length) none) st = .rt (.ptr j) st') (hc : st'[j]? = some (.dct ks es)) : pur (mFun true n ms) ds st = gc st.length (.dct ks es) (st'.set j .dead) := by
  unfold pur
  rw [hb, if_neg (by decide)]
  unfold mFun
  rw [h]
  simp [dFrz, hc, R.bind]
theorem seven {ws : List Str} (h : ws.length = 7) : ∃ a b c d e f g, ws = [a, b, c, d, e, f, g] := by
  match ws, h with
  | [a, b, c, d, e, f, g], _ => exact ⟨a, b, c, d, e, f, g, rfl⟩
section
variable {i n j : Nat} {nm : Str} {ns : List Str} {e1 e2 e3 e4 e5 e6 e7 e8 e9 ea eb : Option D} {st : Sto}
theorem as_end {ks : List Key} {ds : List D} (h : Box st i) (hj : st[j]? = some (.dct [.inr "name", .inr "kinds", .inr "rows"] [a, b, c])) (hij : j ≠ i) (hl : ns.length < 20) :
    ∃ ws ls st', p__law_any_service_1 [some (.ptr i), e1, some (.lst (ns.map D.str)), e3, e4, e5, e6, e7, e8, some (.ptr j), ea, eb] st = .rt (.ptr j) (st'.set j (.dct oneK [a, b, c, .lst (ws.map D.str), .lst (ls.map D.str)])) ∧ Drawn i st st' ∧ Sub 0 ws ns ∧ Sub 0 ls ns ∧ st'[j]? = some (.dct [.inr "name", .inr "kinds", .inr "rows"] [a, b, c]) := by
  obtain ⟨ws, st1, q1, s1, D1⟩ := some_ok (k := 0) (ns := ns) h hl (Nat.zero_le _)
  obtain ⟨ls, st2, q2, s2, D2⟩ := some_ok (k := 0) (ns := ns) D1.box hl (Nat.zero_le _)
  have hlt : j < st.length := (List.getElem?_eq_some_iff.mp hj).1
  have hj2 : st2[j]? = some (.dct [.inr "name", .inr "kinds", .inr "rows"] [a, b, c]) := ((D1.trans D2).off _ hlt (by omega)).trans hj
  refine ⟨ws, ls, st2, ?_, D1.trans D2, s1, s2, hj2⟩
  have r1 : mDisp [(mC (.str "waits"), mCall 3 f__law_some [] (mCons (mVar 0) (mCons (mVar 2) (mCons (mC (.int 0)) (mNil))))), (mC (.str "leaves"), mCall 3 f__law_some [] (mCons (mVar 0) (mCons (mVar 2) (mCons (mC (.int 0)) (mNil)))))] [some (.ptr i), e1, some (.lst (ns.map D.str)), e3, e4, e5, e6, e7, e8, some (.ptr j), ea, eb] st = .ok (.dct [.inr "waits", .inr "leaves"] [.lst (ws.map D.str), .lst (ls.map D.str)]) st2 := by
    have q1' : f__law_some [.ptr i, .lst (ns.map D.str), .int 0] st = .ok (.lst (ws.map D.str)) st1 := q1
    have q2' : f__law_some [.ptr i, .lst (ns.map D.str), .int 0] st1 = .ok (.lst (ls.map D.str)) st2 := q2
    simp [mDisp, mPrs, mC, mCall, mCons, mVar, mNil, R.bind, R.only, q1', q2', kOfs, kOf, str_eq]
  unfold p__law_any_service_1
  refine (seq_nx (env' := [some (.ptr i), e1, some (.lst (ns.map D.str)), e3, e4, e5, e6, e7, e8, some (.ptr j), ea, eb]) (st' := st2.set j (.dct oneK [a, b, c, .lst (ws.map D.str), .lst (ls.map D.str)])) (do_ok (d := .non) ?_)).trans (ret_ok rfl)
  have r2 : mCons (mDisp [(mC (.str "waits"), mCall 3 f__law_some [] (mCons (mVar 0) (mCons (mVar 2) (mCons (mC (.int 0)) (mNil))))), (mC (.str "leaves"), mCall 3 f__law_some [] (mCons (mVar 0) (mCons (mVar 2) (mCons (mC (.int 0)) (mNil)))))]) mNil [some (.ptr i), e1, some (.lst (ns.map D.str)), e3, e4, e5, e6, e7, e8, some (.ptr j), ea, eb] st = .ok [.dct [.inr "waits", .inr "leaves"] [.lst (ws.map D.str), .lst (ls.map D.str)]] st2 := cons_ok r1 nil_ok
  unfold mDm
  rw [show mVar 9 [some (.ptr i), e1, some (.lst (ns.map D.str)), e3, e4, e5, e6, e7, e8, some (.ptr j), ea, eb] st = .ok (.ptr j) st from rfl]
  simp only [R.bind]
  rw [r2, if_pos (by simp [isDct, rd, hj])]
  simp [R.bind, dUpd, hj2, sizeLine_eq, foldK, zipK, putKs, putKd, str_eq, oneK]
theorem any_sv {n : Nat} {words : List Str} (h : Box st i) (hn : Nm0 ns n) (h0 : 1 ≤ n) (h7 : n ≤ 7) (hw : Nms words 7) (hm : isName nm = true) : ∃ s st', f__law_any_service [.ptr i, .str nm, .lst (ns.map D.str), .lst (words.map D.str)] st = .ok (oneD s) st' ∧ Drawn i st st' ∧ SvOk s ∧ s.nm = nm ∧ (∀ x ∈ s.ws, x ∈ ns) ∧ (∀ x ∈ s.ls, x ∈ ns) ∧ s.rs.length ≤ 5 ∧ s.ks.length ≤ 7 ∧ s.ws.length ≤ 7 ∧ s.ls.length ≤ 7 := by
  have hi := h.lt
  obtain ⟨w0, w1, w2, w3, w4, w5, w6, rfl⟩ := seven hw.len
  have hnl := hn.len
  obtain ⟨ks, st1, q1, s1, D1⟩ := some_ok (k := 1) (ns := [w0, w1]) h (by simp) (by simp)
  have w : ∀ x ∈ [w0, w1, w2, w3, w4, w5, w6], isName x = true := hw.nm
  have hks : ∀ x ∈ ks, isName x = true := fun x hx => w x (by have := s1.mem x hx; simp at this; rcases this with rfl | rfl <;> simp)
  have hk0 : ks ≠ [] := fun e => by have := s1.len; rw [e] at this; simp at this
  have hk1 : ks.length ≤ 2 := s1.le
  have hn0 : ns ≠ [] := fun e => by rw [e] at hnl; simp at hnl; omega
  have hP := pool5 (a := [w4, w5]) (b := ks) (c := ["calm", w2, w3]) (d := ns) (e := [w5, w6]) ⟨by simp, by simp⟩ ⟨hk0, by omega⟩ ⟨by simp, by simp⟩ ⟨hn0, by omega⟩ ⟨by simp, by simp⟩
  have hpl : ∀ z, ∀ x ∈ pl5 [w4, w5] ks ["calm", w2, w3] ns [w5, w6] z, isName x = true := fun z x hx => by
    unfold pl5 at hx
    split at hx
    · exact w x (by simp at hx; rcases hx with rfl | rfl <;> simp)
    · split at hx
      · exact hks x hx
      · split at hx
        · rcases List.mem_cons.mp hx with rfl | hx
          · decide +kernel
          · exact w x (by simp at hx; rcases hx with rfl | rfl <;> simp)
        · split at hx
          · exact hn.nm x hx
          · exact w x (by simp at hx; rcases hx with rfl | rfl <;> simp)
  obtain ⟨ss, st2, q2, D2, hs, hsl⟩ := as_sorts (e1 := some (.str nm)) (e2 := some (.lst (ns.map D.str))) (e3 := some (.lst ([w0, w1, w2, w3, w4, w5, w6].map D.str))) (e4 := some (.lst (ks.map D.str))) (e5 := some (.lst ([Str.ofString "calm", w2, w3].map D.str))) (e6 := some (.dct poolK [.lst ([w4, w5].map D.str), .lst (ks.map D.str), .lst ([Str.ofString "calm", w2, w3].map D.str), .lst (ns.map D.str), .lst ([w5, w6].map D.str)])) (e7 := none) (e8 := none) (e9 := none) (ea := none) (eb := none) D1.box
  obtain ⟨rs, st3, q3, D3, hr, hrl⟩ := as_rows (e1 := some (.str nm)) (e2 := some (.lst (ns.map D.str))) (e3 := some (.lst ([w0, w1, w2, w3, w4, w5, w6].map D.str))) (e4 := some (.lst (ks.map D.str))) (e5 := some (.lst ([Str.ofString "calm", w2, w3].map D.str))) (e8 := none) (e9 := none) (ea := none) (eb := none) D2.box hP hpl hs hsl
  have D4 := (D1.trans D2).trans D3
  have hb3 : Box (st3 ++ [.dct [.inr "name", .inr "kinds", .inr "rows"] [.str nm, .lst (ks.map D.str), .lst (rs.map rowT)]]) i := (Drawn.app D4.box).box
  have hle := D4.len
  obtain ⟨ws, ls, st5, q5, D5, sw, sl, hj⟩ := as_end (ks := []) (ds := []) (j := st3.length) (ns := ns) (a := .str nm) (b := .lst (ks.map D.str)) (c := .lst (rs.map rowT)) (e1 := some (.str nm)) (e3 := some (.lst ([w0, w1, w2, w3, w4, w5, w6].map D.str))) (e4 := some (.lst (ks.map D.str))) (e5 := some (.lst ([Str.ofString "calm", w2, w3].map D.str))) (e6 := some (.dct poolK [.lst ([w4, w5].map D.str), .lst (ks.map D.str), .lst ([Str.ofString "calm", w2, w3].map D.str), .lst (ns.map D.str), .lst ([w5, w6].map D.str)])) (e7 := some (.lst (ss.map D.str))) (e8 := some (.lst (rs.map rowT))) (ea := none) (eb := none) hb3 (by simp) (by omega) (by omega)
  have D6 : Drawn i st st5 := D4.trans ((Drawn.app D4.box).trans D5)
  have D7 := ((D6.put (j := st3.length) (c := .dct oneK [.str nm, .lst (ks.map D.str), .lst (rs.map rowT), .lst (ws.map D.str), .lst (ls.map D.str)]) hle hi).put (j := st3.length) (c := .dead) hle hi)
  obtain ⟨st6, q6, D8⟩ := D7.gc (d := oneD ⟨nm, ks, ws, ls, rs⟩) hi
  refine ⟨⟨nm, ks, ws, ls, rs⟩, st6, ?_, D8, ⟨hm, ⟨hks, s1.nd ?_, by show ks.length ≤ 30; omega⟩, hk0, ⟨fun x hx => hn.nm x (sw.mem x hx), sw.nd hn.nd, ?_⟩, ⟨fun x hx => hn.nm x (sl.mem x hx), sl.nd hn.nd, ?_⟩, hr, by show rs.length ≤ 30; omega⟩, rfl, sw.mem, sl.mem, hrl, by show ks.length ≤ 7; omega, by have := sw.le; show ws.length ≤ 7; omega, by have := sl.le; show ls.length ≤ 7; omega⟩
  · rw [← q6]
    refine call_frz rfl (?_ : m__law_any_service [some (.ptr i), some (.str nm), some (.lst (ns.map D.str)), some (.lst ([w0, w1, w2, w3, w4, w5, w6].map D.str)), none, none, none, none, none, none, none, none] st = _) (st_same hj)
    have q1' : f__law_some [.ptr i, .lst [.str w0, .str w1], .int 1] st = .ok (.lst (ks.map D.str)) st1 := q1
    unfold m__law_any_service
    refine (seq_nx (env' := [some (.ptr i), some (.str nm), some (.lst (ns.map D.str)), some (.lst ([w0, w1, w2, w3, w4, w5, w6].map D.str)), some (.lst (ks.map D.str)), some (.lst ([Str.ofString "calm", w2, w3].map D.str)), none, none, none, none, none, none]) (st' := st1) ?_).trans ?_
    · simp [mPar, mCons, mCall, mVar, mSl, mNoPart, mPart, mC, R.bind, dSl, rd, cutD, HT.sIx, mNil, q1', mBin, mLst, dAdd, sizeLine_eq, putAll]
    unfold p__law_any_service_5
    refine (seq_nx (set_ok (d := .dct poolK [.lst ([w4, w5].map D.str), .lst (ks.map D.str), .lst ([Str.ofString "calm", w2, w3].map D.str), .lst (ns.map D.str), .lst ([w5, w6].map D.str)]) (st' := st1) ?_)).trans ?_
    · simp [mDisp, mPrs, mC, mVar, mSl, mPart, R.bind, R.only, dSl, rd, cutD, HT.sIx, mApp, mCons, mNil, dList, items, kOfs, kOf, poolK, str_eq]
    unfold p__law_any_service_4
    refine (seq_nx (set_ok q2)).trans ?_
    unfold p__law_any_service_3
    refine (seq_nx (set_ok q3)).trans ?_
    unfold p__law_any_service_2
    refine (seq_nx (set_ok (d := .ptr st3.length) (st' := st3 ++ [C.dct [.inr "name", .inr "kinds", .inr "rows"] [.str nm, .lst (ks.map D.str), .lst (rs.map rowT)]]) ?_)).trans ?_
    rotate_left
    · exact q5
    simp [mDispC, mPrs, mC, mVar, R.bind, R.only, kOfs, kOf, str_eq]
  · have := hw.nd
    simp at this ⊢
    exact this.1.1
  · have := sw.le; show ws.length ≤ 30; omega
  · have := sl.le; show ls.length ≤ 30; omega
end
end K
namespace K
open PySem L2 S
section
variable {α β : Type} {t t1 : Tg} {vs vs1 : List Nat} {mi mi1 : MA} {mt mt1 : MB} {me : M} {env : S.Env} {st : Sto}
theorem lcm (h f : α → D) {xs : List α} (hi : mi env st = .ok (xs.map h) st) (hl : xs.length ≤ 100000) (H : ∀ a ∈ xs, ∃ env1, t.at (h a) (wipeE env vs) st = some env1 ∧ mt env1 st = .ok true st ∧ me env1 st = .ok (f a) st) : mLc t vs mi mt me env st = .ok (.lst (xs.map f)) st := by
  have := lc_map h f (acc := []) (by rw [sizeLine_eq]; simp; omega) H
  unfold mLc
  rw [hi]
  simp only [R.bind, this, List.nil_append]
end
section
variable {α : Type} {a b : MB} {m : M} {env : S.Env} {st : Sto}
theorem orF (h : a env st = .ok false st) (h' : b env st = .ok false st) : mOrB a b env st = .ok false st := by
  unfold mOrB
  rw [h]
  exact h'
theorem notT (h : m env st = .ok (.bl true) st) : mNotB (mTru m) env st = .ok false st := by
  unfold mNotB mTru
  rw [h]
  rfl
theorem svf {ok : Nat → Bool} {f : Str} {i : Nat} {s : Sv} {d : D} (hi : env[i]? = some (some (svD s))) (hc : ok 5 = true) (h : look f svNs (svEs s) = some d) : mFld ok f (mVar i) env st = .ok d st := by
  simp [mFld, mVar, hi, R.bind, dFld, rd, svD, hc, h]
theorem itv {i : Nat} {xs : List D} (hi : env[i]? = some (some (.lst xs))) : mItAny (mVar i) env st = .ok xs st := by
  simp [mItAny, mVar, hi, R.bind, itemsF]
end
theorem bel_svD (s : Sv) : below 0 (svD s) = true := bel_sv s
theorem ne_strs {st : Sto} {a b : Str} : dNe (.str a) (.str b) st = .ok (.bl (!decide (a = b))) st := by
  simp [dNe, eqD, isFl, fl, scal]
theorem tupm {m : M} {env : S.Env} {st : Sto} {xs : List D} (h : m env st = .ok (.lst xs) st) : mApp dTuple (mCons m mNil) env st = .ok (.tup xs) st :=
  (app_ok (cons_ok h nil_ok)).trans rfl
section
variable {s : Sv} {st : Sto}
theorem one_nm : dGetK (oneD s) (.str "name") st = .ok (.str s.nm) st := by simp [dGetK, rd, oneD, kOf, lookK, oneK, str_eq]
theorem one_ks : dGetK (oneD s) (.str "kinds") st = .ok (.lst (s.ks.map D.str)) st := by simp [dGetK, rd, oneD, kOf, lookK, oneK, str_eq]
theorem one_rs : dGetK (oneD s) (.str "rows") st = .ok (.lst (s.rs.map rowT)) st := by simp [dGetK, rd, oneD, kOf, lookK, oneK, str_eq]
theorem one_ws : dGetK (oneD s) (.str "waits") st = .ok (.lst (s.ws.map D.str)) st := by simp [dGetK, rd, oneD, kOf, lookK, oneK, str_eq]
theorem one_ls : dGetK (oneD s) (.str "leaves") st = .ok (.lst (s.ls.map D.str)) st := by simp [dGetK, rd, oneD, kOf, lookK, oneK, str_eq]
theorem getv {i : Nat} {k : Str} {d e : D} {env : S.Env} (hi : env[i]? = some (some d)) (h : dGetK d (.str k) st = .ok e st) : mBin dGetK (mVar i) (mC (.str k)) env st = .ok e st :=
  (bin_ok (d := d) (e := .str k) (st1 := st) (st2 := st) (by simp [mVar, hi]) rfl).trans h
theorem itg {m : M} {xs : List D} {env : S.Env} (h : m env st = .ok (.lst xs) st) : mItAny m env st = .ok xs st := by
  unfold mItAny
  rw [h]
  rfl
theorem bel_rowT (r : Str × List Str) : below 0 (rowT r) = true := below_strs (r.1 :: r.2)
theorem bel_one (s : Sv) : below 0 (oneD s) = true :=
  belowL_cons rfl (belowL_cons (below_strs _) (belowL_cons (bel_map bel_rowT _) (belowL_cons (below_strs _) (belowL_cons (below_strs _) rfl))))
theorem service_of (h : SvOk s) : f__law_service_of [oneD s] st = .ok (svD s) st := by
  have hrl := h.rl
  refine call_rt (st' := []) (belowL_cons (bel_one s) rfl) (?_ : m__law_service_of [some (oneD s), none, none] [] = _) (bel_svD s)
  unfold m__law_service_of
  have e1 : mLc (.nm 2) [2] (mItAny (mBin dGetK (mVar 0) (mC (.str "rows")))) (mYes) (mCall 1 f__law_row [] (mCons (mVar 2) (mNil))) [some (oneD s), none, none] [] = .ok (.lst (s.rs.map rowD)) [] :=
    lcm (xs := s.rs) rowT rowD (itg (getv rfl one_rs)) (by omega) fun r hr => ⟨_, rfl, rfl, call_ok (ds := [rowT r]) (cons_ok rfl nil_ok) rfl (row_made (h.rs r hr))⟩
  refine (seq_nx (set_ok e1)).trans (ret_ok ?_)
  have a1 : mCons (mBin dGetK (mVar 0) (mC (.str "name"))) (mCons (mBin dGetK (mVar 0) (mC (.str "kinds"))) (mCons (mBin dGetK (mVar 0) (mC (.str "waits"))) (mCons (mApp dTuple (mCons (mBin dGetK (mVar 0) (mC (.str "leaves"))) (mNil))) (mCons (mVar 1) (mNil))))) [some (oneD s), some (.lst (s.rs.map rowD)), none] [] = .ok [.str s.nm, .lst (s.ks.map D.str), .lst (s.ws.map D.str), .tup (s.ls.map D.str), .lst (s.rs.map rowD)] [] :=
    cons_ok (getv rfl one_nm) (cons_ok (getv rfl one_ks) (cons_ok (getv rfl one_ws) (cons_ok (tupm (getv rfl one_ls)) (cons_ok rfl nil_ok))))
  have a2 := service_made (b1 := 1) (b2 := 1) (b3 := 0) (b4 := 1) (st := []) h
  show mMakeA 5 6 f_Service_init [0, 1, 2, 3, 4, 5] (mArgs 5 0 (mCons (mBin dGetK (mVar 0) (mC (.str "name"))) (mCons (mBin dGetK (mVar 0) (mC (.str "kinds"))) (mCons (mBin dGetK (mVar 0) (mC (.str "waits"))) (mCons (mApp dTuple (mCons (mBin dGetK (mVar 0) (mC (.str "leaves"))) (mNil))) (mCons (mVar 1) (mNil)))))) (mNil) [.tup [], .tup [], .tup []]) [some (oneD s), some (.lst (s.rs.map rowD)), none] [] = _
  have a3 : mArgs 5 0 (mCons (mBin dGetK (mVar 0) (mC (.str "name"))) (mCons (mBin dGetK (mVar 0) (mC (.str "kinds"))) (mCons (mBin dGetK (mVar 0) (mC (.str "waits"))) (mCons (mApp dTuple (mCons (mBin dGetK (mVar 0) (mC (.str "leaves"))) (mNil))) (mCons (mVar 1) (mNil)))))) (mNil) [.tup [], .tup [], .tup []] [some (oneD s), some (.lst (s.rs.map rowD)), none] [] = .ok [.str s.nm, .lst (s.ks.map D.str), .lst (s.ws.map D.str), .tup (s.ls.map D.str), .lst (s.rs.map rowD), .tup [], .tup [], .tup []] [] := by
    unfold mArgs
    rw [a1]
    rfl
  unfold mMakeA
  rw [a3]
  exact a2
theorem lo_1 {w : Str} {xs acc : List Str} {e3 : Option D} (hg : ∀ st, dGetK (oneD s) (.str w) st = .ok (.lst (xs.map D.str)) st) (hx : NmL xs) (hw : low w = true) (ha : acc.length ≤ 100) : p__law_lines_of_1 [some (oneD s), some (.ptr 0), some (.str w), e3] [.lst (acc.map D.str)] = .nx [some (oneD s), some (.ptr 0), some (.str w), e3] [.lst ((acc ++ if xs = [] then [] else [Txt.join (Str.ofString " ") (w :: xs)]).map D.str)] := by
  have hl := hx.len
  have g : ∀ st, mBin dGetK (mVar 0) (mVar 2) [some (oneD s), some (.ptr 0), some (.str w), e3] st = .ok (.lst (xs.map D.str)) st := fun st => (bin_ok (d := oneD s) (e := .str w) rfl rfl).trans (hg st)
  have t : mTest (mBin dGt (mApp dLen (mCons (mBin dGetK (mVar 0) (mVar 2)) (mNil))) (mC (.int 0))) [some (oneD s), some (.ptr 0), some (.str w), e3] [.lst (acc.map D.str)] = .ok (decide (0 < xs.length)) [.lst (acc.map D.str)] := by
    have : mBin dGt (mApp dLen (mCons (mBin dGetK (mVar 0) (mVar 2)) (mNil))) (mC (.int 0)) [some (oneD s), some (.ptr 0), some (.str w), e3] [.lst (acc.map D.str)] = .ok (.bl (decide (0 < xs.length))) [.lst (acc.map D.str)] := by
      refine (bin_ok ((app_ok (cons_ok (g _) nil_ok)).trans (sq_len (b := 1))) rfl).trans ?_
      simp [dGt, dI]
    unfold mTest
    rw [this]
    rfl
  unfold p__law_lines_of_1
  by_cases q : xs = []
  · subst q
    rw [if_f t]
    simp
    rfl
  · have hp := List.length_pos_iff.mpr q
    rw [if_t (t.trans (by rw [decide_eq_true hp]))]
    refine do_ok (d := .non) ?_
    have e1 : mTxt dJoin (mC (.str " ")) (mBin dAdd (mLst (mCons (mVar 2) (mNil))) (mApp dList (mCons (mBin dGetK (mVar 0) (mVar 2)) (mNil)))) [some (oneD s), some (.ptr 0), some (.str w), e3] [.lst (acc.map D.str)] = .ok (.str (Txt.join " " (w :: xs))) [.lst (acc.map D.str)] := by
      have e2 : mBin dAdd (mLst (mCons (mVar 2) (mNil))) (mApp dList (mCons (mBin dGetK (mVar 0) (mVar 2)) (mNil))) [some (oneD s), some (.ptr 0), some (.str w), e3] [.lst (acc.map D.str)] = .ok (.lst ((w :: xs).map D.str)) [.lst (acc.map D.str)] := by
        refine (bin_ok (lst_ok (ds := [.str w]) (cons_ok rfl nil_ok) (by simp)) (e := .lst (xs.map D.str)) ((app_ok (cons_ok (g _) nil_ok)).trans rfl)).trans ?_
        simp [dAdd, rd, sizeLine_eq]
        omega
      refine (txt_ok rfl e2).trans (words_join (fun x hx' => ?_) (by simp; omega))
      rcases List.mem_cons.mp hx' with rfl | hx'
      · exact hw
      · exact hx.low x hx'
    have hz : acc.length < 16777216 := by omega
    unfold mLm
    rw [show mVar 1 [some (oneD s), some (.ptr 0), some (.str w), e3] [.lst (acc.map D.str)] = .ok (.ptr 0) [.lst (acc.map D.str)] from rfl]
    simp only [R.bind]
    rw [cons_ok e1 nil_ok]
    simp [isLst, rd, dAppend, sizeLine_eq, q]
    omega
theorem lines_of (h : SvOk s) : f__law_lines_of [oneD s] st = .ok (.lst ((svLines s).map D.str)) st := by
  have hh := h.head_len.1
  have hrl := h.rl
  have hk := h.ks.len
  refine call_rt (st' := [.lst ((svHead s).map D.str)]) (belowL_cons (bel_one s) rfl) (?_ : m__law_lines_of [some (oneD s), none, none, none] [] = _) (below_strs _)
  unfold m__law_lines_of
  have e1 : mTxt dJoin (mC (.str " ")) (mBin dAdd (mLst (mCons (mC (.str "service")) (mCons (mBin dGetK (mVar 0) (mC (.str "name"))) (mNil)))) (mApp dList (mCons (mBin dGetK (mVar 0) (mC (.str "kinds"))) (mNil)))) [some (oneD s), none, none, none] [] = .ok (.str (Txt.join " " ("service" :: s.nm :: s.ks))) [] := by
    have e2 : mBin dAdd (mLst (mCons (mC (.str "service")) (mCons (mBin dGetK (mVar 0) (mC (.str "name"))) (mNil)))) (mApp dList (mCons (mBin dGetK (mVar 0) (mC (.str "kinds"))) (mNil))) [some (oneD s), none, none, none] [] = .ok (.lst (((Str.ofString "service") :: s.nm :: s.ks).map D.str)) [] := by
      refine (bin_ok (lst_ok (ds := [.str "service", .str s.nm]) (cons_ok rfl (cons_ok (getv rfl one_nm) nil_ok)) (by simp)) (e := .lst (s.ks.map D.str)) ((app_ok (cons_ok (getv rfl one_ks) nil_ok)).trans rfl)).trans ?_
      simp [dAdd, rd, sizeLine_eq]
      omega
    refine (txt_ok rfl e2).trans (words_join (fun x hx' => ?_) (by simp; omega))
    rcases List.mem_cons.mp hx' with rfl | hx'
    · decide +kernel
    · rcases List.mem_cons.mp hx' with rfl | hx'
      · exact low_name h.nm
      · exact h.ks.low x hx'
  have e3 : mLstC (mCons (mTxt dJoin (mC (.str " ")) (mBin dAdd (mLst (mCons (mC (.str "service")) (mCons (mBin dGetK (mVar 0) (mC (.str "name"))) (mNil)))) (mApp dList (mCons (mBin dGetK (mVar 0) (mC (.str "kinds"))) (mNil))))) mNil) [some (oneD s), none, none, none] [] = .ok (.ptr 0) [.lst (([Txt.join " " ("service" :: s.nm :: s.ks)]).map D.str)] := by
    unfold mLstC
    rw [cons_ok e1 nil_ok]
    simp [R.bind, sizeLine_eq]
  refine (seq_nx (set_ok e3)).trans ?_
  have hit : mItAny (mTup (mCons (mC (.str "waits")) (mCons (mC (.str "leaves")) (mNil)))) [some (oneD s), some (.ptr 0), none, none] [.lst (([Txt.join " " ("service" :: s.nm :: s.ks)]).map D.str)] = .ok [.str "waits", .str "leaves"] [.lst (([Txt.join " " ("service" :: s.nm :: s.ks)]).map D.str)] := by
    simp [mItAny, mTup, mCons, mC, mNil, R.bind, sizeLine_eq, itemsF]
  refine (seq_nx (env' := [some (oneD s), some (.ptr 0), some (.str "leaves"), none]) (st' := [.lst ((svHead s).map D.str)]) ?_).trans ?_
  · show mFor _ _ _ [some (oneD s), some (.ptr 0), none, none] _ = _
    unfold mFor
    rw [hit]
    show (match p__law_lines_of_1 [some (oneD s), some (.ptr 0), some (.str "waits"), none] [.lst (([Txt.join " " ("service" :: s.nm :: s.ks)]).map D.str)] with
      | .nx env2 st2 => mForGo (.nm 2) p__law_lines_of_1 [.str "leaves"] env2 st2
      | .ct env2 st2 => mForGo (.nm 2) p__law_lines_of_1 [.str "leaves"] env2 st2
      | .bk env2 st2 => .nx env2 st2
      | r => r) = _
    rw [lo_1 (fun st => one_ws) h.ws (by decide +kernel) (by simp)]
    show (match p__law_lines_of_1 [some (oneD s), some (.ptr 0), some (.str "leaves"), none] [.lst (([Txt.join " " ("service" :: s.nm :: s.ks)] ++ (if s.ws = [] then [] else [Txt.join (Str.ofString " ") (Str.ofString "waits" :: s.ws)])).map D.str)] with
      | .nx env2 st2 => mForGo (.nm 2) p__law_lines_of_1 [] env2 st2
      | .ct env2 st2 => mForGo (.nm 2) p__law_lines_of_1 [] env2 st2
      | .bk env2 st2 => .nx env2 st2
      | r => r) = _
    rw [lo_1 (fun st => one_ls) h.ls (by decide +kernel) (by split <;> simp)]
    show RS.nx _ _ = _
    rw [show ([Txt.join " " ("service" :: s.nm :: s.ks)] ++ (if s.ws = [] then [] else [Txt.join (Str.ofString " ") (Str.ofString "waits" :: s.ws)])) ++ (if s.ls = [] then [] else [Txt.join (Str.ofString " ") (Str.ofString "leaves" :: s.ls)]) = svHead s from by simp [svHead]]
  · refine ret_ok ?_
    have r1 : mLc (.nm 3) [3] (mItAny (mBin dGetK (mVar 0) (mC (.str "rows")))) (mYes) (mCall 1 f__law_row_text [] (mCons (mVar 3) (mNil))) [some (oneD s), some (.ptr 0), some (.str "leaves"), none] [.lst ((svHead s).map D.str)] = .ok (.lst (s.rs.map fun r => .str (rt r))) [.lst ((svHead s).map D.str)] := by
      refine lcm (xs := s.rs) rowT _ (itg (getv rfl one_rs)) (by omega) fun r hr => ⟨_, rfl, rfl, call_ok (ds := [rowT r]) (cons_ok rfl nil_ok) rfl ?_⟩
      refine call_rt (st' := []) (belowL_cons (bel_rowT r) rfl) (?_ : m__law_row_text [some (rowT r)] [] = _) rfl
      refine ret_ok ?_
      refine (txt_ok rfl (d := rowT r) rfl).trans ?_
      have hlen : (r.1 :: r.2).length ≤ 5 := by
        rcases (h.rs r hr).split with ⟨a, b, c, rfl, _⟩ | ⟨a, b, c, rfl, _⟩ | ⟨a, b, c, d, rfl, _⟩ | ⟨a, b, c, d, rfl, _⟩ <;> simp
      exact words_join (h.rs r hr).low (by omega)
    refine (bin_ok (d := .ptr 0) rfl r1).trans ?_
    have hq : (svHead s).length + s.rs.length ≤ 16777216 := by omega
    simp [dAdd, rd, sizeLine_eq, svLines, hq]
    all_goals rfl
end
theorem itt {m : M} {xs : List D} {env : S.Env} {st : Sto} (h : m env st = .ok (.tup xs) st) : mItAny m env st = .ok xs st := by
  unfold mItAny
  rw [h]
  rfl
theorem tst {m : M} {b : Bool} {env : S.Env} {st : Sto} (h : m env st = .ok (.bl b) st) : mTest m env st = .ok b st := by
  unfold mTest
  rw [h]
  rfl
theorem ok_app {x y : Str} (hx : PyData.strOk x = true) (hy : PyData.strOk y = true) : PyData.strOk (x ++ y) = true := by
  unfold PyData.strOk at *
  show (x.cps ++ y.cps).all _ = true
  rw [Array.all_append, hx, hy]
  rfl
theorem ok_join {z : Str} (hz : PyData.strOk z = true) : ∀ {ws : List Str}, (∀ x ∈ ws, PyData.strOk x = true) → PyData.strOk (Str.join z ws) = true
  | [], _ => (by decide +kernel : PyData.strOk Str.empty = true)
  | [x], h => h x (.head _)
  | x :: y :: r, h => ok_app (ok_app (h x (.head _)) hz) (ok_join hz fun w hw => h w (.tail _ hw))
theorem eqD_self {d : D} {p : PyData} {st : Sto} (h : toPy (rd st d) = some p) (hc : SeqAt.shaped p = true) : eqD st d d = some true := by
  unfold eqD
  split
  · simp
  · rw [h]
    simp [hc, SeqAt.eqv_refl p (SeqAt.canLay_of_shaped hc)]
theorem ne_lst {ws : List Str} {st : Sto} (h : ∀ x ∈ ws, PyData.strOk x = true) : dNe (.lst (ws.map D.str)) (.lst (ws.map D.str)) st = .ok (.bl false) st ∧ dNe (.tup (ws.map D.str)) (.tup (ws.map D.str)) st = .ok (.bl false) st := by
  obtain ⟨ps, h1, h2, h3⟩ := toPyL_of (ys := ws.map D.str) (n := 0) fun y hy => by
    obtain ⟨x, hx, rfl⟩ := List.mem_map.mp hy
    exact ⟨.str x, rfl, h x hx, Nat.zero_le _⟩
  have e1 : eqD st (.lst (ws.map D.str)) (.lst (ws.map D.str)) = some true := eqD_self (p := .list ps) (by show (toPyL _).map _ = _; rw [h1]; rfl) (by unfold SeqAt.shaped; rw [Bool.and_eq_true]; exact ⟨h2, decide_eq_true (by show _ + 1 ≤ 64; omega)⟩)
  have e2 : eqD st (.tup (ws.map D.str)) (.tup (ws.map D.str)) = some true := eqD_self (p := .tuple ps) (by show (toPyL _).map _ = _; rw [h1]; rfl) (by unfold SeqAt.shaped; rw [Bool.and_eq_true]; exact ⟨h2, decide_eq_true (by show _ + 1 ≤ 64; omega)⟩)
  exact ⟨by unfold dNe; rw [e1]; rfl, by unfold dNe; rw [e2]; rfl⟩
theorem rt_ok {r : Str × List Str} (h : RowOk r) : PyData.strOk (rt r) = true := by
  show PyData.strOk (Txt.join (Str.ofString " ") (r.1 :: r.2)) = true
  rw [TL.join_eq]
  exact ok_join (by decide +kernel) fun x hx => low_ok (h.low x hx)
theorem joinL_nin {c : Nat} {S : List Nat} (hS : c ∉ S) : ∀ {ps : List (List Nat)}, (∀ p ∈ ps, c ∉ p) → c ∉ TL.joinL S ps
  | [], _ => by intro h; cases h
  | [p], h => by intro q; exact h p (.head _) q
  | p :: z :: r, h => by
    intro q
    rcases List.mem_append.mp (show c ∈ p ++ (S ++ TL.joinL S (z :: r)) from q) with q | q
    · exact h p (.head _) q
    · rcases List.mem_append.mp q with q | q
      · exact hS q
      · exact joinL_nin hS (fun p hp => h p (.tail _ hp)) q
theorem words_nl {ws : List Str} (h : ∀ x ∈ ws, low x = true) : 10 ∉ TL.tl (Txt.join (Str.ofString " ") ws) := by
  rw [TL.join_eq, TL.tl_join]
  refine joinL_nin (by decide +kernel) fun p hp => ?_
  obtain ⟨x, hx, rfl⟩ := List.mem_map.mp hp
  exact low_nin (h x hx) (by decide +kernel)
theorem py_strs : ∀ ws : List Str, toPyL (ws.map D.str) = some (ws.map PyData.str)
  | [] => rfl
  | w :: ws => by
    rw [List.map_cons, toPyL, py_strs ws]
    rfl
theorem eqv_strs : ∀ ws vs : List Str, PyData.eqvAll (ws.map PyData.str) (vs.map PyData.str) = decide (ws = vs)
  | [], [] => by simp [PyData.eqvAll]
  | [], v :: vs => by simp [PyData.eqvAll]
  | w :: ws, [] => by simp [PyData.eqvAll]
  | w :: ws, v :: vs => by
    rw [List.map_cons, List.map_cons, PyData.eqvAll, eqv_strs ws vs]
    by_cases h : w = v
    · subst h
      simp [PyData.eqv]
    · simp [PyData.eqv, h]
theorem sh_strs {ws : List Str} (h : ∀ x ∈ ws, PyData.strOk x = true) : SeqAt.shaped (.tuple (ws.map PyData.str)) = true ∧ SeqAt.shaped (.list (ws.map PyData.str)) = true := by
  obtain ⟨ps, h1, h2, h3⟩ := toPyL_of (ys := ws.map D.str) (n := 0) fun y hy => by
    obtain ⟨x, hx, rfl⟩ := List.mem_map.mp hy
    exact ⟨.str x, rfl, h x hx, Nat.zero_le _⟩
  rw [py_strs] at h1
  cases h1
  exact ⟨by unfold SeqAt.shaped; rw [Bool.and_eq_true]; exact ⟨h2, decide_eq_true (by show _ + 1 ≤ 64; omega)⟩, by unfold SeqAt.shaped; rw [Bool.and_eq_true]; exact ⟨h2, decide_eq_true (by show _ + 1 ≤ 64; omega)⟩⟩
theorem tup_of {ma : MA} {ds : List D} {env : S.Env} {st st1 : Sto} (h : ma env st = .ok ds st1) (hl : ds.length ≤ 1000 := by simp) : mTup ma env st = .ok (.tup ds) st1 := by
  have hz : ds.length ≤ sizeLine := by rw [sizeLine_eq]; omega
  unfold mTup
  rw [h]
  show (if ds.length ≤ sizeLine then R.ok (D.tup ds) st1 else .stuck) = _
  rw [if_pos hz]
theorem ixl {xs : List D} {j : Nat} {k : Int} {d : D} {st : Sto} (hk : k = j) (h : xs[j]? = some d) : dIx (.lst xs) (.int k) st = .ok d st := by
  have := atI_of hk h
  simp [dIx, rd, this]
end K
namespace K
open PySem L2 S
/-! ### moods that rows name, by the law's own look -/
def moU (r : Str × List Str) : List Str := (if r.1 = Str.ofString "begin" then [r.2.getD 2 ""] else [r.2.getD 0 ""]) ++ (if r.1 = Str.ofString "back" then [r.2.getD 3 ""] else [])
theorem moU_len (r : Str × List Str) : (moU r).length ≤ 2 := by
  unfold moU
  split <;> split <;> simp
theorem moL_U (r : Str × List Str) : moL r = (moU r).filter fun x => !decide (x ∈ [Str.ofString "any", Str.ofString "same"]) := rfl
theorem ext_s {m : M} {env : S.Env} {acc ws : List Str} (h1 : env[1]? = some (some (.ptr 0))) (hm : m env [.lst (acc.map D.str)] = .ok (.lst (ws.map D.str)) [.lst (acc.map D.str)]) (hl : acc.length + ws.length ≤ 100000) : mDo (mLm dExtend (mVar 1) (mCons m mNil)) env [.lst (acc.map D.str)] = .nx env [.lst ((acc ++ ws).map D.str)] := by
  refine do_ok (d := .non) ?_
  unfold mLm
  rw [show mVar 1 env [.lst (acc.map D.str)] = .ok (.ptr 0) [.lst (acc.map D.str)] from by simp [mVar, h1]]
  simp only [R.bind]
  rw [if_pos (by simp [isLst, rd]), cons_ok hm nil_ok]
  have hz : (acc.map D.str).length + (ws.map D.str).length ≤ sizeLine := by rw [sizeLine_eq, List.length_map, List.length_map]; omega
  simp only [R.bind, dExtend, rd, List.getElem?_cons_zero]
  rw [if_pos hz, List.map_append]
  rfl
theorem mo_step {r : Str × List Str} {acc : List Str} {e0 e3 : Option D} (h : RowOk r) (ha : acc.length ≤ 1000) : p__law_moods_1 [e0, some (.ptr 0), some (rowT r), e3] [.lst (acc.map D.str)] = .nx [e0, some (.ptr 0), some (rowT r), e3] [.lst ((acc ++ moU r).map D.str)] := by
  unfold p__law_moods_1
  rcases h.split with ⟨a, b, c, rfl, _⟩ | ⟨a, b, c, rfl, _⟩ | ⟨a, b, c, d, rfl, _⟩ | ⟨a, b, c, d, rfl, _⟩
  · refine (seq_nx (ext_s (ws := [c]) rfl (by simp [mIf, mTest, mBin, mVar, mC, R.bind, dIx, rd, rowT, atI, ixN, eq_strs, mLst, mCons, mNil, sizeLine_eq]) (by simp; omega))).trans ?_
    refine (ext_s (acc := acc ++ [c]) (ws := []) rfl (by simp [mIf, mTest, mBin, mVar, mC, R.bind, dIx, rd, rowT, atI, ixN, eq_strs, mLst, mCons, mNil, sizeLine_eq, str_eq]) (by simp; omega)).trans ?_
    simp [moU, str_eq]
  · refine (seq_nx (ext_s (ws := [a]) rfl (by simp [mIf, mTest, mBin, mVar, mC, R.bind, dIx, rd, rowT, atI, ixN, eq_strs, mLst, mCons, mNil, sizeLine_eq, str_eq]) (by simp; omega))).trans ?_
    refine (ext_s (acc := acc ++ [a]) (ws := []) rfl (by simp [mIf, mTest, mBin, mVar, mC, R.bind, dIx, rd, rowT, atI, ixN, eq_strs, mLst, mCons, mNil, sizeLine_eq, str_eq]) (by simp; omega)).trans ?_
    simp [moU, str_eq]
  · refine (seq_nx (ext_s (ws := [a]) rfl (by simp [mIf, mTest, mBin, mVar, mC, R.bind, dIx, rd, rowT, atI, ixN, eq_strs, mLst, mCons, mNil, sizeLine_eq, str_eq]) (by simp; omega))).trans ?_
    refine (ext_s (acc := acc ++ [a]) (ws := [d]) rfl (by simp [mIf, mTest, mBin, mVar, mC, R.bind, dIx, rd, rowT, atI, ixN, eq_strs, mLst, mCons, mNil, sizeLine_eq, str_eq]) (by simp; omega)).trans ?_
    simp [moU, str_eq]
  · refine (seq_nx (ext_s (ws := [a]) rfl (by simp [mIf, mTest, mBin, mVar, mC, R.bind, dIx, rd, rowT, atI, ixN, eq_strs, mLst, mCons, mNil, sizeLine_eq, str_eq]) (by simp; omega))).trans ?_
    refine (ext_s (acc := acc ++ [a]) (ws := []) rfl (by simp [mIf, mTest, mBin, mVar, mC, R.bind, dIx, rd, rowT, atI, ixN, eq_strs, mLst, mCons, mNil, sizeLine_eq, str_eq]) (by simp; omega)).trans ?_
    simp [moU, str_eq]
theorem mo_go {e0 e3 : Option D} : ∀ {rs : List (Str × List Str)} {acc : List Str} {e2 : Option D}, (∀ r ∈ rs, RowOk r) → acc.length + 2 * rs.length ≤ 1000 → ∃ e2', mForGo (.nm 2) p__law_moods_1 (rs.map rowT) [e0, some (.ptr 0), e2, e3] [.lst (acc.map D.str)] = .nx [e0, some (.ptr 0), e2', e3] [.lst ((acc ++ rs.flatMap moU).map D.str)]
  | [], acc, e2, _, _ => ⟨e2, by simp [mForGo]⟩
  | r :: rs, acc, e2, h, hl => by
    simp only [List.length_cons] at hl
    have hu := moU_len r
    obtain ⟨e2', q⟩ := mo_go (e0 := e0) (e3 := e3) (rs := rs) (acc := acc ++ moU r) (e2 := some (rowT r)) (fun r hr => h r (.tail _ hr)) (by rw [List.length_append]; omega)
    refine ⟨e2', ?_⟩
    rw [List.map_cons, mForGo]
    show (match p__law_moods_1 [e0, some (.ptr 0), some (rowT r), e3] [.lst (acc.map D.str)] with
      | .nx env2 st2 => mForGo (.nm 2) p__law_moods_1 (rs.map rowT) env2 st2
      | .ct env2 st2 => mForGo (.nm 2) p__law_moods_1 (rs.map rowT) env2 st2
      | .bk env2 st2 => .nx env2 st2
      | r => r) = _
    rw [mo_step (h r (.head _)) (by omega)]
    refine q.trans ?_
    rw [List.flatMap_cons, List.append_assoc]
section
variable {s : Sv} {st : Sto}
theorem str_rw {r : Str × List Str} (h : RowOk r) : dStrX stc_1 f_Service_str (dStrX stc_0 f_Row_str dStr) [rowD r] st = .ok (.str (rt r)) st := by
  show (if stc_1.contains (rowC r.1) = true then (f_Service_str [rowD r] st).bind (fun d st1 => if isS d then R.ok d st1 else .stuck) else (if stc_0.contains (rowC r.1) = true then (f_Row_str [rowD r] st).bind (fun d st1 => if isS d then R.ok d st1 else .stuck) else dStr [rowD r] st)) = _
  have c : stc_1.contains (rowC r.1) = false ∧ stc_0.contains (rowC r.1) = true := by
    unfold rowC
    split
    · decide
    · split
      · decide
      · split <;> decide
  rw [c.1, if_neg (by decide), c.2, if_pos rfl, row_str h]
  rfl
theorem text_len (h : SvOk s) : (svText s).length ≤ 14000 := by
  obtain ⟨h1, h2⟩ := h.lines_len
  have h3 := join_len (z := Str.ofString "\n") (svLines s)
  have h4 := sum_le h2
  rw [l_nl] at h3
  unfold svText
  omega
theorem sv_str (h : SvOk s) : f_Service_str [svD s] st = .ok (.str (svText s)) st := by
  have h1 := text_len h
  have hz : (svText s).length ≤ sizeLine := by rw [sizeLine_eq]; omega
  refine call_rt (st' := []) (belowL_cons (bel_svD s) rfl) (?_ : m_Service_str [some (svD s)] [] = _) rfl
  refine ret_ok ?_
  unfold mFmt
  rw [svf (s := s) rfl rfl (d := .str (svText s)) (by simp [look, svNs, svEs, str_eq])]
  simp [R.bind, hz]
theorem str_sv (h : SvOk s) : dStrX stc_1 f_Service_str (dStrX stc_0 f_Row_str dStr) [svD s] st = .ok (.str (svText s)) st := by
  show (if stc_1.contains 5 = true then (f_Service_str [svD s] st).bind (fun d st1 => if isS d then R.ok d st1 else .stuck) else dStrX stc_0 f_Row_str dStr [svD s] st) = _
  rw [if_pos (by decide), sv_str h]
  rfl
theorem law_moods (h : SvOk s) : f__law_moods [.lst (s.rs.map rowT)] st = .ok (.tup ((svMo s).map D.str)) st := by
  have hrl := h.rl
  have bel : belowL 0 (s.rs.map rowT) = true := bel_map bel_rowT _
  refine call_rt (st' := [.dead]) (belowL_cons bel rfl) (?_ : m__law_moods [some (.lst (s.rs.map rowT)), none, none, none] [] = _) (below_strs _)
  obtain ⟨e2', q⟩ := mo_go (e0 := some (.lst (s.rs.map rowT))) (e3 := none) (rs := s.rs) (acc := [Str.ofString "calm"]) (e2 := none) h.rs (by simp; omega)
  have fl := flat_len (n := 2) moU_len s.rs
  unfold m__law_moods
  refine (seq_nx (env' := [some (.lst (s.rs.map rowT)), some (.ptr 0), none, none]) (st' := [.lst ([Str.ofString "calm"].map D.str)]) ?_).trans ?_
  · refine (set_ok (d := .ptr 0) (st' := [.lst ([Str.ofString "calm"].map D.str)]) ?_).trans rfl
    simp [mLstC, mCons, mC, mNil, R.bind, sizeLine_eq]
  refine (seq_nx (env' := [some (.lst (s.rs.map rowT)), some (.ptr 0), e2', none]) (st' := [.lst (([Str.ofString "calm"] ++ s.rs.flatMap moU).map D.str)]) ?_).trans ?_
  · unfold mFor
    rw [itv rfl]
    exact q
  obtain ⟨us, hus⟩ : ∃ us : List Str, us = [Str.ofString "calm"] ++ s.rs.flatMap moU := ⟨_, rfl⟩
  rw [← hus]
  have ul : us.length ≤ 61 := by rw [hus, List.length_append, List.length_singleton]; omega
  show mRet _ [some (.lst (s.rs.map rowT)), some (.lst (us.map D.str)), e2', none] [.dead] = _
  refine ret_ok ?_
  have ef : us.filter (fun x => !decide (x ∈ [Str.ofString "any", Str.ofString "same"])) = Str.ofString "calm" :: s.rs.flatMap moL := by
    rw [hus, List.filter_append, List.filter_flatMap]
    rfl
  have lc : mLc (.nm 3) [3] (mItAny (mVar 1)) (mTest (mBin dNotIn (mVar 3) (mTup (mCons (mC (.str "any")) (mCons (mC (.str "same")) (mNil)))))) (mApp (dStrX stc_1 f_Service_str (dStrX stc_0 f_Row_str dStr)) (mCons (mVar 3) (mNil))) [some (.lst (s.rs.map rowT)), some (.lst (us.map D.str)), e2', none] [.dead] = .ok (.lst ((Str.ofString "calm" :: s.rs.flatMap moL).map D.str)) [.dead] := by
    have := lc_filter (t := .nm 3) (vs := [3]) (mt := mTest (mBin dNotIn (mVar 3) (mTup (mCons (mC (.str "any")) (mCons (mC (.str "same")) (mNil)))))) (me := mApp (dStrX stc_1 f_Service_str (dStrX stc_0 f_Row_str dStr)) (mCons (mVar 3) (mNil))) (env := [some (.lst (s.rs.map rowT)), some (.lst (us.map D.str)), e2', none]) (st := [.dead]) D.str D.str (fun x => !decide (x ∈ [Str.ofString "any", Str.ofString "same"])) (xs := us) (acc := []) (by rw [sizeLine_eq]; simp; omega) fun x hx => by
      refine ⟨[some (.lst (s.rs.map rowT)), some (.lst (us.map D.str)), e2', some (.str x)], rfl, ?_, fun _ => rfl⟩
      refine tst ((bin_ok (d := .str x) (e := .tup [.str "any", .str "same"]) (st1 := [.dead]) (st2 := [.dead]) rfl ?_).trans nin2)
      simp [mTup, mCons, mC, mNil, R.bind, sizeLine_eq]
    unfold mLc
    rw [itv rfl]
    simp only [R.bind, this, List.nil_append]
    rw [ef]
  have lz : (Str.ofString "calm" :: s.rs.flatMap moL).length < 64 := by
    have := flat_len (n := 2) mo_len s.rs
    simp only [List.length_cons]
    omega
  refine (app_ok (ds := [.lst ((svMo s).map D.str)]) (st1 := [.dead]) (cons_ok (st1 := [.dead]) ?_ nil_ok)).trans rfl
  unfold mSortedSet
  rw [lc]
  have h1 : ((Str.ofString "calm" :: s.rs.flatMap moL).map D.str).all isS = true := by simp [isS]
  have h2 : ((Str.ofString "calm" :: s.rs.flatMap moL).map D.str).map sOf = Str.ofString "calm" :: s.rs.flatMap moL := by
    rw [List.map_map]
    have : (sOf ∘ D.str) = id := funext fun _ => rfl
    rw [this, List.map_id]
  show (if ((Str.ofString "calm" :: s.rs.flatMap moL).map D.str).all isS && decide (((Str.ofString "calm" :: s.rs.flatMap moL).map D.str).length < 64) then R.ok (D.lst ((sortS (addU [] (((Str.ofString "calm" :: s.rs.flatMap moL).map D.str).map sOf))).map D.str)) [.dead] else .stuck) = _
  rw [h1, h2, List.length_map, decide_eq_true lz]
  rfl
end
end K
namespace K
open PySem L2 S
/-! ### a service has what was told -/
section
variable {s s' : Sv} {st : Sto} {env : S.Env}
theorem rep_ne {m n : M} {d : D} {t : Str} (h1 : mApp dRepr (mCons m mNil) env st = .ok (.str t) st) (h2 : mApp dRepr (mCons n mNil) env st = .ok (.str t) st) : mTest (mBin dNe (mApp dRepr (mCons m mNil)) (mApp dRepr (mCons n mNil))) env st = .ok false st := by
  refine tst ((bin_ok h1 h2).trans ?_)
  rw [ne_strs]
  simp
theorem shd_strs {ws : List Str} (h : ∀ x ∈ ws, low x = true) (hl : ws.length ≤ 30) : ShD (.tup (ws.map D.str)) 1 330 :=
  shd_tup (n := 0) (w := 10) (l := 30) (fun d hd => by
    obtain ⟨x, hx, rfl⟩ := List.mem_map.mp hd
    exact shd_str (low_ok (h x hx)) (low_len (h x hx))) (by rw [List.length_map]; exact hl)
theorem rep_one (h : SvOk s) : ∃ t, dRepr [.tup [.str s.nm, .tup (s.ks.map D.str), .tup (s.ws.map D.str)]] [] = .ok (.str t) [] := by
  have hd : ShD (.tup [.str s.nm, .tup (s.ks.map D.str), .tup (s.ws.map D.str)]) 2 993 := shd_tup (n := 1) (w := 330) (l := 3) (fun d hd => by
    simp at hd
    rcases hd with rfl | rfl | rfl
    · exact shd_str (low_ok (low_name h.nm)) (by have := low_len (low_name h.nm); omega)
    · exact shd_strs h.ks.low h.ks.len
    · exact shd_strs h.ws.low h.ws.len) (by simp)
  exact shd_repr (st := []) hd
theorem rep_strs {ws : List Str} (h : ∀ x ∈ ws, low x = true) (hl : ws.length ≤ 30) : ∃ t, dRepr [.tup (ws.map D.str)] st = .ok (.str t) st := by
  obtain ⟨t, e⟩ := shd_repr (st := st) (shd_strs h hl)
  exact ⟨t, e⟩
theorem eq_tup {ws : List Str} (h : ∀ x ∈ ws, PyData.strOk x = true) : dEq (.tup (ws.map D.str)) (.tup (ws.map D.str)) st = .ok (.bl true) st := by
  have e : toPy (.tup (ws.map D.str)) = some (.tuple (ws.map PyData.str)) := by show (toPyL _).map _ = _; rw [py_strs]; rfl
  unfold dEq
  rw [eqD_self (st := st) (d := .tup (ws.map D.str)) (p := .tuple (ws.map PyData.str)) e (sh_strs h).1]
theorem eq_lsts {xs ys : List Str} (hx : ∀ x ∈ xs, PyData.strOk x = true) (hy : ∀ x ∈ ys, PyData.strOk x = true) : dEq (.lst (xs.map D.str)) (.lst (ys.map D.str)) st = .ok (.bl (decide (xs = ys))) st := by
  have t : ∀ ws : List Str, toPy (rd st (.lst (ws.map D.str))) = some (.list (ws.map PyData.str)) := fun ws => by
    show (toPyL _).map _ = _
    rw [py_strs]
    rfl
  unfold dEq eqD
  rw [t, t]
  simp only [isFl, Bool.false_and, Bool.false_eq_true, if_false, (sh_strs hx).2, (sh_strs hy).2, Bool.and_self, if_true]
  unfold PyData.eqv
  rw [eqv_strs]
theorem asc_mem {ws : List Str} {x : Str} (h : x ∈ asc ws) : x ∈ ws := by
  have h1 : x ∈ addU [] ws := (sortS_perm _).mem_iff.mp h
  have : ∀ (ws acc : List Str), x ∈ addU acc ws → x ∈ acc ∨ x ∈ ws := fun ws => by
    induction ws with
    | nil => exact fun acc h => .inl h
    | cons w ws ih =>
      intro acc h
      unfold addU at h
      rcases ih _ h with q | q
      · split at q
        · exact .inl q
        · rcases List.mem_append.mp q with q | q
          · exact .inl q
          · exact .inr (List.mem_singleton.mp q ▸ .head _)
      · exact .inr (.tail _ q)
  exact (this ws [] h1).resolve_left (by simp)
theorem mo_low (h : SvOk s) : ∀ x ∈ svMo s, low x = true := fun x hx => by
  rcases List.mem_cons.mp (asc_mem hx) with rfl | hx
  · decide +kernel
  · obtain ⟨r, hr, hx⟩ := List.mem_flatMap.mp hx
    have hl := (h.rs r hr).low
    rw [moL_U] at hx
    have hx := (List.mem_filter.mp hx).1
    rcases (h.rs r hr).split with ⟨a, b, c, rfl, _⟩ | ⟨a, b, c, rfl, _⟩ | ⟨a, b, c, d, rfl, _⟩ | ⟨a, b, c, d, rfl, _⟩ <;> simp [moU, str_eq] at hx <;> first | (rcases hx with rfl | rfl <;> exact hl _ (by simp)) | (subst hx; exact hl _ (by simp))
theorem lines_ok (h : SvOk s) : ∀ x ∈ svLines s, PyData.strOk x = true ∧ 10 ∉ TL.tl x := fun x hx => by
  have go : ∀ {ws : List Str}, (∀ w ∈ ws, low w = true) → PyData.strOk (Txt.join (Str.ofString " ") ws) = true ∧ 10 ∉ TL.tl (Txt.join (Str.ofString " ") ws) := fun {ws} h => ⟨by rw [TL.join_eq]; exact ok_join (by decide +kernel) fun w hw => low_ok (h w hw), words_nl h⟩
  rcases List.mem_append.mp hx with hx | hx
  · unfold svHead at hx
    rcases List.mem_cons.mp hx with rfl | hx
    · refine go fun w hw => ?_
      rcases List.mem_cons.mp hw with rfl | hw
      · decide +kernel
      · rcases List.mem_cons.mp hw with rfl | hw
        · exact low_name h.nm
        · exact h.ks.low w hw
    · rcases List.mem_append.mp hx with hx | hx
      · split at hx
        · cases hx
        · rw [List.mem_singleton.mp hx]
          refine go fun w hw => ?_
          rcases List.mem_cons.mp hw with rfl | hw
          · decide +kernel
          · exact h.ws.low w hw
      · split at hx
        · cases hx
        · rw [List.mem_singleton.mp hx]
          refine go fun w hw => ?_
          rcases List.mem_cons.mp hw with rfl | hw
          · decide +kernel
          · exact h.ls.low w hw
  · obtain ⟨r, hr, rfl⟩ := List.mem_map.mp hx
    exact go (h.rs r hr).low
theorem text_lines (h : SvOk s) (h' : SvOk s') : svText s = svText s' ↔ svLines s = svLines s' := by
  have sp : ∀ {s : Sv}, SvOk s → Txt.split (svText s) (Str.ofString "\n") = svLines s := fun {s} h => TL.split_join (s := 10) (S := []) (by decide +kernel) (by decide +kernel) (fun e => by unfold svLines svHead at e; simp at e) fun x hx => (lines_ok h x hx).2
  constructor
  · intro e
    rw [← sp h, ← sp h', e]
  · intro e
    unfold svText
    rw [e]
theorem sv_eq : f_Service_eq [svD s, svD s'] st = .ok (.bl (decide (svText s = svText s'))) st := by
  refine call_rt (st' := []) (belowL_cons (bel_svD s) (belowL_cons (bel_svD s') rfl)) (?_ : m_Service_eq [some (svD s), some (svD s')] [] = _) rfl
  refine ret_ok ?_
  have e1 : mIsi ki_Service (mVar 1) [some (svD s), some (svD s')] [] = .ok (.bl true) [] := rfl
  unfold mAnd
  rw [e1]
  show mBin dEq (mFld at_text "text" (mVar 0)) (mFld at_text "text" (mVar 1)) [some (svD s), some (svD s')] [] = _
  exact (bin_ok (svf (s := s) rfl rfl (d := .str (svText s)) (by simp [look, svNs, svEs, str_eq])) (svf (s := s') rfl rfl (d := .str (svText s')) (by simp [look, svNs, svEs, str_eq]))).trans eq_strs
theorem sv_eqs {x : Str} : f_Service_eq [svD s, .str x] st = .ok (.bl false) st := by
  refine call_rt (st' := []) (belowL_cons (bel_svD s) rfl) (?_ : m_Service_eq [some (svD s), some (.str x)] [] = _) rfl
  refine ret_ok ?_
  have e1 : mIsi ki_Service (mVar 1) [some (svD s), some (.str x)] [] = .ok (.bl false) [] := rfl
  unfold mAnd
  rw [e1]
  rfl
theorem own_eq : dOwnEq eqc_0 nfT f_Service_eq dEq (svD s) (svD s') st = .ok (.bl (decide (svText s = svText s'))) st := by
  show (if eqc_0.contains 5 = true then (if nfT 5 (.cls 5) = true then f_Service_eq [svD s, svD s'] st else .stuck) else dEq (svD s) (svD s') st) = _
  rw [if_pos (by decide), if_pos (by rfl), sv_eq]
theorem own_eqs {x : Str} : dOwnEq eqc_0 nfT f_Service_eq dEq (svD s) (.str x) st = .ok (.bl false) st := by
  show (if eqc_0.contains 5 = true then (if nfT 5 .str = true then f_Service_eq [svD s, .str x] st else .stuck) else dEq (svD s) (.str x) st) = _
  rw [if_pos (by decide), if_pos (by rfl), sv_eqs]
theorem own_ne : dOwnNe eqc_0 nfT f_Service_eq dNe (svD s) (svD s') st = .ok (.bl (!decide (svText s = svText s'))) st := by
  show (if eqc_0.contains 5 = true then (if nfT 5 (.cls 5) = true then notD (f_Service_eq [svD s, svD s'] st) else .stuck) else dNe (svD s) (svD s') st) = _
  rw [if_pos (by decide), if_pos (by rfl), sv_eq]
  rfl
theorem row_text {r : Str × List Str} (h : RowOk r) : f__law_row_text [rowT r] st = .ok (.str (rt r)) st := by
  refine call_rt (st' := []) (belowL_cons (bel_rowT r) rfl) (?_ : m__law_row_text [some (rowT r)] [] = _) rfl
  refine ret_ok ((txt_ok rfl (d := rowT r) rfl).trans ?_)
  have hlen : (r.1 :: r.2).length ≤ 5 := by
    rcases h.split with ⟨a, b, c, rfl, _⟩ | ⟨a, b, c, rfl, _⟩ | ⟨a, b, c, d, rfl, _⟩ | ⟨a, b, c, d, rfl, _⟩ <;> simp
  have hh : (((r.1 :: r.2).map fun x => x.length).sum + (r.1 :: r.2).length * (Str.ofString " ").length ≤ 16777216) := by
    have := sum_le (n := 10) (ws := r.1 :: r.2) fun x hx => low_len (h.low x hx)
    have l1 : (Str.ofString " ").length = 1 := by decide +kernel
    rw [l1]
    omega
  exact (join_d (st := []) (z := Str.ofString " ") hh)
theorem law_right (h : SvOk s) : f__law_right [svD s, oneD s] st = .ok (.bl true) st := by
  have hrl := h.rl
  refine call_rt (st' := []) (belowL_cons (bel_svD s) (belowL_cons (bel_one s) rfl)) (?_ : m__law_right [some (svD s), some (oneD s), none] [] = _) rfl
  obtain ⟨t1, r1⟩ := rep_one h
  obtain ⟨t2, r2⟩ := rep_strs (st := []) h.ls.low h.ls.len
  have f : ∀ {f : Str} {d : D} {ok : Nat → Bool}, ok 5 = true → look f svNs (svEs s) = some d → mFld ok f (mVar 0) [some (svD s), some (oneD s), none] [] = .ok d [] := fun h1 h2 => svf rfl h1 h2
  have fn : mFld at_name "name" (mVar 0) [some (svD s), some (oneD s), none] [] = .ok (.str s.nm) [] := f rfl (by simp [look, svNs, svEs, str_eq])
  have fk : mFld at_kinds "kinds" (mVar 0) [some (svD s), some (oneD s), none] [] = .ok (.tup (s.ks.map D.str)) [] := f rfl (by simp [look, svNs, svEs, str_eq])
  have fw : mFld at_waits "waits" (mVar 0) [some (svD s), some (oneD s), none] [] = .ok (.tup (s.ws.map D.str)) [] := f rfl (by simp [look, svNs, svEs, str_eq])
  have fl : mFld at_leaves "leaves" (mVar 0) [some (svD s), some (oneD s), none] [] = .ok (.tup (s.ls.map D.str)) [] := f rfl (by simp [look, svNs, svEs, str_eq])
  have fr : mFld at_rows "rows" (mVar 0) [some (svD s), some (oneD s), none] [] = .ok (.tup (s.rs.map rowD)) [] := f rfl (by simp [look, svNs, svEs, str_eq])
  have fm : mFld at_moods "moods" (mVar 0) [some (svD s), some (oneD s), none] [] = .ok (.tup ((svMo s).map D.str)) [] := f rfl (by simp [look, svNs, svEs, str_eq])
  have a1 : mApp dRepr (mCons (mTup (mCons (mFld at_name "name" (mVar 0)) (mCons (mFld at_kinds "kinds" (mVar 0)) (mCons (mFld at_waits "waits" (mVar 0)) (mNil))))) (mNil)) [some (svD s), some (oneD s), none] [] = .ok (.str t1) [] := (app_ok (cons_ok (tup_of (cons_ok fn (cons_ok fk (cons_ok fw nil_ok)))) nil_ok)).trans r1
  have a2 : mApp dRepr (mCons (mTup (mCons (mBin dGetK (mVar 1) (mC (.str "name"))) (mCons (mApp dTuple (mCons (mBin dGetK (mVar 1) (mC (.str "kinds"))) (mNil))) (mCons (mApp dTuple (mCons (mBin dGetK (mVar 1) (mC (.str "waits"))) (mNil))) (mNil))))) (mNil)) [some (svD s), some (oneD s), none] [] = .ok (.str t1) [] := (app_ok (cons_ok (tup_of (cons_ok (getv rfl one_nm) (cons_ok (tupm (getv rfl one_ks)) (cons_ok (tupm (getv rfl one_ws)) nil_ok)))) nil_ok)).trans r1
  have a3 : mApp dRepr (mCons (mFld at_leaves "leaves" (mVar 0)) (mNil)) [some (svD s), some (oneD s), none] [] = .ok (.str t2) [] := (app_ok (cons_ok fl nil_ok)).trans r2
  have a4 : mApp dRepr (mCons (mApp dTuple (mCons (mBin dGetK (mVar 1) (mC (.str "leaves"))) (mNil))) (mNil)) [some (svD s), some (oneD s), none] [] = .ok (.str t2) [] := (app_ok (cons_ok (tupm (getv rfl one_ls)) nil_ok)).trans r2
  have a5 : mIsi ki_tuple (mFld at_rows "rows" (mVar 0)) [some (svD s), some (oneD s), none] [] = .ok (.bl true) [] := by
    unfold mIsi
    rw [fr]
    rfl
  have a6 : mLc (.nm 2) [2] (mItAny (mFld at_rows "rows" (mVar 0))) (mYes) (mApp (dStrX stc_1 f_Service_str (dStrX stc_0 f_Row_str dStr)) (mCons (mVar 2) (mNil))) [some (svD s), some (oneD s), none] [] = .ok (.lst ((s.rs.map rt).map D.str)) [] := by
    rw [List.map_map]
    exact lcm (xs := s.rs) rowD (fun r => D.str (rt r)) (itt fr) (by omega) fun r hr => ⟨_, rfl, rfl, (app_ok (ds := [rowD r]) (cons_ok rfl nil_ok)).trans (str_rw (h.rs r hr))⟩
  have a7 : mLc (.nm 2) [2] (mItAny (mBin dGetK (mVar 1) (mC (.str "rows")))) (mYes) (mCall 1 f__law_row_text [] (mCons (mVar 2) (mNil))) [some (svD s), some (oneD s), none] [] = .ok (.lst ((s.rs.map rt).map D.str)) [] := by
    rw [List.map_map]
    exact lcm (xs := s.rs) rowT (fun r => D.str (rt r)) (itg (getv rfl one_rs)) (by omega) fun r hr => ⟨_, rfl, rfl, call_ok (ds := [rowT r]) (cons_ok rfl nil_ok) rfl (row_text (h.rs r hr))⟩
  have a8 : mCall 1 f__law_moods [] (mCons (mBin dGetK (mVar 1) (mC (.str "rows"))) (mNil)) [some (svD s), some (oneD s), none] [] = .ok (.tup ((svMo s).map D.str)) [] := call_ok (ds := [.lst (s.rs.map rowT)]) (cons_ok (getv rfl one_rs) nil_ok) rfl (law_moods h)
  have a9 : mTxt dJoin (mC (.str "\n")) (mCall 1 f__law_lines_of [] (mCons (mVar 1) (mNil))) [some (svD s), some (oneD s), none] [] = .ok (.str (svText s)) [] := by
    obtain ⟨n1, n2⟩ := h.lines_len
    refine (txt_ok rfl (d := .lst ((svLines s).map D.str)) (call_ok (ds := [oneD s]) (cons_ok rfl nil_ok) rfl (lines_of h))).trans (join_d ?_)
    have := sum_le n2
    rw [l_nl]
    omega
  unfold m__law_right
  refine (seq_if_f (rep_ne (d := .non) a1 a2)).trans ?_
  refine (seq_if_f (orF (rep_ne (d := .non) a3 a4) (notT a5))).trans ?_
  refine (seq_if_f (tst ((bin_ok a6 a7).trans (ne_lst fun x hx => ?_).1))).trans ?_
  · obtain ⟨r, hr, rfl⟩ := List.mem_map.mp hx
    exact rt_ok (h.rs r hr)
  refine ret_ok ?_
  unfold mAnd
  rw [(bin_ok fm a8).trans (eq_tup fun x hx => low_ok (mo_low h x hx))]
  show mBin dEq (mApp (dStrX stc_1 f_Service_str (dStrX stc_0 f_Row_str dStr)) (mCons (mVar 0) (mNil))) (mTxt dJoin (mC (.str "\n")) (mCall 1 f__law_lines_of [] (mCons (mVar 1) (mNil)))) [some (svD s), some (oneD s), none] [] = _
  refine (bin_ok (d := .str (svText s)) (e := .str (svText s)) (st1 := []) (st2 := []) ((app_ok (ds := [svD s]) (st1 := []) rfl).trans (str_sv h)) a9).trans ?_
  rw [eq_strs]
  simp
end
end K
namespace K
open PySem L2 S
/-! ### the law -/
theorem noRL_map {α : Type} {f : α → D} (h : ∀ a, noR (f a) = true) : ∀ xs : List α, noRL (xs.map f) = true
  | [] => rfl
  | x :: xs => by
    rw [List.map_cons, noRL, h x, noRL_map h xs]
    rfl
theorem noR_strs (ws : List Str) : noRL (ws.map D.str) = true := noRL_map (fun _ => rfl) ws
theorem noR_row (r : Str × List Str) : noR (rowD r) = true := by
  show noRL (r.2.map D.str ++ [.str (rt r)]) = true
  have := noR_strs (r.2 ++ [rt r])
  rwa [List.map_append] at this
theorem noR_sv (s : Sv) : noR (svD s) = true := by
  show noRL (svEs s) = true
  have h1 : noRL (s.rs.map rowD) = true := noRL_map noR_row _
  have h2 : noRL (s.rs.map wdD) = true := noRL_map (f := wdD) (fun r => noR_strs (r.1 :: r.2)) _
  simp [svEs, noRL, noR, h1, h2, noR_strs]
theorem thinR_all (st : Sto) : (st.map thinR).all noRC = true := by
  rw [List.all_eq_true]
  intro c hc
  obtain ⟨c0, _, rfl⟩ := List.mem_map.mp hc
  unfold thinR
  split
  · assumption
  · rfl
theorem set_noR {st : Sto} {k : Nat} {c : C} (h : st.all noRC = true) (hc : noRC c = true) : (st.set k c).all noRC = true := by
  rw [List.all_eq_true] at h ⊢
  intro x hx
  rcases List.mem_or_eq_of_mem_set hx with q | q
  · exact h x q
  · exact q ▸ hc
theorem range_int {m : M} {j : Int} {env : S.Env} {st st' : Sto} (h : m env st = .ok (.int j) st') (h0 : 0 ≤ j) (h1 : j ≤ 100000) : mItRange (mCons m mNil) env st = .ok (rangeD 0 j.toNat) st' := by
  unfold mItRange
  rw [cons_ok h nil_ok]
  show (if -(2 ^ 62) ≤ j ∧ j < 2 ^ 62 then R.ok (rangeD 0 j.toNat) st' else .stuck) = _
  rw [if_pos (by omega)]
theorem range_nat' {m : M} {n : Nat} {env : S.Env} {st st' : Sto} (h : m env st = .ok (.int n) st') (h1 : n ≤ 100000) : mItRange (mCons m mNil) env st = .ok (rangeD 0 n) st' := range_int h (by omega) (by omega)
theorem thin_id {st : Sto} (h : st.all noRC = true) : st.map thinR = st := by
  rw [List.all_eq_true] at h
  conv => rhs; rw [← List.map_id st]
  refine List.map_congr_left fun c hc => ?_
  unfold thinR
  rw [if_pos (h c hc)]
  rfl
theorem thin_at {st : Sto} {k : Nat} {c : C} (h : st[k]? = some c) (hc : noRC c = true) : (st.map thinR)[k]? = some c := by
  rw [List.getElem?_map, h]
  show some (thinR c) = some c
  unfold thinR
  rw [if_pos hc]
theorem set_at {st : Sto} {k : Nat} {c : C} (h : st[k]? = some c) : st.set k c = st := by
  obtain ⟨_, e⟩ := List.getElem?_eq_some_iff.mp h
  rw [← e]
  exact List.set_getElem_self _
/-- a list in a list, locked during a call that leaves all as it is -/
theorem tmpR_ok {i j k : Nat} {m : M} {env : S.Env} {st : Sto} {ds xs : List D} {d : D} (h1 : env[i]? = some (some (.lst ds))) (h2 : ds[j]? = some (.ptr k)) (h3 : st[k]? = some (.lst xs)) (hx : noRL xs = true) (hd : noR d = true)
    (hm : m (env.set i (some (.lst (ds.set j (.rls xs))))) ((st.map thinR).set k .dead) = .ok d ((st.map thinR).set k .dead)) : mTmpR i j m env st = .ok d (st.map thinR) := by
  have lt : k < (st.map thinR).length := by rw [List.length_map]; exact (List.getElem?_eq_some_iff.mp h3).1
  unfold mTmpR
  simp only [h1, h2, h3, hm]
  rw [if_pos (by rw [hd, set_noR (thinR_all st) rfl, List.getElem?_set_self lt]; rfl), List.set_set, set_at (thin_at h3 hx)]
theorem tmpR_in {i j k : Nat} {m : M} {env : S.Env} {st : Sto} {ds xs : List D} {d : D} (hs : st.all noRC = true) (h1 : env[i]? = some (some (.lst ds))) (h2 : ds[j]? = some (.ptr k)) (h3 : st[k]? = some (.lst xs)) (hx : noRL xs = true) (hd : noR d = true)
    (hm : m (env.set i (some (.lst (ds.set j (.rls xs))))) (st.set k .dead) = .ok d (st.set k .dead)) : mTmpR i j m env st = .ok d st := by
  have e := thin_id hs
  have := tmpR_ok (m := m) h1 h2 h3 hx hd (by rw [e]; exact hm)
  rwa [e] at this
def lw (e0 e1 : Option D) (i : Nat) (e3 : Option D) (ns ws : List Str) (s s' : Sv) (e8 e9 e10 e11 e12 e13 : Option D) : S.Env := [e0, e1, some (.ptr i), e3, some (.lst (ns.map D.str)), some (.lst (ws.map D.str)), some (oneD s), some (oneD s'), e8, e9, e10, e11, e12, e13]
theorem ne_bl {a b : Bool} {st : Sto} : dNe (.bl a) (.bl b) st = .ok (.bl (!decide (a = b))) st := by
  cases a <;> cases b <;> rfl
theorem eq_bl {a b : Bool} {st : Sto} : dEq (.bl a) (.bl b) st = .ok (.bl (decide (a = b))) st := by
  cases a <;> cases b <;> rfl
section
variable {s s' : Sv} {i : Nat} {ns ws : List Str} {st : Sto} {e0 e1 e3 e8 e9 e10 e11 e12 e13 : Option D}
theorem l_2 (h : SvOk s) : p_law_2 (lw e0 e1 i e3 ns ws s s' e8 (some (svD s)) e10 e11 e12 e13) st = .nx (lw e0 e1 i e3 ns ws s s' e8 (some (svD s)) e10 e11 e12 e13) st := by
  have a1 : mCall 1 f__law_service_of [] (mCons (mVar 6) (mNil)) (lw e0 e1 i e3 ns ws s s' e8 (some (svD s)) e10 e11 e12 e13) st = .ok (svD s) st := call_ok (ds := [oneD s]) (st1 := st) rfl rfl (service_of h)
  have t1 : mTest (mBin (dOwnNe eqc_0 nfT f_Service_eq dNe) (mVar 9) (mCall 1 f__law_service_of [] (mCons (mVar 6) (mNil)))) (lw e0 e1 i e3 ns ws s s' e8 (some (svD s)) e10 e11 e12 e13) st = .ok false st := tst ((bin_ok (d := svD s) (e := svD s) (st1 := st) (st2 := st) rfl a1).trans (own_ne.trans (by simp)))
  have a2 : mApp (dStrX stc_1 f_Service_str (dStrX stc_0 f_Row_str dStr)) (mCons (mVar 9) (mNil)) (lw e0 e1 i e3 ns ws s s' e8 (some (svD s)) e10 e11 e12 e13) st = .ok (.str (svText s)) st := (app_ok (ds := [svD s]) (st1 := st) rfl).trans (str_sv h)
  have t2 : mTest (mBin (dOwnEq eqc_0 nfT f_Service_eq dEq) (mVar 9) (mApp (dStrX stc_1 f_Service_str (dStrX stc_0 f_Row_str dStr)) (mCons (mVar 9) (mNil)))) (lw e0 e1 i e3 ns ws s s' e8 (some (svD s)) e10 e11 e12 e13) st = .ok false st := tst ((bin_ok (d := svD s) (st1 := st) rfl a2).trans own_eqs)
  have t3 : mTest (mBin (dOwnEq eqc_0 nfT f_Service_eq dEq) (mVar 9) (mBin dGetK (mVar 6) (mC (.str "name")))) (lw e0 e1 i e3 ns ws s s' e8 (some (svD s)) e10 e11 e12 e13) st = .ok false st := tst ((bin_ok (d := svD s) (e := .str s.nm) (st1 := st) (st2 := st) rfl (getv rfl one_nm)).trans own_eqs)
  unfold p_law_2
  exact (if_f (orF t1 (orF t2 t3))).trans rfl
theorem l_4 (h : SvOk s) (h' : SvOk s') : ∃ e11', p_law_4 (lw e0 e1 i e3 ns ws s s' e8 (some (svD s)) e10 e11 e12 e13) st = .nx (lw e0 e1 i e3 ns ws s s' e8 (some (svD s)) e10 e11' e12 e13) st := by
  have L : ∀ {s : Sv}, SvOk s → ∀ x ∈ svLines s, PyData.strOk x = true := fun h x hx => (lines_ok h x hx).1
  have c1 : mBin dEq (mCall 1 f__law_lines_of [] (mCons (mVar 6) (mNil))) (mCall 1 f__law_lines_of [] (mCons (mVar 7) (mNil))) (lw e0 e1 i e3 ns ws s s' e8 (some (svD s)) e10 e11 e12 e13) st = .ok (.bl (decide (svLines s = svLines s'))) st :=
    (bin_ok (call_ok (ds := [oneD s]) (st1 := st) rfl rfl (lines_of h)) (call_ok (ds := [oneD s']) (st1 := st) rfl rfl (lines_of h'))).trans (eq_lsts (L h) (L h'))
  obtain ⟨due, hdue⟩ : ∃ b : Bool, b = decide (svLines s = svLines s') := ⟨_, rfl⟩
  have ht : decide (svText s = svText s') = due := by
    rw [hdue]
    exact decide_eq_decide.mpr (text_lines h h')
  refine ⟨some (.bl due), ?_⟩
  unfold p_law_4
  refine (seq_nx (env' := lw e0 e1 i e3 ns ws s s' e8 (some (svD s)) e10 (some (.bl due)) e12 e13) (st' := st) ((set_ok (c1.trans (by rw [hdue]))).trans rfl)).trans ?_
  have a1 : mCall 1 f__law_service_of [] (mCons (mVar 7) (mNil)) (lw e0 e1 i e3 ns ws s s' e8 (some (svD s)) e10 (some (.bl due)) e12 e13) st = .ok (svD s') st := call_ok (ds := [oneD s']) (st1 := st) rfl rfl (service_of h')
  have q1 : mBin (dOwnEq eqc_0 nfT f_Service_eq dEq) (mVar 9) (mCall 1 f__law_service_of [] (mCons (mVar 7) (mNil))) (lw e0 e1 i e3 ns ws s s' e8 (some (svD s)) e10 (some (.bl due)) e12 e13) st = .ok (.bl due) st := (bin_ok (d := svD s) (st1 := st) rfl a1).trans (own_eq.trans (by rw [ht]))
  have q2 : mBin (dOwnNe eqc_0 nfT f_Service_eq dNe) (mVar 9) (mCall 1 f__law_service_of [] (mCons (mVar 7) (mNil))) (lw e0 e1 i e3 ns ws s s' e8 (some (svD s)) e10 (some (.bl due)) e12 e13) st = .ok (.bl (!due)) st := (bin_ok (d := svD s) (st1 := st) rfl a1).trans (own_ne.trans (by rw [ht]))
  have t1 : mTest (mBin dNe (mBin (dOwnEq eqc_0 nfT f_Service_eq dEq) (mVar 9) (mCall 1 f__law_service_of [] (mCons (mVar 7) (mNil)))) (mVar 11)) (lw e0 e1 i e3 ns ws s s' e8 (some (svD s)) e10 (some (.bl due)) e12 e13) st = .ok false st := tst ((bin_ok (e := .bl due) (st2 := st) q1 rfl).trans (ne_bl.trans (by simp)))
  have t2 : mTest (mBin dEq (mBin (dOwnNe eqc_0 nfT f_Service_eq dNe) (mVar 9) (mCall 1 f__law_service_of [] (mCons (mVar 7) (mNil)))) (mVar 11)) (lw e0 e1 i e3 ns ws s s' e8 (some (svD s)) e10 (some (.bl due)) e12 e13) st = .ok false st := tst ((bin_ok (e := .bl due) (st2 := st) q2 rfl).trans (eq_bl.trans (by cases due <;> rfl)))
  unfold p_law_3
  exact (seq_nx ((if_f (orF t1 t2)).trans rfl)).trans (l_2 h)
theorem l_5 (h : SvOk s) (h' : SvOk s') : ∃ e11', p_law_5 (lw e0 e1 i e3 ns ws s s' e8 (some (svD s)) e10 e11 e12 e13) st = .nx (lw e0 e1 i e3 ns ws s s' e8 (some (svD s)) e10 e11' e12 e13) st := by
  obtain ⟨e11', q⟩ := l_4 (e0 := e0) (e1 := e1) (i := i) (e3 := e3) (ns := ns) (ws := ws) (e8 := e8) (e10 := e10) (e11 := e11) (e12 := e12) (e13 := e13) (st := st) h h'
  refine ⟨e11', ?_⟩
  have a1 : mCall 1 f__law_service_of [] (mCons (mVar 6) (mNil)) (lw e0 e1 i e3 ns ws s s' e8 (some (svD s)) e10 e11 e12 e13) st = .ok (svD s) st := call_ok (ds := [oneD s]) (st1 := st) rfl rfl (service_of h)
  have r1 : mCall 2 f__law_right [] (mCons (mVar 9) (mCons (mVar 6) (mNil))) (lw e0 e1 i e3 ns ws s s' e8 (some (svD s)) e10 e11 e12 e13) st = .ok (.bl true) st := call_ok (ds := [svD s, oneD s]) (st1 := st) rfl rfl (law_right h)
  have r2 : mCall 2 f__law_right [] (mCons (mCall 1 f__law_service_of [] (mCons (mVar 6) (mNil))) (mCons (mVar 6) (mNil))) (lw e0 e1 i e3 ns ws s s' e8 (some (svD s)) e10 e11 e12 e13) st = .ok (.bl true) st := call_ok (ds := [svD s, oneD s]) (st1 := st) (cons_ok a1 (cons_ok (d := oneD s) (st1 := st) rfl nil_ok)) rfl (law_right h)
  unfold p_law_5
  exact (seq_nx ((if_f (orF (notT r1) (notT r2))).trans rfl)).trans q
/-- something is put behind each list -/
theorem more_go : ∀ {ks : List Nat} {st : Sto} {e10 : Option D}, Box st i → ks.Nodup → (∀ k ∈ ks, k ≠ i ∧ ∃ xs, st[k]? = some (.lst xs) ∧ xs.length ≤ 1000) → ∃ (e10' : Option D) (st' : Sto), mForGo (.nm 10) p_law_6 (ks.map D.ptr) (lw e0 e1 i e3 ns ws s s' e8 e9 e10 e11 e12 e13) st = .nx (lw e0 e1 i e3 ns ws s s' e8 e9 e10' e11 e12 e13) st' ∧ Box st' i
  | [], st, e10, hB, _, _ => ⟨e10, st, rfl, hB⟩
  | k :: ks, st, e10, hB, nd, h => by
    obtain ⟨hk, nd⟩ := List.nodup_cons.mp nd
    obtain ⟨ki, xs, hx, hl⟩ := h k (.head _)
    have hB' : Box (st.set k (.lst (xs ++ [.str "more"]))) i := by
      obtain ⟨w, a, b, q⟩ := hB
      exact ⟨w, a, b, by rw [List.getElem?_set_ne ki]; exact q⟩
    obtain ⟨e10', st', q, hq⟩ := more_go (ks := ks) (st := st.set k (.lst (xs ++ [.str "more"]))) (e10 := some (.ptr k)) hB' nd fun k' hk' => by
      obtain ⟨k1, ys, hy, hl⟩ := h k' (.tail _ hk')
      exact ⟨k1, ys, by rw [List.getElem?_set_ne (fun e : k = k' => hk (by rw [e]; exact hk'))]; exact hy, hl⟩
    refine ⟨e10', st', ?_, hq⟩
    have st1 : p_law_6 (lw e0 e1 i e3 ns ws s s' e8 e9 (some (.ptr k)) e11 e12 e13) st = .nx (lw e0 e1 i e3 ns ws s s' e8 e9 (some (.ptr k)) e11 e12 e13) (st.set k (.lst (xs ++ [.str "more"]))) := by
      unfold p_law_6
      refine do_ok (d := .non) ?_
      unfold mLm
      rw [show mVar 10 (lw e0 e1 i e3 ns ws s s' e8 e9 (some (.ptr k)) e11 e12 e13) st = .ok (.ptr k) st from rfl]
      simp only [R.bind]
      rw [if_pos (by simp [isLst, rd, hx])]
      have hz : xs.length < sizeLine := by rw [sizeLine_eq]; omega
      simp [mCons, mC, mNil, R.bind, dAppend, hx, hz]
    rw [List.map_cons, mForGo]
    show (match p_law_6 (lw e0 e1 i e3 ns ws s s' e8 e9 (some (.ptr k)) e11 e12 e13) st with
      | .nx env2 st2 => mForGo (.nm 10) p_law_6 (ks.map D.ptr) env2 st2
      | .ct env2 st2 => mForGo (.nm 10) p_law_6 (ks.map D.ptr) env2 st2
      | .bk env2 st2 => .nx env2 st2
      | r => r) = _
    rw [st1]
    exact q
end
end K
namespace K
open PySem L2 S
/-! ### the law: its turns -/
section
variable {s s' : Sv} {i : Nat} {ns ws : List Str} {st : Sto} {e0 e1 e3 e8 e9 e10 e11 e12 e13 : Option D}
def lotD (n : Nat) : List D := [.ptr n, .ptr (n + 1), .ptr (n + 2), .ptr (n + 3)]
theorem l_9 (hB : Box st i) (h : SvOk s) (h' : SvOk s') : ∃ (e8' e9' e10' e11' : Option D) (st' : Sto), p_law_9 (lw e0 e1 i e3 ns ws s s' e8 e9 e10 e11 e12 e13) st = .nx (lw e0 e1 i e3 ns ws s s' e8' e9' e10' e11' e12 e13) st' ∧ Box st' i := by
  have hi := hB.lt
  have hrl := h.rl
  have hks := h.ks.len
  have hws := h.ws.len
  have hls := h.ls.len
  obtain ⟨n, hn⟩ : ∃ n, n = st.length := ⟨_, rfl⟩
  obtain ⟨x, hx⟩ : ∃ x : Sto, x = st ++ [.lst (s.ks.map D.str), .lst (s.ws.map D.str), .lst (s.ls.map D.str), .lst (s.rs.map rowD)] := ⟨_, rfl⟩
  have xa : ∀ {j : Nat} {c : C}, [C.lst (s.ks.map D.str), .lst (s.ws.map D.str), .lst (s.ls.map D.str), .lst (s.rs.map rowD)][j]? = some c → x[n + j]? = some c := fun {j c} e => by
    rw [hx, List.getElem?_append_right (by omega), show n + j - st.length = j by omega]
    exact e
  have x0 : x[n]? = some (.lst (s.ks.map D.str)) := xa (j := 0) rfl
  have x1 : x[n + 1]? = some (.lst (s.ws.map D.str)) := xa (j := 1) rfl
  have x2 : x[n + 2]? = some (.lst (s.ls.map D.str)) := xa (j := 2) rfl
  have x3 : x[n + 3]? = some (.lst (s.rs.map rowD)) := xa (j := 3) rfl
  have n0 := noR_strs s.ks
  have n1 := noR_strs s.ws
  have n2 := noR_strs s.ls
  have n3 : noRL (s.rs.map rowD) = true := noRL_map noR_row _
  -- the lists
  have g : ∀ {w : Str} {d : D} {st : Sto}, (∀ st, dGetK (oneD s) (.str w) st = .ok d st) → mBin dGetK (mVar 6) (mC (.str w)) (lw e0 e1 i e3 ns ws s s' e8 e9 e10 e11 e12 e13) st = .ok d st := fun h => getv rfl (h _)
  have lc : ∀ {w : Str} {xs : List D} {st : Sto}, (∀ st, dGetK (oneD s) (.str w) st = .ok (.lst xs) st) → mApp dListC (mCons (mBin dGetK (mVar 6) (mC (.str w))) (mNil)) (lw e0 e1 i e3 ns ws s s' e8 e9 e10 e11 e12 e13) st = .ok (.ptr st.length) (st ++ [.lst xs]) := fun h => (app_ok (cons_ok (g h) nil_ok)).trans rfl
  have lr : ∀ {st : Sto}, mLcC (.nm 13) [13] (mItAny (mBin dGetK (mVar 6) (mC (.str "rows")))) (mYes) (mCall 1 f__law_row [] (mCons (mVar 13) (mNil))) (lw e0 e1 i e3 ns ws s s' e8 e9 e10 e11 e12 e13) st = .ok (.ptr st.length) (st ++ [.lst (s.rs.map rowD)]) := fun {st} => by
    have := lc_map (t := .nm 13) (vs := [13]) (mt := mYes) (me := mCall 1 f__law_row [] (mCons (mVar 13) (mNil))) (env := lw e0 e1 i e3 ns ws s s' e8 e9 e10 e11 e12 e13) (st := st) rowT rowD (xs := s.rs) (acc := []) (by rw [sizeLine_eq]; simp; omega) fun r hr => ⟨_, rfl, rfl, call_ok (ds := [rowT r]) (cons_ok rfl nil_ok) rfl (row_made (h.rs r hr))⟩
    unfold mLcC
    rw [itg (g fun _ => one_rs)]
    simp only [R.bind, this, List.nil_append]
  have lots : mLst (mCons (mApp dListC (mCons (mBin dGetK (mVar 6) (mC (.str "kinds"))) (mNil))) (mCons (mApp dListC (mCons (mBin dGetK (mVar 6) (mC (.str "waits"))) (mNil))) (mCons (mApp dListC (mCons (mBin dGetK (mVar 6) (mC (.str "leaves"))) (mNil))) (mCons (mLcC (.nm 13) [13] (mItAny (mBin dGetK (mVar 6) (mC (.str "rows")))) (mYes) (mCall 1 f__law_row [] (mCons (mVar 13) (mNil)))) (mNil))))) (lw e0 e1 i e3 ns ws s s' e8 e9 e10 e11 e12 e13) st = .ok (.lst (lotD n)) x := by
    refine (lst_ok (ds := lotD n) (st1 := x) ?_ (by simp [lotD])).trans rfl
    have q := cons_ok (lc (st := st) fun _ => one_ks) (cons_ok (lc fun _ => one_ws) (cons_ok (lc fun _ => one_ls) (cons_ok lr nil_ok)))
    refine q.trans ?_
    rw [hx, hn]
    simp [lotD]
  -- the service
  obtain ⟨y, hy⟩ : ∃ y : Sto, y = x.map thinR := ⟨_, rfl⟩
  have ya : y.all noRC = true := hy ▸ thinR_all x
  have y0 : y[n]? = some (.lst (s.ks.map D.str)) := hy ▸ thin_at x0 n0
  have y1 : y[n + 1]? = some (.lst (s.ws.map D.str)) := hy ▸ thin_at x1 n1
  have y2 : y[n + 2]? = some (.lst (s.ls.map D.str)) := hy ▸ thin_at x2 n2
  have y3 : y[n + 3]? = some (.lst (s.rs.map rowD)) := hy ▸ thin_at x3 n3
  have so : ∀ {y : Sto} {a b : Nat} {c : C}, a ≠ b → y[b]? = some c → (y.set a .dead)[b]? = some c := fun ne e => by rw [List.getElem?_set_ne ne]; exact e
  have made : mTmpR 8 0 (mTmpR 8 1 (mTmpR 8 2 (mTmpR 8 3 (mMakeA 5 6 f_Service_init [0, 1, 2, 3, 4, 5] (mArgs 5 0 (mCons (mBin dGetK (mVar 6) (mC (.str "name"))) (mCons (mBin dIx (mVar 8) (mC (.int 0))) (mCons (mBin dIx (mVar 8) (mC (.int 1))) (mCons (mBin dIx (mVar 8) (mC (.int 2))) (mCons (mBin dIx (mVar 8) (mC (.int 3))) (mNil)))))) (mNil) [.tup [], .tup [], .tup []]))))) (lw e0 e1 i e3 ns ws s s' (some (.lst (lotD n))) e9 e10 e11 e12 e13) x = .ok (svD s) y := by
    rw [hy]
    refine tmpR_ok (k := n) (xs := s.ks.map D.str) rfl rfl x0 n0 (noR_sv s) ?_
    rw [← hy]
    refine tmpR_in (k := n + 1) (xs := s.ws.map D.str) (set_noR ya rfl) rfl rfl (so (by omega) y1) n1 (noR_sv s) ?_
    refine tmpR_in (k := n + 2) (xs := s.ls.map D.str) (set_noR (set_noR ya rfl) rfl) rfl rfl (so (by omega) (so (by omega) y2)) n2 (noR_sv s) ?_
    refine tmpR_in (k := n + 3) (xs := s.rs.map rowD) (set_noR (set_noR (set_noR ya rfl) rfl) rfl) rfl rfl (so (by omega) (so (by omega) (so (by omega) y3))) n3 (noR_sv s) ?_
    obtain ⟨z, hz⟩ : ∃ z : Sto, z = (((y.set n .dead).set (n + 1) .dead).set (n + 2) .dead).set (n + 3) .dead := ⟨_, rfl⟩
    rw [← hz]
    obtain ⟨env, henv⟩ : ∃ env : S.Env, env = lw e0 e1 i e3 ns ws s s' (some (.lst [.rls (s.ks.map D.str), .rls (s.ws.map D.str), .rls (s.ls.map D.str), .rls (s.rs.map rowD)])) e9 e10 e11 e12 e13 := ⟨_, rfl⟩
    show mMakeA _ _ _ _ _ (lw e0 e1 i e3 ns ws s s' (some (.lst [.rls (s.ks.map D.str), .rls (s.ws.map D.str), .rls (s.ls.map D.str), .rls (s.rs.map rowD)])) e9 e10 e11 e12 e13) z = _
    rw [← henv]
    have ix : ∀ {j : Nat} {k : Int} {d : D}, k = j → [D.rls (s.ks.map D.str), .rls (s.ws.map D.str), .rls (s.ls.map D.str), .rls (s.rs.map rowD)][j]? = some d → mBin dIx (mVar 8) (mC (.int k)) env z = .ok d z := fun {j k d} hk e => by
      rw [henv]
      exact (bin_ok (d := .lst [D.rls (s.ks.map D.str), .rls (s.ws.map D.str), .rls (s.ls.map D.str), .rls (s.rs.map rowD)]) (e := .int k) (st1 := z) (st2 := z) rfl rfl).trans (ixl (j := j) hk e)
    have nm : mBin dGetK (mVar 6) (mC (.str "name")) env z = .ok (.str s.nm) z := by rw [henv]; exact getv rfl one_nm
    have as : mArgs 5 0 (mCons (mBin dGetK (mVar 6) (mC (.str "name"))) (mCons (mBin dIx (mVar 8) (mC (.int 0))) (mCons (mBin dIx (mVar 8) (mC (.int 1))) (mCons (mBin dIx (mVar 8) (mC (.int 2))) (mCons (mBin dIx (mVar 8) (mC (.int 3))) (mNil)))))) (mNil) [.tup [], .tup [], .tup []] env z = .ok [.str s.nm, .rls (s.ks.map D.str), .rls (s.ws.map D.str), .rls (s.ls.map D.str), .rls (s.rs.map rowD), .tup [], .tup [], .tup []] z := by
      unfold mArgs
      rw [cons_ok nm (cons_ok (ix (j := 0) (k := 0) rfl rfl) (cons_ok (ix (j := 1) (k := 1) rfl rfl) (cons_ok (ix (j := 2) (k := 2) rfl rfl) (cons_ok (ix (j := 3) (k := 3) rfl rfl) nil_ok))))]
      rfl
    unfold mMakeA
    rw [as]
    exact service_made (b1 := 2) (b2 := 2) (b3 := 2) (b4 := 2) (st := z) h
  -- behind it
  have yB : Box y i := by
    obtain ⟨w, a, b, q⟩ := hB
    have : x[i]? = some (.lst [.int w, .int a, .int b]) := by rw [hx, List.getElem?_append_left hi]; exact q
    exact ⟨w, a, b, hy ▸ thin_at this rfl⟩
  obtain ⟨e10', st', q, hq⟩ := more_go (e0 := e0) (e1 := e1) (e3 := e3) (ns := ns) (ws := ws) (s := s) (s' := s') (e8 := some (.lst (lotD n))) (e9 := some (svD s)) (e10 := e10) (e11 := e11) (e12 := e12) (e13 := e13) (ks := [n, n + 1, n + 2, n + 3]) yB (by simp) fun k hk => by
    simp at hk
    rcases hk with rfl | rfl | rfl | rfl
    · exact ⟨by omega, _, y0, by rw [List.length_map]; omega⟩
    · exact ⟨by omega, _, y1, by rw [List.length_map]; omega⟩
    · exact ⟨by omega, _, y2, by rw [List.length_map]; omega⟩
    · exact ⟨by omega, _, y3, by rw [List.length_map]; omega⟩
  obtain ⟨e11', q5⟩ := l_5 (e0 := e0) (e1 := e1) (i := i) (e3 := e3) (ns := ns) (ws := ws) (e8 := some (.lst (lotD n))) (e10 := e10') (e11 := e11) (e12 := e12) (e13 := e13) (st := st') h h'
  refine ⟨some (.lst (lotD n)), some (svD s), e10', e11', st', ?_, hq⟩
  unfold p_law_9
  refine (seq_nx (env' := lw e0 e1 i e3 ns ws s s' (some (.lst (lotD n))) e9 e10 e11 e12 e13) (st' := x) ((set_ok lots).trans rfl)).trans ?_
  unfold p_law_8
  refine (seq_nx (env' := lw e0 e1 i e3 ns ws s s' (some (.lst (lotD n))) (some (svD s)) e10 e11 e12 e13) (st' := y) ((set_ok made).trans rfl)).trans ?_
  unfold p_law_7
  refine (seq_nx (env' := lw e0 e1 i e3 ns ws s s' (some (.lst (lotD n))) (some (svD s)) e10' e11 e12 e13) (st' := st') ?_).trans q5
  unfold mFor
  rw [itv rfl]
  exact q
end
theorem turn_ok {i : Nat} {st : Sto} {e0 e1 e3 e4 e5 e6 e7 e8 e9 e10 e11 e12 e13 : Option D} (h : Box st i) : ∃ (l : List (Option D)) (st' : Sto), p_law_12 [e0, e1, some (.ptr i), e3, e4, e5, e6, e7, e8, e9, e10, e11, e12, e13] st = .nx (e0 :: e1 :: some (.ptr i) :: e3 :: l) st' ∧ l.length = 10 ∧ Box st' i := by
  obtain ⟨r, st1, r1, q1, D1⟩ := take_d (many := 4) h (by decide) (by decide)
  obtain ⟨ns, st2, q2, hn, D2⟩ := names_ok (n := 1 + r) D1.box (by omega)
  obtain ⟨ws, st3, q3, hw, D3⟩ := names_ok (n := 7) D2.box (by omega)
  have hnl := hn.len
  obtain ⟨n0, nr, hns⟩ : ∃ n0 nr, ns = n0 :: nr := by
    cases ns with
    | nil => simp at hnl; omega
    | cons a r => exact ⟨a, r, rfl⟩
  have h0 : isName n0 = true := hn.nm n0 (hns ▸ .head _)
  obtain ⟨s, st4, q4, D4, hs, _⟩ := any_sv (nm := n0) (ns := ns) D3.box hn.toNm0 (by omega) (by omega) hw h0
  obtain ⟨s', st5, q5, D5, hs', _⟩ := any_sv (nm := n0) (ns := ns) D4.box hn.toNm0 (by omega) (by omega) hw h0
  obtain ⟨e8', e9', e10', e11', st6, q6, hB⟩ := l_9 (e0 := e0) (e1 := e1) (e3 := e3) (ns := ns) (ws := ws) (e8 := e8) (e9 := e9) (e10 := e10) (e11 := e11) (e12 := e12) (e13 := e13) D5.box hs hs'
  refine ⟨[some (.lst (ns.map D.str)), some (.lst (ws.map D.str)), some (oneD s), some (oneD s'), e8', e9', e10', e11', e12, e13], st6, ?_, rfl, hB⟩
  unfold p_law_12 p_law_11
  refine (seq_nx (env' := [e0, e1, some (.ptr i), e3, some (.lst (ns.map D.str)), some (.lst (ws.map D.str)), e6, e7, e8, e9, e10, e11, e12, e13]) (st' := st3) ?_).trans ?_
  · have q2' : f__law_names [.ptr i, .int (1 + (r : Int))] st1 = .ok (.lst (ns.map D.str)) st2 := by rw [← q2]; simp
    have q3' : f__law_names [.ptr i, .int 7] st2 = .ok (.lst (ws.map D.str)) st3 := q3
    have a : mTup (mCons (mCall 2 f__law_names [] (mCons (mVar 2) (mCons (mBin dAdd (mC (.int 1)) (mCall 2 f__law_take [] (mCons (mVar 2) (mCons (mC (.int 4)) (mNil))))) (mNil)))) (mCons (mCall 2 f__law_names [] (mCons (mVar 2) (mCons (mC (.int 7)) (mNil)))) (mNil))) [e0, e1, some (.ptr i), e3, e4, e5, e6, e7, e8, e9, e10, e11, e12, e13] st = .ok (.tup [.lst (ns.map D.str), .lst (ws.map D.str)]) st3 := by
      simp [mTup, mCons, mCall, mVar, mBin, mC, mNil, R.bind, q1, dAdd, rd, q2', q3', sizeLine_eq]
    unfold mAsg
    rw [a]
    rfl
  unfold p_law_10
  refine (seq_nx (env' := lw e0 e1 i e3 ns ws s s' e8 e9 e10 e11 e12 e13) (st' := st5) ?_).trans q6
  have me : ∀ {env : S.Env} {st st' : Sto} {s : Sv}, env[2]? = some (some (.ptr i)) → env[4]? = some (some (.lst (ns.map D.str))) → env[5]? = some (some (.lst (ws.map D.str))) → f__law_any_service [.ptr i, .str n0, .lst (ns.map D.str), .lst (ws.map D.str)] st = .ok (oneD s) st' → mCall 4 f__law_any_service [] (mCons (mVar 2) (mCons (mBin dIx (mVar 4) (mC (.int 0))) (mCons (mVar 4) (mCons (mVar 5) (mNil))))) env st = .ok (oneD s) st' := fun {env st st' s} h2 h4 h5 h => by
    have v : ∀ {j : Nat} {d : D}, env[j]? = some (some d) → mVar j env st = .ok d st := fun e => by simp [mVar, e]
    have i0 : mBin dIx (mVar 4) (mC (.int 0)) env st = .ok (.str n0) st := (bin_ok (d := .lst (ns.map D.str)) (e := .int 0) (st1 := st) (st2 := st) (v h4) rfl).trans (ixl (j := 0) rfl (by rw [hns]; rfl))
    exact call_ok (ds := [.ptr i, .str n0, .lst (ns.map D.str), .lst (ws.map D.str)]) (st1 := st) (cons_ok (v h2) (cons_ok i0 (cons_ok (v h4) (cons_ok (v h5) nil_ok)))) rfl h
  have lc : mLc (.nm 12) [12] (mItRange (mCons (mC (.int 2)) (mNil))) (mYes) (mCall 4 f__law_any_service [] (mCons (mVar 2) (mCons (mBin dIx (mVar 4) (mC (.int 0))) (mCons (mVar 4) (mCons (mVar 5) (mNil)))))) [e0, e1, some (.ptr i), e3, some (.lst (ns.map D.str)), some (.lst (ws.map D.str)), e6, e7, e8, e9, e10, e11, e12, e13] st3 = .ok (.lst [oneD s, oneD s']) st5 := by
    unfold mLc
    rw [range_nat' (n := 2) (m := mC (.int 2)) (st' := st3) rfl (by omega)]
    have r2 : rangeD 0 2 = [.int 0, .int 1] := rfl
    have c1 := me (env := [e0, e1, some (.ptr i), e3, some (.lst (ns.map D.str)), some (.lst (ws.map D.str)), e6, e7, e8, e9, e10, e11, some (.int 0), e13]) rfl rfl rfl q4
    have c2 := me (env := [e0, e1, some (.ptr i), e3, some (.lst (ns.map D.str)), some (.lst (ws.map D.str)), e6, e7, e8, e9, e10, e11, some (.int 1), e13]) rfl rfl rfl q5
    rw [r2]
    simp [R.bind, mLcGo, Tg.at, wipeE, mYes, R.only, c1, c2, sizeLine_eq]
  unfold mAsg
  rw [lc]
  rfl
theorem cell_ok {ns : List Int} {k : Nat} {st : Sto} {e2 e3 e4 e5 e6 e7 e8 e9 e10 e11 e12 e13 : Option D} : ∃ (l : List (Option D)) (st' : Sto), p_law_13 [some (.rls (ns.map D.int)), some (.int (k : Nat)), e2, e3, e4, e5, e6, e7, e8, e9, e10, e11, e12, e13] st = .nx (some (.rls (ns.map D.int)) :: some (.int (k : Nat)) :: l) st' ∧ l.length = 12 := by
  obtain ⟨st0, q0, hB, cc, hcc⟩ := box_d (st := st) (xs := ns) (k := k)
  obtain ⟨env', st', e, ⟨x3, l, he, hl⟩, hB'⟩ := for_inv (t := .nm 3) (body := p_law_12) (fun env s => (∃ (x3 : Option D) (l : List (Option D)), env = some (.rls (ns.map D.int)) :: some (.int (k : Nat)) :: some (.ptr st.length) :: x3 :: l ∧ l.length = 10) ∧ Box s st.length) (ds := rangeD 0 (3 : Nat)) (env := some (.rls (ns.map D.int)) :: some (.int (k : Nat)) :: some (.ptr st.length) :: e3 :: [e4, e5, e6, e7, e8, e9, e10, e11, e12, e13]) (st := st0) ⟨⟨e3, [e4, e5, e6, e7, e8, e9, e10, e11, e12, e13], rfl, rfl⟩, hB⟩ fun d hd env s ⟨⟨x3, l, he, hl⟩, hb⟩ => by
    subst he
    match l, hl with
    | [a4, a5, a6, a7, a8, a9, a10, a11, a12, a13], _ =>
      obtain ⟨l', s', q, hl', hb'⟩ := turn_ok (i := st.length) (st := s) (e0 := some (.rls (ns.map D.int))) (e1 := some (.int (k : Nat))) (e3 := some d) (e4 := a4) (e5 := a5) (e6 := a6) (e7 := a7) (e8 := a8) (e9 := a9) (e10 := a10) (e11 := a11) (e12 := a12) (e13 := a13) hb
      exact ⟨_, _, s', rfl, q, ⟨some d, l', rfl, hl'⟩, hb'⟩
  subst he
  refine ⟨_, st', ?_, by show (some (D.ptr st.length) :: x3 :: l).length = 12; simp [hl]⟩
  unfold p_law_13
  refine (seq_nx (set_ok (call_ok (ds := [.rls (ns.map D.int), .int (k : Nat)]) (st1 := st) rfl rfl q0))).trans ?_
  unfold mFor
  rw [range_nat' (n := 3) (m := mC (.int 3)) (st' := st0) rfl (by omega)]
  exact e
theorem law_true (ns : List Int) (hl : ns.length ≤ 63) : ∃ st, f_law [.rls (ns.map D.int)] [] = .ok (.bl true) st := by
  obtain ⟨r, hr⟩ := cells_of ns 4 (by decide) (by decide) (List.replicate 13 none) []
  obtain ⟨env', st', e, ⟨l, he, hl'⟩⟩ := for_inv (t := .nm 1) (body := p_law_13) (fun env s => ∃ (l : List (Option D)), env = some (.rls (ns.map D.int)) :: l ∧ l.length = 13) (ds := rangeD 0 r) (env := some (.rls (ns.map D.int)) :: List.replicate 13 none) (st := []) ⟨_, rfl, rfl⟩ fun d hd env st ⟨l, he, hl⟩ => by
    obtain ⟨k, _, rfl⟩ := range_nat hd
    subst he
    match l, hl with
    | [a1, a2, a3, a4, a5, a6, a7, a8, a9, a10, a11, a12, a13], _ =>
      obtain ⟨l', st', q, hl'⟩ := cell_ok (ns := ns) (k := k) (st := st) (e2 := a2) (e3 := a3) (e4 := a4) (e5 := a5) (e6 := a6) (e7 := a7) (e8 := a8) (e9 := a9) (e10 := a10) (e11 := a11) (e12 := a12) (e13 := a13)
      exact ⟨_, _, st', rfl, q, _, rfl, by simp [hl']⟩
  refine law_end (n := 14) (ms := m_law) (st' := st') ?_
  show m_law (some (.rls (ns.map D.int)) :: List.replicate 13 none) [] = .rt (.bl true) st'
  unfold m_law
  refine (seq_nx (env' := env') (st' := st') ?_).trans ?_
  · unfold mFor
    rw [hr]
    exact e
  · unfold p_law_1
    exact ret_ok rfl
end K
namespace K
open PySem L2 S
theorem all_mk {K : PySem.W.Frag} {h : Heap} {mg : Str → Option Value} (w : World) (X : K.In h) (G : h.Ns mainGlobals mg)
    {C_Row : Addr} {C_Begin : Addr} {C_Send : Addr} {C_Back : Addr} {C_End : Addr} {C_Service : Addr} {f_is_name : Addr} {od_is_name an_is_name : Option Addr} {sl_is_name : Array (Option Value)} {oc_is_name kV_is_name dc_is_name pm_is_name ct_is_name : Value} {cd_is_name : Value} {f_is_word : Addr} {od_is_word an_is_word : Option Addr} {sl_is_word : Array (Option Value)} {oc_is_word kV_is_word dc_is_word pm_is_word ct_is_word : Value} {cd_is_word : Value} {f_is_mark : Addr} {od_is_mark an_is_mark : Option Addr} {sl_is_mark : Array (Option Value)} {oc_is_mark kV_is_mark dc_is_mark pm_is_mark ct_is_mark : Value} {cd_is_mark : Value} {f_is_sign : Addr} {od_is_sign an_is_sign : Option Addr} {sl_is_sign : Array (Option Value)} {oc_is_sign kV_is_sign dc_is_sign pm_is_sign ct_is_sign : Value} {cd_is_sign : Value} {f_is_sequence : Addr} {od_is_sequence an_is_sequence : Option Addr} {sl_is_sequence : Array (Option Value)} {oc_is_sequence kV_is_sequence dc_is_sequence pm_is_sequence ct_is_sequence : Value} {cd_is_sequence : Value} {f_are_names : Addr} {od_are_names an_are_names : Option Addr} {sl_are_names : Array (Option Value)} {oc_are_names kV_are_names dc_are_names pm_are_names ct_are_names : Value} {cd_are_names : Value} {f_Row_init : Addr} {od_Row_init an_Row_init : Option Addr} {sl_Row_init : Array (Option Value)} {oc_Row_init kV_Row_init dc_Row_init pm_Row_init ct_Row_init : Value} {cd_Row_init : Value} {f_Row_str : Addr} {od_Row_str an_Row_str : Option Addr} {sl_Row_str : Array (Option Value)} {oc_Row_str kV_Row_str dc_Row_str pm_Row_str ct_Row_str : Value} {cd_Row_str : Value} {f_need : Addr} {od_need an_need : Option Addr} {sl_need : Array (Option Value)} {oc_need kV_need dc_need pm_need ct_need : Value} {cd_need : Value} {f_Begin_init : Addr} {od_Begin_init an_Begin_init : Option Addr} {sl_Begin_init : Array (Option Value)} {oc_Begin_init kV_Begin_init dc_Begin_init pm_Begin_init ct_Begin_init : Value} {ca_Begin_init cc_Begin_init : Addr} {cl_Begin_init cv_Begin_init : Value} {cld_Begin_init cdd_Begin_init : Option Addr} {csl_Begin_init ccs_Begin_init : Array (Option Value)} {vs_Begin_init : Array Value} {file_Begin_init : Str} {tf_Begin_init : Tok} {f_Send_init : Addr} {od_Send_init an_Send_init : Option Addr} {sl_Send_init : Array (Option Value)} {oc_Send_init kV_Send_init dc_Send_init pm_Send_init ct_Send_init : Value} {ca_Send_init cc_Send_init : Addr} {cl_Send_init cv_Send_init : Value} {cld_Send_init cdd_Send_init : Option Addr} {csl_Send_init ccs_Send_init : Array (Option Value)} {vs_Send_init : Array Value} {file_Send_init : Str} {tf_Send_init : Tok} {f_Back_init : Addr} {od_Back_init an_Back_init : Option Addr} {sl_Back_init : Array (Option Value)} {oc_Back_init kV_Back_init dc_Back_init pm_Back_init ct_Back_init : Value} {ca_Back_init cc_Back_init : Addr} {cl_Back_init cv_Back_init : Value} {cld_Back_init cdd_Back_init : Option Addr} {csl_Back_init ccs_Back_init : Array (Option Value)} {vs_Back_init : Array Value} {file_Back_init : Str} {tf_Back_init : Tok} {f_End_init : Addr} {od_End_init an_End_init : Option Addr} {sl_End_init : Array (Option Value)} {oc_End_init kV_End_init dc_End_init pm_End_init ct_End_init : Value} {ca_End_init cc_End_init : Addr} {cl_End_init cv_End_init : Value} {cld_End_init cdd_End_init : Option Addr} {csl_End_init ccs_End_init : Array (Option Value)} {vs_End_init : Array Value} {file_End_init : Str} {tf_End_init : Tok} {f_need_24 : Addr} {od_need_24 an_need_24 : Option Addr} {sl_need_24 : Array (Option Value)} {oc_need_24 kV_need_24 dc_need_24 pm_need_24 ct_need_24 : Value} {cd_need_24 : Value} {f_moods_of : Addr} {od_moods_of an_moods_of : Option Addr} {sl_moods_of : Array (Option Value)} {oc_moods_of kV_moods_of dc_moods_of pm_moods_of ct_moods_of : Value} {cd_moods_of : Value} {f_ascending : Addr} {od_ascending an_ascending : Option Addr} {sl_ascending : Array (Option Value)} {oc_ascending kV_ascending dc_ascending pm_ascending ct_ascending : Value} {cd_ascending : Value} {f_Service_init : Addr} {od_Service_init an_Service_init : Option Addr} {sl_Service_init : Array (Option Value)} {oc_Service_init kV_Service_init dc_Service_init pm_Service_init ct_Service_init : Value} {cd_Service_init : Value} {T_Service_init : Addr} {Tc_Service_init : Option Addr} {Tn_Service_init : Nat} {Ts_Service_init : Array (Option Value)} {e_Service_init_0 : Addr} {ec_Service_init_0 : Option Addr} {en_Service_init_0 : Nat} {es_Service_init_0 : Array (Option Value)} {e_Service_init_1 : Addr} {ec_Service_init_1 : Option Addr} {en_Service_init_1 : Nat} {es_Service_init_1 : Array (Option Value)} {e_Service_init_2 : Addr} {ec_Service_init_2 : Option Addr} {en_Service_init_2 : Nat} {es_Service_init_2 : Array (Option Value)} {f_Service_str : Addr} {od_Service_str an_Service_str : Option Addr} {sl_Service_str : Array (Option Value)} {oc_Service_str kV_Service_str dc_Service_str pm_Service_str ct_Service_str : Value} {cd_Service_str : Value} {f_Service_eq : Addr} {od_Service_eq an_Service_eq : Option Addr} {sl_Service_eq : Array (Option Value)} {oc_Service_eq kV_Service_eq dc_Service_eq pm_Service_eq ct_Service_eq : Value} {cd_Service_eq : Value} {f__law_box : Addr} {od__law_box an__law_box : Option Addr} {sl__law_box : Array (Option Value)} {oc__law_box kV__law_box dc__law_box pm__law_box ct__law_box : Value} {cd__law_box : Value} {f__law_take : Addr} {od__law_take an__law_take : Option Addr} {sl__law_take : Array (Option Value)} {oc__law_take kV__law_take dc__law_take pm__law_take ct__law_take : Value} {cd__law_take : Value} {f__law_pick : Addr} {od__law_pick an__law_pick : Option Addr} {sl__law_pick : Array (Option Value)} {oc__law_pick kV__law_pick dc__law_pick pm__law_pick ct__law_pick : Value} {cd__law_pick : Value} {f__law_mixed : Addr} {od__law_mixed an__law_mixed : Option Addr} {sl__law_mixed : Array (Option Value)} {oc__law_mixed kV__law_mixed dc__law_mixed pm__law_mixed ct__law_mixed : Value} {cd__law_mixed : Value} {f__law_names : Addr} {od__law_names an__law_names : Option Addr} {sl__law_names : Array (Option Value)} {oc__law_names kV__law_names dc__law_names pm__law_names ct__law_names : Value} {cd__law_names : Value} {f__law_row_text : Addr} {od__law_row_text an__law_row_text : Option Addr} {sl__law_row_text : Array (Option Value)} {oc__law_row_text kV__law_row_text dc__law_row_text pm__law_row_text ct__law_row_text : Value} {cd__law_row_text : Value} {f__law_row : Addr} {od__law_row an__law_row : Option Addr} {sl__law_row : Array (Option Value)} {oc__law_row kV__law_row dc__law_row pm__law_row ct__law_row : Value} {cd__law_row : Value} {f__law_words : Addr} {od__law_words an__law_words : Option Addr} {sl__law_words : Array (Option Value)} {oc__law_words kV__law_words dc__law_words pm__law_words ct__law_words : Value} {cd__law_words : Value} {f__law_drawn_row : Addr} {od__law_drawn_row an__law_drawn_row : Option Addr} {sl__law_drawn_row : Array (Option Value)} {oc__law_drawn_row kV__law_drawn_row dc__law_drawn_row pm__law_drawn_row ct__law_drawn_row : Value} {cd__law_drawn_row : Value} {f__law_service_of : Addr} {od__law_service_of an__law_service_of : Option Addr} {sl__law_service_of : Array (Option Value)} {oc__law_service_of kV__law_service_of dc__law_service_of pm__law_service_of ct__law_service_of : Value} {cd__law_service_of : Value} {f__law_lines_of : Addr} {od__law_lines_of an__law_lines_of : Option Addr} {sl__law_lines_of : Array (Option Value)} {oc__law_lines_of kV__law_lines_of dc__law_lines_of pm__law_lines_of ct__law_lines_of : Value} {cd__law_lines_of : Value} {f__law_some : Addr} {od__law_some an__law_some : Option Addr} {sl__law_some : Array (Option Value)} {oc__law_some kV__law_some dc__law_some pm__law_some ct__law_some : Value} {cd__law_some : Value} {f__law_any_service : Addr} {od__law_any_service an__law_any_service : Option Addr} {sl__law_any_service : Array (Option Value)} {oc__law_any_service kV__law_any_service dc__law_any_service pm__law_any_service ct__law_any_service : Value} {cd__law_any_service : Value} {f__law_moods : Addr} {od__law_moods an__law_moods : Option Addr} {sl__law_moods : Array (Option Value)} {oc__law_moods kV__law_moods dc__law_moods pm__law_moods ct__law_moods : Value} {cd__law_moods : Value} {f__law_right : Addr} {od__law_right an__law_right : Option Addr} {sl__law_right : Array (Option Value)} {oc__law_right kV__law_right dc__law_right pm__law_right ct__law_right : Value} {cd__law_right : Value} {f_law : Addr} {od_law an_law : Option Addr} {sl_law : Array (Option Value)} {oc_law kV_law dc_law pm_law ct_law : Value} {cd_law : Value} {k_LETTERS : Tok} {k_BARRED : Addr} {kc_BARRED : Option Addr} {kn_BARRED : Nat} {ks_BARRED : Array (Option Value)} {kt_BARRED_0 kt_BARRED_1 kt_BARRED_2 kt_BARRED_3 kt_BARRED_4 kt_BARRED_5 kt_BARRED_6 kt_BARRED_7 kt_BARRED_8 kt_BARRED_9 : Tok} {k_MOST_LETTERS : Tok} {k_CALM : Tok} {cdd_CBegin : ClassData} {cdd_CSend : ClassData} {cdd_CBack : ClassData} {cdd_CEnd : ClassData} {kdd_Row : ClassData} {kdd_Service : ClassData}
    (aC_Row : PySem.W.nsIn K mainGlobals "Row" = some (some (.ref C_Row)))
    (aC_Begin : PySem.W.nsIn K mainGlobals "Begin" = some (some (.ref C_Begin)))
    (aC_Send : PySem.W.nsIn K mainGlobals "Send" = some (some (.ref C_Send)))
    (aC_Back : PySem.W.nsIn K mainGlobals "Back" = some (some (.ref C_Back)))
    (aC_End : PySem.W.nsIn K mainGlobals "End" = some (some (.ref C_End)))
    (aC_Service : PySem.W.nsIn K mainGlobals "Service" = some (some (.ref C_Service)))
    (a_is_name : PySem.W.nsIn K mainGlobals "is_name" = some (some (.ref f_is_name)))
    (l_is_name : K.lookup f_is_name = some ⟨oc_is_name, od_is_name, .func (PySem.W.fnOf "is_name" "is_name" (defArgs s_is_name) (defBody s_is_name) (defScope s_is_name) .none kV_is_name dc_is_name pm_is_name an_is_name cd_is_name ct_is_name), sl_is_name⟩)
    (c_is_name : PySem.W.codeIn K cd_is_name "is_name" = true)
    (k_is_name : PySem.W.keepIn K (.ref f_is_name) = true)
    (a_is_word : PySem.W.nsIn K mainGlobals "is_word" = some (some (.ref f_is_word)))
    (l_is_word : K.lookup f_is_word = some ⟨oc_is_word, od_is_word, .func (PySem.W.fnOf "is_word" "is_word" (defArgs s_is_word) (defBody s_is_word) (defScope s_is_word) .none kV_is_word dc_is_word pm_is_word an_is_word cd_is_word ct_is_word), sl_is_word⟩)
    (c_is_word : PySem.W.codeIn K cd_is_word "is_word" = true)
    (k_is_word : PySem.W.keepIn K (.ref f_is_word) = true)
    (a_is_mark : PySem.W.nsIn K mainGlobals "is_mark" = some (some (.ref f_is_mark)))
    (l_is_mark : K.lookup f_is_mark = some ⟨oc_is_mark, od_is_mark, .func (PySem.W.fnOf "is_mark" "is_mark" (defArgs s_is_mark) (defBody s_is_mark) (defScope s_is_mark) .none kV_is_mark dc_is_mark pm_is_mark an_is_mark cd_is_mark ct_is_mark), sl_is_mark⟩)
    (c_is_mark : PySem.W.codeIn K cd_is_mark "is_mark" = true)
    (k_is_mark : PySem.W.keepIn K (.ref f_is_mark) = true)
    (a_is_sign : PySem.W.nsIn K mainGlobals "is_sign" = some (some (.ref f_is_sign)))
    (l_is_sign : K.lookup f_is_sign = some ⟨oc_is_sign, od_is_sign, .func (PySem.W.fnOf "is_sign" "is_sign" (defArgs s_is_sign) (defBody s_is_sign) (defScope s_is_sign) .none kV_is_sign dc_is_sign pm_is_sign an_is_sign cd_is_sign ct_is_sign), sl_is_sign⟩)
    (c_is_sign : PySem.W.codeIn K cd_is_sign "is_sign" = true)
    (k_is_sign : PySem.W.keepIn K (.ref f_is_sign) = true)
    (a_is_sequence : PySem.W.nsIn K mainGlobals "is_sequence" = some (some (.ref f_is_sequence)))
    (l_is_sequence : K.lookup f_is_sequence = some ⟨oc_is_sequence, od_is_sequence, .func (PySem.W.fnOf "is_sequence" "is_sequence" (defArgs s_is_sequence) (defBody s_is_sequence) (defScope s_is_sequence) .none kV_is_sequence dc_is_sequence pm_is_sequence an_is_sequence cd_is_sequence ct_is_sequence), sl_is_sequence⟩)
    (c_is_sequence : PySem.W.codeIn K cd_is_sequence "is_sequence" = true)
    (k_is_sequence : PySem.W.keepIn K (.ref f_is_sequence) = true)
    (a_are_names : PySem.W.nsIn K mainGlobals "are_names" = some (some (.ref f_are_names)))
    (l_are_names : K.lookup f_are_names = some ⟨oc_are_names, od_are_names, .func (PySem.W.fnOf "are_names" "are_names" (defArgs s_are_names) (defBody s_are_names) (defScope s_are_names) .none kV_are_names dc_are_names pm_are_names an_are_names cd_are_names ct_are_names), sl_are_names⟩)
    (c_are_names : PySem.W.codeIn K cd_are_names "are_names" = true)
    (k_are_names : PySem.W.keepIn K (.ref f_are_names) = true)
    (a_Row_init : PySem.W.findIn K (.ref C_Row) "__init__" = some (some (.ref f_Row_init)))
    (i_Row_init : PySem.W.isFn K (.ref f_Row_init) = true)
    (l_Row_init : K.lookup f_Row_init = some ⟨oc_Row_init, od_Row_init, .func (PySem.W.fnOf "__init__" "Row.__init__" (defArgs s_Row_init) (defBody s_Row_init) (defScope s_Row_init) .none kV_Row_init dc_Row_init pm_Row_init an_Row_init cd_Row_init ct_Row_init), sl_Row_init⟩)
    (c_Row_init : PySem.W.codeIn K cd_Row_init "Row.__init__" = true)
    (k_Row_init : PySem.W.keepIn K (.ref f_Row_init) = true)
    (a_Row_str : PySem.W.findIn K (.ref C_Row) "__str__" = some (some (.ref f_Row_str)))
    (i_Row_str : PySem.W.isFn K (.ref f_Row_str) = true)
    (l_Row_str : K.lookup f_Row_str = some ⟨oc_Row_str, od_Row_str, .func (PySem.W.fnOf "__str__" "Row.__str__" (defArgs s_Row_str) (defBody s_Row_str) (defScope s_Row_str) .none kV_Row_str dc_Row_str pm_Row_str an_Row_str cd_Row_str ct_Row_str), sl_Row_str⟩)
    (c_Row_str : PySem.W.codeIn K cd_Row_str "Row.__str__" = true)
    (k_Row_str : PySem.W.keepIn K (.ref f_Row_str) = true)
    (a_need : PySem.W.nsIn K mainGlobals "need_rows" = some (some (.ref f_need)))
    (l_need : K.lookup f_need = some ⟨oc_need, od_need, .func (PySem.W.fnOf "need" "need" (defArgs s_need) (defBody s_need) (defScope s_need) .none kV_need dc_need pm_need an_need cd_need ct_need), sl_need⟩)
    (c_need : PySem.W.codeIn K cd_need "need" = true)
    (k_need : PySem.W.keepIn K (.ref f_need) = true)
    (a_Begin_init : PySem.W.findIn K (.ref C_Begin) "__init__" = some (some (.ref f_Begin_init)))
    (i_Begin_init : PySem.W.isFn K (.ref f_Begin_init) = true)
    (l_Begin_init : K.lookup f_Begin_init = some ⟨oc_Begin_init, od_Begin_init, .func (PySem.W.ksFn "__init__" "Begin.__init__" (defArgs s_Begin_init) (defBody s_Begin_init) (defScope s_Begin_init) .none kV_Begin_init dc_Begin_init pm_Begin_init an_Begin_init (.ref ca_Begin_init) ct_Begin_init cc_Begin_init), sl_Begin_init⟩)
    (c_Begin_init : PySem.W.codeIn K (.ref ca_Begin_init) "Begin.__init__" = true)
    (k_Begin_init : PySem.W.keepIn K (.ref f_Begin_init) = true)
    (fi_Begin_init : PySem.W.fnIn K f_Begin_init = true)
    (ce_Begin_init : K.lookup cc_Begin_init = some ⟨cl_Begin_init, cld_Begin_init, .cell (some (.ref C_Begin)), csl_Begin_init⟩)
    (co_Begin_init : K.lookup ca_Begin_init = some ⟨cv_Begin_init, cdd_Begin_init, .fields vs_Begin_init, ccs_Begin_init⟩)
    (cf_Begin_init : vs_Begin_init[2]? = some (.str file_Begin_init tf_Begin_init))
    (cft_Begin_init : ((PG.main.file : Str) == file_Begin_init) = true)
    (a_Send_init : PySem.W.findIn K (.ref C_Send) "__init__" = some (some (.ref f_Send_init)))
    (i_Send_init : PySem.W.isFn K (.ref f_Send_init) = true)
    (l_Send_init : K.lookup f_Send_init = some ⟨oc_Send_init, od_Send_init, .func (PySem.W.ksFn "__init__" "Send.__init__" (defArgs s_Send_init) (defBody s_Send_init) (defScope s_Send_init) .none kV_Send_init dc_Send_init pm_Send_init an_Send_init (.ref ca_Send_init) ct_Send_init cc_Send_init), sl_Send_init⟩)
    (c_Send_init : PySem.W.codeIn K (.ref ca_Send_init) "Send.__init__" = true)
    (k_Send_init : PySem.W.keepIn K (.ref f_Send_init) = true)
    (fi_Send_init : PySem.W.fnIn K f_Send_init = true)
    (ce_Send_init : K.lookup cc_Send_init = some ⟨cl_Send_init, cld_Send_init, .cell (some (.ref C_Send)), csl_Send_init⟩)
    (co_Send_init : K.lookup ca_Send_init = some ⟨cv_Send_init, cdd_Send_init, .fields vs_Send_init, ccs_Send_init⟩)
    (cf_Send_init : vs_Send_init[2]? = some (.str file_Send_init tf_Send_init))
    (cft_Send_init : ((PG.main.file : Str) == file_Send_init) = true)
    (a_Back_init : PySem.W.findIn K (.ref C_Back) "__init__" = some (some (.ref f_Back_init)))
    (i_Back_init : PySem.W.isFn K (.ref f_Back_init) = true)
    (l_Back_init : K.lookup f_Back_init = some ⟨oc_Back_init, od_Back_init, .func (PySem.W.ksFn "__init__" "Back.__init__" (defArgs s_Back_init) (defBody s_Back_init) (defScope s_Back_init) .none kV_Back_init dc_Back_init pm_Back_init an_Back_init (.ref ca_Back_init) ct_Back_init cc_Back_init), sl_Back_init⟩)
    (c_Back_init : PySem.W.codeIn K (.ref ca_Back_init) "Back.__init__" = true)
    (k_Back_init : PySem.W.keepIn K (.ref f_Back_init) = true)
    (fi_Back_init : PySem.W.fnIn K f_Back_init = true)
    (ce_Back_init : K.lookup cc_Back_init = some ⟨cl_Back_init, cld_Back_init, .cell (some (.ref C_Back)), csl_Back_init⟩)
    (co_Back_init : K.lookup ca_Back_init = some ⟨cv_Back_init, cdd_Back_init, .fields vs_Back_init, ccs_Back_init⟩)
    (cf_Back_init : vs_Back_init[2]? = some (.str file_Back_init tf_Back_init))
    (cft_Back_init : ((PG.main.file : Str) == file_Back_init) = true)
    (a_End_init : PySem.W.findIn K (.ref C_End) "__init__" = some (some (.ref f_End_init)))
    (i_End_init : PySem.W.isFn K (.ref f_End_init) = true)
    (l_End_init : K.lookup f_End_init = some ⟨oc_End_init, od_End_init, .func (PySem.W.ksFn "__init__" "End.__init__" (defArgs s_End_init) (defBody s_End_init) (defScope s_End_init) .none kV_End_init dc_End_init pm_End_init an_End_init (.ref ca_End_init) ct_End_init cc_End_init), sl_End_init⟩)
    (c_End_init : PySem.W.codeIn K (.ref ca_End_init) "End.__init__" = true)
    (k_End_init : PySem.W.keepIn K (.ref f_End_init) = true)
    (fi_End_init : PySem.W.fnIn K f_End_init = true)
    (ce_End_init : K.lookup cc_End_init = some ⟨cl_End_init, cld_End_init, .cell (some (.ref C_End)), csl_End_init⟩)
    (co_End_init : K.lookup ca_End_init = some ⟨cv_End_init, cdd_End_init, .fields vs_End_init, ccs_End_init⟩)
    (cf_End_init : vs_End_init[2]? = some (.str file_End_init tf_End_init))
    (cft_End_init : ((PG.main.file : Str) == file_End_init) = true)
    (a_need_24 : PySem.W.nsIn K mainGlobals "need_books" = some (some (.ref f_need_24)))
    (l_need_24 : K.lookup f_need_24 = some ⟨oc_need_24, od_need_24, .func (PySem.W.fnOf "need" "need" (defArgs s_need_24) (defBody s_need_24) (defScope s_need_24) .none kV_need_24 dc_need_24 pm_need_24 an_need_24 cd_need_24 ct_need_24), sl_need_24⟩)
    (c_need_24 : PySem.W.codeIn K cd_need_24 "need" = true)
    (k_need_24 : PySem.W.keepIn K (.ref f_need_24) = true)
    (a_moods_of : PySem.W.nsIn K mainGlobals "moods_of" = some (some (.ref f_moods_of)))
    (l_moods_of : K.lookup f_moods_of = some ⟨oc_moods_of, od_moods_of, .func (PySem.W.fnOf "moods_of" "moods_of" (defArgs s_moods_of) (defBody s_moods_of) (defScope s_moods_of) .none kV_moods_of dc_moods_of pm_moods_of an_moods_of cd_moods_of ct_moods_of), sl_moods_of⟩)
    (c_moods_of : PySem.W.codeIn K cd_moods_of "moods_of" = true)
    (k_moods_of : PySem.W.keepIn K (.ref f_moods_of) = true)
    (a_ascending : PySem.W.nsIn K mainGlobals "ascending" = some (some (.ref f_ascending)))
    (l_ascending : K.lookup f_ascending = some ⟨oc_ascending, od_ascending, .func (PySem.W.fnOf "ascending" "ascending" (defArgs s_ascending) (defBody s_ascending) (defScope s_ascending) .none kV_ascending dc_ascending pm_ascending an_ascending cd_ascending ct_ascending), sl_ascending⟩)
    (c_ascending : PySem.W.codeIn K cd_ascending "ascending" = true)
    (k_ascending : PySem.W.keepIn K (.ref f_ascending) = true)
    (a_Service_init : PySem.W.findIn K (.ref C_Service) "__init__" = some (some (.ref f_Service_init)))
    (i_Service_init : PySem.W.isFn K (.ref f_Service_init) = true)
    (l_Service_init : K.lookup f_Service_init = some ⟨oc_Service_init, od_Service_init, .func (PySem.W.fnOf "__init__" "Service.__init__" (defArgs s_Service_init) (defBody s_Service_init) (defScope s_Service_init) (.ref T_Service_init) kV_Service_init dc_Service_init pm_Service_init an_Service_init cd_Service_init ct_Service_init), sl_Service_init⟩)
    (c_Service_init : PySem.W.codeIn K cd_Service_init "Service.__init__" = true)
    (k_Service_init : PySem.W.keepIn K (.ref f_Service_init) = true)
    (lT_Service_init : K.lookup T_Service_init = some ⟨.type "tuple", Tc_Service_init, .seq #[.ref e_Service_init_0, .ref e_Service_init_1, .ref e_Service_init_2] Tn_Service_init, Ts_Service_init⟩)
    (le_Service_init_0 : K.lookup e_Service_init_0 = some ⟨.type "tuple", ec_Service_init_0, .seq #[] en_Service_init_0, es_Service_init_0⟩)
    (le_Service_init_1 : K.lookup e_Service_init_1 = some ⟨.type "tuple", ec_Service_init_1, .seq #[] en_Service_init_1, es_Service_init_1⟩)
    (le_Service_init_2 : K.lookup e_Service_init_2 = some ⟨.type "tuple", ec_Service_init_2, .seq #[] en_Service_init_2, es_Service_init_2⟩)
    (a_Service_str : PySem.W.findIn K (.ref C_Service) "__str__" = some (some (.ref f_Service_str)))
    (i_Service_str : PySem.W.isFn K (.ref f_Service_str) = true)
    (l_Service_str : K.lookup f_Service_str = some ⟨oc_Service_str, od_Service_str, .func (PySem.W.fnOf "__str__" "Service.__str__" (defArgs s_Service_str) (defBody s_Service_str) (defScope s_Service_str) .none kV_Service_str dc_Service_str pm_Service_str an_Service_str cd_Service_str ct_Service_str), sl_Service_str⟩)
    (c_Service_str : PySem.W.codeIn K cd_Service_str "Service.__str__" = true)
    (k_Service_str : PySem.W.keepIn K (.ref f_Service_str) = true)
    (a_Service_eq : PySem.W.findIn K (.ref C_Service) "__eq__" = some (some (.ref f_Service_eq)))
    (i_Service_eq : PySem.W.isFn K (.ref f_Service_eq) = true)
    (l_Service_eq : K.lookup f_Service_eq = some ⟨oc_Service_eq, od_Service_eq, .func (PySem.W.fnOf "__eq__" "Service.__eq__" (defArgs s_Service_eq) (defBody s_Service_eq) (defScope s_Service_eq) .none kV_Service_eq dc_Service_eq pm_Service_eq an_Service_eq cd_Service_eq ct_Service_eq), sl_Service_eq⟩)
    (c_Service_eq : PySem.W.codeIn K cd_Service_eq "Service.__eq__" = true)
    (k_Service_eq : PySem.W.keepIn K (.ref f_Service_eq) = true)
    (a__law_box : PySem.W.nsIn K mainGlobals "_law_box" = some (some (.ref f__law_box)))
    (l__law_box : K.lookup f__law_box = some ⟨oc__law_box, od__law_box, .func (PySem.W.fnOf "_law_box" "_law_box" (defArgs s__law_box) (defBody s__law_box) (defScope s__law_box) .none kV__law_box dc__law_box pm__law_box an__law_box cd__law_box ct__law_box), sl__law_box⟩)
    (c__law_box : PySem.W.codeIn K cd__law_box "_law_box" = true)
    (k__law_box : PySem.W.keepIn K (.ref f__law_box) = true)
    (a__law_take : PySem.W.nsIn K mainGlobals "_law_take" = some (some (.ref f__law_take)))
    (l__law_take : K.lookup f__law_take = some ⟨oc__law_take, od__law_take, .func (PySem.W.fnOf "_law_take" "_law_take" (defArgs s__law_take) (defBody s__law_take) (defScope s__law_take) .none kV__law_take dc__law_take pm__law_take an__law_take cd__law_take ct__law_take), sl__law_take⟩)
    (c__law_take : PySem.W.codeIn K cd__law_take "_law_take" = true)
    (k__law_take : PySem.W.keepIn K (.ref f__law_take) = true)
    (a__law_pick : PySem.W.nsIn K mainGlobals "_law_pick" = some (some (.ref f__law_pick)))
    (l__law_pick : K.lookup f__law_pick = some ⟨oc__law_pick, od__law_pick, .func (PySem.W.fnOf "_law_pick" "_law_pick" (defArgs s__law_pick) (defBody s__law_pick) (defScope s__law_pick) .none kV__law_pick dc__law_pick pm__law_pick an__law_pick cd__law_pick ct__law_pick), sl__law_pick⟩)
    (c__law_pick : PySem.W.codeIn K cd__law_pick "_law_pick" = true)
    (k__law_pick : PySem.W.keepIn K (.ref f__law_pick) = true)
    (a__law_mixed : PySem.W.nsIn K mainGlobals "_law_mixed" = some (some (.ref f__law_mixed)))
    (l__law_mixed : K.lookup f__law_mixed = some ⟨oc__law_mixed, od__law_mixed, .func (PySem.W.fnOf "_law_mixed" "_law_mixed" (defArgs s__law_mixed) (defBody s__law_mixed) (defScope s__law_mixed) .none kV__law_mixed dc__law_mixed pm__law_mixed an__law_mixed cd__law_mixed ct__law_mixed), sl__law_mixed⟩)
    (c__law_mixed : PySem.W.codeIn K cd__law_mixed "_law_mixed" = true)
    (k__law_mixed : PySem.W.keepIn K (.ref f__law_mixed) = true)
    (a__law_names : PySem.W.nsIn K mainGlobals "_law_names" = some (some (.ref f__law_names)))
    (l__law_names : K.lookup f__law_names = some ⟨oc__law_names, od__law_names, .func (PySem.W.fnOf "_law_names" "_law_names" (defArgs s__law_names) (defBody s__law_names) (defScope s__law_names) .none kV__law_names dc__law_names pm__law_names an__law_names cd__law_names ct__law_names), sl__law_names⟩)
    (c__law_names : PySem.W.codeIn K cd__law_names "_law_names" = true)
    (k__law_names : PySem.W.keepIn K (.ref f__law_names) = true)
    (a__law_row_text : PySem.W.nsIn K mainGlobals "_law_row_text" = some (some (.ref f__law_row_text)))
    (l__law_row_text : K.lookup f__law_row_text = some ⟨oc__law_row_text, od__law_row_text, .func (PySem.W.fnOf "_law_row_text" "_law_row_text" (defArgs s__law_row_text) (defBody s__law_row_text) (defScope s__law_row_text) .none kV__law_row_text dc__law_row_text pm__law_row_text an__law_row_text cd__law_row_text ct__law_row_text), sl__law_row_text⟩)
    (c__law_row_text : PySem.W.codeIn K cd__law_row_text "_law_row_text" = true)
    (k__law_row_text : PySem.W.keepIn K (.ref f__law_row_text) = true)
    (a__law_row : PySem.W.nsIn K mainGlobals "_law_row" = some (some (.ref f__law_row)))
    (l__law_row : K.lookup f__law_row = some ⟨oc__law_row, od__law_row, .func (PySem.W.fnOf "_law_row" "_law_row" (defArgs s__law_row) (defBody s__law_row) (defScope s__law_row) .none kV__law_row dc__law_row pm__law_row an__law_row cd__law_row ct__law_row), sl__law_row⟩)
    (c__law_row : PySem.W.codeIn K cd__law_row "_law_row" = true)
    (k__law_row : PySem.W.keepIn K (.ref f__law_row) = true)
    (a__law_words : PySem.W.nsIn K mainGlobals "_law_words" = some (some (.ref f__law_words)))
    (l__law_words : K.lookup f__law_words = some ⟨oc__law_words, od__law_words, .func (PySem.W.fnOf "_law_words" "_law_words" (defArgs s__law_words) (defBody s__law_words) (defScope s__law_words) .none kV__law_words dc__law_words pm__law_words an__law_words cd__law_words ct__law_words), sl__law_words⟩)
    (c__law_words : PySem.W.codeIn K cd__law_words "_law_words" = true)
    (k__law_words : PySem.W.keepIn K (.ref f__law_words) = true)
    (a__law_drawn_row : PySem.W.nsIn K mainGlobals "_law_drawn_row" = some (some (.ref f__law_drawn_row)))
    (l__law_drawn_row : K.lookup f__law_drawn_row = some ⟨oc__law_drawn_row, od__law_drawn_row, .func (PySem.W.fnOf "_law_drawn_row" "_law_drawn_row" (defArgs s__law_drawn_row) (defBody s__law_drawn_row) (defScope s__law_drawn_row) .none kV__law_drawn_row dc__law_drawn_row pm__law_drawn_row an__law_drawn_row cd__law_drawn_row ct__law_drawn_row), sl__law_drawn_row⟩)
    (c__law_drawn_row : PySem.W.codeIn K cd__law_drawn_row "_law_drawn_row" = true)
    (k__law_drawn_row : PySem.W.keepIn K (.ref f__law_drawn_row) = true)
    (a__law_service_of : PySem.W.nsIn K mainGlobals "_law_service_of" = some (some (.ref f__law_service_of)))
    (l__law_service_of : K.lookup f__law_service_of = some ⟨oc__law_service_of, od__law_service_of, .func (PySem.W.fnOf "_law_service_of" "_law_service_of" (defArgs s__law_service_of) (defBody s__law_service_of) (defScope s__law_service_of) .none kV__law_service_of dc__law_service_of pm__law_service_of an__law_service_of cd__law_service_of ct__law_service_of), sl__law_service_of⟩)
    (c__law_service_of : PySem.W.codeIn K cd__law_service_of "_law_service_of" = true)
    (k__law_service_of : PySem.W.keepIn K (.ref f__law_service_of) = true)
    (a__law_lines_of : PySem.W.nsIn K mainGlobals "_law_lines_of" = some (some (.ref f__law_lines_of)))
    (l__law_lines_of : K.lookup f__law_lines_of = some ⟨oc__law_lines_of, od__law_lines_of, .func (PySem.W.fnOf "_law_lines_of" "_law_lines_of" (defArgs s__law_lines_of) (defBody s__law_lines_of) (defScope s__law_lines_of) .none kV__law_lines_of dc__law_lines_of pm__law_lines_of an__law_lines_of cd__law_lines_of ct__law_lines_of), sl__law_lines_of⟩)
    (c__law_lines_of : PySem.W.codeIn K cd__law_lines_of "_law_lines_of" = true)
    (k__law_lines_of : PySem.W.keepIn K (.ref f__law_lines_of) = true)
    (a__law_some : PySem.W.nsIn K mainGlobals "_law_some" = some (some (.ref f__law_some)))
    (l__law_some : K.lookup f__law_some = some ⟨oc__law_some, od__law_some, .func (PySem.W.fnOf "_law_some" "_law_some" (defArgs s__law_some) (defBody s__law_some) (defScope s__law_some) .none kV__law_some dc__law_some pm__law_some an__law_some cd__law_some ct__law_some), sl__law_some⟩)
    (c__law_some : PySem.W.codeIn K cd__law_some "_law_some" = true)
    (k__law_some : PySem.W.keepIn K (.ref f__law_some) = true)
    (a__law_any_service : PySem.W.nsIn K mainGlobals "_law_any_service" = some (some (.ref f__law_any_service)))
    (l__law_any_service : K.lookup f__law_any_service = some ⟨oc__law_any_service, od__law_any_service, .func (PySem.W.fnOf "_law_any_service" "_law_any_service" (defArgs s__law_any_service) (defBody s__law_any_service) (defScope s__law_any_service) .none kV__law_any_service dc__law_any_service pm__law_any_service an__law_any_service cd__law_any_service ct__law_any_service), sl__law_any_service⟩)
    (c__law_any_service : PySem.W.codeIn K cd__law_any_service "_law_any_service" = true)
    (k__law_any_service : PySem.W.keepIn K (.ref f__law_any_service) = true)
    (a__law_moods : PySem.W.nsIn K mainGlobals "_law_moods" = some (some (.ref f__law_moods)))
    (l__law_moods : K.lookup f__law_moods = some ⟨oc__law_moods, od__law_moods, .func (PySem.W.fnOf "_law_moods" "_law_moods" (defArgs s__law_moods) (defBody s__law_moods) (defScope s__law_moods) .none kV__law_moods dc__law_moods pm__law_moods an__law_moods cd__law_moods ct__law_moods), sl__law_moods⟩)
    (c__law_moods : PySem.W.codeIn K cd__law_moods "_law_moods" = true)
    (k__law_moods : PySem.W.keepIn K (.ref f__law_moods) = true)
    (a__law_right : PySem.W.nsIn K mainGlobals "_law_right" = some (some (.ref f__law_right)))
    (l__law_right : K.lookup f__law_right = some ⟨oc__law_right, od__law_right, .func (PySem.W.fnOf "_law_right" "_law_right" (defArgs s__law_right) (defBody s__law_right) (defScope s__law_right) .none kV__law_right dc__law_right pm__law_right an__law_right cd__law_right ct__law_right), sl__law_right⟩)
    (c__law_right : PySem.W.codeIn K cd__law_right "_law_right" = true)
    (k__law_right : PySem.W.keepIn K (.ref f__law_right) = true)
    (a_law : PySem.W.nsIn K mainGlobals "law" = some (some (.ref f_law)))
    (l_law : K.lookup f_law = some ⟨oc_law, od_law, .func (PySem.W.fnOf "law" "law" (defArgs s_law) (defBody s_law) (defScope s_law) .none kV_law dc_law pm_law an_law cd_law ct_law), sl_law⟩)
    (c_law : PySem.W.codeIn K cd_law "law" = true)
    (k_law : PySem.W.keepIn K (.ref f_law) = true)
    (b_len : PySem.W.nsIn K mainGlobals "len" = some none)
    (b_abs : PySem.W.nsIn K mainGlobals "abs" = some none)
    (b_max : PySem.W.nsIn K mainGlobals "max" = some none)
    (b_min : PySem.W.nsIn K mainGlobals "min" = some none)
    (b_int : PySem.W.nsIn K mainGlobals "int" = some none)
    (b_str : PySem.W.nsIn K mainGlobals "str" = some none)
    (b_isinstance : PySem.W.nsIn K mainGlobals "isinstance" = some none)
    (b_all : PySem.W.nsIn K mainGlobals "all" = some none)
    (b_range : PySem.W.nsIn K mainGlobals "range" = some none)
    (b_list : PySem.W.nsIn K mainGlobals "list" = some none)
    (b_tuple : PySem.W.nsIn K mainGlobals "tuple" = some none)
    (b_sorted : PySem.W.nsIn K mainGlobals "sorted" = some none)
    (b_zip : PySem.W.nsIn K mainGlobals "zip" = some none)
    (b_repr : PySem.W.nsIn K mainGlobals "repr" = some none)
    (b_set : PySem.W.nsIn K mainGlobals "set" = some none)
    (g_LETTERS : PySem.W.nsIn K mainGlobals "LETTERS" = some (some (.str "abcdefghijklmnopqrstuvwxyz" k_LETTERS)))
    (g_BARRED : PySem.W.nsIn K mainGlobals "BARRED" = some (some (.ref k_BARRED)))
    (gl_BARRED : K.lookup k_BARRED = some ⟨.type "tuple", kc_BARRED, .seq #[.str "none" kt_BARRED_0, .str "any" kt_BARRED_1, .str "same" kt_BARRED_2, .str "keep" kt_BARRED_3, .str "drop" kt_BARRED_4, .str "good" kt_BARRED_5, .str "bad" kt_BARRED_6, .str "old" kt_BARRED_7, .str "new" kt_BARRED_8, .str "both" kt_BARRED_9] kn_BARRED, ks_BARRED⟩)
    (g_MOST_LETTERS : PySem.W.nsIn K mainGlobals "MOST_LETTERS" = some (some (.int 4 k_MOST_LETTERS)))
    (g_CALM : PySem.W.nsIn K mainGlobals "CALM" = some (some (.str "calm" k_CALM)))
    (sup_t : (PG.main.scope.names.lookup ("super" : Str)).isSome = false)
    (sup_m : PySem.W.nsIn K mainGlobals "super" = some none)
    (sup_o : PySem.W.nsIn K cStatics "thirdparty.any" = some none)
    (pg_Row : PySem.W.plainGet K C_Row Str.empty = true)
    (hd_Row : PySem.W.hasDictIn K C_Row = true)
    (po_Row : PySem.W.plainOver K C_Row = true)
    (sa_Row : PySem.W.findIn K (.ref C_Row) "__setattr__" = some (some (.builtin "object.__setattr__")))
    (mk_Row : PySem.W.makesIn K C_Row = true)
    (kc_Row : PySem.W.keepIn K (.ref C_Row) = true)
    (ha_Row : PySem.W.findIn K (.ref C_Row) "__class__" = some (some (.builtin "object.__class__")))
    (hm_Row : PySem.W.mroIn K C_Row (.type "object") = some true)
    (hn_ : PySem.W.specialIn K (.builtin "object.__class__") "__get__" = some (some (.builtin "getset_descriptor.__get__")))
    (htk_ : PySem.W.takesIn K (.builtin "object.__class__") = some true)
    (in_Row : PySem.W.findIn K (.ref C_Row) "__init__" = some (some (.ref f_Row_init)))
    (na_Row_text : PySem.W.findIn K (.ref C_Row) "text" = some none)
    (pg_Begin : PySem.W.plainGet K C_Begin Str.empty = true)
    (hd_Begin : PySem.W.hasDictIn K C_Begin = true)
    (po_Begin : PySem.W.plainOver K C_Begin = true)
    (sa_Begin : PySem.W.findIn K (.ref C_Begin) "__setattr__" = some (some (.builtin "object.__setattr__")))
    (mk_Begin : PySem.W.makesIn K C_Begin = true)
    (kc_Begin : PySem.W.keepIn K (.ref C_Begin) = true)
    (ha_Begin : PySem.W.findIn K (.ref C_Begin) "__class__" = some (some (.builtin "object.__class__")))
    (hm_Begin : PySem.W.mroIn K C_Begin (.type "object") = some true)
    (in_Begin : PySem.W.findIn K (.ref C_Begin) "__init__" = some (some (.ref f_Begin_init)))
    (na_Begin_text : PySem.W.findIn K (.ref C_Begin) "text" = some none)
    (na_Begin_mark : PySem.W.findIn K (.ref C_Begin) "mark" = some none)
    (na_Begin_kind : PySem.W.findIn K (.ref C_Begin) "kind" = some none)
    (na_Begin_mood : PySem.W.findIn K (.ref C_Begin) "mood" = some none)
    (st_Begin : PySem.W.findIn K (.ref C_Begin) "__str__" = some (some (.ref f_Row_str)))
    (sb_Begin : PySem.W.mroIn K C_Begin (.ref C_Begin) = some true)
    (ss_Begin : PySem.W.ks_superIn K C_Begin C_Begin "__init__" = some (some (.ref f_Row_init)))
    (sy_Begin : PySem.W.typeIn K (.ref f_Row_init) = some (.type "function"))
    (sf_Begin : PySem.W.fnIn K f_Row_init = true)
    (sc_Begin : PySem.W.clsIn K C_Begin = some cdd_CBegin)
    (pg_Send : PySem.W.plainGet K C_Send Str.empty = true)
    (hd_Send : PySem.W.hasDictIn K C_Send = true)
    (po_Send : PySem.W.plainOver K C_Send = true)
    (sa_Send : PySem.W.findIn K (.ref C_Send) "__setattr__" = some (some (.builtin "object.__setattr__")))
    (mk_Send : PySem.W.makesIn K C_Send = true)
    (kc_Send : PySem.W.keepIn K (.ref C_Send) = true)
    (ha_Send : PySem.W.findIn K (.ref C_Send) "__class__" = some (some (.builtin "object.__class__")))
    (hm_Send : PySem.W.mroIn K C_Send (.type "object") = some true)
    (in_Send : PySem.W.findIn K (.ref C_Send) "__init__" = some (some (.ref f_Send_init)))
    (na_Send_text : PySem.W.findIn K (.ref C_Send) "text" = some none)
    (na_Send_mark : PySem.W.findIn K (.ref C_Send) "mark" = some none)
    (na_Send_mood : PySem.W.findIn K (.ref C_Send) "mood" = some none)
    (na_Send_service : PySem.W.findIn K (.ref C_Send) "service" = some none)
    (st_Send : PySem.W.findIn K (.ref C_Send) "__str__" = some (some (.ref f_Row_str)))
    (sb_Send : PySem.W.mroIn K C_Send (.ref C_Send) = some true)
    (ss_Send : PySem.W.ks_superIn K C_Send C_Send "__init__" = some (some (.ref f_Row_init)))
    (sy_Send : PySem.W.typeIn K (.ref f_Row_init) = some (.type "function"))
    (sf_Send : PySem.W.fnIn K f_Row_init = true)
    (sc_Send : PySem.W.clsIn K C_Send = some cdd_CSend)
    (pg_Back : PySem.W.plainGet K C_Back Str.empty = true)
    (hd_Back : PySem.W.hasDictIn K C_Back = true)
    (po_Back : PySem.W.plainOver K C_Back = true)
    (sa_Back : PySem.W.findIn K (.ref C_Back) "__setattr__" = some (some (.builtin "object.__setattr__")))
    (mk_Back : PySem.W.makesIn K C_Back = true)
    (kc_Back : PySem.W.keepIn K (.ref C_Back) = true)
    (ha_Back : PySem.W.findIn K (.ref C_Back) "__class__" = some (some (.builtin "object.__class__")))
    (hm_Back : PySem.W.mroIn K C_Back (.type "object") = some true)
    (in_Back : PySem.W.findIn K (.ref C_Back) "__init__" = some (some (.ref f_Back_init)))
    (na_Back_text : PySem.W.findIn K (.ref C_Back) "text" = some none)
    (na_Back_mood : PySem.W.findIn K (.ref C_Back) "mood" = some none)
    (na_Back_service : PySem.W.findIn K (.ref C_Back) "service" = some none)
    (na_Back_sign : PySem.W.findIn K (.ref C_Back) "sign" = some none)
    (na_Back_then : PySem.W.findIn K (.ref C_Back) "then" = some none)
    (st_Back : PySem.W.findIn K (.ref C_Back) "__str__" = some (some (.ref f_Row_str)))
    (sb_Back : PySem.W.mroIn K C_Back (.ref C_Back) = some true)
    (ss_Back : PySem.W.ks_superIn K C_Back C_Back "__init__" = some (some (.ref f_Row_init)))
    (sy_Back : PySem.W.typeIn K (.ref f_Row_init) = some (.type "function"))
    (sf_Back : PySem.W.fnIn K f_Row_init = true)
    (sc_Back : PySem.W.clsIn K C_Back = some cdd_CBack)
    (pg_End : PySem.W.plainGet K C_End Str.empty = true)
    (hd_End : PySem.W.hasDictIn K C_End = true)
    (po_End : PySem.W.plainOver K C_End = true)
    (sa_End : PySem.W.findIn K (.ref C_End) "__setattr__" = some (some (.builtin "object.__setattr__")))
    (mk_End : PySem.W.makesIn K C_End = true)
    (kc_End : PySem.W.keepIn K (.ref C_End) = true)
    (ha_End : PySem.W.findIn K (.ref C_End) "__class__" = some (some (.builtin "object.__class__")))
    (hm_End : PySem.W.mroIn K C_End (.type "object") = some true)
    (in_End : PySem.W.findIn K (.ref C_End) "__init__" = some (some (.ref f_End_init)))
    (na_End_text : PySem.W.findIn K (.ref C_End) "text" = some none)
    (na_End_mood : PySem.W.findIn K (.ref C_End) "mood" = some none)
    (na_End_sign : PySem.W.findIn K (.ref C_End) "sign" = some none)
    (na_End_outcome : PySem.W.findIn K (.ref C_End) "outcome" = some none)
    (na_End_part : PySem.W.findIn K (.ref C_End) "part" = some none)
    (st_End : PySem.W.findIn K (.ref C_End) "__str__" = some (some (.ref f_Row_str)))
    (sb_End : PySem.W.mroIn K C_End (.ref C_End) = some true)
    (ss_End : PySem.W.ks_superIn K C_End C_End "__init__" = some (some (.ref f_Row_init)))
    (sy_End : PySem.W.typeIn K (.ref f_Row_init) = some (.type "function"))
    (sf_End : PySem.W.fnIn K f_Row_init = true)
    (sc_End : PySem.W.clsIn K C_End = some cdd_CEnd)
    (pg_Service : PySem.W.plainGet K C_Service Str.empty = true)
    (hd_Service : PySem.W.hasDictIn K C_Service = true)
    (po_Service : PySem.W.plainOver K C_Service = true)
    (sa_Service : PySem.W.findIn K (.ref C_Service) "__setattr__" = some (some (.builtin "object.__setattr__")))
    (mk_Service : PySem.W.makesIn K C_Service = true)
    (kc_Service : PySem.W.keepIn K (.ref C_Service) = true)
    (ha_Service : PySem.W.findIn K (.ref C_Service) "__class__" = some (some (.builtin "object.__class__")))
    (hm_Service : PySem.W.mroIn K C_Service (.type "object") = some true)
    (in_Service : PySem.W.findIn K (.ref C_Service) "__init__" = some (some (.ref f_Service_init)))
    (na_Service_text : PySem.W.findIn K (.ref C_Service) "text" = some none)
    (na_Service_name : PySem.W.findIn K (.ref C_Service) "name" = some none)
    (na_Service_kinds : PySem.W.findIn K (.ref C_Service) "kinds" = some none)
    (na_Service_waits : PySem.W.findIn K (.ref C_Service) "waits" = some none)
    (na_Service_leaves : PySem.W.findIn K (.ref C_Service) "leaves" = some none)
    (na_Service_rows : PySem.W.findIn K (.ref C_Service) "rows" = some none)
    (na_Service_told : PySem.W.findIn K (.ref C_Service) "told" = some none)
    (na_Service_moods : PySem.W.findIn K (.ref C_Service) "moods" = some none)
    (eq_Service : PySem.W.findIn K (.ref C_Service) "__eq__" = some (some (.ref f_Service_eq)))
    (ne_Service : PySem.W.findIn K (.ref C_Service) "__ne__" = some (some (.builtin "object.__ne__")))
    (st_Service : PySem.W.findIn K (.ref C_Service) "__str__" = some (some (.ref f_Service_str)))
    (kd_Row : PySem.W.clsIn K C_Row = some kdd_Row)
    (kt_Row : PySem.W.typeIn K (.ref C_Row) = some (.type "type"))
    (fk_Begin_Row : PySem.W.subIn K (.ref C_Begin) (.ref C_Row) = some true)
    (fk_Send_Row : PySem.W.subIn K (.ref C_Send) (.ref C_Row) = some true)
    (fk_Back_Row : PySem.W.subIn K (.ref C_Back) (.ref C_Row) = some true)
    (fk_End_Row : PySem.W.subIn K (.ref C_End) (.ref C_Row) = some true)
    (kd_Service : PySem.W.clsIn K C_Service = some kdd_Service)
    (kt_Service : PySem.W.typeIn K (.ref C_Service) = some (.type "type"))
    (fk_Service_Service : PySem.W.subIn K (.ref C_Service) (.ref C_Service) = some true)
    (fk_str_Service : PySem.W.subIn K (.type "str") (.ref C_Service) = some false)
    (fx_Service_Service : PySem.W.notFirst K C_Service (.ref C_Service) = true)
    (fx_Service_str : PySem.W.notFirst K C_Service (.type "str") = true)
    : ∃ A : Ad, Tx K mg A ∧ A.w = w ∧ (∀ f, A.okk f) := by
  have F_is_name := funD_mk (x := "is_name") (qual := "is_name") (st := s_is_name) l_is_name c_is_name k_is_name
  have F_is_word := funD_mk (x := "is_word") (qual := "is_word") (st := s_is_word) l_is_word c_is_word k_is_word
  have F_is_mark := funD_mk (x := "is_mark") (qual := "is_mark") (st := s_is_mark) l_is_mark c_is_mark k_is_mark
  have F_is_sign := funD_mk (x := "is_sign") (qual := "is_sign") (st := s_is_sign) l_is_sign c_is_sign k_is_sign
  have F_is_sequence := funD_mk (x := "is_sequence") (qual := "is_sequence") (st := s_is_sequence) l_is_sequence c_is_sequence k_is_sequence
  have F_are_names := funD_mk (x := "are_names") (qual := "are_names") (st := s_are_names) l_are_names c_are_names k_are_names
  have F_Row_init := funD_mk (x := "__init__") (qual := "Row.__init__") (st := s_Row_init) l_Row_init c_Row_init k_Row_init
  have F_Row_str := funD_mk (x := "__str__") (qual := "Row.__str__") (st := s_Row_str) l_Row_str c_Row_str k_Row_str
  have F_need := funD_mk (x := "need") (qual := "need") (st := s_need) l_need c_need k_need
  have bd_Begin_init : Binds K (PySem.W.ksFn "__init__" "Begin.__init__" (defArgs s_Begin_init) (defBody s_Begin_init) (defScope s_Begin_init) .none kV_Begin_init dc_Begin_init pm_Begin_init an_Begin_init (.ref ca_Begin_init) ct_Begin_init cc_Begin_init) ["self", "mark", "kind", "mood"] [] := .all fun us hl => match us, hl with | [_, _, _, _], _ => rfl
  have bd_Send_init : Binds K (PySem.W.ksFn "__init__" "Send.__init__" (defArgs s_Send_init) (defBody s_Send_init) (defScope s_Send_init) .none kV_Send_init dc_Send_init pm_Send_init an_Send_init (.ref ca_Send_init) ct_Send_init cc_Send_init) ["self", "mood", "service", "mark"] [] := .all fun us hl => match us, hl with | [_, _, _, _], _ => rfl
  have bd_Back_init : Binds K (PySem.W.ksFn "__init__" "Back.__init__" (defArgs s_Back_init) (defBody s_Back_init) (defScope s_Back_init) .none kV_Back_init dc_Back_init pm_Back_init an_Back_init (.ref ca_Back_init) ct_Back_init cc_Back_init) ["self", "mood", "service", "sign", "then"] [] := .all fun us hl => match us, hl with | [_, _, _, _, _], _ => rfl
  have bd_End_init : Binds K (PySem.W.ksFn "__init__" "End.__init__" (defArgs s_End_init) (defBody s_End_init) (defScope s_End_init) .none kV_End_init dc_End_init pm_End_init an_End_init (.ref ca_End_init) ct_End_init cc_End_init) ["self", "mood", "outcome", "sign", "part"] [] := .all fun us hl => match us, hl with | [_, _, _, _, _], _ => rfl
  have F_need_24 := funD_mk (x := "need") (qual := "need") (st := s_need_24) l_need_24 c_need_24 k_need_24
  have F_moods_of := funD_mk (x := "moods_of") (qual := "moods_of") (st := s_moods_of) l_moods_of c_moods_of k_moods_of
  have F_ascending := funD_mk (x := "ascending") (qual := "ascending") (st := s_ascending) l_ascending c_ascending k_ascending
  have F_Service_init := funD_mkD (x := "__init__") (qual := "Service.__init__") (st := s_Service_init) (dvs := [.ref e_Service_init_0, .ref e_Service_init_1, .ref e_Service_init_2]) (its := [.ref e_Service_init_0, .ref e_Service_init_1, .ref e_Service_init_2]) (by simp) l_Service_init c_Service_init k_Service_init lT_Service_init rfl (.cons rfl (.cons rfl (.cons rfl .nil)))
  have F_Service_str := funD_mk (x := "__str__") (qual := "Service.__str__") (st := s_Service_str) l_Service_str c_Service_str k_Service_str
  have F_Service_eq := funD_mk (x := "__eq__") (qual := "Service.__eq__") (st := s_Service_eq) l_Service_eq c_Service_eq k_Service_eq
  have F__law_box := funD_mk (x := "_law_box") (qual := "_law_box") (st := s__law_box) l__law_box c__law_box k__law_box
  have F__law_take := funD_mk (x := "_law_take") (qual := "_law_take") (st := s__law_take) l__law_take c__law_take k__law_take
  have F__law_pick := funD_mk (x := "_law_pick") (qual := "_law_pick") (st := s__law_pick) l__law_pick c__law_pick k__law_pick
  have F__law_mixed := funD_mk (x := "_law_mixed") (qual := "_law_mixed") (st := s__law_mixed) l__law_mixed c__law_mixed k__law_mixed
  have F__law_names := funD_mk (x := "_law_names") (qual := "_law_names") (st := s__law_names) l__law_names c__law_names k__law_names
  have F__law_row_text := funD_mk (x := "_law_row_text") (qual := "_law_row_text") (st := s__law_row_text) l__law_row_text c__law_row_text k__law_row_text
  have F__law_row := funD_mk (x := "_law_row") (qual := "_law_row") (st := s__law_row) l__law_row c__law_row k__law_row
  have F__law_words := funD_mk (x := "_law_words") (qual := "_law_words") (st := s__law_words) l__law_words c__law_words k__law_words
  have F__law_drawn_row := funD_mk (x := "_law_drawn_row") (qual := "_law_drawn_row") (st := s__law_drawn_row) l__law_drawn_row c__law_drawn_row k__law_drawn_row
  have F__law_service_of := funD_mk (x := "_law_service_of") (qual := "_law_service_of") (st := s__law_service_of) l__law_service_of c__law_service_of k__law_service_of
  have F__law_lines_of := funD_mk (x := "_law_lines_of") (qual := "_law_lines_of") (st := s__law_lines_of) l__law_lines_of c__law_lines_of k__law_lines_of
  have F__law_some := funD_mk (x := "_law_some") (qual := "_law_some") (st := s__law_some) l__law_some c__law_some k__law_some
  have F__law_any_service := funD_mk (x := "_law_any_service") (qual := "_law_any_service") (st := s__law_any_service) l__law_any_service c__law_any_service k__law_any_service
  have F__law_moods := funD_mk (x := "_law_moods") (qual := "_law_moods") (st := s__law_moods) l__law_moods c__law_moods k__law_moods
  have F__law_right := funD_mk (x := "_law_right") (qual := "_law_right") (st := s__law_right) l__law_right c__law_right k__law_right
  have F_law := funD_mk (x := "law") (qual := "law") (st := s_law) l_law c_law k_law
  exact ⟨{ w := w, okk := fun _ => True, okm := fun _ _ => True.intro, C_Row := C_Row, C_Begin := C_Begin, C_Send := C_Send, C_Back := C_Back, C_End := C_End, C_Service := C_Service, is_name := f_is_name, is_name_d := PySem.W.fnOf "is_name" "is_name" (defArgs s_is_name) (defBody s_is_name) (defScope s_is_name) .none kV_is_name dc_is_name pm_is_name an_is_name cd_is_name ct_is_name, is_word := f_is_word, is_word_d := PySem.W.fnOf "is_word" "is_word" (defArgs s_is_word) (defBody s_is_word) (defScope s_is_word) .none kV_is_word dc_is_word pm_is_word an_is_word cd_is_word ct_is_word, is_mark := f_is_mark, is_mark_d := PySem.W.fnOf "is_mark" "is_mark" (defArgs s_is_mark) (defBody s_is_mark) (defScope s_is_mark) .none kV_is_mark dc_is_mark pm_is_mark an_is_mark cd_is_mark ct_is_mark, is_sign := f_is_sign, is_sign_d := PySem.W.fnOf "is_sign" "is_sign" (defArgs s_is_sign) (defBody s_is_sign) (defScope s_is_sign) .none kV_is_sign dc_is_sign pm_is_sign an_is_sign cd_is_sign ct_is_sign, is_sequence := f_is_sequence, is_sequence_d := PySem.W.fnOf "is_sequence" "is_sequence" (defArgs s_is_sequence) (defBody s_is_sequence) (defScope s_is_sequence) .none kV_is_sequence dc_is_sequence pm_is_sequence an_is_sequence cd_is_sequence ct_is_sequence, are_names := f_are_names, are_names_d := PySem.W.fnOf "are_names" "are_names" (defArgs s_are_names) (defBody s_are_names) (defScope s_are_names) .none kV_are_names dc_are_names pm_are_names an_are_names cd_are_names ct_are_names, Row_init := f_Row_init, Row_init_d := PySem.W.fnOf "__init__" "Row.__init__" (defArgs s_Row_init) (defBody s_Row_init) (defScope s_Row_init) .none kV_Row_init dc_Row_init pm_Row_init an_Row_init cd_Row_init ct_Row_init, Row_str := f_Row_str, Row_str_d := PySem.W.fnOf "__str__" "Row.__str__" (defArgs s_Row_str) (defBody s_Row_str) (defScope s_Row_str) .none kV_Row_str dc_Row_str pm_Row_str an_Row_str cd_Row_str ct_Row_str, need := f_need, need_d := PySem.W.fnOf "need" "need" (defArgs s_need) (defBody s_need) (defScope s_need) .none kV_need dc_need pm_need an_need cd_need ct_need, Begin_init := f_Begin_init, Begin_init_d := PySem.W.ksFn "__init__" "Begin.__init__" (defArgs s_Begin_init) (defBody s_Begin_init) (defScope s_Begin_init) .none kV_Begin_init dc_Begin_init pm_Begin_init an_Begin_init (.ref ca_Begin_init) ct_Begin_init cc_Begin_init, Send_init := f_Send_init, Send_init_d := PySem.W.ksFn "__init__" "Send.__init__" (defArgs s_Send_init) (defBody s_Send_init) (defScope s_Send_init) .none kV_Send_init dc_Send_init pm_Send_init an_Send_init (.ref ca_Send_init) ct_Send_init cc_Send_init, Back_init := f_Back_init, Back_init_d := PySem.W.ksFn "__init__" "Back.__init__" (defArgs s_Back_init) (defBody s_Back_init) (defScope s_Back_init) .none kV_Back_init dc_Back_init pm_Back_init an_Back_init (.ref ca_Back_init) ct_Back_init cc_Back_init, End_init := f_End_init, End_init_d := PySem.W.ksFn "__init__" "End.__init__" (defArgs s_End_init) (defBody s_End_init) (defScope s_End_init) .none kV_End_init dc_End_init pm_End_init an_End_init (.ref ca_End_init) ct_End_init cc_End_init, need_24 := f_need_24, need_24_d := PySem.W.fnOf "need" "need" (defArgs s_need_24) (defBody s_need_24) (defScope s_need_24) .none kV_need_24 dc_need_24 pm_need_24 an_need_24 cd_need_24 ct_need_24, moods_of := f_moods_of, moods_of_d := PySem.W.fnOf "moods_of" "moods_of" (defArgs s_moods_of) (defBody s_moods_of) (defScope s_moods_of) .none kV_moods_of dc_moods_of pm_moods_of an_moods_of cd_moods_of ct_moods_of, ascending := f_ascending, ascending_d := PySem.W.fnOf "ascending" "ascending" (defArgs s_ascending) (defBody s_ascending) (defScope s_ascending) .none kV_ascending dc_ascending pm_ascending an_ascending cd_ascending ct_ascending, e_Service_init_0 := e_Service_init_0, e_Service_init_1 := e_Service_init_1, e_Service_init_2 := e_Service_init_2, Service_init := f_Service_init, Service_init_d := PySem.W.fnOf "__init__" "Service.__init__" (defArgs s_Service_init) (defBody s_Service_init) (defScope s_Service_init) (.ref T_Service_init) kV_Service_init dc_Service_init pm_Service_init an_Service_init cd_Service_init ct_Service_init, Service_str := f_Service_str, Service_str_d := PySem.W.fnOf "__str__" "Service.__str__" (defArgs s_Service_str) (defBody s_Service_str) (defScope s_Service_str) .none kV_Service_str dc_Service_str pm_Service_str an_Service_str cd_Service_str ct_Service_str, Service_eq := f_Service_eq, Service_eq_d := PySem.W.fnOf "__eq__" "Service.__eq__" (defArgs s_Service_eq) (defBody s_Service_eq) (defScope s_Service_eq) .none kV_Service_eq dc_Service_eq pm_Service_eq an_Service_eq cd_Service_eq ct_Service_eq, _law_box := f__law_box, _law_box_d := PySem.W.fnOf "_law_box" "_law_box" (defArgs s__law_box) (defBody s__law_box) (defScope s__law_box) .none kV__law_box dc__law_box pm__law_box an__law_box cd__law_box ct__law_box, _law_take := f__law_take, _law_take_d := PySem.W.fnOf "_law_take" "_law_take" (defArgs s__law_take) (defBody s__law_take) (defScope s__law_take) .none kV__law_take dc__law_take pm__law_take an__law_take cd__law_take ct__law_take, _law_pick := f__law_pick, _law_pick_d := PySem.W.fnOf "_law_pick" "_law_pick" (defArgs s__law_pick) (defBody s__law_pick) (defScope s__law_pick) .none kV__law_pick dc__law_pick pm__law_pick an__law_pick cd__law_pick ct__law_pick, _law_mixed := f__law_mixed, _law_mixed_d := PySem.W.fnOf "_law_mixed" "_law_mixed" (defArgs s__law_mixed) (defBody s__law_mixed) (defScope s__law_mixed) .none kV__law_mixed dc__law_mixed pm__law_mixed an__law_mixed cd__law_mixed ct__law_mixed, _law_names := f__law_names, _law_names_d := PySem.W.fnOf "_law_names" "_law_names" (defArgs s__law_names) (defBody s__law_names) (defScope s__law_names) .none kV__law_names dc__law_names pm__law_names an__law_names cd__law_names ct__law_names, _law_row_text := f__law_row_text, _law_row_text_d := PySem.W.fnOf "_law_row_text" "_law_row_text" (defArgs s__law_row_text) (defBody s__law_row_text) (defScope s__law_row_text) .none kV__law_row_text dc__law_row_text pm__law_row_text an__law_row_text cd__law_row_text ct__law_row_text, _law_row := f__law_row, _law_row_d := PySem.W.fnOf "_law_row" "_law_row" (defArgs s__law_row) (defBody s__law_row) (defScope s__law_row) .none kV__law_row dc__law_row pm__law_row an__law_row cd__law_row ct__law_row, _law_words := f__law_words, _law_words_d := PySem.W.fnOf "_law_words" "_law_words" (defArgs s__law_words) (defBody s__law_words) (defScope s__law_words) .none kV__law_words dc__law_words pm__law_words an__law_words cd__law_words ct__law_words, _law_drawn_row := f__law_drawn_row, _law_drawn_row_d := PySem.W.fnOf "_law_drawn_row" "_law_drawn_row" (defArgs s__law_drawn_row) (defBody s__law_drawn_row) (defScope s__law_drawn_row) .none kV__law_drawn_row dc__law_drawn_row pm__law_drawn_row an__law_drawn_row cd__law_drawn_row ct__law_drawn_row, _law_service_of := f__law_service_of, _law_service_of_d := PySem.W.fnOf "_law_service_of" "_law_service_of" (defArgs s__law_service_of) (defBody s__law_service_of) (defScope s__law_service_of) .none kV__law_service_of dc__law_service_of pm__law_service_of an__law_service_of cd__law_service_of ct__law_service_of, _law_lines_of := f__law_lines_of, _law_lines_of_d := PySem.W.fnOf "_law_lines_of" "_law_lines_of" (defArgs s__law_lines_of) (defBody s__law_lines_of) (defScope s__law_lines_of) .none kV__law_lines_of dc__law_lines_of pm__law_lines_of an__law_lines_of cd__law_lines_of ct__law_lines_of, _law_some := f__law_some, _law_some_d := PySem.W.fnOf "_law_some" "_law_some" (defArgs s__law_some) (defBody s__law_some) (defScope s__law_some) .none kV__law_some dc__law_some pm__law_some an__law_some cd__law_some ct__law_some, _law_any_service := f__law_any_service, _law_any_service_d := PySem.W.fnOf "_law_any_service" "_law_any_service" (defArgs s__law_any_service) (defBody s__law_any_service) (defScope s__law_any_service) .none kV__law_any_service dc__law_any_service pm__law_any_service an__law_any_service cd__law_any_service ct__law_any_service, _law_moods := f__law_moods, _law_moods_d := PySem.W.fnOf "_law_moods" "_law_moods" (defArgs s__law_moods) (defBody s__law_moods) (defScope s__law_moods) .none kV__law_moods dc__law_moods pm__law_moods an__law_moods cd__law_moods ct__law_moods, _law_right := f__law_right, _law_right_d := PySem.W.fnOf "_law_right" "_law_right" (defArgs s__law_right) (defBody s__law_right) (defScope s__law_right) .none kV__law_right dc__law_right pm__law_right an__law_right cd__law_right ct__law_right, law := f_law, law_d := PySem.W.fnOf "law" "law" (defArgs s_law) (defBody s_law) (defScope s_law) .none kV_law dc_law pm_law an_law cd_law ct_law, k_LETTERS := k_LETTERS, k_BARRED := k_BARRED, k_MOST_LETTERS := k_MOST_LETTERS, k_CALM := k_CALM }, { is_name := ⟨F_is_name, PySem.W.mg_of X G a_is_name⟩, is_word := ⟨F_is_word, PySem.W.mg_of X G a_is_word⟩, is_mark := ⟨F_is_mark, PySem.W.mg_of X G a_is_mark⟩, is_sign := ⟨F_is_sign, PySem.W.mg_of X G a_is_sign⟩, is_sequence := ⟨F_is_sequence, PySem.W.mg_of X G a_is_sequence⟩, are_names := ⟨F_are_names, PySem.W.mg_of X G a_are_names⟩, Row_init := ⟨F_Row_init, i_Row_init⟩, Row_str := ⟨F_Row_str, i_Row_str⟩, need := ⟨F_need, PySem.W.mg_of X G a_need⟩, Begin_init := ⟨⟨oc_Begin_init, od_Begin_init, kV_Begin_init, dc_Begin_init, pm_Begin_init, an_Begin_init, ca_Begin_init, ct_Begin_init, sl_Begin_init, cc_Begin_init, cl_Begin_init, cld_Begin_init, csl_Begin_init, cv_Begin_init, cdd_Begin_init, vs_Begin_init, ccs_Begin_init, file_Begin_init, tf_Begin_init, rfl, l_Begin_init, c_Begin_init, ce_Begin_init, co_Begin_init, cf_Begin_init, cft_Begin_init⟩, bd_Begin_init, i_Begin_init, k_Begin_init, fi_Begin_init⟩, Send_init := ⟨⟨oc_Send_init, od_Send_init, kV_Send_init, dc_Send_init, pm_Send_init, an_Send_init, ca_Send_init, ct_Send_init, sl_Send_init, cc_Send_init, cl_Send_init, cld_Send_init, csl_Send_init, cv_Send_init, cdd_Send_init, vs_Send_init, ccs_Send_init, file_Send_init, tf_Send_init, rfl, l_Send_init, c_Send_init, ce_Send_init, co_Send_init, cf_Send_init, cft_Send_init⟩, bd_Send_init, i_Send_init, k_Send_init, fi_Send_init⟩, Back_init := ⟨⟨oc_Back_init, od_Back_init, kV_Back_init, dc_Back_init, pm_Back_init, an_Back_init, ca_Back_init, ct_Back_init, sl_Back_init, cc_Back_init, cl_Back_init, cld_Back_init, csl_Back_init, cv_Back_init, cdd_Back_init, vs_Back_init, ccs_Back_init, file_Back_init, tf_Back_init, rfl, l_Back_init, c_Back_init, ce_Back_init, co_Back_init, cf_Back_init, cft_Back_init⟩, bd_Back_init, i_Back_init, k_Back_init, fi_Back_init⟩, End_init := ⟨⟨oc_End_init, od_End_init, kV_End_init, dc_End_init, pm_End_init, an_End_init, ca_End_init, ct_End_init, sl_End_init, cc_End_init, cl_End_init, cld_End_init, csl_End_init, cv_End_init, cdd_End_init, vs_End_init, ccs_End_init, file_End_init, tf_End_init, rfl, l_End_init, c_End_init, ce_End_init, co_End_init, cf_End_init, cft_End_init⟩, bd_End_init, i_End_init, k_End_init, fi_End_init⟩, need_24 := ⟨F_need_24, PySem.W.mg_of X G a_need_24⟩, moods_of := ⟨F_moods_of, PySem.W.mg_of X G a_moods_of⟩, ascending := ⟨F_ascending, PySem.W.mg_of X G a_ascending⟩, e_Service_init_0 := fun H => .inr ⟨_, _, _, le_Service_init_0, rfl, rfl, Nat.zero_le _, .nil⟩, e_Service_init_1 := fun H => .inr ⟨_, _, _, le_Service_init_1, rfl, rfl, Nat.zero_le _, .nil⟩, e_Service_init_2 := fun H => .inr ⟨_, _, _, le_Service_init_2, rfl, rfl, Nat.zero_le _, .nil⟩, Service_init := ⟨F_Service_init, i_Service_init⟩, Service_str := ⟨F_Service_str, i_Service_str⟩, Service_eq := ⟨F_Service_eq, i_Service_eq⟩, _law_box := ⟨F__law_box, PySem.W.mg_of X G a__law_box⟩, _law_take := ⟨F__law_take, PySem.W.mg_of X G a__law_take⟩, _law_pick := ⟨F__law_pick, PySem.W.mg_of X G a__law_pick⟩, _law_mixed := ⟨F__law_mixed, PySem.W.mg_of X G a__law_mixed⟩, _law_names := ⟨F__law_names, PySem.W.mg_of X G a__law_names⟩, _law_row_text := ⟨F__law_row_text, PySem.W.mg_of X G a__law_row_text⟩, _law_row := ⟨F__law_row, PySem.W.mg_of X G a__law_row⟩, _law_words := ⟨F__law_words, PySem.W.mg_of X G a__law_words⟩, _law_drawn_row := ⟨F__law_drawn_row, PySem.W.mg_of X G a__law_drawn_row⟩, _law_service_of := ⟨F__law_service_of, PySem.W.mg_of X G a__law_service_of⟩, _law_lines_of := ⟨F__law_lines_of, PySem.W.mg_of X G a__law_lines_of⟩, _law_some := ⟨F__law_some, PySem.W.mg_of X G a__law_some⟩, _law_any_service := ⟨F__law_any_service, PySem.W.mg_of X G a__law_any_service⟩, _law_moods := ⟨F__law_moods, PySem.W.mg_of X G a__law_moods⟩, _law_right := ⟨F__law_right, PySem.W.mg_of X G a__law_right⟩, law := ⟨F_law, PySem.W.mg_of X G a_law⟩, b_len := PySem.W.mg_none_of X G b_len, b_abs := PySem.W.mg_none_of X G b_abs, b_max := PySem.W.mg_none_of X G b_max, b_min := PySem.W.mg_none_of X G b_min, b_int := PySem.W.mg_none_of X G b_int, b_str := PySem.W.mg_none_of X G b_str, b_isinstance := PySem.W.mg_none_of X G b_isinstance, b_all := PySem.W.mg_none_of X G b_all, b_range := PySem.W.mg_none_of X G b_range, b_list := PySem.W.mg_none_of X G b_list, b_tuple := PySem.W.mg_none_of X G b_tuple, b_sorted := PySem.W.mg_none_of X G b_sorted, b_zip := PySem.W.mg_none_of X G b_zip, b_repr := PySem.W.mg_none_of X G b_repr, b_set := PySem.W.mg_none_of X G b_set, c_LETTERS := PySem.W.mg_of X G g_LETTERS, c_BARRED := PySem.W.mg_of X G g_BARRED, t_BARRED := fun H => .inr ⟨_, _, _, gl_BARRED, rfl, rfl, (show 10 ≤ sizeLine from by decide), (.cons ⟨_, rfl⟩ (.cons ⟨_, rfl⟩ (.cons ⟨_, rfl⟩ (.cons ⟨_, rfl⟩ (.cons ⟨_, rfl⟩ (.cons ⟨_, rfl⟩ (.cons ⟨_, rfl⟩ (.cons ⟨_, rfl⟩ (.cons ⟨_, rfl⟩ (.cons ⟨_, rfl⟩ .nil))))))))))⟩, c_MOST_LETTERS := PySem.W.mg_of X G g_MOST_LETTERS, c_CALM := PySem.W.mg_of X G g_CALM, sup := ⟨sup_t, PySem.W.mg_none_of X G sup_m, sup_o⟩, C_Row := ⟨PySem.W.mg_of X G aC_Row, ⟨⟨pg_Row, hd_Row, po_Row, sa_Row⟩, ha_Row, hn_, htk_, hm_Row⟩, ⟨mk_Row, in_Row, i_Row_init, kc_Row⟩⟩, na_Row_text := na_Row_text, C_Begin := ⟨PySem.W.mg_of X G aC_Begin, ⟨⟨pg_Begin, hd_Begin, po_Begin, sa_Begin⟩, ha_Begin, hn_, htk_, hm_Begin⟩, ⟨mk_Begin, in_Begin, i_Begin_init, kc_Begin⟩⟩, na_Begin_text := na_Begin_text, na_Begin_mark := na_Begin_mark, na_Begin_kind := na_Begin_kind, na_Begin_mood := na_Begin_mood, st_Begin := st_Begin, su_Begin := ⟨sb_Begin, ss_Begin, sy_Begin, sf_Begin⟩, cd_Begin := ⟨_, sc_Begin⟩, C_Send := ⟨PySem.W.mg_of X G aC_Send, ⟨⟨pg_Send, hd_Send, po_Send, sa_Send⟩, ha_Send, hn_, htk_, hm_Send⟩, ⟨mk_Send, in_Send, i_Send_init, kc_Send⟩⟩, na_Send_text := na_Send_text, na_Send_mark := na_Send_mark, na_Send_mood := na_Send_mood, na_Send_service := na_Send_service, st_Send := st_Send, su_Send := ⟨sb_Send, ss_Send, sy_Send, sf_Send⟩, cd_Send := ⟨_, sc_Send⟩, C_Back := ⟨PySem.W.mg_of X G aC_Back, ⟨⟨pg_Back, hd_Back, po_Back, sa_Back⟩, ha_Back, hn_, htk_, hm_Back⟩, ⟨mk_Back, in_Back, i_Back_init, kc_Back⟩⟩, na_Back_text := na_Back_text, na_Back_mood := na_Back_mood, na_Back_service := na_Back_service, na_Back_sign := na_Back_sign, na_Back_then := na_Back_then, st_Back := st_Back, su_Back := ⟨sb_Back, ss_Back, sy_Back, sf_Back⟩, cd_Back := ⟨_, sc_Back⟩, C_End := ⟨PySem.W.mg_of X G aC_End, ⟨⟨pg_End, hd_End, po_End, sa_End⟩, ha_End, hn_, htk_, hm_End⟩, ⟨mk_End, in_End, i_End_init, kc_End⟩⟩, na_End_text := na_End_text, na_End_mood := na_End_mood, na_End_sign := na_End_sign, na_End_outcome := na_End_outcome, na_End_part := na_End_part, st_End := st_End, su_End := ⟨sb_End, ss_End, sy_End, sf_End⟩, cd_End := ⟨_, sc_End⟩, C_Service := ⟨PySem.W.mg_of X G aC_Service, ⟨⟨pg_Service, hd_Service, po_Service, sa_Service⟩, ha_Service, hn_, htk_, hm_Service⟩, ⟨mk_Service, in_Service, i_Service_init, kc_Service⟩⟩, na_Service_text := na_Service_text, na_Service_name := na_Service_name, na_Service_kinds := na_Service_kinds, na_Service_waits := na_Service_waits, na_Service_leaves := na_Service_leaves, na_Service_rows := na_Service_rows, na_Service_told := na_Service_told, na_Service_moods := na_Service_moods, eq_Service := ⟨eq_Service, i_Service_eq, ne_Service, hm_Service⟩, st_Service := st_Service, ki_Begin_Row := kit_ownT kd_Row kt_Row fk_Begin_Row, ki_Send_Row := kit_ownT kd_Row kt_Row fk_Send_Row, ki_Back_Row := kit_ownT kd_Row kt_Row fk_Back_Row, ki_End_Row := kit_ownT kd_Row kt_Row fk_End_Row, ki_Service_Service := kit_ownT kd_Service kt_Service fk_Service_Service, ki_str_Service := kit_ownF kd_Service kt_Service fk_str_Service, nf_Service_Service := fx_Service_Service, nf_Service_str := fx_Service_str }, rfl, fun _ => True.intro⟩
theorem law_binds {K : PySem.W.Frag} {f : Addr} {fd : FuncData} (F : FunD K "law" "law" (defArgs s_law) (defBody s_law) (defScope s_law) [] [] f fd) (s : Shared) (u : Value) : BindsTo s fd ⟨[u], []⟩ [("_law_script", u)] := by
  obtain ⟨oc, od, dV, kV, doc, pm, an, cdv, ct, osl, rfl, lk, hcd, hD, hK⟩ := F.ex
  rcases hD with ⟨_, rfl⟩ | ⟨e, _⟩
  · exact .of_eq rfl
  · exact absurd rfl e
theorem walk {l : PySem.W.OpenLaw} {q : Program} {loose : List Str} {XP : (Str → Option Value) → Heap → Prop} {YP : World → Heap → Prop} {d : DefRec} {K : Params → PySem.W.Frag} (hp : l.prog = PG) (hn : l.most = some 63) (hdf : d.params.defaults = []) (hdn : d.name = "law")
    (hY : ∀ (w : World) (h : Heap), YP w h → (K w.params).In h) (F : ∀ (w : World) (mg : Str → Option Value) (h : Heap), (K w.params).In h → h.Ns mainGlobals mg → ∃ A : Ad, Tx (K w.params) mg A ∧ A.w = w ∧ (∀ f, A.okk f)) :
    PySem.W.WalkO q loose XP YP l.row.toRowW d [] (fun f vs => PySem.call f vs) := by
  refine S.lawSG (n := 63) (k := 8) (x := "_law_script") (F := f_law) (K := K) hp hn (by decide) hdf ⟨rfl, by decide, by decide⟩ hY (fun w mg fa h KX G hmg => ?_) law_true
  obtain ⟨A, T, ew, eo⟩ := F w mg h KX G; subst ew
  have e : fa = A.law := by
    have g := T.law.g
    rw [← hdn, hmg] at g
    cases g
    rfl
  subst e
  exact ⟨A.law_d, A.G, eo, law_binds T.law.F, fun base => ok_law T⟩
end K
open PySem PySem.W PyProof.Rows
set_option maxRecDepth 100000 in
set_option maxHeartbeats 0 in
theorem PySem.Challenge.cw_wholetraces_k09_services_made_holds : PySem.Challenge.rw_wholetraces_k09_services_made.Holds := by
  refine hd ?_
  k_fill
  refine K.walk (l := PySem.Challenge.rw_wholetraces_k09_services_made) rfl rfl rfl rfl (fun w h Y => PySem.W.kIn_of Y) ?F
  case F =>
    intro w mg h KX G
    refine' K.all_mk w KX G ?aC_Row ?aC_Begin ?aC_Send ?aC_Back ?aC_End ?aC_Service ?a_is_name ?l_is_name ?c_is_name ?k_is_name ?a_is_word ?l_is_word ?c_is_word ?k_is_word ?a_is_mark ?l_is_mark ?c_is_mark ?k_is_mark ?a_is_sign ?l_is_sign ?c_is_sign ?k_is_sign ?a_is_sequence ?l_is_sequence ?c_is_sequence ?k_is_sequence ?a_are_names ?l_are_names ?c_are_names ?k_are_names ?a_Row_init ?i_Row_init ?l_Row_init ?c_Row_init ?k_Row_init ?a_Row_str ?i_Row_str ?l_Row_str ?c_Row_str ?k_Row_str ?a_need ?l_need ?c_need ?k_need ?a_Begin_init ?i_Begin_init ?l_Begin_init ?c_Begin_init ?k_Begin_init ?fi_Begin_init ?ce_Begin_init ?co_Begin_init ?cf_Begin_init ?cft_Begin_init ?a_Send_init ?i_Send_init ?l_Send_init ?c_Send_init ?k_Send_init ?fi_Send_init ?ce_Send_init ?co_Send_init ?cf_Send_init ?cft_Send_init ?a_Back_init ?i_Back_init ?l_Back_init ?c_Back_init ?k_Back_init ?fi_Back_init ?ce_Back_init ?co_Back_init ?cf_Back_init ?cft_Back_init ?a_End_init ?i_End_init ?l_End_init ?c_End_init ?k_End_init ?fi_End_init ?ce_End_init ?co_End_init ?cf_End_init ?cft_End_init ?a_need_24 ?l_need_24 ?c_need_24 ?k_need_24 ?a_moods_of ?l_moods_of ?c_moods_of ?k_moods_of ?a_ascending ?l_ascending ?c_ascending ?k_ascending ?a_Service_init ?i_Service_init ?l_Service_init ?c_Service_init ?k_Service_init ?lT_Service_init ?le_Service_init_0 ?le_Service_init_1 ?le_Service_init_2 ?a_Service_str ?i_Service_str ?l_Service_str ?c_Service_str ?k_Service_str ?a_Service_eq ?i_Service_eq ?l_Service_eq ?c_Service_eq ?k_Service_eq ?a__law_box ?l__law_box ?c__law_box ?k__law_box ?a__law_take ?l__law_take ?c__law_take ?k__law_take ?a__law_pick ?l__law_pick ?c__law_pick ?k__law_pick ?a__law_mixed ?l__law_mixed ?c__law_mixed ?k__law_mixed ?a__law_names ?l__law_names ?c__law_names ?k__law_names ?a__law_row_text ?l__law_row_text ?c__law_row_text ?k__law_row_text ?a__law_row ?l__law_row ?c__law_row ?k__law_row ?a__law_words ?l__law_words ?c__law_words ?k__law_words ?a__law_drawn_row ?l__law_drawn_row ?c__law_drawn_row ?k__law_drawn_row ?a__law_service_of ?l__law_service_of ?c__law_service_of ?k__law_service_of ?a__law_lines_of ?l__law_lines_of ?c__law_lines_of ?k__law_lines_of ?a__law_some ?l__law_some ?c__law_some ?k__law_some ?a__law_any_service ?l__law_any_service ?c__law_any_service ?k__law_any_service ?a__law_moods ?l__law_moods ?c__law_moods ?k__law_moods ?a__law_right ?l__law_right ?c__law_right ?k__law_right ?a_law ?l_law ?c_law ?k_law ?b_len ?b_abs ?b_max ?b_min ?b_int ?b_str ?b_isinstance ?b_all ?b_range ?b_list ?b_tuple ?b_sorted ?b_zip ?b_repr ?b_set ?g_LETTERS ?g_BARRED ?gl_BARRED ?g_MOST_LETTERS ?g_CALM ?sup_t ?sup_m ?sup_o ?pg_Row ?hd_Row ?po_Row ?sa_Row ?mk_Row ?kc_Row ?ha_Row ?hm_Row ?hn_ ?htk_ ?in_Row ?na_Row_text ?pg_Begin ?hd_Begin ?po_Begin ?sa_Begin ?mk_Begin ?kc_Begin ?ha_Begin ?hm_Begin ?in_Begin ?na_Begin_text ?na_Begin_mark ?na_Begin_kind ?na_Begin_mood ?st_Begin ?sb_Begin ?ss_Begin ?sy_Begin ?sf_Begin ?sc_Begin ?pg_Send ?hd_Send ?po_Send ?sa_Send ?mk_Send ?kc_Send ?ha_Send ?hm_Send ?in_Send ?na_Send_text ?na_Send_mark ?na_Send_mood ?na_Send_service ?st_Send ?sb_Send ?ss_Send ?sy_Send ?sf_Send ?sc_Send ?pg_Back ?hd_Back ?po_Back ?sa_Back ?mk_Back ?kc_Back ?ha_Back ?hm_Back ?in_Back ?na_Back_text ?na_Back_mood ?na_Back_service ?na_Back_sign ?na_Back_then ?st_Back ?sb_Back ?ss_Back ?sy_Back ?sf_Back ?sc_Back ?pg_End ?hd_End ?po_End ?sa_End ?mk_End ?kc_End ?ha_End ?hm_End ?in_End ?na_End_text ?na_End_mood ?na_End_sign ?na_End_outcome ?na_End_part ?st_End ?sb_End ?ss_End ?sy_End ?sf_End ?sc_End ?pg_Service ?hd_Service ?po_Service ?sa_Service ?mk_Service ?kc_Service ?ha_Service ?hm_Service ?in_Service ?na_Service_text ?na_Service_name ?na_Service_kinds ?na_Service_waits ?na_Service_leaves ?na_Service_rows ?na_Service_told ?na_Service_moods ?eq_Service ?ne_Service ?st_Service ?kd_Row ?kt_Row ?fk_Begin_Row ?fk_Send_Row ?fk_Back_Row ?fk_End_Row ?kd_Service ?kt_Service ?fk_Service_Service ?fk_str_Service ?fx_Service_Service ?fx_Service_str
    (case aC_Row => k_is)
    (case aC_Begin => k_is)
    (case aC_Send => k_is)
    (case aC_Back => k_is)
    (case aC_End => k_is)
    (case aC_Service => k_is)
    (case a_is_name => k_is)
    (case l_is_name => k_is)
    (case c_is_name => k_is)
    (case k_is_name => k_is)
    (case a_is_word => k_is)
    (case l_is_word => k_is)
    (case c_is_word => k_is)
    (case k_is_word => k_is)
    (case a_is_mark => k_is)
    (case l_is_mark => k_is)
    (case c_is_mark => k_is)
    (case k_is_mark => k_is)
    (case a_is_sign => k_is)
    (case l_is_sign => k_is)
    (case c_is_sign => k_is)
    (case k_is_sign => k_is)
    (case a_is_sequence => k_is)
    (case l_is_sequence => k_is)
    (case c_is_sequence => k_is)
    (case k_is_sequence => k_is)
    (case a_are_names => k_is)
    (case l_are_names => k_is)
    (case c_are_names => k_is)
    (case k_are_names => k_is)
    (case a_Row_init => k_is)
    (case i_Row_init => k_is)
    (case l_Row_init => k_is)
    (case c_Row_init => k_is)
    (case k_Row_init => k_is)
    (case a_Row_str => k_is)
    (case i_Row_str => k_is)
    (case l_Row_str => k_is)
    (case c_Row_str => k_is)
    (case k_Row_str => k_is)
    (case a_need => k_is)
    (case l_need => k_is)
    (case c_need => k_is)
    (case k_need => k_is)
    (case a_Begin_init => k_is)
    (case i_Begin_init => k_is)
    (case l_Begin_init => k_is)
    (case c_Begin_init => k_is)
    (case k_Begin_init => k_is)
    (case fi_Begin_init => k_is)
    (case ce_Begin_init => k_is)
    (case co_Begin_init => k_is)
    (case cf_Begin_init => rfl)
    (case cft_Begin_init => first | rfl | decide +kernel)
    (case a_Send_init => k_is)
    (case i_Send_init => k_is)
    (case l_Send_init => k_is)
    (case c_Send_init => k_is)
    (case k_Send_init => k_is)
    (case fi_Send_init => k_is)
    (case ce_Send_init => k_is)
    (case co_Send_init => k_is)
    (case cf_Send_init => rfl)
    (case cft_Send_init => first | rfl | decide +kernel)
    (case a_Back_init => k_is)
    (case i_Back_init => k_is)
    (case l_Back_init => k_is)
    (case c_Back_init => k_is)
    (case k_Back_init => k_is)
    (case fi_Back_init => k_is)
    (case ce_Back_init => k_is)
    (case co_Back_init => k_is)
    (case cf_Back_init => rfl)
    (case cft_Back_init => first | rfl | decide +kernel)
    (case a_End_init => k_is)
    (case i_End_init => k_is)
    (case l_End_init => k_is)
    (case c_End_init => k_is)
    (case k_End_init => k_is)
    (case fi_End_init => k_is)
    (case ce_End_init => k_is)
    (case co_End_init => k_is)
    (case cf_End_init => rfl)
    (case cft_End_init => first | rfl | decide +kernel)
    (case a_need_24 => k_is)
    (case l_need_24 => k_is)
    (case c_need_24 => k_is)
    (case k_need_24 => k_is)
    (case a_moods_of => k_is)
    (case l_moods_of => k_is)
    (case c_moods_of => k_is)
    (case k_moods_of => k_is)
    (case a_ascending => k_is)
    (case l_ascending => k_is)
    (case c_ascending => k_is)
    (case k_ascending => k_is)
    (case a_Service_init => k_is)
    (case i_Service_init => k_is)
    (case l_Service_init => k_is)
    (case c_Service_init => k_is)
    (case k_Service_init => k_is)
    (case lT_Service_init => k_is)
    (case le_Service_init_0 => k_is)
    (case le_Service_init_1 => k_is)
    (case le_Service_init_2 => k_is)
    (case a_Service_str => k_is)
    (case i_Service_str => k_is)
    (case l_Service_str => k_is)
    (case c_Service_str => k_is)
    (case k_Service_str => k_is)
    (case a_Service_eq => k_is)
    (case i_Service_eq => k_is)
    (case l_Service_eq => k_is)
    (case c_Service_eq => k_is)
    (case k_Service_eq => k_is)
    (case a__law_box => k_is)
    (case l__law_box => k_is)
    (case c__law_box => k_is)
    (case k__law_box => k_is)
    (case a__law_take => k_is)
    (case l__law_take => k_is)
    (case c__law_take => k_is)
    (case k__law_take => k_is)
    (case a__law_pick => k_is)
    (case l__law_pick => k_is)
    (case c__law_pick => k_is)
    (case k__law_pick => k_is)
    (case a__law_mixed => k_is)
    (case l__law_mixed => k_is)
    (case c__law_mixed => k_is)
    (case k__law_mixed => k_is)
    (case a__law_names => k_is)
    (case l__law_names => k_is)
    (case c__law_names => k_is)
    (case k__law_names => k_is)
    (case a__law_row_text => k_is)
    (case l__law_row_text => k_is)
    (case c__law_row_text => k_is)
    (case k__law_row_text => k_is)
    (case a__law_row => k_is)
    (case l__law_row => k_is)
    (case c__law_row => k_is)
    (case k__law_row => k_is)
    (case a__law_words => k_is)
    (case l__law_words => k_is)
    (case c__law_words => k_is)
    (case k__law_words => k_is)
    (case a__law_drawn_row => k_is)
    (case l__law_drawn_row => k_is)
    (case c__law_drawn_row => k_is)
    (case k__law_drawn_row => k_is)
    (case a__law_service_of => k_is)
    (case l__law_service_of => k_is)
    (case c__law_service_of => k_is)
    (case k__law_service_of => k_is)
    (case a__law_lines_of => k_is)
    (case l__law_lines_of => k_is)
    (case c__law_lines_of => k_is)
    (case k__law_lines_of => k_is)
    (case a__law_some => k_is)
    (case l__law_some => k_is)
    (case c__law_some => k_is)
    (case k__law_some => k_is)
    (case a__law_any_service => k_is)
    (case l__law_any_service => k_is)
    (case c__law_any_service => k_is)
    (case k__law_any_service => k_is)
    (case a__law_moods => k_is)
    (case l__law_moods => k_is)
    (case c__law_moods => k_is)
    (case k__law_moods => k_is)
    (case a__law_right => k_is)
    (case l__law_right => k_is)
    (case c__law_right => k_is)
    (case k__law_right => k_is)
    (case a_law => k_is)
    (case l_law => k_is)
    (case c_law => k_is)
    (case k_law => k_is)
    (case b_len => k_is)
    (case b_abs => k_is)
    (case b_max => k_is)
    (case b_min => k_is)
    (case b_int => k_is)
    (case b_str => k_is)
    (case b_isinstance => k_is)
    (case b_all => k_is)
    (case b_range => k_is)
    (case b_list => k_is)
    (case b_tuple => k_is)
    (case b_sorted => k_is)
    (case b_zip => k_is)
    (case b_repr => k_is)
    (case b_set => k_is)
    (case g_LETTERS => k_is)
    (case g_BARRED => k_is)
    (case gl_BARRED => k_is)
    (case g_MOST_LETTERS => k_is)
    (case g_CALM => k_is)
    (case sup_t => decide +kernel)
    (case sup_m => k_is)
    (case sup_o => k_is)
    (case pg_Row => k_is)
    (case hd_Row => k_is)
    (case po_Row => k_is)
    (case sa_Row => k_is)
    (case mk_Row => k_is)
    (case kc_Row => k_is)
    (case ha_Row => k_is)
    (case hm_Row => k_is)
    (case hn_ => k_is)
    (case htk_ => k_is)
    (case in_Row => k_is)
    (case na_Row_text => k_is)
    (case pg_Begin => k_is)
    (case hd_Begin => k_is)
    (case po_Begin => k_is)
    (case sa_Begin => k_is)
    (case mk_Begin => k_is)
    (case kc_Begin => k_is)
    (case ha_Begin => k_is)
    (case hm_Begin => k_is)
    (case in_Begin => k_is)
    (case na_Begin_text => k_is)
    (case na_Begin_mark => k_is)
    (case na_Begin_kind => k_is)
    (case na_Begin_mood => k_is)
    (case st_Begin => k_is)
    (case sb_Begin => k_is)
    (case ss_Begin => first | k_is | ks_is)
    (case sy_Begin => k_is)
    (case sf_Begin => k_is)
    (case sc_Begin => k_is)
    (case pg_Send => k_is)
    (case hd_Send => k_is)
    (case po_Send => k_is)
    (case sa_Send => k_is)
    (case mk_Send => k_is)
    (case kc_Send => k_is)
    (case ha_Send => k_is)
    (case hm_Send => k_is)
    (case in_Send => k_is)
    (case na_Send_text => k_is)
    (case na_Send_mark => k_is)
    (case na_Send_mood => k_is)
    (case na_Send_service => k_is)
    (case st_Send => k_is)
    (case sb_Send => k_is)
    (case ss_Send => first | k_is | ks_is)
    (case sy_Send => k_is)
    (case sf_Send => k_is)
    (case sc_Send => k_is)
    (case pg_Back => k_is)
    (case hd_Back => k_is)
    (case po_Back => k_is)
    (case sa_Back => k_is)
    (case mk_Back => k_is)
    (case kc_Back => k_is)
    (case ha_Back => k_is)
    (case hm_Back => k_is)
    (case in_Back => k_is)
    (case na_Back_text => k_is)
    (case na_Back_mood => k_is)
    (case na_Back_service => k_is)
    (case na_Back_sign => k_is)
    (case na_Back_then => k_is)
    (case st_Back => k_is)
    (case sb_Back => k_is)
    (case ss_Back => first | k_is | ks_is)
    (case sy_Back => k_is)
    (case sf_Back => k_is)
    (case sc_Back => k_is)
    (case pg_End => k_is)
    (case hd_End => k_is)
    (case po_End => k_is)
    (case sa_End => k_is)
    (case mk_End => k_is)
    (case kc_End => k_is)
    (case ha_End => k_is)
    (case hm_End => k_is)
    (case in_End => k_is)
    (case na_End_text => k_is)
    (case na_End_mood => k_is)
    (case na_End_sign => k_is)
    (case na_End_outcome => k_is)
    (case na_End_part => k_is)
    (case st_End => k_is)
    (case sb_End => k_is)
    (case ss_End => first | k_is | ks_is)
    (case sy_End => k_is)
    (case sf_End => k_is)
    (case sc_End => k_is)
    (case pg_Service => k_is)
    (case hd_Service => k_is)
    (case po_Service => k_is)
    (case sa_Service => k_is)
    (case mk_Service => k_is)
    (case kc_Service => k_is)
    (case ha_Service => k_is)
    (case hm_Service => k_is)
    (case in_Service => k_is)
    (case na_Service_text => k_is)
    (case na_Service_name => k_is)
    (case na_Service_kinds => k_is)
    (case na_Service_waits => k_is)
    (case na_Service_leaves => k_is)
    (case na_Service_rows => k_is)
    (case na_Service_told => k_is)
    (case na_Service_moods => k_is)
    (case eq_Service => k_is)
    (case ne_Service => k_is)
    (case st_Service => k_is)
    (case kd_Row => k_is)
    (case kt_Row => k_is)
    (case fk_Begin_Row => k_is)
    (case fk_Send_Row => k_is)
    (case fk_Back_Row => k_is)
    (case fk_End_Row => k_is)
    (case kd_Service => k_is)
    (case kt_Service => k_is)
    (case fk_Service_Service => k_is)
    (case fk_str_Service => k_is)
    (case fx_Service_Service => k_is)
    (case fx_Service_str => k_is)
