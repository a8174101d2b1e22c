import PyProof.Rows.All
import Wide.All
import OpenK.AllK
import Wide.FinOn
import HandS.ForMost
import HandS.IsInst
import HandS.Walk
import HandS.FStr
import HandS.Star
import HandS.TupAny
import HandS.TupMul
import HandS.Style
import HandS.RaiseMore
import HandS.ClsMeth
import KE.KSuper
import HandS.More
import HandS.SlotsOwn
import KE.KCallOwn
import HandS.ForExc
import HandS.CallSlots
import HandS.Wide
import HandS.Conv
import HandS.MakeKwOnly
import HandS.MakeKw
import HandS.Defaults
import HandS.NoneIn
import HandS.DictComp
import KE.GoesZip
import KE.GoesMore
import HandS.Ends
import HandS.Dict
import PyProof.RulesMatch
import PyProof.Rows.MatchSeqLen
import KE.KUnpack
import HandS.CallLocal
import HandS.Exc
import PyProof.EqAt
import PyProof.NeKinds
import HandS.ExcSuper
import HandS.ExcInit
import HandS.WordsExc
import HandS.ExcIs
import HandS.ExcField
import KE.KExcIs
import KE.KExcSuper
import HandS.TryOnly
import KE.KEqNest
import HandS.Text
import PyProof.StrOps2
import PyProof.DictUpdate
import PyProof.FactsAll.dict_3
import PyProof.FactsAll.dict_4
import PyProof.InstSpecial
import KE.KExcHand
import PyProof.ListStr
import KE.GoesEnum
import HandS.EndBits
import PySem.Challenge.RW_wholetraces_k11_what_rows_tell
set_option Elab.async false
set_option linter.all false
set_option maxRecDepth 100000
set_option maxHeartbeats 4000000
namespace L2
open PySem PySem.Spec PyProof.Rows
/-! ### steps of a reading, by its head -/
section
variable {D : Ends} {σ : St} {H : Hp} {Q : VK} {QT : Bool → Hp → Prop} {QA : List V → Hp → Prop} {ta tb te tc : TE} {tA tr : TA} {t1 t2 : TS} {c u : TT} {v x y : V} {i : Nat} {r r' : R2} {b : Bool} {K : PySem.W.Frag}
theorem rd_seq (h : t1 { D with nx := t2 D } σ H) : tSeq t1 t2 D σ H := h
theorem rd_next (h : D.nx σ H) : tNext D σ H := h
theorem rd_brk (h : D.bk σ H) : tBreak D σ H := h
theorem rd_cont (h : D.ct σ H) : tCont D σ H := h
theorem rd_drop (h : te σ H fun _ H1 => D.nx σ H1) : tDrop te D σ H := h
theorem rd_ret (h : te σ H fun x H1 => D.rt x H1) : tRet te D σ H := h
theorem rd_retN (h : D.rt .non H) : tRetN D σ H := h
theorem rd_ifs (h : c σ H fun b H1 => if b = true then t1 D σ H1 else t2 D σ H1) : tIfS c t1 t2 D σ H := h
theorem rd_asg {g : TG} (h : te σ H fun x H1 => g x σ H1 D.nx) : tAsg te g D σ H := h
theorem rd_gname {P : St → Hp → Prop} (h : P (σ.set i (some v)) H) : gName i v σ H P := h
theorem rd_gsub {to ti : TE} {t : TSet} {P : St → Hp → Prop} (h : to σ H fun o H1 => ti σ H1 fun i H2 => t o i v H2 fun H3 => P σ H3) : gSub to ti t v σ H P := h
theorem rd_gtup {n : Nat} {tg : TGs} {a : Addr} {xs : List V} {P : St → Hp → Prop} (hs : SqT K H a xs) (hl : xs.length = n) (h : tg xs σ H P) : gTup K n tg (.ref a) σ H P := ⟨a, xs, rfl, hs, hl, h⟩
theorem rd_gcons {t : TG} {us : TGs} {w : V} {ws : List V} {P : St → Hp → Prop} (h : t w σ H fun σ' H' => us ws σ' H' P) : gCons t us (w :: ws) σ H P := ⟨w, ws, rfl, h⟩
theorem rd_gnil {P : St → Hp → Prop} (h : P σ H) : gNil [] σ H P := ⟨rfl, h⟩
theorem rd_par {j : Nat} (h : tA σ H fun vs H1 => ∃ v w, vs = [v, w] ∧ D.nx ((σ.set i (some v)).set j (some w)) H1) : tPar i j tA D σ H := h
theorem rd_par3 {j l : Nat} (h : tA σ H fun vs H1 => ∃ u v w, vs = [u, v, w] ∧ D.nx (((σ.set i (some u)).set j (some v)).set l (some w)) H1) : tPar3 i j l tA D σ H := h
theorem rd_vs2 {w : V} {P : V → V → Prop} (h : P v w) : ∃ a b, [v, w] = [a, b] ∧ P a b := ⟨v, w, rfl, h⟩
theorem rd_vs3 {w z : V} {P : V → V → V → Prop} (h : P v w z) : ∃ a b c, [v, w, z] = [a, b, c] ∧ P a b c := ⟨v, w, z, rfl, h⟩
theorem rd_aug {ti : TIp} (hx : σ[i]? = some (some x)) (h : te σ H fun y H1 => ti x y H1 fun z H2 => D.nx (σ.set i (some z)) H2) : tAug i te ti D σ H := ⟨x, hx, h⟩
theorem rd_var (hx : σ[i]? = some (some v)) (h : Q v H) : tVar i σ H Q := ⟨v, hx, h⟩
theorem rd_c (h : Q v H) : tC v σ H Q := h
theorem rd_op (h : ta σ H fun x H1 => tb σ H1 fun y H2 => r x y H2 Q) : tOp r ta tb σ H Q := h
theorem rd_un {ru : V → Hp → VK → Prop} (h : ta σ H fun x H1 => ru x H1 Q) : tUn ru ta σ H Q := h
theorem rd_test (h : te σ H fun x H' => ∃ k, x = .bl k ∧ QT k H') : tTest te σ H QT := h
theorem rd_b (h : te σ H fun x H' => ∃ k, x = .bl k ∧ QT k H') : tB te σ H QT := h
theorem rd_bl {P : Bool → Prop} (h : P b) : ∃ k, V.bl b = V.bl k ∧ P k := ⟨b, rfl, h⟩
theorem rd_and (h : c σ H fun k H1 => if k = true then u σ H1 QT else QT false H1) : tAnd c u σ H QT := h
theorem rd_or (h : c σ H fun k H1 => if k = true then QT true H1 else u σ H1 QT) : tOr c u σ H QT := h
theorem rd_not (h : c σ H fun k H1 => QT (!k) H1) : tNot c σ H QT := h
theorem rd_andV (h : ta σ H fun x H1 => ∃ k, x = .bl k ∧ if k = true then tb σ H1 Q else Q (.bl false) H1) : tAndV ta tb σ H Q := h
theorem rd_orV (h : ta σ H fun x H1 => ∃ k, x = .bl k ∧ if k = true then Q (.bl true) H1 else tb σ H1 Q) : tOrV ta tb σ H Q := h
theorem rd_notV (h : ta σ H fun x H1 => ∃ k, x = .bl k ∧ Q (.bl (!k)) H1) : tNotV ta σ H Q := h
theorem rd_ifE (h : c σ H fun k H1 => if k = true then ta σ H1 Q else tb σ H1 Q) : tIf c ta tb σ H Q := h
theorem rd_chain (h : ta σ H fun x H1 => tb σ H1 fun y H2 => r x y H2 fun z H3 => ∃ k, z = .bl k ∧ (if k = true then tc σ H3 fun w' H4 => r' y w' H4 Q else Q (.bl false) H3)) : tChain r r' ta tb tc σ H Q := h
theorem rd_nil (h : QA [] H) : tNil σ H QA := h
theorem rd_cons (h : te σ H fun x H1 => tr σ H1 fun xs H2 => QA (x :: xs) H2) : tCons te tr σ H QA := h
theorem rd_yes (h : QT true H) : tYes σ H QT := h
theorem rd_cb {rc : List V → Hp → VK → Prop} (h : tA σ H fun vs H1 => rc vs H1 Q) : tCB rc tA σ H Q := h
theorem rd_call {sp : Sp} {dvs : List V} {E : XK} (h : tA σ H fun vs H1 => sp (vs ++ dvs) H1 Q E) : tCall sp dvs E tA σ H Q := h
theorem rd_tup (h : tA σ H fun xs H1 => xs.length ≤ sizeLine ∧ ∀ p, H1 p = none → Q (.ref p) (upd H1 p (.tup xs))) : tTup tA σ H Q := h
theorem rd_lst (h : tA σ H fun xs H1 => xs.length ≤ sizeLine ∧ ∀ p, H1 p = none → Q (.ref p) (upd H1 p (.lst xs))) : tLst tA σ H Q := h
theorem Same.new {p : Addr} {o : HO} (h : H p = none) : Same H (upd H p o) := fun a u e => by
  rw [upd_ne (ne_of_none e h)]
  exact e
/-- a new thing: the heap has grown by it -/
theorem rd_new {o : HO} {P : Addr → Hp → Prop} (h : ∀ p H2, H p = none → Same H H2 → H2 p = some o → P p H2) : ∀ p, H p = none → P p (upd H p o) := fun p hp => h p _ hp (Same.new hp) upd_same
theorem rd_newz {o : HO} {n : Nat} {P : Addr → Hp → Prop} (hz : n ≤ sizeLine) (h : ∀ p H2, H p = none → Same H H2 → H2 p = some o → P p H2) : n ≤ sizeLine ∧ ∀ p, H p = none → P p (upd H p o) := ⟨hz, rd_new h⟩
theorem new_of {p : Addr} {o : HO} {H1 : Hp} (h : upd H p o = H1) (n : H p = none) : Same H H1 ∧ H1 p = some o := by
  subst h
  exact ⟨Same.new n, upd_same⟩
/-! operators -/
theorem rd_I0 {g : Int → Int → V} {m n : Int} (h : Q (g m n) H) : rI0 g (.int m) (.int n) H Q := ⟨m, n, rfl, rfl, h⟩
theorem rd_I {C : Int → Int → Prop} {g : Int → Int → V} {m n : Int} (hc : C m n) (h : Q (g m n) H) : rI C g (.int m) (.int n) H Q := ⟨m, n, rfl, rfl, hc, h⟩
theorem rd_U {g : Int → V} {m : Int} (h : Q (g m) H) : rU g (.int m) H Q := ⟨m, rfl, h⟩
theorem rd_eq (hs : scal x y = true) (h : Q (.bl (decide (x = y))) H) : rEq x y H Q := ⟨hs, h⟩
theorem rd_ne (hs : scal x y = true) (h : Q (.bl (!decide (x = y))) H) : rNe x y H Q := ⟨hs, h⟩
theorem rd_ixL {p : Addr} {xs : List V} {m : Int} (hs : SqL K H p xs) (ha : atI xs m = some v) (h : Q v H) : rIxL K (.ref p) (.int m) H Q := ⟨p, xs, m, v, rfl, rfl, hs, ha, h⟩
theorem rd_ixT {p : Addr} {xs : List V} {m : Int} (hs : SqT K H p xs) (ha : atI xs m = some v) (h : Q v H) : rIxT K (.ref p) (.int m) H Q := ⟨p, xs, m, v, rfl, rfl, hs, ha, h⟩
theorem rd_ixS {z : Str} {m : Int} {k : Nat} (hz : z.length ≤ sizeLine) (ha : atI z.cps.toList m = some k) (h : Q (.str ⟨#[k]⟩) H) : rIxS (.str z) (.int m) H Q := ⟨z, m, k, rfl, rfl, hz, ha, h⟩
theorem rd_inT {neg : Bool} {p : Addr} {xs : List V} (hs : SqT K H p xs) (hx : flatV x = true) (ha : xs.all flatV = true) (h : Q (.bl (if neg then !inV x xs else inV x xs)) H) : rIn K neg x (.ref p) H Q := ⟨p, xs, rfl, .inr hs, hx, ha, h⟩
theorem rd_inL {neg : Bool} {p : Addr} {xs : List V} (hs : SqL K H p xs) (hx : flatV x = true) (ha : xs.all flatV = true) (h : Q (.bl (if neg then !inV x xs else inV x xs)) H) : rIn K neg x (.ref p) H Q := ⟨p, xs, rfl, .inl hs, hx, ha, h⟩
theorem rd_setL {p : Addr} {xs : List V} {m : Int} {j : Nat} {P : Hp → Prop} (hs : H p = some (.lst xs)) (hj : ixN xs.length m = some j) (h : P (upd H p (.lst (xs.set j v)))) : rSetL (.ref p) (.int m) v H P := ⟨p, xs, m, j, rfl, rfl, hs, hj, h⟩
theorem rd_eqD {d e : PyData} (hd : Dp K H x d) (he : Dp K H y e) (h1 : SeqAt.shaped d = true) (h2 : SeqAt.shaped e = true) (h : Q (.bl (PyData.eqv d e)) H) : rEqD K x y H Q := ⟨d, e, hd, he, h1, h2, h⟩
theorem rd_neD {d e : PyData} (hd : Dp K H x d) (he : Dp K H y e) (h1 : SeqAt.shaped d = true) (h2 : SeqAt.shaped e = true) (h : Q (.bl (!PyData.eqv d e)) H) : rNeD K x y H Q := ⟨d, e, hd, he, h1, h2, h⟩
theorem rd_int1 {m : Int} {P : Int → Prop} {P2 : Bool → Prop} (h : P m) : (∃ i, [V.int m] = [V.int i] ∧ P i) ∨ ∃ k, [V.int m] = [V.bl k] ∧ P2 k := .inl ⟨m, rfl, h⟩
theorem rd_x1 {α : Type} {f : α → V} {m : α} {P : α → Prop} (h : P m) : ∃ i, [f m] = [f i] ∧ P i := ⟨m, rfl, h⟩
theorem rd_isi {t w : Value} {cl : V} (hc : ClsV cl w) (ht : TyX K H x t) (hk : PySem.W.kitOne K t w = some b) (h : Q (.bl b) H) : rIsi K [x, cl] H Q := ⟨x, cl, t, w, b, rfl, hc, ht, hk, h⟩
theorem rd_all {p : Addr} {bs : List Bool} (hs : SqL K H p (bs.map V.bl)) (h : Q (.bl (bs.all id)) H) : rAll K [.ref p] H Q := ⟨p, bs, rfl, hs, h⟩
theorem rd_any {p : Addr} {bs : List Bool} (hs : SqL K H p (bs.map V.bl)) (h : Q (.bl (bs.any id)) H) : rAny K [.ref p] H Q := ⟨p, bs, rfl, hs, h⟩
theorem rd_lenL {a : Addr} {xs : List V} {P : List V → Prop} (hs : SqL K H a xs) (h : P xs) : ∃ p ys, [V.ref a] = [V.ref p] ∧ (SqL K H p ys ∨ SqT K H p ys) ∧ P ys := ⟨a, xs, rfl, .inl hs, h⟩
theorem rd_lenT {a : Addr} {xs : List V} {P : List V → Prop} (hs : SqT K H a xs) (h : P xs) : ∃ p ys, [V.ref a] = [V.ref p] ∧ (SqL K H p ys ∨ SqT K H p ys) ∧ P ys := ⟨a, xs, rfl, .inr hs, h⟩
theorem rd_lenS {z : Str} {P : Str → Prop} (hz : z.length ≤ sizeLine) (h : P z) : ∃ y, [V.str z] = [V.str y] ∧ y.length ≤ sizeLine ∧ P y := ⟨z, rfl, hz, h⟩
/-! fields, methods -/
theorem rd_fld {a C dx : Addr} {fs : List (Str × V)} {f : Str} (h : ta σ H fun x H1 => ∃ a C dx fs v, x = .ref a ∧ H1 a = some (.ins C dx fs) ∧ Cls K C ∧ NoAttr K C f ∧ fs.lookup f = some v ∧ Q v H1) : tFld K ta f σ H Q := h
theorem rd_fldv {a C dx : Addr} {fs : List (Str × V)} {f : Str} (ho : H a = some (.ins C dx fs)) (hc : Cls K C) (hn : NoAttr K C f) (hl : fs.lookup f = some v) (h : Q v H) : ∃ a' C dx fs v, V.ref a = .ref a' ∧ H a' = some (.ins C dx fs) ∧ Cls K C ∧ NoAttr K C f ∧ fs.lookup f = some v ∧ Q v H := ⟨a, C, dx, fs, v, rfl, ho, hc, hn, hl, h⟩
theorem rd_bm {T : String} {rm : V → List V → Hp → VK → Prop} (h : ta σ H fun x H1 => tyV K T x H1 ∧ tA σ H1 fun xs H2 => rm x xs H2 Q) : tBM K T rm ta tA σ H Q := h
theorem rd_bm0 {T : String} {rm : V → List V → Hp → VK → Prop} (h : ta σ H fun x H1 => tyV K T x H1 ∧ rm x [] H1 Q) : tBM0 K T rm ta σ H Q := h
theorem rd_tyL {a : Addr} {xs : List V} {P : Prop} (hs : SqL K H a xs) (h : P) : tyV K "list" (.ref a) H ∧ P := ⟨.inl ⟨rfl, _, hs⟩, h⟩
theorem rd_append {l : Addr} {xs : List V} (hl : H l = some (.lst xs)) (hz : xs.length < sizeLine) (h : Q .non (upd H l (.lst (xs ++ [y])))) : rAppend (.ref l) [y] H Q := ⟨l, xs, y, rfl, rfl, hl, hz, h⟩
theorem rd_fmt (h : te σ H fun x H1 => (∃ y : Str, x = .str y ∧ y.length ≤ sizeLine ∧ Q (.str y) H1) ∨ ∃ i : Int, x = .int i ∧ i.natAbs.log2 < 1920 ∧ Q (.str (toString i)) H1) : tFmt te σ H Q := h
theorem rd_fmts {z : Str} {P : Str → Prop} {P2 : Int → Prop} (hz : z.length ≤ sizeLine) (h : P z) : (∃ y : Str, V.str z = .str y ∧ y.length ≤ sizeLine ∧ P y) ∨ ∃ i : Int, V.str z = .int i ∧ P2 i := .inl ⟨z, rfl, hz, h⟩
theorem rd_js {ts : List TE} {acc : Str} {P : Str → Hp → Prop} (h : te σ H fun x H1 => ∃ y : Str, x = .str y ∧ (acc ++ y).length ≤ sizeLine ∧ tJs ts (acc ++ y) σ H1 P) : tJs (te :: ts) acc σ H P := h
theorem rd_jsv {z acc : Str} {P : Str → Prop} (hz : (acc ++ z).length ≤ sizeLine) (h : P z) : ∃ y : Str, V.str z = .str y ∧ (acc ++ y).length ≤ sizeLine ∧ P y := ⟨z, rfl, hz, h⟩
theorem rd_jsn {acc : Str} {P : Str → Hp → Prop} (h : P acc H) : tJs [] acc σ H P := h
end
/-! ### heaps -/
section
variable {H H1 H2 : Hp} {a p : Addr} {o : HO} {K : PySem.W.Frag} {xs : List V}
theorem exget (e : Same H H1) (h : H a = some o) : H1 a = some o := e a o h
theorem Same.sqt (e : Same H H1) (h : SqT K H a xs) : SqT K H1 a xs := by
  rcases h with (h | ⟨o, h⟩) | h
  · exact .inl (.inl (e _ _ h))
  · exact .inl (.inr ⟨o, e _ _ h⟩)
  · exact .inr h
theorem Same.mut {o u : HO} (h : H p = none) (e : Same H H1) : Same H (upd H1 p u) := fun b w q => by
  rw [upd_ne (ne_of_none q h)]
  exact e b w q
theorem Same.fresh (e : Same H H1) (h : H1 p = none) : H p = none := e.free h
/-- what never changes once it stands: all but lists of ints -/
def fz : HO → Bool
  | .lst xs => !(xs.all fun v => match v with | .int _ => true | _ => false) || xs.isEmpty
  | .tup _ => true
  | .ins _ _ _ => true
  | .dK _ => true
  | .frz _ _ => true
  | _ => false
def Kp (H H' : Hp) : Prop := ∀ a o, H a = some o → fz o = true → H' a = some o
theorem Kp.refl (H : Hp) : Kp H H := fun _ _ h _ => h
theorem Kp.trans (a : Kp H H1) (b : Kp H1 H2) : Kp H H2 := fun c o h z => b c o (a c o h z) z
theorem Same.kp (e : Same H H1) : Kp H H1 := fun a o h _ => e a o h
theorem Kp.same (a : Kp H H1) (b : Same H1 H2) : Kp H H2 := a.trans b.kp
theorem Same.thenKp (a : Same H H1) (b : Kp H1 H2) : Kp H H2 := a.kp.trans b
theorem kpget (e : Kp H H1) (h : H a = some o) (z : fz o = true) : H1 a = some o := e a o h z
/-- the script, or a list that stands in the written part -/
def SqF (K : PySem.W.Frag) (H : Hp) (a : Addr) (xs : List V) : Prop := (∃ o, H a = some (.frz o (.lst xs))) ∨ ∃ (o : Obj) (its : Array Value) (n : Nat), K.lookup a = some o ∧ o.cls = .type "list" ∧ o.dict = none ∧ o.data = .seq its n ∧ its.size ≤ sizeLine ∧ Vals xs its.toList
theorem SqF.l (h : SqF K H a xs) : SqL K H a xs := by
  rcases h with ⟨o, h⟩ | h
  · exact .inl (.inr ⟨o, h⟩)
  · exact .inr h
theorem SqF.kp (e : Kp H H1) (h : SqF K H a xs) : SqF K H1 a xs := by
  rcases h with ⟨o, h⟩ | h
  · exact .inl ⟨o, e _ _ h rfl⟩
  · exact .inr h
theorem SqF.of (ho : ∀ b, H b = none ∨ ∃ o xs, H b = some (.frz o (.lst xs))) (h : SqL K H a xs) : SqF K H a xs := by
  rcases h with (h | ⟨o, h⟩) | h
  · rcases ho a with z | ⟨o, ys, z⟩
    · rw [h] at z; cases z
    · rw [h] at z; cases z
  · exact .inl ⟨o, h⟩
  · exact .inr h
end
theorem inV_strs (z : Str) (l : List Str) : inV (.str z) (l.map V.str) = l.contains z := by
  induction l with
  | nil => rfl
  | cons a l ih =>
    show (eqV (.str a) (.str z) || inV (.str z) (l.map V.str)) = _
    rw [ih, List.contains_cons]
    show ((a == z) || _) = _
    rw [show (a == z) = (z == a) from by rw [Bool.eq_iff_iff, beq_iff_eq, beq_iff_eq]; exact eq_comm]
theorem flat_strs (l : List Str) : (l.map V.str).all flatV = true := by
  rw [List.all_map]
  exact List.all_eq_true.mpr fun _ _ => rfl
section
variable {K : PySem.W.Frag} {H : Hp} {Q : VK} {p : Addr} {z : Str} {ws : List Str}
theorem rd_inTs (hs : SqT K H p (ws.map V.str)) (h : Q (.bl (ws.contains z)) H) : rIn K false (.str z) (.ref p) H Q := ⟨p, _, rfl, .inr hs, rfl, flat_strs ws, by rw [if_neg Bool.false_ne_true, inV_strs]; exact h⟩
theorem rd_niTs (hs : SqT K H p (ws.map V.str)) (h : Q (.bl (!ws.contains z)) H) : rIn K true (.str z) (.ref p) H Q := ⟨p, _, rfl, .inr hs, rfl, flat_strs ws, by rw [if_pos rfl, inV_strs]; exact h⟩
theorem rd_inLs (hs : SqL K H p (ws.map V.str)) (h : Q (.bl (ws.contains z)) H) : rIn K false (.str z) (.ref p) H Q := ⟨p, _, rfl, .inl hs, rfl, flat_strs ws, by rw [if_neg Bool.false_ne_true, inV_strs]; exact h⟩
theorem rd_niLs (hs : SqL K H p (ws.map V.str)) (h : Q (.bl (!ws.contains z)) H) : rIn K true (.str z) (.ref p) H Q := ⟨p, _, rfl, .inl hs, rfl, flat_strs ws, by rw [if_pos rfl, inV_strs]; exact h⟩
end
theorem iteNT {A B : Prop} (h : B) : if (!true) = true then A else B := iteF h
theorem iteNF {A B : Prop} (h : A) : if (!false) = true then A else B := iteT h
section
variable {K : PySem.W.Frag} {H H1 : Hp} {σ : St} {Q : VK} {D : Ends} {ta tv : TE} {f : Str} {a C dx : Addr} {fs : List (Str × V)} {v y : V}
theorem rd_fld1 (h : ta σ H fun x H1 => ∃ a C dx fs v, x = .ref a ∧ H1 a = some (.ins C dx fs) ∧ Cls K C ∧ NoAttr K C f ∧ fs.lookup f = some v ∧ Q v H1) : tFld K ta f σ H Q := h
theorem rd_fld2 {P : V → Prop} (ho : H a = some (.ins C dx fs)) (hc : Cls K C) (hn : NoAttr K C f) (hl : fs.lookup f = some v) (h : P v) : ∃ a' C dx fs v, V.ref a = .ref a' ∧ H a' = some (.ins C dx fs) ∧ Cls K C ∧ NoAttr K C f ∧ fs.lookup f = some v ∧ P v := ⟨a, C, dx, fs, v, rfl, ho, hc, hn, hl, h⟩
theorem rd_sfld (h : tv σ H fun y H1 => ta σ H1 fun x H2 => ∃ a C dx fs, x = .ref a ∧ H2 a = some (.ins C dx fs) ∧ Cls K C ∧ NoAttr K C f ∧ fs.length < 1000 ∧ D.nx σ (upd H2 a (.ins C dx (putF f y fs)))) : sFld K ta tv f D σ H := h
theorem rd_sfld2 {P : Addr → Addr → Addr → List (Str × V) → Prop} (ho : H a = some (.ins C dx fs)) (hc : Cls K C) (hn : NoAttr K C f) (hl : fs.length < 1000) (h : P a C dx fs) : ∃ a' C dx fs, V.ref a = .ref a' ∧ H a' = some (.ins C dx fs) ∧ Cls K C ∧ NoAttr K C f ∧ fs.length < 1000 ∧ P a' C dx fs := ⟨a, C, dx, fs, rfl, ho, hc, hn, hl, h⟩
theorem TyX.same {t : Value} (e : Same H H1) (h : TyX K H v t) : TyX K H1 v t := by
  cases h with
  | base b =>
    cases b with
    | non => exact .base .non
    | bl x => exact .base (.bl x)
    | int i => exact .base (.int i)
    | str x => exact .base (.str x)
    | flt x => exact .base (.flt x)
    | lst q => exact .base (.lst (e _ _ q))
    | frz q => exact .base (.frz (e _ _ q))
    | tup q => exact .base (.tup (e _ _ q))
    | dK q => exact .base (.dK (e _ _ q))
    | dT q => exact .base (.dT (e _ _ q))
    | ins q cl ha hn htk hm => exact .base (.ins (e _ _ q) cl ha hn htk hm)
  | byt b => exact .byt b
  | set q => exact .set (e _ _ q)
  | kList q c => exact .kList q c
  | kTuple q c => exact .kTuple q c
  | kDict q c => exact .kDict q c
  | fTuple q => exact .fTuple (e _ _ q)
  | fDict q => exact .fDict (e _ _ q)
end
theorem sz1000 {n : Nat} (h : n ≤ 1000) : n ≤ sizeLine := Nat.le_trans h (by decide)
theorem s_len (a b : Str) : (a ++ b).length = a.length + b.length := by
  rw [TL.len_tl, TL.len_tl, TL.len_tl, TL.tl_append, List.length_append]
theorem L_empty : Str.empty.length = 0 := rfl
theorem L_sp : (" " : Str).length = 1 := by decide +kernel
theorem L_begin : ("begin " : Str).length = 6 := by decide +kernel
theorem L_send : ("send " : Str).length = 5 := by decide +kernel
theorem L_back : ("back " : Str).length = 5 := by decide +kernel
theorem L_end : ("end " : Str).length = 4 := by decide +kernel
theorem put_le (f : Str) (v : V) : ∀ fs : List (Str × V), (putF f v fs).length ≤ fs.length + 1
  | [] => Nat.le_refl _
  | (g, x) :: r => by
    unfold putF
    split
    · exact Nat.le_succ _
    · exact Nat.succ_le_succ (put_le f v r)
theorem put_lt {n : Nat} {f : Str} {v : V} {fs : List (Str × V)} (h : fs.length < n) : (putF f v fs).length < n + 1 := Nat.lt_of_le_of_lt (put_le f v fs) (Nat.succ_lt_succ h)
/-! ### comprehensions -/
theorem take_snoc {α : Type} {l : List α} {i : Nat} {x : α} (h : l[i]? = some x) : l.take (i + 1) = l.take i ++ [x] := by
  rw [List.take_add_one, h]
  rfl
/-- [test of c for c in text] -/
theorem lc_strB {z : Str} {j : Nat} {ta te : TE} {vs : List Nat} {σ : St} {H : Hp} {Q : VK} (f : Nat → Bool) (hz : z.length ≤ 1000) (hta : ∀ R : VK, R (.str z) H → ta σ H R) (hw : ∀ x, wipe ((wipe σ vs).set j (some x)) vs = wipe σ vs)
    (ht : ∀ (c : Nat) (H' : Hp) (P : VK), P (.bl (f c)) H' → te ((wipe σ vs).set j (some (.str ⟨#[c]⟩))) H' P)
    (k : ∀ p H', H p = none → Same H H' → H' p = some (.lst ((z.cps.toList.map f).map V.bl)) → Q (.ref p) H') : tLc (iStr ta) (gName j) tYes te vs σ H Q := by
  refine hta _ ?_
  refine ⟨z, rfl, fun D hD => ?_⟩
  refine lc_it (walk_str (z := z)) (fun i H' => Same H H' ∧ H' D = some (.lst (((z.cps.toList.take i).map f).map V.bl))) ⟨Same.new hD, upd_same⟩ (fun _ _ _ _ => True.intro) (fun i x H1 H2 hi ⟨e1, e2⟩ ⟨e3, c, hc, e4⟩ => ?_) (fun H1 ⟨e1, e2⟩ => ?_)
  · subst e3 e4
    refine ⟨hw _, ?_⟩
    refine rd_yes (iteT ?_)
    refine ht c H2 _ ?_
    have hc' : z.cps.toList[i]? = some c := by rw [Array.getElem?_toList]; exact hc
    refine ⟨_, e2, ?_, Same.mut (o := .lst []) hD e1, ?_⟩
    · rw [List.length_map, List.length_map, List.length_take]
      have : z.cps.toList.length = z.length := by rw [Array.length_toList]; rfl
      have h2 : (1000 : Nat) < sizeLine := by decide
      omega
    · rw [upd_same, take_snoc hc', List.map_append, List.map_append]
      rfl
  · have e : z.cps.toList.take z.cps.size = z.cps.toList := by rw [← Array.length_toList]; exact List.take_length
    rw [e] at e2
    exact k D H1 hD e1 e2
theorem rd_inS {c : Nat} {z : Str} {P : Nat → Str → Prop} (h : P c z) : ∃ c' z', V.str ⟨#[c]⟩ = V.str ⟨#[c']⟩ ∧ V.str z = V.str z' ∧ P c' z' := ⟨c, z, rfl, rfl, h⟩
end L2
namespace L2
open PySem PySem.Spec PyProof.Rows
/-- names of a method that says super(): the parameters first, all local; __class__ alone is free -/
structure FnScopeS (N P : List Str) (sc : Scope) : Prop where
  kind : sc.kind = .function
  co : sc.isCoroutine = false
  gen : sc.isGenerator = false
  nd : N.Nodup
  pre : N.take P.length = P
  par : ∀ x ∈ P, sc.names.lookup x = some .local
  nocell : ∀ y ∈ sc.names, y.2 ≠ .cell
  free : ∀ y ∈ sc.names, y.2 = .free → y.1 = "__class__"
  sup : sc.names.lookup ("super" : Str) = some .globalImplicit
  cls : sc.names.lookup ("__class__" : Str) = some .free
def cxS (CX : CXT) (P : Program) (w : World) (K : PySem.W.Frag) (mg : Str → Option Value) (base : Heap) (N : List Str) (qual : Str) (scope : Scope) (f : Addr) (cd : Value) (cc : Addr) (A : Around) (outer : List Env) (s : Shared) (H : Hp) (E : XK) : Cx where
  prog := P
  w := w
  K := K
  mg := mg
  base := base
  A := A.deeper (PySem.W.ksEnv qual scope s.heap.objs.size f cd cc)
  N := N
  s_0 := s
  H_0 := H
  env := PySem.W.ksEnv qual scope s.heap.objs.size f cd cc
  outer := outer
  stack := PySem.W.ksEnv qual scope s.heap.objs.size f cd cc :: outer
  ex := []
  calm := true
  fn := fun _ => false
  pn := []
  xe := fun e s' => wpAny (model P w) (A.deeper (PySem.W.ksEnv qual scope s.heap.objs.size f cd cc)) (leaving (PySem.W.ksEnv qual scope s.heap.objs.size f cd cc) e) (fun _ s'' => CX outer H s E e s'') (fun e' s'' => CX outer H s E e' s'') s'
theorem zip_lookup {P : List Str} {us : List Value} {i : Nat} {x : Str} {u : Value} (nd : P.Nodup) (h1 : P[i]? = some x) (h2 : us[i]? = some u) : (P.zip us).reverse.lookup x = some u := by
  have nd2 : ((P.zip us).reverse.map (·.1)).Nodup := by
    rw [List.map_reverse]
    show List.Pairwise (· ≠ ·) _
    rw [List.pairwise_reverse]
    refine List.Pairwise.imp (R := (· ≠ ·)) (fun h => h.symm) ?_
    show List.Nodup _
    have e : (P.zip us).map (·.1) = P.take us.length := by
      clear nd h1 h2
      induction P generalizing us with
      | nil => simp
      | cons a P ih =>
        cases us with
        | nil => simp
        | cons b us => simp [ih]
    rw [e]
    exact nd.sublist (List.take_sublist _ _)
  have mem : (x, u) ∈ (P.zip us).reverse := by
    rw [List.mem_reverse]
    have z : (P.zip us)[i]? = some (x, u) := by
      rw [List.getElem?_zip_eq_some]
      exact ⟨h1, h2⟩
    exact List.mem_of_getElem? z
  generalize (P.zip us).reverse = l at nd2 mem
  induction l with
  | nil => cases mem
  | cons p l ih =>
    obtain ⟨y, v⟩ := p
    rw [List.map_cons, List.nodup_cons] at nd2
    rcases List.mem_cons.mp mem with e | e
    · cases e
      simp [List.lookup]
    · have ne : x ≠ y := fun z => nd2.1 (by rw [← z]; exact List.mem_map_of_mem (f := (·.1)) e)
      have q : (x == y) = false := by simpa using ne
      simp only [List.lookup, q]
      exact ih nd2.2 e
/-- what a slot of the start holds is an argument -/
theorem start_arg {N : List Str} {vs : List V} {i : Nat} {v : V} (h : (start N vs)[i]? = some (some v)) : vs[i]? = some v := by
  unfold start at h
  rcases Nat.lt_or_ge i (vs.map some).length with q | q
  · have z := (List.getElem?_append_left q).symm.trans h
    simpa using z
  · have z := (List.getElem?_append_right q).symm.trans h
    simp [List.getElem?_replicate] at z
theorem start_len {N ps : List Str} {vs : List V} (h : N.take ps.length = ps) (hl : vs.length = ps.length) : (start N vs).length = N.length := by
  have q : (N.take ps.length).length = ps.length := by rw [h]
  simp only [List.length_take] at q
  simp [start, hl]
  omega
theorem start_name {N ps : List Str} {vs : List V} {i : Nat} {y : Str} {v : V} (h : N.take ps.length = ps) (hl : vs.length = ps.length) (hv : vs[i]? = some v) (hy : N[i]? = some y) : ps[i]? = some y := by
  have q : i < ps.length := by rw [← hl]; exact (List.getElem?_eq_some_iff.mp hv).1
  have z := List.getElem?_take_of_lt (l := N) q
  rw [h, hy] at z
  exact z
theorem inv_startS {CX : CXT} {P : Program} {w : World} {K : PySem.W.Frag} {mg : Str → Option Value} {base : Heap} {N ps : List Str} {qual : Str} {scope : Scope} {f : Addr} {cd : Value} {cc : Addr} {A : Around} {outer : List Env} {s : Shared} {H : Hp} {E : XK} {us : List Value} {vs : List V} {h1 : Heap} {tk : Nat}
    {cl : Value} {cld : Option Addr} {csl : Array (Option Value)} {cv : Option Value}
    (S : FnScopeS N ps scope) (hd : A.handled = none) (e0 : Env0 P w K mg base A outer s H) (hl : vs.length = ps.length) (r : Vals vs us) (hcc : K.lookup cc = some ⟨cl, cld, .cell cv, csl⟩)
    (hns : h1.Ns s.heap.objs.size (fun x => (ps.zip us).reverse.lookup x)) (hk : ∀ b o, s.heap.get? b = some o → h1.get? b = some o) :
    Inv (cxS CX P w K mg base N qual scope f cd cc A outer s H E) [] (start N vs) H { s with heap := h1, toks := tk } := by
  have noA : ∀ b : Addr, b ∉ (cxS CX P w K mg base N qual scope f cd cc A outer s H E).ex := fun b z => absurd (show b ∈ ([] : List Addr) from z) (by simp)
  have cel : ∀ y c, (cxS CX P w K mg base N qual scope f cd cc A outer s H E).env.cells.lookup y = some c → y = "__class__" ∧ c = cc := fun y c h => by
    have h' : ([(("__class__" : Str), cc)] : List (Str × Addr)).lookup y = some c := h
    by_cases z : y = "__class__"
    · subst z
      have q : ([(("__class__" : Str), cc)] : List (Str × Addr)).lookup ("__class__" : Str) = some cc := by simp [List.lookup]
      rw [q] at h'
      exact ⟨rfl, (Option.some.inj h').symm⟩
    · have q : (y == ("__class__" : Str)) = false := by simpa using z
      simp [List.lookup, q] at h'
  have kcc : base.get? cc = some ⟨cl, cld, .cell cv, csl⟩ := e0.mod.kin _ _ hcc
  refine ⟨⟨e0.mod, S.kind, rfl, rfl, Nat.le_refl _, fun y z c h1 h2 => ?_, fun y hy => ?_, fun y c h _ => ?_, fun _ => hd, Around.frames_deeper e0.frames, .inr ⟨rfl, rfl⟩, fun b z => absurd z (noA b), e0.bs, e0.bsz, fun b _ _ => noA b, fun b z => absurd z (noA b), e0.funs, e0.frf⟩,
    rfl, e0.bare, Un.kept hk, ⟨_, hns, fun i y v h1 h2 h3 => ?_⟩, fun y c h => ?_, e0.hok.fresh (Nat.le_refl _), fun y c h => ?_, fun p hp => absurd (show p ∈ ([] : List (Addr × Obj)) from hp) (by simp), e0.hok.kept hk, ?_⟩
  · rw [(cel y c h1).1, (cel z c h2).1]
  · rcases (show scope.names.lookup y = some .cell ∨ scope.names.lookup y = some .free from hy) with q | q
    · exact (S.nocell _ (PySem.mem_of_lookup q) rfl).elim
    · have e := S.free _ (PySem.mem_of_lookup q) rfl
      have e' : y = "__class__" := e
      subst e'
      exact ⟨cc, by show ([(("__class__" : Str), cc)] : List (Str × Addr)).lookup ("__class__" : Str) = some cc; simp [List.lookup]⟩
  · exact Bool.noConfusion h
  · have ha := start_arg h2
    have hp := start_name S.pre hl ha h1
    obtain ⟨u, hu, rv⟩ := Vals.get r ha
    exact ⟨u, rv, .inl ⟨S.par y (List.mem_of_getElem? hp), zip_lookup (S.pre ▸ S.nd.sublist (List.take_sublist _ N)) hp hu⟩⟩
  · obtain ⟨_, e2⟩ := cel y c h
    subst e2
    exact ⟨cv, _, hk _ _ (e0.bs _ _ kcc).1, rfl⟩
  · obtain ⟨_, e2⟩ := cel y c h
    subst e2
    exact (e0.bs _ _ kcc).2
  · exact start_len S.pre hl
/-! ### blocks at a known activation -/
structure PSA (X : Cx) (c : Code) (st : Stmt) (t : TS) : Prop where
  run : ∀ (pins : List (Addr × Obj)) (s : Shared) (σ : St) (H : Hp) (D : Ends), Inv X pins σ H s → t D σ H → _root_.PySem.wpAt (model X.prog X.w) X.A c (exec st X.env) (SP X pins D) X.xe s
structure PSsA (X : Cx) (c : Code) (st : List Stmt) (t : TS) : Prop where
  run : ∀ (pins : List (Addr × Obj)) (s : Shared) (σ : St) (H : Hp) (D : Ends), Inv X pins σ H s → t D σ H → _root_.PySem.wpAt (model X.prog X.w) X.A c (execs st X.env) (SP X pins D) X.xe s
section
variable {X : Cx} {c : Code} {st : Stmt} {rest : List Stmt} {t u : TS}
theorem psa_of (h : PS X st t) : PSA X c st t := ⟨fun pins s σ H D I q => wpAt_of_wpAny (h.run pins s σ H D I q)⟩
theorem pssa_of (h : PSs X rest t) : PSsA X c rest t := ⟨fun pins s σ H D I q => wpAt_of_wpAny (h.run pins s σ H D I q)⟩
theorem pssa_cons (h1 : PSA X c st t) (h2 : PSsA X c rest u) : PSsA X c (st :: rest) (tSeq t u) := by
  refine ⟨fun pins s σ H D I h => ?_⟩
  refine ks_wpAt_execs_cons (ks_wpAt_mono (h1.run pins s σ H { D with nx := u D } I h) (fun f s1 q => ?_) fun _ _ z => z)
  cases f with
  | next =>
    obtain ⟨σ', H', I', q⟩ := q
    exact h2.run pins s1 σ' H' D I' q
  | ret v => exact q
  | brk => exact q
  | cont => exact q
/-- a statement, a word between, the rest -/
def tMid (t u : TS) : TS := fun D σ H => ∃ Mid : St → Hp → Prop, t { D with nx := Mid } σ H ∧ ∀ σ' H', Mid σ' H' → u D σ' H'
theorem pss_cut (h1 : PS X st t) (h2 : PSs X rest u) : PSs X (st :: rest) (tMid t u) := by
  refine ⟨fun pins s σ H D I ⟨Mid, h, k⟩ => ?_⟩
  refine wpAny_execs_cons (thn (h1.run pins s σ H { D with nx := Mid } I h) fun f s1 q => ?_)
  cases f with
  | next => exact let ⟨σ', H', I', q⟩ := q; h2.run pins s1 σ' H' D I' (k σ' H' q)
  | ret v => exact q
  | brk => exact q
  | cont => exact q
theorem pssa_cut (h1 : PSA X c st t) (h2 : PSsA X c rest u) : PSsA X c (st :: rest) (tMid t u) := by
  refine ⟨fun pins s σ H D I ⟨Mid, h, k⟩ => ?_⟩
  refine ks_wpAt_execs_cons (ks_wpAt_mono (h1.run pins s σ H { D with nx := Mid } I h) (fun f s1 q => ?_) fun _ _ z => z)
  cases f with
  | next => exact let ⟨σ', H', I', q⟩ := q; h2.run pins s1 σ' H' D I' (k σ' H' q)
  | ret v => exact q
  | brk => exact q
  | cont => exact q
theorem rd_cut {D : Ends} {σ : St} {H : Hp} (Mid : St → Hp → Prop) (h : t { D with nx := Mid } σ H) (k : ∀ σ' H', Mid σ' H' → u D σ' H') : tMid t u D σ H := ⟨Mid, h, k⟩
theorem pssa_one (h1 : PSA X c st t) : PSsA X c [st] t := by
  refine ⟨fun pins s σ H D I h => ?_⟩
  refine ks_wpAt_execs_cons (ks_wpAt_mono (h1.run pins s σ H D I h) (fun f s1 q => ?_) fun _ _ z => z)
  cases f with
  | next => exact wpAt_of_wpAny (wpAny_execs_nil q)
  | ret v => exact q
  | brk => exact q
  | cont => exact q
end
/-- THE RULE for a method that says super() -/
theorem fnS_of {CX : CXT} {P : Program} {w : World} {K : PySem.W.Frag} {mg : Str → Option Value} {base : Heap} {k : Nat} {f : Addr} {name qual : Str} {params : Arguments} {body : List Stmt} {scope : Scope} {dV kV doc pm cdv ct oc : Value} {an od : Option Addr} {cc : Addr}
    {osl : Array (Option Value)} {N ps : List Str} {sp : Sp} {cl : Value} {cld : Option Addr} {csl : Array (Option Value)} {cv : Option Value} (hcc : K.lookup cc = some ⟨cl, cld, .cell cv, csl⟩)
    (lk : K.lookup f = some ⟨oc, od, .func (PySem.W.ksFn name qual params body scope dV kV doc pm an cdv ct cc), osl⟩) (hcd : PySem.W.codeIn K cdv qual = true) (S : FnScopeS N ps scope)
    (len : ∀ vs H Q E, sp vs H Q E → vs.length = ps.length)
    (hbody : ∀ (A : Around) (outer : List Env) (s : Shared) (H : Hp) (vs : List V) (Q : VK) (E : XK), Room k (A.deeper (PySem.W.ksEnv qual scope s.heap.objs.size f cdv cc)) → sp vs H Q E →
      ∃ t, PSsA (cxS CX P w K mg base N qual scope f cdv cc A outer s H E) (.func body (PySem.W.ksEnv qual scope s.heap.objs.size f cdv cc)) body t ∧ t { nx := fun _ H' => Q .non H', rt := Q } (start N vs) H) :
    FnOk P w K mg base CX (k + 1) f (PySem.W.ksFn name qual params body scope dV kV doc pm an cdv ct cc) ps sp := by
  refine ⟨len, fun A outer s H args us vs Q E hr e0 hb rel want => ?_⟩
  have keep := fun (b : Addr) (o : Obj) (e : base.get? b = some o) => (e0.bs b o e).1
  have KX : K.In s.heap := e0.mod.kin.keeps keep
  have lim : s.heap.NoLimit := e0.mod.nolimit.keeps keep
  have hloc : ∀ y ∈ ps.zip us, scope.names.lookup y.1 = some .local := fun ⟨n, v⟩ hy => S.par n (List.of_mem_zip hy).1
  obtain ⟨t, ht, hq⟩ := hbody A outer s H vs Q E (Room.deeper hr _) want
  refine ks_codeAny_call_defAt (fd := PySem.W.ksFn name qual params body scope dV kV doc pm an cdv ct cc) (body := body) (binds := ps.zip us) hr.depth (KX _ _ lk) rfl lim (PySem.W.codeRec_of KX hcd) rfl hb S.nocell hloc (fun h₁ hns hk₁ => ?_) S.co S.gen S.kind
  have I : Inv (cxS CX P w K mg base N qual scope f cdv cc A outer s H E) [] (start N vs) H { s with heap := h₁, toks := s.toks + (ps.zip us).length } := inv_startS S hr.hd e0 (len _ _ _ _ want) rel hcc hns hk₁
  refine ks_wpAt_mono (ht.run [] _ (start N vs) H _ I hq) (fun fl s' hs => ?_) fun e s' hs => hs
  cases fl with
  | ret u => exact let ⟨v, _, H1, J, rv, q⟩ := hs; ⟨v, H1, J.os, J.bare, J.base, J.hok, rv, q⟩
  | next => exact let ⟨_, H1, J, q⟩ := hs; ⟨.non, H1, J.os, J.bare, J.base, J.hok, rfl, q⟩
  | brk =>
    obtain ⟨_, _, _, q⟩ := hs
    exact False.elim q
  | cont =>
    obtain ⟨_, _, _, q⟩ := hs
    exact False.elim q
/-! ### super().m(e, ..) -/
/-- what is known of the running body -/
structure SupX (X : Cx) (D : Addr) (y : Str) : Prop where
  sup : X.env.scope.names.lookup ("super" : Str) = some .globalImplicit
  cls : X.env.scope.names.lookup ("__class__" : Str) = some .free
  kind : X.env.scope.kind = .function
  fn : ∃ (f : Addr) (oc : Value) (od : Option Addr) (fd : FuncData) (osl : Array (Option Value)) (ar : Arg), X.env.func = some f ∧ X.K.lookup f = some ⟨oc, od, .func fd, osl⟩ ∧ (fd.params.posonlyargs ++ fd.params.args).head? = some ar ∧ ar.arg = y
  code : ∃ (cda : Addr) (ccl : Value) (cdd : Option Addr) (vs : Array Value) (ccs : Array (Option Value)) (file : Str) (tf : Tok), X.env.code = .ref cda ∧ X.K.lookup cda = some ⟨ccl, cdd, .fields vs, ccs⟩ ∧ vs[2]? = some (.str file tf) ∧ ((X.prog.main.file : Str) == file) = true
  top : (X.prog.main.scope.names.lookup ("super" : Str)).isSome = false
  mg : X.mg "super" = none
  cell : ∃ (cc : Addr) (cl : Value) (cld : Option Addr) (csl : Array (Option Value)), X.env.cells.lookup ("__class__" : Str) = some cc ∧ X.K.lookup cc = some ⟨cl, cld, .cell (some (.ref D)), csl⟩
  dcl : ∃ cdD, PySem.W.clsIn X.K D = some cdD
  loc : X.env.scope.names.lookup y = some .local
  opq : PySem.W.nsIn X.K cStatics "thirdparty.any" = some none
/-- C's next m behind D is the def at g -/
structure SupM (K : PySem.W.Frag) (C D : Addr) (m : Str) (g : Addr) : Prop where
  sub : PySem.W.mroIn K C (.ref D) = some true
  at_ : PySem.W.ks_superIn K C D m = some (some (.ref g))
  ty : PySem.W.typeIn K (.ref g) = some (.type "function")
  fi : PySem.W.fnIn K g = true
section
variable {X : Cx} {pins : List (Addr × Obj)} {σ : St} {H : Hp} {s : Shared} {D C a dx g : Addr} {fs : List (Str × V)} {y m : Str}
theorem sup_base {body : List Stmt} {p0 p1 : Pos} {whole : Sem Value} {i : Nat} {ox : Obj} {odx : Option Obj} {Q : Value → Shared → Prop} (S : SupX X D y) (I : Inv X pins σ H s) (hN : X.N[i]? = some y) (hv : σ[i]? = some (some (.ref a)))
    (J : PySem.W.InstAt s.heap a ox C odx) (hsub : PySem.W.mroIn X.K C (.ref D) = some true) (hm : (m == ("__class__" : Str)) = false)
    (h : ∀ so s', Inv X ((so, PySem.W.ks_superObj D a C) :: pins) σ H s' → (∀ b o, s.heap.get? b = some o → s'.heap.get? b = some o) → Q (.ref so) s') :
    _root_.PySem.wpAt (model X.prog X.w) X.A (.func body X.env) (attributeBase (.Call (.Name "super" p0) [] [] p1) m X.env whole) Q X.xe s := by
  obtain ⟨f, oc, od, fd, osl, ar, hfu, hf, hp, har⟩ := S.fn
  obtain ⟨cda, ccl, cdd, vs, ccs, file, tf, hco, hcode, hvs, hfile⟩ := S.code
  obtain ⟨cc, cl, cld, csl, hcl, hcell⟩ := S.cell
  obtain ⟨cdD, hD⟩ := S.dcl
  have X1 : X.K.In s.heap := I.kIn
  obtain ⟨mm, hns, hloc⟩ := I.loc
  obtain ⟨oD, hD1, hD2⟩ : ∃ oD, s.heap.get? D = some oD ∧ oD.data = .cls cdD := by
    unfold PySem.W.clsIn at hD
    split at hD
    · rename_i c d cd' sl ho
      cases hD
      exact ⟨_, X1 _ _ ho, rfl⟩
    · cases hD
  subst har
  obtain ⟨u, ru, lk⟩ := hloc i _ _ hN hv (.inl S.loc)
  obtain rfl : u = Value.ref a := ru
  have hself : mm ar.arg = some (.ref a) := by
    rcases lk with ⟨_, e⟩ | ⟨k, _⟩
    · exact e
    · have k' : X.env.scope.names.lookup ar.arg = some .cell ∨ X.env.scope.names.lookup ar.arg = some .free := k
      rw [S.loc] at k'
      rcases k' with z | z <;> cases z
  refine ks_wpAt_super_base (env := X.env) S.sup S.cls hm hfu (X1 _ _ hf) rfl hp hco (X1 _ _ hcode) rfl hvs hfile S.top ?_
  obtain ⟨mb, hb1, hb2⟩ := I.mod.blt
  refine PySem.W.ks_loadName_global S.kind S.sup (PySem.Calls.loadGlobal_builtin (env := X.env) (by rw [I.ok.glob]; exact I.mod.glob.keeps I.bk) S.mg (by rw [I.ok.blt]; exact hb1.keeps I.bk) ((hb2 _ (by decide +kernel)).trans (by first | boot_by_name | rfl | kernel_rfl)) ⟨rfl, ?_⟩)
  refine wpAny_loadName_free S.kind S.cls hcl ⟨_, X1 _ _ hcell, rfl⟩ ?_
  refine wpAny_loadName_local S.kind S.loc hns hself ?_
  refine ks_wpAny_isType_cls hD1 hD2 ⟨rfl, ?_⟩
  obtain ⟨hh, gg, d, t, os⟩ := s
  refine ks_wpAny_call_super hD1 hD2 J.at_ J.cls (fun c e => ?_) (PySem.W.looks_mroIn X1 hsub) (fun h' e k => ?_)
  · have := J.no
    unfold PySem.W.notCls at this
    rw [e] at this
    exact Bool.noConfusion this
  · exact h _ _ (ClX.pin_new (t' := t) I k (Nat.le_refl _) e (fun v z => nomatch z)) k
end
/-- super().m(e, ..) as a statement, the first parameter in slot i -/
def tSup (K : PySem.W.Frag) (D : Addr) (m : Str) (g : Addr) (sp : Sp) (E : XK) (i : Nat) (ta : TA) : TS := fun Dn σ H => ∃ (a C dx : Addr) (fs : List (Str × V)), σ[i]? = some (some (.ref a)) ∧ H a = some (.ins C dx fs) ∧ SupM K C D m g ∧
  ta σ H fun vs H1 => sp (.ref a :: vs) H1 (fun _ H2 => Dn.nx σ H2) E
section
variable {X : Cx} {D g : Addr} {y m : Str} {CX : CXT} {k : Nat} {fd : FuncData} {ps : List Str} {sp : Sp} {E : XK} {e : Expr} {es : List Expr} {ta : TA} {p0 p1 p2 pos pos' : Pos} {i : Nat} {pl : Sem Bool} {body : List Stmt}
theorem psa_super (S : SupX X D y) (F : FnOk X.prog X.w X.K X.mg X.base CX k g fd ps sp) (hr : Room k X.A) (hb : Binds X.K fd ps []) (hx : Passes CX X E) (ha : PA X (e :: es) ta) (hN : X.N[i]? = some y := by rfl) (hm : (m == ("__class__" : Str)) = false := by decide)
    (hi : interactive X.env = false := by rfl) (hs : swapsWith (.Call (.Attribute (.Call (.Name "super" p0) [] [] p1) m p2) (e :: es) [] pos) none pos'.line X.env = pure false := by rfl)
    (hst : starEach (e :: es) X.env = (false, eval e X.env) :: starEach es X.env := by rfl) (hpl : (backTo pos (starEach es X.env)).any (·.1) = false := by rfl)
    (he : eval (.Call (.Attribute (.Call (.Name "super" p0) [] [] p1) m p2) (e :: es) [] pos) X.env = (do
      let ov ← attributeBase (.Call (.Name "super" p0) [] [] p1) m X.env (eval (.Call (.Name "super" p0) [] [] p1) X.env)
      standAt p2.atName
      let (f, first) ← holding [ov] (getMethod ov m pl)
      callWith pos f first (backTo pos (starEach (e :: es) X.env)) []) := by rfl) :
    PSA X (.func body X.env) (.Expr (.Call (.Attribute (.Call (.Name "super" p0) [] [] p1) m p2) (e :: es) [] pos) pos') (tSup X.K D m g sp E i ta) := by
  refine ⟨fun pins s σ H Dn I h => ?_⟩
  obtain ⟨a, C, dx, fs, hv, ea, SM, q⟩ := h
  refine ks_wpAt_Expr_any ?_ hi hs
  refine ks_wpAt_MethodCall ?_ he
  obtain ⟨mA, O, _⟩ := ins_get I.hok ea
  obtain ⟨od, J, _⟩ := O.look
  refine sup_base S I hN hv J SM.sub hm fun so s1 I1 k1 => ?_
  obtain ⟨mA1, O1, _⟩ := ins_get I1.hok ea
  obtain ⟨od1, J1, _⟩ := O1.look
  have hat := SM.at_
  cases hc : PySem.W.clsIn X.K C with
  | none =>
    unfold PySem.W.ks_superIn at hat
    rw [hc] at hat
    cases hat
  | some cd =>
    unfold PySem.W.ks_superIn at hat
    rw [hc] at hat
    obtain ⟨of, hof, hofc⟩ : ∃ of, s1.heap.get? g = some of ∧ of.cls = .type "function" := by
      have ht' : (X.K.lookup g).map (·.cls) = some (.type "function") := SM.ty
      cases z : X.K.lookup g with
      | none => rw [z] at ht'; cases ht'
      | some of => rw [z] at ht'; exact ⟨of, I1.kIn _ _ z, Option.some.inj ht'⟩
    obtain ⟨hh, gg, d, t, os⟩ := s1
    refine ks_wpAny_getMethod_super (ClX.pin_at I1) (PySem.W.looks_opaque I1.kIn S.opq) (l₀ := cd.mro) ?_ rfl I1.kIn hat hof hofc (PySem.W.ks_ne I1.kIn J1 hc) hm ?_
    · exact fun A Q E s k q => wpAny_bind ((PySem.W.looks_clsIn I1.kIn hc) A _ E s k (wpAny_pure q))
    · have I2 := ClX.met_new (g := g) (C := a) I1
      refine ClX.callwith_cm I2 (ClX.base_none I1 (Nat.le_refl _)) SM.fi (thn (ha.run pos _ _ σ H _ I2 q) fun us s3 ⟨vs, H2, I3, rv, q2⟩ => ⟨⟨ClX.pin_at I3, I3.kIn⟩, ?_⟩) hst hpl
      have r2 : Vals (V.ref a :: vs) (Value.ref a :: us) := .cons rfl rv
      have hl : ((Value.ref a :: us) ++ []).length = ps.length := by
        rw [List.append_nil, ← r2.length]
        exact F.len _ _ _ _ q2
      have bt := hb s3 (Value.ref a :: us) I3.kIn hl
      rw [List.append_nil] at bt
      refine wpAny_call (PySem.W.method_call (ClX.pin_at I3) (codeAny_mono (F.run X.A X.stack s3 H2 ⟨Value.ref a :: us, []⟩ (Value.ref a :: us) (V.ref a :: vs) _ E hr I3.env0 bt r2 q2) fun r s' hq => ?_))
      cases r with
      | error er => exact hx _ σ H2 s3 er s' I3 hq
      | ok fl =>
        cases fl with
        | ret u =>
          obtain ⟨v, H', I4, _, q4⟩ := I3.after hq
          exact ⟨σ, H', ClX.unpin (ClX.unpin I4), q4⟩
        | next => exact False.elim hq
        | brk => exact False.elim hq
        | cont => exact False.elim hq
end
end L2
namespace L2
open PySem PySem.Spec PyProof.Rows
section
variable {X : Cx} {pins : List (Addr × Obj)} {σ : St} {H : Hp} {s : Shared}
theorem looks_ty {x : V} {u t : Value} (I : Inv X pins σ H s) (rx : RelV x u) (ty : TyX X.K H x t) : PySem.W.Looks (model X.prog X.w) s.heap (typeOf u) t := by
  obtain ⟨P, Z, p, _⟩ := kit_of I rx ty
  exact Z.ty _ _ I.kIn p
end
/-- the class at C compares by its own __eq__ at g, and has no __ne__ of its own -/
structure EqC (K : PySem.W.Frag) (C g : Addr) : Prop where
  eq : PySem.W.findIn K (.ref C) "__eq__" = some (some (.ref g))
  fn : PySem.W.isFn K (.ref g) = true
  ne : PySem.W.findIn K (.ref C) "__ne__" = some (some (.builtin "object.__ne__"))
  ob : PySem.W.mroIn K C (.type "object") = some true
def rOwnEq (K : PySem.W.Frag) (g : Addr) (sp : Sp) (E : XK) : R2 := fun x y H Q => ∃ (a C dx : Addr) (fs : List (Str × V)) (tb : Value), x = .ref a ∧ H a = some (.ins C dx fs) ∧ EqC K C g ∧ TyX K H y tb ∧ PySem.W.notFirst K C tb = true ∧ sp [x, y] H Q E
def rOwnNe (K : PySem.W.Frag) (g : Addr) (sp : Sp) (E : XK) : R2 := fun x y H Q => ∃ (a C dx : Addr) (fs : List (Str × V)) (tb : Value), x = .ref a ∧ H a = some (.ins C dx fs) ∧ EqC K C g ∧ TyX K H y tb ∧ PySem.W.notFirst K C tb = true ∧ sp [x, y] H (fun z H' => ∃ b, z = .bl b ∧ Q (.bl (!b)) H') E
section
variable {prog : Program} {w : World} {A : Around} {E : Value → Shared → Prop} {s : Shared} {K : PySem.W.Frag} {x C f : Addr} {ox : Obj} {od : Option Obj} {b tb : Value}
open PySem.W in
theorem ifBound_Kb {M : Model} {name : Str} {id : String} {args : List Value} {Q : Option Value → Shared → Prop} (X : K.In s.heap) (I : InstAt s.heap x ox C od) (hs : findIn K (.ref C) name = some (some (.builtin id))) (hb : bindSpecial (.builtin id) (.ref x) = pure (.builtin id, [.ref x]))
    (h : wpAny M A (call (.builtin id) (.ref x :: args)) (fun v => Q (some v)) E s) : wpAny M A (callSpecialIfBound? (.ref x) name args) Q E s := by
  simp only [callSpecialIfBound?, bindSpecialIfBound?]
  refine wpAny_holding (wpAny_bind (wpAny_bind (wpAny_bind (I.type.here ((looks_findIn X hs).here ?_)))))
  refine wpAny_bind (wpAny_askSetting (wpAny_ite ?_))
  have fin : wpAny M A (call (.builtin id) ([.ref x] ++ args) >>= fun v => pure (some v)) Q E s := wpAny_bind (wpAny_mono h (fun v s' h' => wpAny_pure h') fun _ _ h' => h')
  dsimp only
  rw [hb]
  split
  · exact wpAny_bind (wpAny_pure (wpAny_pure fin))
  · exact wpAny_tryCatch (wpAny_bind (wpAny_pure (wpAny_pure fin)))
open PySem.W in
theorem cmpNe_K {Q : Value → Shared → Prop} (hu : A.units + 1 < cLine) (X : K.In s.heap) (I : InstAt s.heap x ox C od) (hb : Looks (model prog w) s.heap (typeOf b) tb) (hn : notFirst K C tb = true) (e : EqC K C f)
    (h : wpAny (model prog w) A.in1 (call (.ref f) [.ref x, b]) (fun v s' => ∃ k, v = .bool k ∧ Q (.bool (!k)) s') E s) : wpAny (model prog w) A (richCompare .NotEq (.ref x) b) Q E s := by
  have hin : Looks (model prog w) s.heap (isInstance (.ref x) (.type "object")) true := I.type.andThen (looks_mroIn X e.ob)
  have body : wpAny (model prog w) A (call (.builtin "object.__ne__") [.ref x, b]) (fun v s' => ∃ k, v = .bool k ∧ Q (.bool k) s') E s := by
    refine wpAny_call (codeAny_call_builtin F.cmp_object.ne.plain F.cmpEntry_ne (check_slot F.cmpKind_ne F.cmpSplit_ne hin (F.cmpArgs_ne _ _) ?_))
    unfold Builtin.«object.__ne__»
    repeat (first
      | with_reducible refine wpAny_cRoomFor (show A.in1.units < cLine from hu) ?_
      | (refine wpAny_bind (m := callSpecialIfBound? (.ref x) (Str.ofString "__eq__") [b])
          (ifBound_K X I e.eq e.fn (wpAny_mono h (fun r s' hr => by
            obtain ⟨k, rfl, hq⟩ := hr
            repeat (first | exact ⟨_, rfl, hq⟩ | exact wpAny_pure ⟨_, rfl, hq⟩ | exact wpAny_truthy_bool ⟨_, rfl, hq⟩ | (refine wpAny_bind (m := truthy (.bool _)) (wpAny_truthy_bool ?_)) | wp_step)) fun _ _ e => e)))
      | wp_step)
  have one : wpAny (model prog w) A (tryCompare (.ref x) (cmpInfo .NotEq).2.1 b) (fun r s' => ∃ v, r = some v ∧ Q v s') E s := by
    unfold tryCompare
    refine wpAny_bind (ifBound_Kb X I e.ne (F.cmp_object.ne.bind _) (wpAny_mono body (fun v s' hv => ?_) fun _ _ e => e))
    obtain ⟨k, rfl, hq⟩ := hv
    exact wpAny_pure ⟨_, rfl, hq⟩
  have step : ∀ k : Option Value → Sem Value, (∀ v s', Q v s' → wpAny (model prog w) A (k (some v)) Q E s') → wpAny (model prog w) A (tryCompare (.ref x) (cmpInfo .NotEq).2.1 b >>= k) Q E s :=
    fun k hk => wpAny_bind (wpAny_mono one (fun r s' ⟨v, er, hq⟩ => er ▸ hk v s' hq) fun _ _ z => z)
  unfold richCompare
  simp only [oneThing_ref]
  refine wpAny_holding (wpAny_bind (wpAny_cRoomFor (Nat.lt_of_succ_lt hu) (wpAny_bind (I.type.here (wpAny_bind (hb.here ?_))))))
  split
  · rename_i q
    have sub : subIn K tb (.ref C) = some false := by
      unfold notFirst at hn
      cases z : (tb == .ref C) with
      | true => rw [beq_iff_eq.mp z] at q; simp at q
      | false => rw [z, Bool.false_or] at hn; exact beq_iff_eq.mp hn
    refine wpAny_bind (Looks.here (looks_subIn X sub) ?_)
    rw [if_neg Bool.false_ne_true]
    exact step _ fun v s' hq => wpAny_pure hq
  · refine wpAny_bind (wpAny_pure (s := s) ?_)
    rw [if_neg Bool.false_ne_true]
    exact step _ fun v s' hq => wpAny_pure hq
end
section
variable {X : Cx} {CX : CXT} {n : Nat} {g : Addr} {sp : Sp} {E : XK}
theorem op_ownEq (F : FnR X.prog X.w X.K X.mg X.base CX n g sp) (hr : Room n X.A) (hx : Passes CX X E) : OpR X (compareOp .Eq) (rOwnEq X.K g sp E) := by
  intro pins s σ H x y v u Q I rx ry h
  obtain ⟨a, C, dx, fs, tb, rfl, ha, e, ty, hn, q⟩ := h
  cases (show v = Value.ref a from rx)
  obtain ⟨mA, O, _⟩ := ins_get I.hok ha
  obtain ⟨od, J, _⟩ := O.look
  obtain ⟨m, hF⟩ := I.fr
  show wpAny _ _ (richCompare .Eq (.ref a) u) _ _ _
  refine PySem.W.cmp_K (op := .Eq) (tb := tb) hr.units0 hF I.ok.mod.kin J (looks_ty I ry ty) hn e.eq e.fn ?_
  refine wpAny_mono (wpAny_call (run_fnR (us := [.ref a, u]) (vs := [.ref a, y]) F hr hx I (.cons rfl (.cons ry .nil)) q)) (fun w s' z => ?_) fun _ _ x => x
  obtain ⟨z', H', I', rz, qz⟩ := z
  exact SlX.cmpback rz ⟨z', H', I', rz, qz⟩
theorem op_ownNe (F : FnR X.prog X.w X.K X.mg X.base CX n g sp) (hr : Room (n + 1) X.A) (hx : Passes CX X E) : OpR X (compareOp .NotEq) (rOwnNe X.K g sp E) := by
  intro pins s σ H x y v u Q I rx ry h
  obtain ⟨a, C, dx, fs, tb, rfl, ha, e, ty, hn, q⟩ := h
  cases (show v = Value.ref a from rx)
  obtain ⟨mA, O, _⟩ := ins_get I.hok ha
  obtain ⟨od, J, _⟩ := O.look
  show wpAny _ _ (richCompare .NotEq (.ref a) u) _ _ _
  refine cmpNe_K (tb := tb) (Nat.lt_of_le_of_lt (Nat.add_le_add_left (by decide : 1 ≤ 64) _) hr.units) I.kIn J (looks_ty I ry ty) hn e ?_
  refine wpAny_mono (wpAny_call (SlX.run_at (us := [.ref a, u]) (ws := [.ref a, y]) F hr.in1 I.env0.in1 hx I (.cons rfl (.cons ry .nil)) q)) (fun w s' z => ?_) fun _ _ x => x
  obtain ⟨z', H', I', rz, b, eb, qz⟩ := z
  subst eb
  cases (show w = Value.bool b from rz)
  exact ⟨b, rfl, .bl (!b), H', I', rfl, qz⟩
/-- str(o), o an instance whose class has its own __str__ at g -/
def rStrOwn (K : PySem.W.Frag) (g : Addr) (sp : Sp) (E : XK) : List V → Hp → VK → Prop := fun xs H Q => ∃ (a C dx : Addr) (fs : List (Str × V)), xs = [V.ref a] ∧ H a = some (.ins C dx fs) ∧ PySem.W.findIn K (.ref C) "__str__" = some (some (.ref g)) ∧ sp [.ref a] H (fun z H' => ∃ t, z = .str t ∧ Q z H') E
theorem call_strOwn (hf : PySem.W.isFn X.K (.ref g) = true) (F : FnR X.prog X.w X.K X.mg X.base CX n g sp) (hr : Room (n + 2) X.A) (hx : Passes CX X E) : CallR X (.type "str") (rStrOwn X.K g sp E) := by
  intro pins s σ H xs us Q I r h
  obtain ⟨a, C, dx, fs, rfl, ha, hs, q⟩ := h
  obtain ⟨u, rfl, ru⟩ := r.one
  cases (show u = Value.ref a from ru)
  obtain ⟨mA, O, _⟩ := ins_get I.hok ha
  obtain ⟨od, J, _⟩ := O.look
  have hr2 : Room n X.A.in1.in1 := (show Room (n + 1) X.A.in1 from Room.in1 hr).in1
  refine PySem.W.kso_call hr2.units0 I.kIn J hs hf (wpAny_mono (wpAny_call (SlX.run_at (us := [.ref a]) (ws := [.ref a]) F hr2 I.env0.in1.in1 hx I (.cons rfl .nil) q)) (fun w s' z => ?_) fun _ _ x => x)
  obtain ⟨z', H', I', rz, t, et, qz⟩ := z
  subst et
  obtain ⟨tk, e⟩ := (show ∃ tk, w = Value.str t tk from rz)
  cases e
  exact ⟨.str t, H', I', ⟨tk, rfl⟩, qz⟩
/-- repr(x), x a list or a tuple of data; of a text; the frame is under no repr -/
def rRepr (K : PySem.W.Frag) : List V → Hp → VK → Prop := fun xs H Q => ∃ (a : Addr) (d : PyData), xs = [V.ref a] ∧ Dp K H (.ref a) d ∧ d.showable = true ∧ d.hasDict = false ∧ d.depth ≤ 50 ∧ d.shown.length ≤ sizeLine ∧ Q (.str d.shown) H
theorem call_repr (hg : X.A.guards = some []) (hr : Room n X.A) : CallR X (.builtin "repr") (rRepr X.K) := by
  intro pins s σ H xs us Q I r h
  obtain ⟨a, d, rfl, dp, hs, hnd, hdep, hsz, q⟩ := h
  obtain ⟨u, rfl, ru⟩ := r.one
  cases (show u = Value.ref a from ru)
  obtain ⟨as, rd⟩ := Dp.reads I d _ _ dp (show RelV (.ref a) (Value.ref a) from rfl)
  have hu := hr.units
  exact repr_of_reads' rd hs (PyData.noDict_hsm hnd) hg (by omega) (fun _ _ e => e) (fun h' u tk hk => ⟨.str d.shown, H, I.kept hk, ⟨u, rfl⟩, q⟩) hsz
end
end L2
namespace L2
open PySem PySem.Spec PyProof.Rows
/-- a def of the module: its text, its name, how it binds -/
structure Dn (K : PySem.W.Frag) (mg : Str → Option Value) (x : Str) (st : Stmt) (ps : List Str) (f : Addr) (fd : FuncData) : Prop where
  F : Fun K x x st f fd
  g : mg x = some (.ref f)
  b : Binds K fd ps []
/-- a method -/
structure Mn (K : PySem.W.Frag) (x qual : Str) (st : Stmt) (ps : List Str) (f : Addr) (fd : FuncData) : Prop where
  F : Fun K x qual st f fd
  b : Binds K fd ps []
  fn : PySem.W.isFn K (.ref f) = true
/-- a method that says super(), written in the class at D -/
structure Sn (P : Program) (K : PySem.W.Frag) (x qual : Str) (st : Stmt) (ps : List Str) (f : Addr) (fd : FuncData) (D : Addr) : Prop where
  ex : ∃ (oc : Value) (od : Option Addr) (kV doc pm : Value) (an : Option Addr) (cda : Addr) (ct : Value) (osl : Array (Option Value)) (cc : Addr) (cl : Value) (cld : Option Addr) (csl : Array (Option Value)) (ccl : Value) (cdd : Option Addr) (vs : Array Value) (ccs : Array (Option Value)) (file : Str) (tf : Tok),
    fd = PySem.W.ksFn x qual (defArgs st) (defBody st) (defScope st) .none kV doc pm an (.ref cda) ct cc ∧ K.lookup f = some ⟨oc, od, .func fd, osl⟩ ∧ PySem.W.codeIn K (.ref cda) qual = true ∧ K.lookup cc = some ⟨cl, cld, .cell (some (.ref D)), csl⟩ ∧
    K.lookup cda = some ⟨ccl, cdd, .fields vs, ccs⟩ ∧ vs[2]? = some (.str file tf) ∧ ((P.main.file : Str) == file) = true
  b : Binds K fd ps []
  fn : PySem.W.isFn K (.ref f) = true
  kp : PySem.W.keepIn K (.ref f) = true
  fi : PySem.W.fnIn K f = true
/-- what super() asks of the module -/
structure SupT (P : Program) (K : PySem.W.Frag) (mg : Str → Option Value) : Prop where
  top : (P.main.scope.names.lookup ("super" : Str)).isSome = false
  mg : mg "super" = none
  opq : PySem.W.nsIn K cStatics "thirdparty.any" = some none
/-- a class, as instances ask for it -/
structure ClsT (K : PySem.W.Frag) (C : Addr) : Prop where
  cl : Cls K C
  ha : PySem.W.findIn K (.ref C) "__class__" = some (some (.builtin "object.__class__"))
  hn : PySem.W.specialIn K (.builtin "object.__class__") "__get__" = some (some (.builtin "getset_descriptor.__get__"))
  htk : PySem.W.takesIn K (.builtin "object.__class__") = some true
  hm : PySem.W.mroIn K C (.type "object") = some true
theorem ClsT.ty {K : PySem.W.Frag} {C a dx : Addr} {H : Hp} {fs : List (Str × V)} (c : ClsT K C) (h : H a = some (.ins C dx fs)) : TyX K H (.ref a) (.ref C) := .base (.ins h c.cl c.ha c.hn c.htk c.hm)
theorem kit_ownT {K : PySem.W.Frag} {t : Value} {C : Addr} {cd : ClassData} (h : PySem.W.clsIn K C = some cd) (ht : PySem.W.typeIn K (.ref C) = some (.type "type")) (hs : PySem.W.subIn K t (.ref C) = some true) : PySem.W.kitOne K t (.ref C) = some true := by
  unfold PySem.W.kitOne
  by_cases e : (t == .ref C) = true
  · rw [if_pos e]
  · rw [if_neg e]
    show (if ((PySem.W.clsIn K C).isSome && PySem.W.typeIn K (.ref C) == some (.type "type")) = true then PySem.W.subIn K t (.ref C) else none) = some true
    rw [h, ht]
    exact (if_pos rfl).trans hs
theorem kit_ownF {K : PySem.W.Frag} {n : String} {C : Addr} {cd : ClassData} (h : PySem.W.clsIn K C = some cd) (ht : PySem.W.typeIn K (.ref C) = some (.type "type")) (hs : PySem.W.subIn K (.type n) (.ref C) = some false) : PySem.W.kitOne K (.type n) (.ref C) = some false := by
  show (if ((PySem.W.clsIn K C).isSome && PySem.W.typeIn K (.ref C) == some (.type "type")) = true then PySem.W.subIn K (.type n) (.ref C) else none) = some false
  rw [h, ht]
  exact (if_pos rfl).trans hs
structure Cn (K : PySem.W.Frag) (mg : Str → Option Value) (x : Str) (C fI : Addr) : Prop where
  g : mg x = some (.ref C)
  t : ClsT K C
  m : Mk K C fI
section
variable {P : Program} {w : World} {K : PySem.W.Frag} {mg : Str → Option Value} {base : Heap}
theorem Sn.okX {CX : CXT} {x qual y : Str} {st : Stmt} {f D : Addr} {fd : FuncData} {N ps : List Str} {k : Nat} {sp : Sp} {ar : Arg} {cdD : ClassData} (F : Sn P K x qual st ps f fd D) (T : SupT P K mg) (S : FnScopeS N ps (defScope st)) (hD : PySem.W.clsIn K D = some cdD)
    (hp : ((defArgs st).posonlyargs ++ (defArgs st).args).head? = some ar) (hy : ar.arg = y) (hl : (defScope st).names.lookup y = some .local) (len : ∀ vs H Q E, sp vs H Q E → vs.length = ps.length)
    (hbody : ∀ (cdv : Value) (cc : Addr) (A : Around) (outer : List Env) (s : Shared) (H : Hp) (vs : List V) (Q : VK) (E : XK), Room k (A.deeper (PySem.W.ksEnv qual (defScope st) s.heap.objs.size f cdv cc)) →
      SupX (cxS CX P w K mg base N qual (defScope st) f cdv cc A outer s H E) D y → sp vs H Q E →
      ∃ t, PSsA (cxS CX P w K mg base N qual (defScope st) f cdv cc A outer s H E) (.func (defBody st) (PySem.W.ksEnv qual (defScope st) s.heap.objs.size f cdv cc)) (defBody st) t ∧ t { nx := fun _ H' => Q .non H', rt := Q } (start N vs) H) :
    FnOk P w K mg base CX (k + 1) f fd ps sp := by
  obtain ⟨oc, od, kV, doc, pm, an, cda, ct, osl, cc, cl, cld, csl, ccl, cdd, vs, ccs, file, tf, rfl, lk, hcd, hcc, hco, hvs, hfile⟩ := F.ex
  refine fnS_of hcc lk hcd S len fun A outer s H ws Q E hr hsp => ?_
  refine hbody (.ref cda) cc A outer s H ws Q E hr ⟨S.sup, S.cls, S.kind, ⟨f, oc, od, _, osl, ar, rfl, lk, hp, hy⟩, ⟨cda, ccl, cdd, vs, ccs, file, tf, rfl, hco, hvs, hfile⟩, T.top, T.mg, ⟨cc, cl, cld, csl, ?_, hcc⟩, ⟨cdD, hD⟩, hl, T.opq⟩ hsp
  show ([(("__class__" : Str), cc)] : List (Str × Addr)).lookup ("__class__" : Str) = some cc
  simp [List.lookup]
end
theorem rd_sup {K : PySem.W.Frag} {D : Addr} {m : Str} {g : Addr} {sp : Sp} {E : XK} {i : Nat} {tA : TA} {Dn : Ends} {σ : St} {H : Hp} {a C dx : Addr} {fs : List (Str × V)} (ha : σ[i]? = some (some (.ref a))) (ho : H a = some (.ins C dx fs)) (hm : SupM K C D m g)
    (h : tA σ H fun vs H1 => sp (.ref a :: vs) H1 (fun _ H2 => Dn.nx σ H2) E) : tSup K D m g sp E i tA Dn σ H := ⟨a, C, dx, fs, ha, ho, hm, h⟩
/-- all but the thing at p is as it was -/
def But (p : Addr) (H H' : Hp) : Prop := ∀ a o, a ≠ p → H a = some o → H' a = some o
theorem But.refl {p : Addr} (H : Hp) : But p H H := fun _ _ _ h => h
theorem But.trans {p : Addr} {H H1 H2 : Hp} (x : But p H H1) (y : But p H1 H2) : But p H H2 := fun a o n e => y a o n (x a o n e)
theorem Same.but {p : Addr} {H H1 : Hp} (e : Same H H1) : But p H H1 := fun a o _ h => e a o h
theorem But.upd {p : Addr} {H : Hp} {o : HO} : But p H (upd H p o) := fun a u n e => by rw [upd_ne n]; exact e
/-! ### the box of draws -/
abbrev boxO (w s c : Int) : HO := .lst [.int w, .int s, .int c]
def BoxAt (H : Hp) (b : Addr) : Prop := ∃ w s c : Int, H b = some (boxO w s c)
theorem BoxAt.same {H H' : Hp} {b : Addr} (e : Same H H') (h : BoxAt H b) : BoxAt H' b := let ⟨w, s, c, q⟩ := h; ⟨w, s, c, e _ _ q⟩
/-- the box at b may have changed, nothing else -/
structure Bx (b : Addr) (H H' : Hp) : Prop where
  kx : ∀ a o, a ≠ b → H a = some o → H' a = some o
  b0 : BoxAt H b
  b1 : BoxAt H' b
section
variable {H H1 H2 : Hp} {a b p : Addr} {o : HO}
theorem Bx.refl (h : BoxAt H b) : Bx b H H := ⟨fun _ _ _ e => e, h, h⟩
theorem Bx.trans (x : Bx b H H1) (y : Bx b H1 H2) : Bx b H H2 := ⟨fun c o n e => y.kx c o n (x.kx c o n e), x.b0, y.b1⟩
theorem Bx.same (x : Bx b H H1) (e : Same H1 H2) : Bx b H H2 := ⟨fun c o n q => e c o (x.kx c o n q), x.b0, x.b1.same e⟩
theorem Same.bx (e : Same H H1) (h : BoxAt H b) : Bx b H H1 := ⟨fun c o _ q => e c o q, h, h.same e⟩
theorem Same.bxs (e : Same H H1) (h : BoxAt H b) (y : Bx b H1 H2) : Bx b H H2 := (e.bx h).trans y
theorem Bx.upd {w s c : Int} (h : BoxAt H b) : Bx b H (upd H b (boxO w s c)) := ⟨fun a o n e => by rw [upd_ne n]; exact e, h, ⟨w, s, c, upd_same⟩⟩
theorem BoxAt.ne (h : BoxAt H b) (e : H a = some o) (z : fz o = true) : a ≠ b := fun q => by
  obtain ⟨w', s', c', hb⟩ := h
  rw [q, hb] at e
  cases e
  cases z
theorem Bx.kp (x : Bx b H H1) : Kp H H1 := fun a o e z => x.kx a o (x.b0.ne e z) e
theorem bxget (x : Bx b H H1) (h : H a = some o) (z : fz o = true) : H1 a = some o := x.kp a o h z
theorem Bx.free (x : Bx b H H1) (h : H1 p = none) : H p = none := by
  cases q : H p with
  | none => rfl
  | some u =>
    by_cases hp : p = b
    · obtain ⟨w', s', c', hb⟩ := x.b1
      rw [hp, hb] at h
      cases h
    · rw [x.kx p u hp q] at h
      cases h
/-- a thing that was made since may be changed -/
theorem Bx.mut {u : HO} (x : Bx b H H1) (h : H p = none) : Bx b H (L2.upd H1 p u) := by
  have np : p ≠ b := fun q => by
    obtain ⟨w', s', c', hb⟩ := x.b0
    rw [q, hb] at h
    cases h
  refine ⟨fun a o n e => ?_, x.b0, ?_⟩
  · rw [upd_ne (ne_of_none e h)]
    exact x.kx a o n e
  · obtain ⟨w', s', c', hb⟩ := x.b1
    exact ⟨w', s', c', by rw [upd_ne np.symm]; exact hb⟩
theorem SqF.bx {K : PySem.W.Frag} {xs : List V} (x : Bx b H H1) (h : SqF K H a xs) : SqF K H1 a xs := h.kp x.kp
end
end L2
/-! values without addresses, and what they stand for -/
namespace S
open PySem L2
inductive D where
  | non
  | bl (b : Bool)
  | int (i : Int)
  | str (x : Str)
  | lst (xs : List D)
  | rls (xs : List D)
  | tup (xs : List D)
  | dct (ks : List Key) (ds : List D)
  | ins (c : Nat) (ns : List Str) (ds : List D)
  | ptr (i : Nat)
  | cls (c : Nat)
/-- a thing that may still change -/
inductive C where
  | lst (xs : List D)
  | dct (ks : List Key) (ds : List D)
  | ins (c : Nat) (ns : List Str) (ds : List D)
  | dead
abbrev Env := List (Option D)
abbrev Sto := List C
/-- the part of the heap that never changes any more; where the changing things lie; what is being made -/
structure Gh where
  fz : Hp
  rho : List Addr
  tmp : Hp
section
variable (K : PySem.W.Frag) (G : Nat → Addr) (Z : Gh)
mutual
def Rep : D → V → Prop
  | .non, v => v = .non
  | .bl b, v => v = .bl b
  | .int i, v => v = .int i
  | .str x, v => v = .str x
  | .lst ds, v => ∃ a vs, v = .ref a ∧ Z.fz a = some (.lst vs) ∧ RepL ds vs
  | .rls ds, v => ∃ a vs, v = .ref a ∧ SqL K Z.fz a vs ∧ RepL ds vs
  | .tup ds, v => ∃ a vs, v = .ref a ∧ SqT K Z.fz a vs ∧ RepL ds vs
  | .dct ks ds, v => ∃ a vs, v = .ref a ∧ Z.fz a = some (.dK (ks.zip vs)) ∧ ks.length = vs.length ∧ RepL ds vs
  | .ins c ns ds, v => ∃ a dx vs, v = .ref a ∧ Z.fz a = some (.ins (G c) dx (ns.zip vs)) ∧ ns.length = vs.length ∧ RepL ds vs
  | .ptr i, v => ∃ a, Z.rho[i]? = some a ∧ v = .ref a
  | .cls c, v => v = .ref (G c)
def RepL : List D → List V → Prop
  | [], vs => vs = []
  | d :: ds, vs => ∃ v r, vs = v :: r ∧ Rep d v ∧ RepL ds r
end
def RepE : Env → St → Prop
  | [], σ => σ = []
  | o :: r, σ => ∃ x τ, σ = x :: τ ∧ (match o with | some d => ∃ v, x = some v ∧ Rep K G Z d v | none => True) ∧ RepE r τ
def RepC (H : Hp) (a : Addr) : C → Prop
  | .lst ds => ∃ vs, H a = some (.lst vs) ∧ RepL K G Z ds vs
  | .dct ks ds => ∃ vs, H a = some (.dK (ks.zip vs)) ∧ ks.length = vs.length ∧ RepL K G Z ds vs
  | .ins c ns ds => ∃ dx vs, H a = some (.ins (G c) dx (ns.zip vs)) ∧ ns.length = vs.length ∧ RepL K G Z ds vs
  | .dead => True
def C.live : C → Bool
  | .dead => false
  | _ => true
structure RelH (H : Hp) (st : Sto) : Prop where
  fz : Same Z.fz H
  len : Z.rho.length = st.length
  cell : ∀ (i : Nat) (c : C) (a : Addr), st[i]? = some c → Z.rho[i]? = some a → RepC K G Z H a c
  off : ∀ (i : Nat) (c : C) (a : Addr), st[i]? = some c → c.live = true → Z.rho[i]? = some a → Z.fz a = none
  inj : ∀ (i j : Nat) (c c' : C) (a : Addr), st[i]? = some c → st[j]? = some c' → c.live = true → c'.live = true → Z.rho[i]? = some a → Z.rho[j]? = some a → i = j
  tmp : Same Z.tmp H
  tof : ∀ (a : Addr) (o : HO), Z.tmp a = some o → Z.fz a = none ∧ ∀ (i : Nat) (c : C), st[i]? = some c → c.live = true → Z.rho[i]? ≠ some a
end
structure Gh.le (Z Z' : Gh) : Prop where
  fz : Same Z.fz Z'.fz
  rho : ∃ r, Z'.rho = Z.rho ++ r
  tmp : Z'.tmp = Z.tmp
theorem Gh.le.refl (Z : Gh) : Z.le Z := ⟨Same.refl _, ⟨[], by simp⟩, rfl⟩
theorem Gh.le.trans {Z Z1 Z2 : Gh} (a : Z.le Z1) (b : Z1.le Z2) : Z.le Z2 := by
  obtain ⟨a1, ⟨r, e⟩, t⟩ := a
  obtain ⟨b1, ⟨r', e'⟩, t'⟩ := b
  exact ⟨a1.trans b1, ⟨r ++ r', by rw [e', e, List.append_assoc]⟩, t'.trans t⟩
/-- as far as values stand -/
structure Gh.ex (Z Z' : Gh) : Prop where
  fz : Same Z.fz Z'.fz
  rho : ∃ r, Z'.rho = Z.rho ++ r
theorem Gh.le.ex {Z Z' : Gh} (l : Z.le Z') : Z.ex Z' := ⟨l.fz, l.rho⟩
theorem Gh.ex.refl (Z : Gh) : Z.ex Z := (Gh.le.refl Z).ex
theorem Gh.ex.trans {Z Z1 Z2 : Gh} (a : Z.ex Z1) (b : Z1.ex Z2) : Z.ex Z2 := by
  obtain ⟨a1, ⟨r, e⟩⟩ := a
  obtain ⟨b1, ⟨r', e'⟩⟩ := b
  exact ⟨a1.trans b1, ⟨r ++ r', by rw [e', e, List.append_assoc]⟩⟩
theorem Same.sqt' {K : PySem.W.Frag} {H H' : Hp} {a : Addr} {xs : List V} (e : Same H H') (h : SqT K H a xs) : SqT K H' a xs := by
  rcases h with (h | ⟨o, h⟩) | h
  · exact .inl (.inl (e _ _ h))
  · exact .inl (.inr ⟨o, e _ _ h⟩)
  · exact .inr h
section
variable {K : PySem.W.Frag} {G : Nat → Addr} {Z Z' : Gh}
theorem Gh.ex.at (l : Z.ex Z') {i : Nat} {a : Addr} (h : Z.rho[i]? = some a) : Z'.rho[i]? = some a := by
  obtain ⟨_, ⟨r, e⟩⟩ := l
  rw [e, List.getElem?_append_left (List.getElem?_eq_some_iff.mp h).1]
  exact h
theorem Gh.le.at (l : Z.le Z') {i : Nat} {a : Addr} (h : Z.rho[i]? = some a) : Z'.rho[i]? = some a := l.ex.at h
mutual
theorem Rep.ux (l : Z.ex Z') : ∀ (d : D) (v : V), Rep K G Z d v → Rep K G Z' d v
  | .non, _, h => h
  | .bl _, _, h => h
  | .int _, _, h => h
  | .str _, _, h => h
  | .lst ds, _, ⟨a, vs, e, q, r⟩ => ⟨a, vs, e, l.fz _ _ q, RepL.ux l ds vs r⟩
  | .rls ds, _, ⟨a, vs, e, q, r⟩ => ⟨a, vs, e, l.fz.seq q, RepL.ux l ds vs r⟩
  | .tup ds, _, ⟨a, vs, e, q, r⟩ => ⟨a, vs, e, Same.sqt' l.fz q, RepL.ux l ds vs r⟩
  | .dct ks ds, _, ⟨a, vs, e, q, n, r⟩ => ⟨a, vs, e, l.fz _ _ q, n, RepL.ux l ds vs r⟩
  | .ins c ns ds, _, ⟨a, dx, vs, e, q, n, r⟩ => ⟨a, dx, vs, e, l.fz _ _ q, n, RepL.ux l ds vs r⟩
  | .ptr i, _, ⟨a, q, e⟩ => ⟨a, l.at q, e⟩
  | .cls _, _, h => h
theorem RepL.ux (l : Z.ex Z') : ∀ (ds : List D) (vs : List V), RepL K G Z ds vs → RepL K G Z' ds vs
  | [], _, h => h
  | d :: ds, _, ⟨v, r, e, h, t⟩ => ⟨v, r, e, Rep.ux l d v h, RepL.ux l ds r t⟩
end
theorem RepE.ux (l : Z.ex Z') : ∀ (env : Env) (σ : St), RepE K G Z env σ → RepE K G Z' env σ
  | [], _, h => h
  | o :: r, _, ⟨x, τ, e, h, t⟩ => ⟨x, τ, e, by
      cases o with
      | none => trivial
      | some d => obtain ⟨v, e', q⟩ := h; exact ⟨v, e', q.ux l⟩, RepE.ux l r τ t⟩
theorem Rep.up (l : Z.le Z') (d : D) (v : V) (h : Rep K G Z d v) : Rep K G Z' d v := Rep.ux l.ex d v h
theorem RepL.up (l : Z.le Z') (ds : List D) (vs : List V) (h : RepL K G Z ds vs) : RepL K G Z' ds vs := RepL.ux l.ex ds vs h
theorem RepE.up (l : Z.le Z') (env : Env) (σ : St) (h : RepE K G Z env σ) : RepE K G Z' env σ := RepE.ux l.ex env σ h
theorem RepL.length : ∀ {ds : List D} {vs : List V}, RepL K G Z ds vs → ds.length = vs.length
  | [], _, h => by cases h; rfl
  | d :: ds, _, ⟨v, r, e, h, t⟩ => by cases e; simp [RepL.length t]
theorem RepE.length : ∀ {env : Env} {σ : St}, RepE K G Z env σ → env.length = σ.length
  | [], _, h => by cases h; rfl
  | d :: ds, _, ⟨v, r, e, h, t⟩ => by cases e; simp [RepE.length t]
theorem RepL.get : ∀ {ds : List D} {vs : List V} {i : Nat} {d : D}, RepL K G Z ds vs → ds[i]? = some d → ∃ v, vs[i]? = some v ∧ Rep K G Z d v
  | [], _, i, d, _, e => by simp at e
  | _ :: _, _, 0, _, ⟨v, r, e, h, t⟩, q => by cases e; simp at q; subst q; exact ⟨v, by simp, h⟩
  | _ :: ds, _, i + 1, d, ⟨v, r, e, h, t⟩, q => by
    cases e
    obtain ⟨u, h1, h2⟩ := RepL.get (i := i) (d := d) t (by simpa using q)
    exact ⟨u, by simpa using h1, h2⟩
theorem RepE.get : ∀ {env : Env} {σ : St} {i : Nat} {d : D}, RepE K G Z env σ → env[i]? = some (some d) → ∃ v, σ[i]? = some (some v) ∧ Rep K G Z d v
  | [], _, i, d, _, e => by simp at e
  | _ :: _, _, 0, d, ⟨v, r, e, h, t⟩, q => by
    cases e
    simp at q; subst q
    obtain ⟨v, rfl, q⟩ := h
    exact ⟨v, by simp, q⟩
  | _ :: ds, _, i + 1, d, ⟨v, r, e, h, t⟩, q => by
    cases e
    obtain ⟨u, h1, h2⟩ := RepE.get (i := i) (d := d) t (by simpa using q)
    exact ⟨u, by simpa using h1, h2⟩
theorem RepE.set {d : D} {v : V} (q : Rep K G Z d v) : ∀ {env : Env} {σ : St} (i : Nat), RepE K G Z env σ → RepE K G Z (env.set i (some d)) (σ.set i (some v))
  | [], _, _, h => by cases h; exact rfl
  | _ :: _, _, 0, ⟨x, r, e, h, t⟩ => by cases e; exact ⟨some v, r, rfl, ⟨v, rfl, q⟩, t⟩
  | _ :: _, _, i + 1, ⟨x, r, e, h, t⟩ => by cases e; exact ⟨x, _, rfl, h, RepE.set q i t⟩
theorem RepL.append : ∀ {ds es : List D} {vs us : List V}, RepL K G Z ds vs → RepL K G Z es us → RepL K G Z (ds ++ es) (vs ++ us)
  | [], _, _, _, h, q => by cases h; exact q
  | d :: ds, _, _, _, ⟨v, r, e, h, t⟩, q => by cases e; exact ⟨v, _, rfl, h, RepL.append t q⟩
theorem RepL.set {d : D} {v : V} (q : Rep K G Z d v) : ∀ {ds : List D} {vs : List V} (i : Nat), RepL K G Z ds vs → RepL K G Z (ds.set i d) (vs.set i v)
  | [], _, _, h => by cases h; exact rfl
  | _ :: _, _, 0, ⟨x, r, e, h, t⟩ => by cases e; exact ⟨v, r, rfl, q, t⟩
  | _ :: _, _, i + 1, ⟨x, r, e, h, t⟩ => by cases e; exact ⟨x, _, rfl, h, RepL.set q i t⟩
theorem RepL.take : ∀ {ds : List D} {vs : List V} (n : Nat), RepL K G Z ds vs → RepL K G Z (ds.take n) (vs.take n)
  | _, _, 0, _ => by simp [RepL]
  | [], _, _ + 1, h => by cases h; exact rfl
  | _ :: _, _, n + 1, ⟨v, r, e, h, t⟩ => by cases e; exact ⟨v, _, rfl, h, RepL.take n t⟩
theorem RepL.drop : ∀ {ds : List D} {vs : List V} (n : Nat), RepL K G Z ds vs → RepL K G Z (ds.drop n) (vs.drop n)
  | _, _, 0, h => h
  | [], _, _ + 1, h => by cases h; exact rfl
  | _ :: _, _, n + 1, ⟨v, r, e, h, t⟩ => by cases e; exact RepL.drop n t
theorem RepC.up (l : Z.le Z') {H : Hp} {a : Addr} : ∀ {c : C}, RepC K G Z H a c → RepC K G Z' H a c
  | .lst ds, ⟨vs, e, r⟩ => ⟨vs, e, r.up l⟩
  | .dct ks ds, ⟨vs, e, n, r⟩ => ⟨vs, e, n, r.up l⟩
  | .ins c ns ds, ⟨dx, vs, e, n, r⟩ => ⟨dx, vs, e, n, r.up l⟩
  | .dead, _ => trivial
theorem RepC.some_ {H : Hp} {a : Addr} : ∀ {c : C}, RepC K G Z H a c → c.live = true → ∃ o, H a = some o
  | .lst ds, ⟨vs, e, r⟩, _ => ⟨_, e⟩
  | .dct ks ds, ⟨vs, e, n, r⟩, _ => ⟨_, e⟩
  | .ins c ns ds, ⟨dx, vs, e, n, r⟩, _ => ⟨_, e⟩
theorem RepC.congr {H H' : Hp} {a : Addr} (q : H' a = H a) : ∀ {c : C}, RepC K G Z H a c → RepC K G Z H' a c
  | .lst ds, ⟨vs, e, r⟩ => ⟨vs, q.trans e, r⟩
  | .dct ks ds, ⟨vs, e, n, r⟩ => ⟨vs, q.trans e, n, r⟩
  | .ins c ns ds, ⟨dx, vs, e, n, r⟩ => ⟨dx, vs, q.trans e, n, r⟩
  | .dead, _ => trivial
/-- a thing is laid that will never change -/
theorem RelH.lay {H : Hp} {st : Sto} {p : Addr} {o : HO} (R : RelH K G Z H st) (hp : H p = none) : Z.le ⟨upd Z.fz p o, Z.rho, Z.tmp⟩ ∧ RelH K G ⟨upd Z.fz p o, Z.rho, Z.tmp⟩ (upd H p o) st := by
  have zp : Z.fz p = none := R.fz.free hp
  have l : Z.le ⟨upd Z.fz p o, Z.rho, Z.tmp⟩ := ⟨fun b u e => by
    show upd Z.fz p o b = some u
    rw [upd_ne (ne_of_none e zp)]; exact e, ⟨[], by simp⟩, rfl⟩
  refine ⟨l, ⟨fun b u e => ?_, R.len, fun i c a e1 e2 => ?_, fun i c a e1 e2 e3 => ?_, R.inj, fun b u e => ?_, fun a u e => ?_⟩⟩
  · have e' : upd Z.fz p o b = some u := e
    by_cases hb : b = p
    · subst hb; rw [upd_same] at e' ⊢; exact e'
    · rw [upd_ne hb] at e' ⊢; exact R.fz _ _ e'
  · have q := R.cell i c a e1 e2
    cases hc : c.live with
    | false => cases c <;> first | trivial | cases hc
    | true =>
      obtain ⟨u, hu⟩ := q.some_ hc
      exact (q.congr (upd_ne (ne_of_none hu hp))).up l
  · show upd Z.fz p o a = none
    obtain ⟨u, hu⟩ := (R.cell i c a e1 e3).some_ e2
    rw [upd_ne (ne_of_none hu hp)]; exact R.off i c a e1 e2 e3
  · rw [upd_ne (ne_of_none (R.tmp _ _ e) hp)]; exact R.tmp _ _ e
  · refine ⟨?_, (R.tof a u e).2⟩
    show upd Z.fz p o a = none
    rw [upd_ne (ne_of_none (R.tmp _ _ e) hp)]; exact (R.tof a u e).1
/-- what is new may lie ahead too -/
theorem RelH.more {H : Hp} {st : Sto} {p : Addr} {o : HO} (R : RelH K G Z H st) (hp : H p = none) : RelH K G Z (upd H p o) st := by
  refine ⟨fun b u e => ?_, R.len, fun i c a e1 e2 => ?_, R.off, R.inj, fun b u e => ?_, R.tof⟩
  · rw [upd_ne (ne_of_none (R.fz _ _ e) hp)]; exact R.fz _ _ e
  · have q := R.cell i c a e1 e2
    cases hc : c.live with
    | false => cases c <;> first | trivial | cases hc
    | true =>
      obtain ⟨u, hu⟩ := q.some_ hc
      exact q.congr (upd_ne (ne_of_none hu hp))
  · rw [upd_ne (ne_of_none (R.tmp _ _ e) hp)]; exact R.tmp _ _ e
/-- a new thing that may change -/
theorem RelH.add {H : Hp} {st : Sto} {p : Addr} {o : HO} {c : C} (R : RelH K G Z H st) (hp : H p = none) (hc : ∀ Z', Z.le Z' → RepC K G Z' (upd H p o) p c) :
    Z.le ⟨Z.fz, Z.rho ++ [p], Z.tmp⟩ ∧ RelH K G ⟨Z.fz, Z.rho ++ [p], Z.tmp⟩ (upd H p o) (st ++ [c]) := by
  have l : Z.le ⟨Z.fz, Z.rho ++ [p], Z.tmp⟩ := ⟨Same.refl _, ⟨[p], rfl⟩, rfl⟩
  have R2 := R.more (o := o) hp
  have old : ∀ {i : Nat} {u : C}, (st ++ [c])[i]? = some u → st[i]? = some u ∧ (Z.rho ++ [p])[i]? = Z.rho[i]? ∨ i = st.length ∧ u = c := fun {i u} e => by
    by_cases hi : i < st.length
    · rw [List.getElem?_append_left hi] at e
      exact .inl ⟨e, List.getElem?_append_left (by rw [R.len]; exact hi)⟩
    · rw [List.getElem?_append_right (by omega)] at e
      have : i - st.length = 0 := by
        cases q : i - st.length with
        | zero => rfl
        | succ n => rw [q] at e; simp at e
      rw [this] at e
      simp at e
      exact .inr ⟨by omega, e.symm⟩
  have lastR : (Z.rho ++ [p])[st.length]? = some p := by rw [← R.len]; simp
  refine ⟨l, ⟨R2.fz, by simp [R.len], fun i u a e1 e2 => ?_, fun i u a e1 hu e2 => ?_, fun i j u u' a e1 e2 h1 h2 r1 r2 => ?_, R2.tmp, fun a u e => ⟨(R.tof a u e).1, fun i c' e1 hu => ?_⟩⟩⟩
  · rcases old e1 with ⟨e, q⟩ | ⟨rfl, rfl⟩
    · exact (R2.cell i u a e (q ▸ e2)).up l
    · have : some p = some a := lastR.symm.trans e2
      cases this
      exact hc _ l
  · rcases old e1 with ⟨e, q⟩ | ⟨rfl, rfl⟩
    · exact R.off i u a e hu (q ▸ e2)
    · have : some p = some a := lastR.symm.trans e2
      cases this
      exact R.fz.free hp
  · have apart : ∀ {i : Nat} {u : C} {a : Addr}, st[i]? = some u → u.live = true → Z.rho[i]? = some a → a ≠ p := fun e h q z => by
      subst z
      obtain ⟨o', ho⟩ := (R.cell _ _ _ e q).some_ h
      rw [hp] at ho; cases ho
    rcases old e1 with ⟨e, q⟩ | ⟨rfl, rfl⟩
    · rcases old e2 with ⟨e', q'⟩ | ⟨rfl, rfl⟩
      · exact R.inj i j u u' a e e' h1 h2 (q ▸ r1) (q' ▸ r2)
      · have : some p = some a := lastR.symm.trans r2
        cases this
        exact (apart e h1 (q ▸ r1) rfl).elim
    · have : some p = some a := lastR.symm.trans r1
      cases this
      rcases old e2 with ⟨e', q'⟩ | ⟨rfl, rfl⟩
      · exact (apart e' h2 (q' ▸ r2) rfl).elim
      · rfl
  · rcases old e1 with ⟨e', q⟩ | ⟨rfl, rfl⟩
    · show (Z.rho ++ [p])[i]? ≠ some a
      rw [q]; exact (R.tof a u e).2 i c' e' hu
    · show (Z.rho ++ [p])[st.length]? ≠ some a
      rw [lastR]
      intro z
      cases z
      rw [R.tmp _ _ e] at hp; cases hp
/-- a changing thing is changed -/
theorem RelH.put {H : Hp} {st : Sto} {i : Nat} {p : Addr} {o : HO} {c c' : C} (R : RelH K G Z H st) (hi : st[i]? = some c) (hl : c.live = true) (hp : Z.rho[i]? = some p) (hc : RepC K G Z (upd H p o) p c') :
    RelH K G Z (upd H p o) (st.set i c') := by
  have lt : i < st.length := (List.getElem?_eq_some_iff.mp hi).1
  have zp := R.off i c p hi hl hp
  have alt : ∀ {j : Nat} {u : C}, (st.set i c')[j]? = some u → (j = i ∧ u = c') ∨ (j ≠ i ∧ st[j]? = some u) := fun {j u} e => by
    by_cases hj : j = i
    · subst hj
      rw [List.getElem?_set_self lt] at e
      cases e
      exact .inl ⟨rfl, rfl⟩
    · rw [List.getElem?_set_ne (Ne.symm hj)] at e
      exact .inr ⟨hj, e⟩
  have tne : ∀ {a : Addr} {u : HO}, Z.tmp a = some u → a ≠ p := fun {a u} e z => (R.tof a u e).2 i c hi hl (z ▸ hp)
  refine ⟨fun b u e => ?_, by rw [R.len]; simp, fun j u a e1 e2 => ?_, fun j u a e1 hu e2 => ?_, fun j k u u' a e1 e2 h1 h2 r1 r2 => ?_, fun b u e => ?_, fun a u e => ⟨(R.tof a u e).1, fun j u' e1 hu => ?_⟩⟩
  · rw [upd_ne (ne_of_none e zp)]; exact R.fz _ _ e
  · rcases alt e1 with ⟨rfl, rfl⟩ | ⟨hj, e⟩
    · rw [hp] at e2; cases e2; exact hc
    · have q := R.cell j u a e e2
      cases hu : u.live with
      | false => cases u <;> first | trivial | cases hu
      | true =>
        refine q.congr (upd_ne ?_)
        rintro rfl
        exact hj (R.inj j i u c _ e hi hu hl e2 hp)
  · rcases alt e1 with ⟨rfl, rfl⟩ | ⟨hj, e⟩
    · rw [hp] at e2; cases e2; exact zp
    · exact R.off j u a e hu e2
  · rcases alt e1 with ⟨rfl, rfl⟩ | ⟨hj, e⟩
    · rcases alt e2 with ⟨rfl, rfl⟩ | ⟨hk, e'⟩
      · rfl
      · exact R.inj _ k c u' a hi e' hl h2 r1 r2
    · rcases alt e2 with ⟨rfl, rfl⟩ | ⟨hk, e'⟩
      · exact R.inj j _ u c a e hi h1 hl r1 r2
      · exact R.inj j k u u' a e e' h1 h2 r1 r2
  · rw [upd_ne (tne e)]; exact R.tmp _ _ e
  · rcases alt e1 with ⟨rfl, rfl⟩ | ⟨hj, e'⟩
    · exact (R.tof a u e).2 _ c hi hl
    · exact (R.tof a u e).2 j u' e' hu
end
/-! ### what is being made -/
section
variable {K : PySem.W.Frag} {G : Nat → Addr} {Z : Gh} {H : Hp} {st : Sto} {p : Addr} {o o' : HO}
theorem RepC.fz {K : PySem.W.Frag} {G : Nat → Addr} {fz : Hp} {rho : List Addr} {t t' : Hp} {H : Hp} {a : Addr} {c : C} (h : RepC K G ⟨fz, rho, t⟩ H a c) : RepC K G ⟨fz, rho, t'⟩ H a c := by
  have e : Gh.ex ⟨fz, rho, t⟩ ⟨fz, rho, t'⟩ := ⟨Same.refl _, ⟨[], by simp⟩⟩
  cases c with
  | lst ds => obtain ⟨vs, h1, r⟩ := h; exact ⟨vs, h1, RepL.ux e _ _ r⟩
  | dct ks ds => obtain ⟨vs, h1, n, r⟩ := h; exact ⟨vs, h1, n, RepL.ux e _ _ r⟩
  | ins c ns ds => obtain ⟨dx, vs, h1, n, r⟩ := h; exact ⟨dx, vs, h1, n, RepL.ux e _ _ r⟩
  | dead => trivial
theorem RelH.addTmp (R : RelH K G Z H st) (hp : H p = none) : RelH K G ⟨Z.fz, Z.rho, upd Z.tmp p o⟩ (upd H p o) st := by
  have R2 := R.more (o := o) hp
  refine ⟨R2.fz, R2.len, fun i c a e1 e2 => RepC.fz (R2.cell i c a e1 e2), R2.off, R2.inj, fun b u e => ?_, fun a u e => ?_⟩
  · have e' : upd Z.tmp p o b = some u := e
    by_cases hb : b = p
    · subst hb; rw [upd_same] at e' ⊢; exact e'
    · rw [upd_ne hb] at e' ⊢; exact R.tmp _ _ e'
  · have e' : upd Z.tmp p o a = some u := e
    by_cases hb : a = p
    · subst hb
      refine ⟨R.fz.free hp, fun i c e1 hl q => ?_⟩
      obtain ⟨o', ho⟩ := (R.cell i c a e1 q).some_ hl
      rw [hp] at ho; cases ho
    · rw [upd_ne hb] at e'; exact R.tof a u e'
theorem RelH.setTmp (R : RelH K G Z H st) (hp : Z.tmp p = some o) : RelH K G ⟨Z.fz, Z.rho, upd Z.tmp p o'⟩ (upd H p o') st := by
  have off := R.tof p o hp
  refine ⟨fun b u e => ?_, R.len, fun i c a e1 e2 => ?_, R.off, R.inj, fun b u e => ?_, fun a u e => ?_⟩
  · rw [upd_ne (ne_of_none e off.1)]; exact R.fz _ _ e
  · have q := R.cell i c a e1 e2
    cases hc : c.live with
    | false => cases c <;> first | trivial | cases hc
    | true =>
      refine RepC.fz (q.congr (upd_ne ?_))
      rintro rfl
      exact off.2 i c e1 hc e2
  · have e' : upd Z.tmp p o' b = some u := e
    by_cases hb : b = p
    · subst hb; rw [upd_same] at e' ⊢; exact e'
    · rw [upd_ne hb] at e' ⊢; exact R.tmp _ _ e'
  · have e' : upd Z.tmp p o' a = some u := e
    by_cases hb : a = p
    · subst hb; exact off
    · rw [upd_ne hb] at e'; exact R.tof a u e'
/-- it is made, and will not change -/
theorem RelH.tmpFz {t : Hp} (R : RelH K G Z H st) (ht : Z.tmp = upd t p o) (hn : t p = none) : RelH K G ⟨upd Z.fz p o, Z.rho, t⟩ H st ∧ Z.ex ⟨upd Z.fz p o, Z.rho, t⟩ := by
  have hp : Z.tmp p = some o := by rw [ht, upd_same]
  have off := R.tof p o hp
  have l : Z.ex ⟨upd Z.fz p o, Z.rho, t⟩ := ⟨fun b u e => by
    show upd Z.fz p o b = some u
    rw [upd_ne (ne_of_none e off.1)]; exact e, ⟨[], by simp⟩⟩
  have tt : ∀ {b : Addr} {u : HO}, t b = some u → Z.tmp b = some u ∧ b ≠ p := fun {b u} e => by
    have ne : b ≠ p := ne_of_none e hn
    exact ⟨by rw [ht, upd_ne ne]; exact e, ne⟩
  refine ⟨⟨fun b u e => ?_, R.len, fun i c a e1 e2 => ?_, fun i c a e1 hl e2 => ?_, R.inj, fun b u e => R.tmp _ _ (tt e).1, fun a u e => ⟨?_, (R.tof a u (tt e).1).2⟩⟩, l⟩
  · have e' : upd Z.fz p o b = some u := e
    by_cases hb : b = p
    · subst hb; rw [upd_same] at e'; cases e'; exact R.tmp _ _ hp
    · rw [upd_ne hb] at e'; exact R.fz _ _ e'
  · have q := R.cell i c a e1 e2
    cases c with
    | lst ds => obtain ⟨vs, h1, r⟩ := q; exact ⟨vs, h1, RepL.ux l _ _ r⟩
    | dct ks ds => obtain ⟨vs, h1, n, r⟩ := q; exact ⟨vs, h1, n, RepL.ux l _ _ r⟩
    | ins c ns ds => obtain ⟨dx, vs, h1, n, r⟩ := q; exact ⟨dx, vs, h1, n, RepL.ux l _ _ r⟩
    | dead => trivial
  · show upd Z.fz p o a = none
    have ne : a ≠ p := fun z => off.2 i c e1 hl (by rw [← z]; exact e2)
    rw [upd_ne ne]; exact R.off i c a e1 hl e2
  · show upd Z.fz p o a = none
    rw [upd_ne (tt e).2]; exact (R.tof a u (tt e).1).1
/-- it is made, and may change on -/
theorem RelH.tmpC {t : Hp} {c : C} (R : RelH K G Z H st) (ht : Z.tmp = upd t p o) (hn : t p = none) (hc : ∀ Z', Z.ex Z' → RepC K G Z' H p c) : RelH K G ⟨Z.fz, Z.rho ++ [p], t⟩ H (st ++ [c]) ∧ Z.ex ⟨Z.fz, Z.rho ++ [p], t⟩ := by
  have hp : Z.tmp p = some o := by rw [ht, upd_same]
  have off := R.tof p o hp
  have l : Z.ex ⟨Z.fz, Z.rho ++ [p], t⟩ := ⟨Same.refl _, ⟨[p], rfl⟩⟩
  have tt : ∀ {b : Addr} {u : HO}, t b = some u → Z.tmp b = some u ∧ b ≠ p := fun {b u} e => by
    have ne : b ≠ p := ne_of_none e hn
    exact ⟨by rw [ht, upd_ne ne]; exact e, ne⟩
  have lastR : (Z.rho ++ [p])[st.length]? = some p := by rw [← R.len]; simp
  have old : ∀ {i : Nat} {u : C}, (st ++ [c])[i]? = some u → st[i]? = some u ∧ (Z.rho ++ [p])[i]? = Z.rho[i]? ∨ i = st.length ∧ u = c := fun {i u} e => by
    by_cases hi : i < st.length
    · rw [List.getElem?_append_left hi] at e
      exact .inl ⟨e, List.getElem?_append_left (by rw [R.len]; exact hi)⟩
    · rw [List.getElem?_append_right (by omega)] at e
      have : i - st.length = 0 := by
        cases q : i - st.length with
        | zero => rfl
        | succ n => rw [q] at e; simp at e
      rw [this] at e
      simp at e
      exact .inr ⟨by omega, e.symm⟩
  refine ⟨⟨R.fz, by simp [R.len], fun i u a e1 e2 => ?_, fun i u a e1 hu e2 => ?_, fun i j u u' a e1 e2 h1 h2 r1 r2 => ?_, fun b u e => R.tmp _ _ (tt e).1, fun a u e => ⟨(R.tof a u (tt e).1).1, fun i c' e1 hu => ?_⟩⟩, l⟩
  · rcases old e1 with ⟨e, q⟩ | ⟨rfl, rfl⟩
    · have z := R.cell i u a e (q ▸ e2)
      cases u with
      | lst ds => obtain ⟨vs, h1, r⟩ := z; exact ⟨vs, h1, RepL.ux l _ _ r⟩
      | dct ks ds => obtain ⟨vs, h1, n, r⟩ := z; exact ⟨vs, h1, n, RepL.ux l _ _ r⟩
      | ins c ns ds => obtain ⟨dx, vs, h1, n, r⟩ := z; exact ⟨dx, vs, h1, n, RepL.ux l _ _ r⟩
      | dead => trivial
    · have : some p = some a := lastR.symm.trans e2
      cases this
      exact hc _ l
  · rcases old e1 with ⟨e, q⟩ | ⟨rfl, rfl⟩
    · exact R.off i u a e hu (q ▸ e2)
    · have : some p = some a := lastR.symm.trans e2
      cases this
      exact off.1
  · rcases old e1 with ⟨e, q⟩ | ⟨rfl, rfl⟩
    · rcases old e2 with ⟨e', q'⟩ | ⟨rfl, rfl⟩
      · exact R.inj i j u u' a e e' h1 h2 (q ▸ r1) (q' ▸ r2)
      · have : some p = some a := lastR.symm.trans r2
        cases this
        exact (off.2 i u e h1 (q ▸ r1)).elim
    · have : some p = some a := lastR.symm.trans r1
      cases this
      rcases old e2 with ⟨e', q'⟩ | ⟨rfl, rfl⟩
      · exact (off.2 j u' e' h2 (q' ▸ r2)).elim
      · rfl
  · rcases old e1 with ⟨e', q⟩ | ⟨rfl, rfl⟩
    · show (Z.rho ++ [p])[i]? ≠ some a
      rw [q]; exact (R.tof a u (tt e).1).2 i c' e' hu
    · show (Z.rho ++ [p])[st.length]? ≠ some a
      rw [lastR]
      intro z
      cases z
      exact (tt e).2 rfl
end
/-! ### what is no more reached may be forgotten -/
mutual
def below (n : Nat) : D → Bool
  | .lst xs => belowL n xs
  | .rls xs => belowL n xs
  | .tup xs => belowL n xs
  | .dct _ xs => belowL n xs
  | .ins _ _ xs => belowL n xs
  | .ptr i => decide (i < n)
  | _ => true
def belowL (n : Nat) : List D → Bool
  | [] => true
  | d :: ds => below n d && belowL n ds
end
def belowC (n : Nat) : C → Bool
  | .lst xs => belowL n xs
  | .dct _ xs => belowL n xs
  | .ins _ _ xs => belowL n xs
  | .dead => true
section
variable {K : PySem.W.Frag} {G : Nat → Addr} {Z Z' : Gh}
mutual
theorem Rep.cut {n : Nat} (hf : Same Z.fz Z'.fz) (hr : ∀ i : Nat, i < n → Z'.rho[i]? = Z.rho[i]?) : ∀ (d : D) (v : V), below n d = true → Rep K G Z d v → Rep K G Z' d v
  | .non, _, _, h => h
  | .bl _, _, _, h => h
  | .int _, _, _, h => h
  | .str _, _, _, h => h
  | .lst ds, _, b, ⟨a, vs, e, q, r⟩ => ⟨a, vs, e, hf _ _ q, RepL.cut hf hr ds vs b r⟩
  | .rls ds, _, b, ⟨a, vs, e, q, r⟩ => ⟨a, vs, e, hf.seq q, RepL.cut hf hr ds vs b r⟩
  | .tup ds, _, b, ⟨a, vs, e, q, r⟩ => ⟨a, vs, e, Same.sqt' hf q, RepL.cut hf hr ds vs b r⟩
  | .dct ks ds, _, b, ⟨a, vs, e, q, m, r⟩ => ⟨a, vs, e, hf _ _ q, m, RepL.cut hf hr ds vs b r⟩
  | .ins c ns ds, _, b, ⟨a, dx, vs, e, q, m, r⟩ => ⟨a, dx, vs, e, hf _ _ q, m, RepL.cut hf hr ds vs b r⟩
  | .ptr i, _, b, ⟨a, q, e⟩ => ⟨a, by rw [hr i (by unfold below at b; exact of_decide_eq_true b)]; exact q, e⟩
  | .cls _, _, _, h => h
theorem RepL.cut {n : Nat} (hf : Same Z.fz Z'.fz) (hr : ∀ i : Nat, i < n → Z'.rho[i]? = Z.rho[i]?) : ∀ (ds : List D) (vs : List V), belowL n ds = true → RepL K G Z ds vs → RepL K G Z' ds vs
  | [], _, _, h => h
  | d :: ds, _, b, ⟨v, r, e, h, t⟩ => by
    unfold belowL at b
    rw [Bool.and_eq_true] at b
    exact ⟨v, r, e, Rep.cut hf hr d v b.1 h, RepL.cut hf hr ds r b.2 t⟩
end
theorem RepC.cut {n : Nat} (hf : Same Z.fz Z'.fz) (hr : ∀ i : Nat, i < n → Z'.rho[i]? = Z.rho[i]?) {H : Hp} {a : Addr} : ∀ {c : C}, belowC n c = true → RepC K G Z H a c → RepC K G Z' H a c
  | .lst ds, b, ⟨vs, e, r⟩ => ⟨vs, e, RepL.cut hf hr ds vs b r⟩
  | .dct ks ds, b, ⟨vs, e, m, r⟩ => ⟨vs, e, m, RepL.cut hf hr ds vs b r⟩
  | .ins c ns ds, b, ⟨dx, vs, e, m, r⟩ => ⟨dx, vs, e, m, RepL.cut hf hr ds vs b r⟩
  | .dead, _, _ => trivial
/-- the changing things from n on are let go -/
theorem RelH.drop {H : Hp} {st : Sto} (R : RelH K G Z H st) (n : Nat) (hb : (st.take n).all (belowC n) = true) : RelH K G ⟨Z.fz, Z.rho.take n, Z.tmp⟩ H (st.take n) := by
  have g : ∀ {i : Nat} {c : C}, (st.take n)[i]? = some c → i < n ∧ st[i]? = some c := fun {i c} e => by
    have hi : i < (st.take n).length := (List.getElem?_eq_some_iff.mp e).1
    have hi' : i < n := by rw [List.length_take] at hi; omega
    rw [List.getElem?_take_of_lt hi'] at e
    exact ⟨hi', e⟩
  have r : ∀ {i : Nat} {a : Addr}, (Z.rho.take n)[i]? = some a → Z.rho[i]? = some a := fun {i a} e => by
    have hi : i < (Z.rho.take n).length := (List.getElem?_eq_some_iff.mp e).1
    have hi' : i < n := by rw [List.length_take] at hi; omega
    rw [List.getElem?_take_of_lt hi'] at e
    exact e
  refine ⟨R.fz, by rw [List.length_take, List.length_take, R.len], fun i c a e1 e2 => ?_, fun i c a e1 hu e2 => R.off i c a (g e1).2 hu (r e2), fun i j c c' a e1 e2 h1 h2 r1 r2 => R.inj i j c c' a (g e1).2 (g e2).2 h1 h2 (r r1) (r r2), R.tmp, fun a o e => ⟨(R.tof a o e).1, fun i c e1 hu q => (R.tof a o e).2 i c (g e1).2 hu (r q)⟩⟩
  refine RepC.cut (Z := Z) (Z' := ⟨Z.fz, Z.rho.take n, Z.tmp⟩) (Same.refl _) (fun i hi => List.getElem?_take_of_lt hi) (n := n) ?_ (R.cell i c a (g e1).2 (r e2))
  exact List.all_eq_true.mp hb c (List.mem_of_getElem? e1)
end
end S
/-! what is reckoned with such values, and how readings follow from it -/
namespace S
open PySem L2
inductive R (α : Type) where
  | ok (a : α) (st : Sto)
  | exc (c : Nat) (ns : List Str) (ds : List D) (st : Sto)
  | stuck
def R.bind {α β : Type} (r : R α) (f : α → Sto → R β) : R β := match r with
  | .ok a st => f a st
  | .exc c ns ds st => .exc c ns ds st
  | .stuck => .stuck
inductive RS where
  | nx (env : Env) (st : Sto)
  | rt (d : D) (st : Sto)
  | bk (env : Env) (st : Sto)
  | ct (env : Env) (st : Sto)
  | exc (env : Env) (c : Nat) (ns : List Str) (ds : List D) (st : Sto)
  | stuck
abbrev M := Env → Sto → R D
abbrev MA := Env → Sto → R (List D)
abbrev MB := Env → Sto → R Bool
abbrev MS := Env → Sto → RS
section
variable (K : PySem.W.Frag) (G : Nat → Addr)
def XOk (Z : Gh) (ns : List Str) (ds : List D) (x : Option Addr) : Prop :=
  (ns = [] ∧ ds = [] ∧ x = none) ∨ ∃ a vs, x = some a ∧ Z.fz a = some (.xd (ns.zip vs)) ∧ ns.length = vs.length ∧ RepL K G Z ds vs
def Post {α β : Type} (P : Gh → α → β → Prop) (E : XK) (Z : Gh) (r : R α) (Q : β → Hp → Prop) : Prop := match r with
  | .ok a st => ∀ Z' b H', Z.le Z' → RelH K G Z' H' st → P Z' a b → Q b H'
  | .exc c ns ds st => ∀ Z' H' x, Z.le Z' → RelH K G Z' H' st → XOk K G Z' ns ds x → E (.ref (G c)) x H'
  | .stuck => False
def tG {α β : Type} (P : Gh → α → β → Prop) (W : WX) (m : Env → Sto → R α) : St → Hp → (β → Hp → Prop) → Prop := fun σ H Q =>
  ∃ Z env st, RelH K G Z H st ∧ RepE K G Z env σ ∧ Post K G P (WE W σ) Z (m env st) Q
def rD : Gh → D → V → Prop := fun Z => Rep K G Z
def rL : Gh → List D → List V → Prop := fun Z => RepL K G Z
def rB : Gh → Bool → Bool → Prop := fun _ a b => a = b
abbrev tS (W : WX) (m : M) : TE := tG K G (rD K G) W m
abbrev tSA (W : WX) (m : MA) : TA := tG K G (rL K G) W m
abbrev tSB (W : WX) (m : MB) : TT := tG K G rB W m
def PostS (W : WX) (Z : Gh) (r : RS) (Dn : Ends) : Prop := match r with
  | .nx env st => ∀ Z' σ H, Z.le Z' → RelH K G Z' H st → RepE K G Z' env σ → Dn.nx σ H
  | .rt d st => ∀ Z' v H, Z.le Z' → RelH K G Z' H st → Rep K G Z' d v → Dn.rt v H
  | .bk env st => ∀ Z' σ H, Z.le Z' → RelH K G Z' H st → RepE K G Z' env σ → Dn.bk σ H
  | .ct env st => ∀ Z' σ H, Z.le Z' → RelH K G Z' H st → RepE K G Z' env σ → Dn.ct σ H
  | .exc env c ns ds st => ∀ Z' σ H x, Z.le Z' → RelH K G Z' H st → RepE K G Z' env σ → XOk K G Z' ns ds x → W (.ref (G c)) x σ H
  | .stuck => False
def tSS (W : WX) (m : MS) : TS := fun Dn σ H => ∃ Z env st, RelH K G Z H st ∧ RepE K G Z env σ ∧ PostS K G W Z (m env st) Dn
end
section
variable {K : PySem.W.Frag} {G : Nat → Addr} {α β γ δ : Type} {P : Gh → α → β → Prop} {P' : Gh → γ → δ → Prop} {E : XK} {Z Z' : Gh} {W : WX}
theorem Post.up {r : R α} {Q : β → Hp → Prop} (l : Z.le Z') (h : Post K G P E Z r Q) : Post K G P E Z' r Q := by
  cases r with
  | ok a st => exact fun Z2 b H l2 => h Z2 b H (l.trans l2)
  | exc c ns ds st => exact fun Z2 H x l2 => h Z2 H x (l.trans l2)
  | stuck => exact h
theorem PostS.up {r : RS} {Dn : Ends} (l : Z.le Z') (h : PostS K G W Z r Dn) : PostS K G W Z' r Dn := by
  cases r with
  | nx env st => exact fun Z2 b H l2 => h Z2 b H (l.trans l2)
  | rt d st => exact fun Z2 b H l2 => h Z2 b H (l.trans l2)
  | bk env st => exact fun Z2 b H l2 => h Z2 b H (l.trans l2)
  | ct env st => exact fun Z2 b H l2 => h Z2 b H (l.trans l2)
  | exc env c ns ds st => exact fun Z2 σ H x l2 => h Z2 σ H x (l.trans l2)
  | stuck => exact h
/-- one thing behind another -/
theorem Post.bind {r : R α} {f : α → Sto → R γ} {Q : δ → Hp → Prop} {Q1 : β → Hp → Prop} (h : Post K G P' E Z (r.bind f) Q)
    (k : ∀ a st Z' b H', Z.le Z' → RelH K G Z' H' st → P Z' a b → Post K G P' E Z' (f a st) Q → Q1 b H') : Post K G P E Z r Q1 := by
  cases r with
  | ok a st => exact fun Z2 b H l R p => k a st Z2 b H l R p (Post.up l h)
  | exc c ns ds st => exact h
  | stuck => exact h
/-- the thing itself is wanted -/
theorem Post.now {a : α} {st : Sto} {Q : β → Hp → Prop} {b : β} {H : Hp} (h : Post K G P E Z (.ok a st) Q) (R : RelH K G Z H st) (p : P Z a b) : Q b H := h Z b H (Gh.le.refl Z) R p
theorem Post.imp {r : R α} {Q Q1 : β → Hp → Prop} (h : Post K G P E Z r Q) (k : ∀ b H, Q b H → Q1 b H) : Post K G P E Z r Q1 := by
  cases r with
  | ok a st => exact fun Z2 b H l R p => k _ _ (h Z2 b H l R p)
  | exc c ns ds st => exact h
  | stuck => exact h
end
/-! ### readings may be made narrower -/
section
variable {X : Cx} {e : Expr} {es : List Expr}
theorem pe_of {t t' : TE} (h : PE X e t) (k : ∀ σ H Q, t' σ H Q → t σ H Q) : PE X e t' := ⟨fun pins s σ H Q I q => h.run pins s σ H Q I (k σ H Q q)⟩
theorem pt_of {t t' : TT} (h : PT X e t) (k : ∀ σ H Q, t' σ H Q → t σ H Q) : PT X e t' := ⟨fun pins s σ H Q I q => h.run pins s σ H Q I (k σ H Q q)⟩
theorem pw_of {t t' : TT} (h : PW X e t) (k : ∀ σ H Q, t' σ H Q → t σ H Q) : PW X e t' := ⟨fun wh pins s σ H Q I q => h.run wh pins s σ H Q I (k σ H Q q)⟩
theorem pa_of {t t' : TA} (h : PA X es t) (k : ∀ σ H Q, t' σ H Q → t σ H Q) : PA X es t' := ⟨fun pos pins s σ H Q I q => h.run pos pins s σ H Q I (k σ H Q q)⟩
theorem ps_of {st : Stmt} {t t' : TS} (h : PS X st t) (k : ∀ Dn σ H, t' Dn σ H → t Dn σ H) : PS X st t' := ⟨fun pins s σ H Dn I q => h.run pins s σ H Dn I (k Dn σ H q)⟩
theorem pss_of {st : List Stmt} {t t' : TS} (h : PSs X st t) (k : ∀ Dn σ H, t' Dn σ H → t Dn σ H) : PSs X st t' := ⟨fun pins s σ H Dn I q => h.run pins s σ H Dn I (k Dn σ H q)⟩
theorem pg_of {t t' : TG} (h : PG X e t) (k : ∀ v σ H Q, t' v σ H Q → t v σ H Q) : PG X e t' := ⟨fun pins s σ H v u Q I r q => h.run pins s σ H v u Q I r (k v σ H Q q)⟩
theorem OpR.or {f : Value → Value → Sem Value} {r r' : R2} (h : OpR X f r) (h' : OpR X f r') : OpR X f (fun x y H Q => r x y H Q ∨ r' x y H Q) := fun pins s σ H x y v u Q I a b q => q.elim (h pins s σ H x y v u Q I a b) (h' pins s σ H x y v u Q I a b)
theorem CallR.or {f : Value} {r r' : List V → Hp → VK → Prop} (h : CallR X f r) (h' : CallR X f r') : CallR X f (fun xs H Q => r xs H Q ∨ r' xs H Q) := fun pins s σ H xs us Q I a q => q.elim (h pins s σ H xs us Q I a) (h' pins s σ H xs us Q I a)
theorem IxR.or' {r r' : R2} (h : IxR X r) (h' : IxR X r') : IxR X (fun x y H Q => r x y H Q ∨ r' x y H Q) := fun a b pins s σ H x y v u Q I p q z => z.elim (h a b pins s σ H x y v u Q I p q) (h' a b pins s σ H x y v u Q I p q)
end
/-! ### names, constants, arguments -/
def mVar (i : Nat) : M := fun env st => match env[i]? with
  | some (some d) => .ok d st
  | _ => .stuck
def mC (d : D) : M := fun _ st => .ok d st
def mNil : MA := fun _ st => .ok [] st
def mCons (m : M) (n : MA) : MA := fun env st => (m env st).bind fun a st1 => (n env st1).bind fun r st2 => .ok (a :: r) st2
section
variable {K : PySem.W.Frag} {G : Nat → Addr} {W : WX} {σ : St} {H : Hp}
theorem rs_var {i : Nat} {Q : VK} (h : tS K G W (mVar i) σ H Q) : tVar i σ H Q := by
  obtain ⟨Z, env, st, R, S, h⟩ := h
  unfold mVar at h
  split at h
  · rename_i d e
    obtain ⟨v, e1, r⟩ := S.get e
    exact ⟨v, e1, h.now R r⟩
  · exact h.elim
theorem rs_c {d : D} {v : V} {Q : VK} (hv : ∀ Z, Rep K G Z d v) (h : tS K G W (mC d) σ H Q) : tC v σ H Q := by
  obtain ⟨Z, env, st, R, S, h⟩ := h
  exact Post.now (P := rD K G) h R (hv Z)
/-- one behind another, in a reading -/
theorem rs_bind {α β γ δ : Type} {P : Gh → α → β → Prop} {P' : Gh → γ → δ → Prop} {m : Env → Sto → R α} {f : α → Env → Sto → R γ} {Q : δ → Hp → Prop} {Q1 : β → Hp → Prop} (h : tG K G P' W (fun env st => (m env st).bind fun a st1 => f a env st1) σ H Q)
    (k : ∀ a b H1 Z env st, RelH K G Z H1 st → RepE K G Z env σ → P Z a b → Post K G P' (WE W σ) Z (f a env st) Q → Q1 b H1) : tG K G P W m σ H Q1 := by
  obtain ⟨Z, env, st, R, S, h⟩ := h
  exact ⟨Z, env, st, R, S, h.bind fun a st' Z' b H' l R' p q => k a b H' Z' env st' R' (S.up l) p q⟩
theorem rs_nil {Q : List V → Hp → Prop} (h : tSA K G W mNil σ H Q) : tNil σ H Q := by
  obtain ⟨Z, env, st, R, S, h⟩ := h
  exact Post.now (P := rL K G) h R (show RepL K G Z [] [] from rfl)
theorem rs_cons {m : M} {n : MA} {Q : List V → Hp → Prop} (h : tSA K G W (mCons m n) σ H Q) : tCons (tS K G W m) (tSA K G W n) σ H Q := by
  refine rs_bind (f := fun a env st1 => (n env st1).bind fun r st2 => .ok (a :: r) st2) h fun a x H1 Z env st R S p q => ?_
  refine ⟨Z, env, st, R, S, q.bind fun r st' Z' xs H' l R' p' q' => ?_⟩
  exact q'.now R' ⟨x, xs, rfl, Rep.up l a x p, p'⟩
variable {X : Cx} {e : Expr} {es : List Expr}
theorem pS_var (i : Nat) {x : Str} {pos : Pos} (h : PE X (.Name x pos) (tVar i)) : PE X (.Name x pos) (tS K G W (mVar i)) := pe_of h fun _ _ _ => rs_var
theorem pS_int {i j pos} : PE X (.Constant (.int i) j pos) (tS K G W (mC (.int i))) := pe_of pe_int fun _ _ _ => rs_c fun _ => rfl
theorem pS_bl {b j pos} : PE X (.Constant (.bool b) j pos) (tS K G W (mC (.bl b))) := pe_of pe_bl fun _ _ _ => rs_c fun _ => rfl
theorem pS_non {j pos} : PE X (.Constant .none j pos) (tS K G W (mC .non)) := pe_of pe_non fun _ _ _ => rs_c fun _ => rfl
theorem pS_str {x j pos} : PE X (.Constant (.str x) j pos) (tS K G W (mC (.str x))) := pe_of pe_str fun _ _ _ => rs_c fun _ => rfl
theorem pS_glob {x : Str} {d : D} {v : V} {u : Value} {pos : Pos} (hg : Gl X x) (hm : X.mg x = some u) (r : RelV v u) (hv : ∀ Z, Rep K G Z d v) (hd : (x == ("__debug__" : Str)) = false := by decide) : PE X (.Name x pos) (tS K G W (mC d)) := pe_of (pe_glob hg hm r hd) fun _ _ _ => rs_c hv
theorem pSA_nil : PA X [] (tSA K G W mNil) := pa_of pa_nil fun _ _ _ => rs_nil
theorem pSA_cons {m : M} {n : MA} (h : PE X e (tS K G W m)) (h' : PA X es (tSA K G W n)) (hs : starEach (e :: es) X.env = (false, eval e X.env) :: starEach es X.env := by rfl) : PA X (e :: es) (tSA K G W (mCons m n)) := pa_of (pa_cons h h' hs) fun _ _ _ => rs_cons
end
/-! ### statements -/
def mNext : MS := fun env st => .nx env st
def mSeq (a b : MS) : MS := fun env st => match a env st with
  | .nx env' st' => b env' st'
  | r => r
def mDo (m : M) : MS := fun env st => match m env st with
  | .ok _ st' => .nx env st'
  | .exc c ns ds st' => .exc env c ns ds st'
  | .stuck => .stuck
def mRet (m : M) : MS := fun env st => match m env st with
  | .ok d st' => .rt d st'
  | .exc c ns ds st' => .exc env c ns ds st'
  | .stuck => .stuck
def mRetN : MS := fun _ st => .rt .non st
def mIfS (c : MB) (a b : MS) : MS := fun env st => match c env st with
  | .ok k st' => if k = true then a env st' else b env st'
  | .exc c ns ds st' => .exc env c ns ds st'
  | .stuck => .stuck
def mSet (i : Nat) (m : M) : MS := fun env st => match m env st with
  | .ok d st' => .nx (env.set i (some d)) st'
  | .exc c ns ds st' => .exc env c ns ds st'
  | .stuck => .stuck
section
variable {K : PySem.W.Frag} {G : Nat → Addr} {W : WX} {X : Cx} {e : Expr} {st : Stmt} {rest : List Stmt} {Dn : Ends} {σ : St} {H : Hp}
theorem rs_seq {a b : MS} (h : tSS K G W (mSeq a b) Dn σ H) : tSeq (tSS K G W a) (tSS K G W b) Dn σ H := by
  obtain ⟨Z, env, st, R, S, h⟩ := h
  refine ⟨Z, env, st, R, S, ?_⟩
  unfold mSeq at h
  cases q : a env st with
  | nx env' st' => rw [q] at h; exact fun Z' σ' H' l R' S' => ⟨Z', env', st', R', S', PostS.up l h⟩
  | rt d st' => rw [q] at h; exact h
  | bk env' st' => rw [q] at h; exact h
  | ct env' st' => rw [q] at h; exact h
  | exc env' c ns ds st' => rw [q] at h; exact h
  | stuck => rw [q] at h; exact h
theorem pSs_nil : PSs X [] (tSS K G W mNext) := pss_of pss_nil fun Dn σ H ⟨Z, env, st, R, S, h⟩ => h Z σ H (Gh.le.refl Z) R S
theorem pSs_cons {a b : MS} (h : PS X st (tSS K G W a)) (h' : PSs X rest (tSS K G W b)) : PSs X (st :: rest) (tSS K G W (mSeq a b)) := pss_of (pss_cons h h') fun _ _ _ => rs_seq
theorem pSs_one {a : MS} (h : PS X st (tSS K G W a)) : PSs X [st] (tSS K G W a) := pss_one h
/-- from an expression to what follows it -/
theorem post_stm {m : M} {Q : VK} {f : D → Sto → RS} {env : Env} {st : Sto} {Z : Gh} (S : RepE K G Z env σ) (h : PostS K G W Z (match m env st with
  | .ok d st' => f d st'
  | .exc c ns ds st' => .exc env c ns ds st'
  | .stuck => .stuck) Dn) (k : ∀ d st' Z' v H', Z.le Z' → RelH K G Z' H' st' → Rep K G Z' d v → PostS K G W Z' (f d st') Dn → Q v H') : Post K G (rD K G) (WE W σ) Z (m env st) Q := by
  cases q : m env st with
  | ok d st' => rw [q] at h; exact fun Z' v H' l R' r => k d st' Z' v H' l R' r (PostS.up l h)
  | exc c ns ds st' => rw [q] at h; exact fun Z' H' x l R' r => h Z' σ H' x l R' (S.up l) r
  | stuck => rw [q] at h; exact h
theorem pS_do {m : M} {pos : Pos} (h : PE X e (tS K G W m)) (hs : swapsWith e none pos.line X.env = pure false := by rfl) : PS X (.Expr e pos) (tSS K G W (mDo m)) :=
  ps_of (ps_expr h hs) fun Dn σ H ⟨Z, env, st, R, S, h⟩ => ⟨Z, env, st, R, S, post_stm (f := fun _ st' => .nx env st') S h fun d st' Z' v H' l R' r q => q Z' σ H' (Gh.le.refl _) R' (S.up l)⟩
theorem pS_ret {m : M} {pos : Pos} (h : PE X e (tS K G W m)) : PS X (.Return (some e) pos) (tSS K G W (mRet m)) :=
  ps_of (ps_ret h) fun Dn σ H ⟨Z, env, st, R, S, h⟩ => ⟨Z, env, st, R, S, post_stm (f := fun d st' => .rt d st') S h fun d st' Z' v H' l R' r q => q Z' v H' (Gh.le.refl _) R' r⟩
theorem pS_retN {pos : Pos} : PS X (.Return none pos) (tSS K G W mRetN) := ps_of ps_retN fun Dn σ H ⟨Z, env, st, R, S, h⟩ => h Z .non H (Gh.le.refl _) R rfl
theorem pS_set {m : M} {i : Nat} {x : Str} {pos pos' : Pos} (hN : X.N.Nodup) (hi : X.N[i]? = some x) (hx : Loc X.env.scope x) (he : PE X e (tS K G W m)) (hs : swapsWith e (some (.Name x pos')) pos.line X.env = pure false := by rfl)
    (hf : X.fn x = true ∨ X.env.scope.names.lookup x = some .local := by first | exact .inl rfl | exact .inr rfl | assumption) : PS X (.Assign [.Name x pos'] e pos) (tSS K G W (mSet i m)) :=
  ps_of (ps_set (i := i) hN hi hx he hs hf) fun Dn σ H ⟨Z, env, st, R, S, h⟩ => ⟨Z, env, st, R, S, post_stm (f := fun d st' => .nx (env.set i (some d)) st') S h fun d st' Z' v H' l R' r q => q Z' _ H' (Gh.le.refl _) R' ((S.up l).set r i)⟩
theorem pS_if {c : Expr} {a b : List Stmt} {mc : MB} {ma mb : MS} {pos : Pos} (hc : PT X c (tSB K G W mc)) (ha : PSs X a (tSS K G W ma)) (hb : PSs X b (tSS K G W mb)) : PS X (.If c a b pos) (tSS K G W (mIfS mc ma mb)) :=
  ps_of (ps_if hc ha hb) fun Dn σ H ⟨Z, env, st, R, S, h⟩ => by
    refine ⟨Z, env, st, R, S, ?_⟩
    unfold mIfS at h
    cases q : mc env st with
    | ok k st' =>
      rw [q] at h
      intro Z' b' H' l R' e
      cases (show k = b' from e)
      cases k with
      | true => exact iteT ⟨Z', env, st', R', S.up l, PostS.up l h⟩
      | false => exact iteF ⟨Z', env, st', R', S.up l, PostS.up l h⟩
    | exc c ns ds st' => rw [q] at h; exact fun Z' H' x l R' r => h Z' σ H' x l R' (S.up l) r
    | stuck => rw [q] at h; exact h
end
/-! ### tests -/
def mTest (m : M) : MB := fun env st => (m env st).bind fun d st' => match d with
  | .bl b => .ok b st'
  | _ => .stuck
def mNotB (m : MB) : MB := fun env st => (m env st).bind fun b st' => .ok (!b) st'
def mAndB (m n : MB) : MB := fun env st => (m env st).bind fun b st' => if b = true then n env st' else .ok false st'
def mOrB (m n : MB) : MB := fun env st => (m env st).bind fun b st' => if b = true then .ok true st' else n env st'
def mIf (c : MB) (a b : M) : M := fun env st => (c env st).bind fun k st' => if k = true then a env st' else b env st'
def mAnd (m n : M) : M := fun env st => (m env st).bind fun d st' => match d with
  | .bl b => if b = true then n env st' else .ok (.bl false) st'
  | _ => .stuck
def mOr (m n : M) : M := fun env st => (m env st).bind fun d st' => match d with
  | .bl b => if b = true then .ok (.bl true) st' else n env st'
  | _ => .stuck
def mNot (m : M) : M := fun env st => (m env st).bind fun d st' => match d with
  | .bl b => .ok (.bl (!b)) st'
  | _ => .stuck
/-- what a changing thing is now -/
def rd (st : Sto) : D → D
  | .ptr i => match st[i]? with
    | some (.lst xs) => .lst xs
    | some (.dct ks ds) => .dct ks ds
    | some (.ins c ns ds) => .ins c ns ds
    | _ => .ptr i
  | d => d
def truthD (st : Sto) (d : D) : Option Bool := match rd st d with
  | .non => some false
  | .bl b => some b
  | .int i => some (i != 0)
  | .str x => if x.length ≤ sizeLine then some ((x.length : Int) != 0) else none
  | .lst xs => some (!xs.isEmpty)
  | .rls xs => some (!xs.isEmpty)
  | .tup xs => some (!xs.isEmpty)
  | _ => none
def mTru (m : M) : MB := fun env st => (m env st).bind fun d st' => match truthD st' d with
  | some b => .ok b st'
  | none => .stuck
section
variable {K : PySem.W.Frag} {G : Nat → Addr} {W : WX} {Z : Gh} {H : Hp} {st : Sto} {d : D} {v : V}
theorem RelH.lst {xs : List D} (R : RelH K G Z H st) (r : Rep K G Z d v) (e : rd st d = .lst xs) : ∃ p vs, v = .ref p ∧ H p = some (.lst vs) ∧ RepL K G Z xs vs := by
  cases d with
  | ptr i =>
    obtain ⟨a, ha, rfl⟩ := r
    unfold rd at e
    dsimp only at e
    split at e <;> first | cases e | skip
    rename_i q
    obtain ⟨vs, h1, h2⟩ := R.cell _ _ _ q ha
    exact ⟨a, vs, rfl, h1, h2⟩
  | lst ys =>
    cases (show D.lst ys = .lst xs from e)
    obtain ⟨a, vs, rfl, h, q⟩ := r
    exact ⟨a, vs, rfl, R.fz _ _ h, q⟩
  | _ => cases e
theorem RelH.ins {c : Nat} {ns : List Str} {ds : List D} (R : RelH K G Z H st) (r : Rep K G Z d v) (e : rd st d = .ins c ns ds) : ∃ p dx vs, v = .ref p ∧ H p = some (.ins (G c) dx (ns.zip vs)) ∧ ns.length = vs.length ∧ RepL K G Z ds vs := by
  cases d with
  | ptr i =>
    obtain ⟨a, ha, rfl⟩ := r
    unfold rd at e
    dsimp only at e
    split at e <;> first | cases e | skip
    rename_i q
    obtain ⟨dx, vs, h1, h2, h3⟩ := R.cell _ _ _ q ha
    exact ⟨a, dx, vs, rfl, h1, h2, h3⟩
  | ins c' ns' ds' =>
    cases (show D.ins c' ns' ds' = .ins c ns ds from e)
    obtain ⟨a, dx, vs, rfl, h, q, r⟩ := r
    exact ⟨a, dx, vs, rfl, R.fz _ _ h, q, r⟩
  | _ => cases e
theorem RelH.dct {ks : List Key} {ds : List D} (R : RelH K G Z H st) (r : Rep K G Z d v) (e : rd st d = .dct ks ds) : ∃ p vs, v = .ref p ∧ H p = some (.dK (ks.zip vs)) ∧ ks.length = vs.length ∧ RepL K G Z ds vs := by
  cases d with
  | ptr i =>
    obtain ⟨a, ha, rfl⟩ := r
    unfold rd at e
    dsimp only at e
    split at e <;> first | cases e | skip
    rename_i q
    obtain ⟨vs, h1, h2, h3⟩ := R.cell _ _ _ q ha
    exact ⟨a, vs, rfl, h1, h2, h3⟩
  | dct ks' ds' =>
    cases (show D.dct ks' ds' = .dct ks ds from e)
    obtain ⟨a, vs, rfl, h, q, r⟩ := r
    exact ⟨a, vs, rfl, R.fz _ _ h, q, r⟩
  | _ => cases e
theorem rd_flat (e : rd st d = d') : (∃ i, d = .ptr i) ∨ d = d' := by
  cases d with
  | ptr i => exact .inl ⟨i, rfl⟩
  | _ => exact .inr e
theorem rd_ptr (i : Nat) : (∃ xs, rd st (.ptr i) = .lst xs) ∨ (∃ ks ds, rd st (.ptr i) = .dct ks ds) ∨ (∃ c ns ds, rd st (.ptr i) = .ins c ns ds) ∨ rd st (.ptr i) = .ptr i := by
  unfold rd
  dsimp only
  split
  · exact .inl ⟨_, rfl⟩
  · exact .inr (.inl ⟨_, _, rfl⟩)
  · exact .inr (.inr (.inl ⟨_, _, _, rfl⟩))
  · exact .inr (.inr (.inr rfl))
/-- what does not change is told by itself -/
theorem rd_self {d' : D} (e : rd st d = d') (h : (match d' with | .lst _ => false | .dct .. => false | .ins .. => false | .ptr _ => false | _ => true) = true) : d = d' := by
  rcases rd_flat e with ⟨i, rfl⟩ | q
  · rcases rd_ptr (st := st) i with ⟨_, q⟩ | ⟨_, _, q⟩ | ⟨_, _, _, q⟩ | q <;> (rw [q] at e; subst e; cases h)
  · exact q
theorem RelH.rls {xs : List D} (R : RelH K G Z H st) (r : Rep K G Z d v) (e : rd st d = .rls xs) : ∃ p vs, v = .ref p ∧ SqL K H p vs ∧ RepL K G Z xs vs := by
  cases rd_self e rfl
  obtain ⟨a, vs, rfl, h, q⟩ := r
  exact ⟨a, vs, rfl, R.fz.seq h, q⟩
theorem RelH.tup {xs : List D} (R : RelH K G Z H st) (r : Rep K G Z d v) (e : rd st d = .tup xs) : ∃ p vs, v = .ref p ∧ SqT K H p vs ∧ RepL K G Z xs vs := by
  cases rd_self e rfl
  obtain ⟨a, vs, rfl, h, q⟩ := r
  exact ⟨a, vs, rfl, Same.sqt' R.fz h, q⟩
theorem RelH.non (r : Rep K G Z d v) (e : rd st d = .non) : v = .non := by cases rd_self e rfl; exact r
theorem RelH.bl {b : Bool} (r : Rep K G Z d v) (e : rd st d = .bl b) : v = .bl b := by cases rd_self e rfl; exact r
theorem RelH.int {i : Int} (r : Rep K G Z d v) (e : rd st d = .int i) : v = .int i := by cases rd_self e rfl; exact r
theorem RelH.str {x : Str} (r : Rep K G Z d v) (e : rd st d = .str x) : v = .str x := by cases rd_self e rfl; exact r
theorem RepL.emp {ds : List D} {vs : List V} (r : RepL K G Z ds vs) : ds.isEmpty = vs.isEmpty := by
  have := r.length
  cases ds <;> cases vs <;> first | rfl | cases this
theorem tru_of {b : Bool} (R : RelH K G Z H st) (r : Rep K G Z d v) (e : truthD st d = some b) : TruV K v H b := by
  unfold truthD at e
  split at e
  · rename_i q; cases e; cases RelH.non r q; rfl
  · rename_i q; cases e; cases RelH.bl r q; rfl
  · rename_i q; cases e; cases RelH.int r q; rfl
  · rename_i q
    split at e <;> cases e
    rename_i hz
    cases RelH.str r q
    exact ⟨hz, rfl⟩
  · rename_i q; cases e
    obtain ⟨p, vs, rfl, h, rl⟩ := R.lst r q
    exact .inl ⟨vs, SqL.of h, by rw [rl.emp]⟩
  · rename_i q; cases e
    obtain ⟨p, vs, rfl, h, rl⟩ := R.rls r q
    exact .inl ⟨vs, h, by rw [rl.emp]⟩
  · rename_i q; cases e
    obtain ⟨p, vs, rfl, h, rl⟩ := R.tup r q
    exact .inr (.inl ⟨vs, h, by rw [rl.emp]⟩)
  · cases e
variable {X : Cx} {e : Expr}
theorem pS_tru {m : M} (h : PE X e (tS X.K G W m)) (hw : ∀ whole : Sem Value, PySem.isTrue e X.env whole = (do
      let z ← whole
      standAt e.pos
      holding [z] (truthy z)) := by intro _; rfl) : PT X e (tSB X.K G W (mTru m)) :=
  pt_of (pt_truth h hw) fun σ H Q h => rs_bind (f := fun d _ st' => match truthD st' d with | some b => .ok b st' | none => .stuck) h fun d v H1 Z env st R S p q => by
    cases t : truthD st d with
    | none => rw [t] at q; exact q.elim
    | some b => rw [t] at q; exact ⟨b, tru_of R p t, Post.now (P := rB) q R rfl⟩
/-- from a value's reading to a bool's -/
theorem rs_test {m : M} {σ : St} {Q : Bool → Hp → Prop} (h : tSB K G W (mTest m) σ H Q) : tS K G W m σ H fun x H1 => ∃ k, x = .bl k ∧ Q k H1 :=
  rs_bind (f := fun d _ st' => match d with | .bl b => .ok b st' | _ => .stuck) h fun d v H1 Z env st R S p q => by
    cases d with
    | bl b => exact ⟨b, p, Post.now (P := rB) q R rfl⟩
    | _ => exact q.elim
theorem pS_not {m : MB} {pos : Pos} (h : PT X e (tSB K G W m)) : PT X (.UnaryOp .Not e pos) (tSB K G W (mNotB m)) :=
  pt_of (pt_not h) fun σ H Q h => rs_bind (f := fun b _ st' => .ok (!b) st') h fun b b' H1 Z env st R S p q => by
    cases (show b = b' from p)
    exact Post.now (P := rB) q R rfl
theorem pS_and {b : Expr} {rest : List Expr} {m n : MB} {pos : Pos} (h : PT X e (tSB K G W m)) (h' : PW X (.BoolOp .And (b :: rest) pos) (tSB K G W n)) : PW X (.BoolOp .And (e :: b :: rest) pos) (tSB K G W (mAndB m n)) :=
  pw_of (pw_and h h') fun σ H Q h => rs_bind (f := fun b env st' => if b = true then n env st' else .ok false st') h fun b b' H1 Z env st R S p q => by
    cases (show b = b' from p)
    cases b with
    | true => exact iteT ⟨Z, env, st, R, S, q⟩
    | false => exact iteF (Post.now (P := rB) q R rfl)
theorem pS_and1 {m : MB} {pos : Pos} (h : PT X e (tSB K G W m)) : PW X (.BoolOp .And [e] pos) (tSB K G W m) := pw_and1 h
theorem pS_or {b : Expr} {rest : List Expr} {m n : MB} {pos : Pos} (h : PT X e (tSB K G W m)) (h' : PW X (.BoolOp .Or (b :: rest) pos) (tSB K G W n)) : PW X (.BoolOp .Or (e :: b :: rest) pos) (tSB K G W (mOrB m n)) :=
  pw_of (pw_or h h') fun σ H Q h => rs_bind (f := fun b env st' => if b = true then .ok true st' else n env st') h fun b b' H1 Z env st R S p q => by
    cases (show b = b' from p)
    cases b with
    | true => exact iteT (Post.now (P := rB) q R rfl)
    | false => exact iteF ⟨Z, env, st, R, S, q⟩
theorem pS_or1 {m : MB} {pos : Pos} (h : PT X e (tSB K G W m)) : PW X (.BoolOp .Or [e] pos) (tSB K G W m) := pw_or1 h
theorem pS_andV {b : Expr} {rest : List Expr} {m n : M} {pos : Pos} (h : PE X e (tS K G W m)) (h' : PE X (.BoolOp .And (b :: rest) pos) (tS K G W n)) : PE X (.BoolOp .And (e :: b :: rest) pos) (tS K G W (mAnd m n)) :=
  pe_of (pe_and h h') fun σ H Q h => rs_bind (f := fun d env st' => match d with | .bl b => if b = true then n env st' else .ok (.bl false) st' | _ => .stuck) h fun d v H1 Z env st R S p q => by
    cases d with
    | bl b =>
      cases b with
      | true => exact ⟨true, p, iteT ⟨Z, env, st, R, S, q⟩⟩
      | false => exact ⟨false, p, iteF (Post.now (P := rD K G) q R rfl)⟩
    | _ => exact q.elim
theorem pS_orV {b : Expr} {rest : List Expr} {m n : M} {pos : Pos} (h : PE X e (tS K G W m)) (h' : PE X (.BoolOp .Or (b :: rest) pos) (tS K G W n)) : PE X (.BoolOp .Or (e :: b :: rest) pos) (tS K G W (mOr m n)) :=
  pe_of (pe_or h h') fun σ H Q h => rs_bind (f := fun d env st' => match d with | .bl b => if b = true then .ok (.bl true) st' else n env st' | _ => .stuck) h fun d v H1 Z env st R S p q => by
    cases d with
    | bl b =>
      cases b with
      | true => exact ⟨true, p, iteT (Post.now (P := rD K G) q R rfl)⟩
      | false => exact ⟨false, p, iteF ⟨Z, env, st, R, S, q⟩⟩
    | _ => exact q.elim
theorem pS_notV {m : M} {pos : Pos} (h : PE X e (tS K G W m)) : PE X (.UnaryOp .Not e pos) (tS K G W (mNot m)) :=
  pe_of (pe_not h) fun σ H Q h => rs_bind (f := fun (d : D) env st' => match d with | .bl b => R.ok (D.bl (!b)) st' | _ => .stuck) h fun d v H1 Z env st R S p q => by
    cases d with
    | bl b => exact ⟨b, p, Post.now (P := rD K G) q R rfl⟩
    | _ => exact q.elim
theorem pS_ifE {c b : Expr} {mc : MB} {m n : M} {pos : Pos} (hc : PT X c (tSB K G W mc)) (h : PE X e (tS K G W m)) (h' : PE X b (tS K G W n)) : PE X (.IfExp c e b pos) (tS K G W (mIf mc m n)) :=
  pe_of (pe_ifExp hc h h') fun σ H Q h => rs_bind (f := fun k env st' => if k = true then m env st' else n env st') h fun b b' H1 Z env st R S p q => by
    cases (show b = b' from p)
    cases b with
    | true => exact iteT ⟨Z, env, st, R, S, q⟩
    | false => exact iteF ⟨Z, env, st, R, S, q⟩
end
end S
/-! operators -/
namespace S
open PySem L2
section
variable (K : PySem.W.Frag) (G : Nat → Addr)
def Ad2 (f : D → D → Sto → R D) (r : R2) : Prop := ∀ (E : XK) (Z : Gh) (H : Hp) (st : Sto) (a b : D) (x y : V) (Q : VK), RelH K G Z H st → Rep K G Z a x → Rep K G Z b y → Post K G (rD K G) E Z (f a b st) Q → r x y H Q
def Ad1 (f : D → Sto → R D) (r : List V → Hp → VK → Prop) : Prop := ∀ (E : XK) (Z : Gh) (H : Hp) (st : Sto) (a : D) (x : V) (Q : VK), RelH K G Z H st → Rep K G Z a x → Post K G (rD K G) E Z (f a st) Q → r [x] H Q
def AdL (f : List D → Sto → R D) (r : List V → Hp → VK → Prop) : Prop := ∀ (E : XK) (Z : Gh) (H : Hp) (st : Sto) (as : List D) (xs : List V) (Q : VK), RelH K G Z H st → RepL K G Z as xs → Post K G (rD K G) E Z (f as st) Q → r xs H Q
end
def mBin (f : D → D → Sto → R D) (m n : M) : M := fun env st => (m env st).bind fun a st1 => (n env st1).bind fun b st2 => f a b st2
def mApp (f : List D → Sto → R D) (m : MA) : M := fun env st => (m env st).bind fun as st1 => f as st1
def mChain (f g : D → D → Sto → R D) (m n o : M) : M := fun env st => (m env st).bind fun a st1 => (n env st1).bind fun b st2 => (f a b st2).bind fun d st3 => match d with
  | .bl k => if k = true then (o env st3).bind fun c st4 => g b c st4 else .ok (.bl false) st3
  | _ => .stuck
section
variable {K : PySem.W.Frag} {G : Nat → Addr} {W : WX} {X : Cx} {a b c : Expr} {m n o : M} {pos : Pos} {σ : St} {H : Hp}
theorem rs_bin {f : D → D → Sto → R D} {r : R2} {Q : VK} (hf : Ad2 K G f r) (h : tS K G W (mBin f m n) σ H Q) : tOp r (tS K G W m) (tS K G W n) σ H Q := by
  refine rs_bind (f := fun a env st1 => (n env st1).bind fun b st2 => f a b st2) h fun a x H1 Z env st R S p q => ?_
  exact ⟨Z, env, st, R, S, q.bind fun b st' Z' y H' l R' p' q' => hf _ Z' H' st' a b x y Q R' (Rep.up l a x p) p' q'⟩
theorem pS_op {f : D → D → Sto → R D} {r : R2} {op : Operator} (ho : OpR X (binaryOp op) r) (hf : Ad2 X.K G f r) (ha : PE X a (tS X.K G W m)) (hb : PE X b (tS X.K G W n)) : PE X (.BinOp a op b pos) (tS X.K G W (mBin f m n)) :=
  pe_of (pe_op ho ha hb) fun _ _ _ => rs_bin hf
theorem pS_cmp {f : D → D → Sto → R D} {r : R2} {op : CmpOp} (ho : OpR X (compareOp op) r) (hf : Ad2 X.K G f r) (ha : PE X a (tS X.K G W m)) (hb : PE X b (tS X.K G W n)) (hm : behindInMarks op b = false) : PE X (.Compare a [op] [b] pos) (tS X.K G W (mBin f m n)) :=
  pe_of (pe_cmpR ho ha hb hm) fun _ _ _ => rs_bin hf
theorem pS_cmpT {f : D → D → Sto → R D} {r : R2} {op : CmpOp} (ho : OpR X (compareOp op) r) (hf : Ad2 X.K G f r) (ha : PE X a (tS X.K G W m)) (hb : PE X b (tS X.K G W n)) (hm : behindInMarks op b = false) : PT X (.Compare a [op] [b] pos) (tSB X.K G W (mTest (mBin f m n))) :=
  pt_of (pt_cmpR ho ha hb hm) fun σ H Q h => rs_bin hf (rs_test h)
theorem rs_chain {f g : D → D → Sto → R D} {r r' : R2} {Q : VK} (hf : Ad2 K G f r) (hg : Ad2 K G g r') (h : tS K G W (mChain f g m n o) σ H Q) : tChain r r' (tS K G W m) (tS K G W n) (tS K G W o) σ H Q := by
  refine rs_bind (f := fun a env st1 => (n env st1).bind fun b st2 => (f a b st2).bind fun d st3 => match d with
    | .bl k => if k = true then (o env st3).bind fun c st4 => g b c st4 else .ok (.bl false) st3
    | _ => .stuck) h fun a x H1 Z env st R S p q => ?_
  refine ⟨Z, env, st, R, S, q.bind fun b st' Z' y H' l R' p' q' => ?_⟩
  refine hf (WE W σ) Z' H' st' a b x y _ R' (Rep.up l a x p) p' (q'.bind fun d st2 Z2 z H2 l2 R2 p2 q2 => ?_)
  cases d with
  | bl k =>
    refine ⟨k, p2, ?_⟩
    cases k with
    | false => exact iteF (Post.now (P := rD K G) q2 R2 rfl)
    | true => exact iteT ⟨Z2, env, st2, R2, S.up (l.trans l2), q2.bind fun c st4 Z4 w' H4 l4 R4 p4 q4 => hg _ Z4 H4 st4 b c y w' Q R4 (Rep.up (l2.trans l4) b y p') p4 q4⟩
  | _ => exact q2.elim
theorem pS_chain {f g : D → D → Sto → R D} {r r' : R2} {op op' : CmpOp} (ho : OpR X (compareOp op) r) (ho' : OpR X (compareOp op') r') (hf : Ad2 X.K G f r) (hg : Ad2 X.K G g r') (ha : PE X a (tS X.K G W m)) (hb : PE X b (tS X.K G W n)) (hc : PE X c (tS X.K G W o))
    (hl : lastMarks [op, op'] [b, c] = false := by rfl) : PE X (.Compare a [op, op'] [b, c] pos) (tS X.K G W (mChain f g m n o)) := pe_of (pe_chain ho ho' ha hb hc hl) fun _ _ _ => rs_chain hf hg
theorem pS_chainT {f g : D → D → Sto → R D} {r r' : R2} {op op' : CmpOp} (ho : OpR X (compareOp op) r) (ho' : OpR X (compareOp op') r') (hf : Ad2 X.K G f r) (hg : Ad2 X.K G g r') (ha : PE X a (tS X.K G W m)) (hb : PE X b (tS X.K G W n)) (hc : PE X c (tS X.K G W o))
    (hl : lastMarks [op, op'] [b, c] = false := by rfl) : PT X (.Compare a [op, op'] [b, c] pos) (tSB X.K G W (mTest (mChain f g m n o))) := pt_of (pt_chain ho ho' ha hb hc hl) fun σ H Q h => rs_chain hf hg (rs_test h)
theorem pS_ix {f : D → D → Sto → R D} {r : R2} (ho : IxR X r) (hf : Ad2 X.K G f r) (ha : PE X a (tS X.K G W m)) (hb : PE X b (tS X.K G W n)) (hp : PlainIx b) : PE X (.Subscript a b pos) (tS X.K G W (mBin f m n)) :=
  pe_of (pe_ix ho ha hb hp) fun _ _ _ => rs_bin hf
theorem rs_app {f : List D → Sto → R D} {r : List V → Hp → VK → Prop} {k : MA} {Q : VK} (hf : AdL K G f r) (h : tS K G W (mApp f k) σ H Q) : tCB r (tSA K G W k) σ H Q :=
  rs_bind (f := fun as _ st1 => f as st1) h fun as xs H1 Z env st R S p q => hf _ Z H1 st as xs Q R p q
end
/-! ### new things -/
section
variable {K : PySem.W.Frag} {G : Nat → Addr} {Z : Gh} {H : Hp} {st : Sto} {E : XK} {ds : List D} {vs : List V} {Q : VK}
theorem Post.newL (h : Post K G (rD K G) E Z (.ok (.lst ds) st) Q) (R : RelH K G Z H st) (r : RepL K G Z ds vs) {p : Addr} (hp : H p = none) : Q (.ref p) (upd H p (.lst vs)) := by
  obtain ⟨l, R'⟩ := R.lay (o := .lst vs) hp
  exact h _ _ _ l R' ⟨p, vs, rfl, upd_same, RepL.up l ds vs r⟩
theorem Post.newT (h : Post K G (rD K G) E Z (.ok (.tup ds) st) Q) (R : RelH K G Z H st) (r : RepL K G Z ds vs) {p : Addr} (hp : H p = none) : Q (.ref p) (upd H p (.tup vs)) := by
  obtain ⟨l, R'⟩ := R.lay (o := .tup vs) hp
  exact h _ _ _ l R' ⟨p, vs, rfl, .inl (.inl upd_same), RepL.up l ds vs r⟩
theorem Post.newC (h : Post K G (rD K G) E Z (.ok (.ptr st.length) (st ++ [.lst ds])) Q) (R : RelH K G Z H st) (r : RepL K G Z ds vs) {p : Addr} (hp : H p = none) : Q (.ref p) (upd H p (.lst vs)) := by
  obtain ⟨l, R'⟩ := R.add (o := .lst vs) (c := .lst ds) hp fun Z' l => ⟨vs, upd_same, RepL.up l ds vs r⟩
  exact h _ _ _ l R' ⟨p, by show (Z.rho ++ [p])[st.length]? = some p; rw [← R.len]; simp, rfl⟩
end
/-! ### arithmetic and order -/
def dI (f : Int → Int → D) (a b : D) (st : Sto) : R D := match a, b with
  | .int i, .int j => .ok (f i j) st
  | _, _ => .stuck
def dAdd (a b : D) (st : Sto) : R D := match rd st a, rd st b with
  | .int i, .int j => .ok (.int (i + j)) st
  | .str s, .str t => if s.length + t.length ≤ sizeLine then .ok (.str (s ++ t)) st else .stuck
  | .lst xs, .lst ys => if xs.length + ys.length ≤ sizeLine then .ok (.lst (xs ++ ys)) st else .stuck
  | .tup xs, .tup ys => if xs.length + ys.length ≤ sizeLine then .ok (.tup (xs ++ ys)) st else .stuck
  | _, _ => .stuck
def dSub : D → D → Sto → R D := dI fun i j => .int (i - j)
def dMul (a b : D) (st : Sto) : R D := match a, b with
  | .int i, .int j => if (-(2 ^ 64) < i ∧ i < 2 ^ 64) ∨ (-(2 ^ 64) < j ∧ j < 2 ^ 64) then .ok (.int (i * j)) st else .stuck
  | _, _ => .stuck
def dMod (a b : D) (st : Sto) : R D := match a, b with
  | .int i, .int j => if j ≠ 0 then .ok (.int (i.fmod j)) st else .stuck
  | _, _ => .stuck
def dDiv (a b : D) (st : Sto) : R D := match a, b with
  | .int i, .int j => if j ≠ 0 ∧ j.natAbs < 1073741824 then .ok (.int (i.fdiv j)) st else .stuck
  | _, _ => .stuck
def dPow (a b : D) (st : Sto) : R D := match a, b with
  | .int i, .int j => if 0 ≤ j ∧ j ≤ 1000000 ∧ i.natAbs < 2 ^ 64 then .ok (.int (i ^ j.toNat)) st else .stuck
  | _, _ => .stuck
def dLt (a b : D) (st : Sto) : R D := match a, b with
  | .int i, .int j => .ok (.bl (decide (i < j))) st
  | .str s, .str t => .ok (.bl (decide (s.cps.toList < t.cps.toList))) st
  | _, _ => .stuck
def dLe : D → D → Sto → R D := dI fun i j => .bl (decide (i ≤ j))
def dGt : D → D → Sto → R D := dI fun i j => .bl (decide (j < i))
def dGe : D → D → Sto → R D := dI fun i j => .bl (decide (j ≤ i))
def isNon : D → Bool
  | .non => true
  | _ => false
def dIsN (a b : D) (st : Sto) : R D := match b with
  | .non => .ok (.bl (isNon a)) st
  | _ => .stuck
def dNotN (a b : D) (st : Sto) : R D := match b with
  | .non => .ok (.bl (!isNon a)) st
  | _ => .stuck
section
variable {K : PySem.W.Frag} {G : Nat → Addr}
theorem ad_I {f : Int → Int → D} {g : Int → Int → V} (hfg : ∀ Z i j, Rep K G Z (f i j) (g i j)) : Ad2 K G (dI f) (rI0 g) := by
  intro E Z H st a b x y Q R p q h
  unfold dI at h
  split at h
  · cases (show x = _ from p); cases (show y = _ from q)
    exact ⟨_, _, rfl, rfl, Post.now (P := rD K G) h R (hfg Z _ _)⟩
  · exact h.elim
theorem ad_sub : Ad2 K G dSub (rI0 fun i j => .int (i - j)) := ad_I fun _ _ _ => rfl
theorem ad_le : Ad2 K G dLe (rI0 fun i j => .bl (decide (i ≤ j))) := ad_I fun _ _ _ => rfl
theorem ad_gt : Ad2 K G dGt (rI0 fun i j => .bl (decide (j < i))) := ad_I fun _ _ _ => rfl
theorem ad_ge : Ad2 K G dGe (rI0 fun i j => .bl (decide (j ≤ i))) := ad_I fun _ _ _ => rfl
theorem ad_mul : Ad2 K G dMul (rI CMul fun i j => .int (i * j)) := by
  intro E Z H st a b x y Q R p q h
  unfold dMul at h
  split at h
  · cases (show x = _ from p); cases (show y = _ from q)
    split at h
    · rename_i hc; exact ⟨_, _, rfl, rfl, hc, Post.now (P := rD K G) h R rfl⟩
    · exact h.elim
  · exact h.elim
theorem ad_mod : Ad2 K G dMod (rI (fun _ j => j ≠ 0) fun i j => .int (i.fmod j)) := by
  intro E Z H st a b x y Q R p q h
  unfold dMod at h
  split at h
  · cases (show x = _ from p); cases (show y = _ from q)
    split at h
    · rename_i hc; exact ⟨_, _, rfl, rfl, hc, Post.now (P := rD K G) h R rfl⟩
    · exact h.elim
  · exact h.elim
theorem ad_div : Ad2 K G dDiv (rI CDivN fun i j => .int (i.fdiv j)) := by
  intro E Z H st a b x y Q R p q h
  unfold dDiv at h
  split at h
  · cases (show x = _ from p); cases (show y = _ from q)
    split at h
    · rename_i hc; exact ⟨_, _, rfl, rfl, hc, Post.now (P := rD K G) h R rfl⟩
    · exact h.elim
  · exact h.elim
theorem ad_pow : Ad2 K G dPow (rI CPow fun i j => .int (i ^ j.toNat)) := by
  intro E Z H st a b x y Q R p q h
  unfold dPow at h
  split at h
  · cases (show x = _ from p); cases (show y = _ from q)
    split at h
    · rename_i hc; exact ⟨_, _, rfl, rfl, hc, Post.now (P := rD K G) h R rfl⟩
    · exact h.elim
  · exact h.elim
abbrev rLt : R2 := fun x y H Q => rI0 (fun i j => .bl (decide (i < j))) x y H Q ∨ ∃ i j, x = V.str i ∧ y = V.str j ∧ Q (V.bl (decide (i.cps.toList < j.cps.toList))) H
theorem op_ltS {X : Cx} : OpR X (compareOp .Lt) rLt := OpR.or op_lt op_lt_str
theorem ad_lt : Ad2 K G dLt rLt := by
  intro E Z H st a b x y Q R p q h
  unfold dLt at h
  split at h
  · cases (show x = _ from p); cases (show y = _ from q)
    exact .inl ⟨_, _, rfl, rfl, Post.now (P := rD K G) h R rfl⟩
  · cases (show x = _ from p); cases (show y = _ from q)
    exact .inr ⟨_, _, rfl, rfl, Post.now (P := rD K G) h R rfl⟩
  · exact h.elim
theorem rep_non {Z : Gh} {d : D} {v : V} (h : Rep K G Z d v) : isNon d = decide (v = .non) := by
  cases d with
  | non => cases (show v = .non from h); rfl
  | bl b => cases (show v = _ from h); rfl
  | int b => cases (show v = _ from h); rfl
  | str b => cases (show v = _ from h); rfl
  | lst b => obtain ⟨a, vs, rfl, _⟩ := h; rfl
  | rls b => obtain ⟨a, vs, rfl, _⟩ := h; rfl
  | tup b => obtain ⟨a, vs, rfl, _⟩ := h; rfl
  | dct ks b => obtain ⟨a, vs, rfl, _⟩ := h; rfl
  | ins c ns b => obtain ⟨a, dx, vs, rfl, _⟩ := h; rfl
  | ptr i => obtain ⟨a, _, rfl⟩ := h; rfl
  | cls c => cases (show v = _ from h); rfl
theorem ad_isN : Ad2 K G dIsN (fun x y H Q => y = V.non ∧ Q (V.bl (decide (x = V.non))) H) := by
  intro E Z H st a b x y Q R p q h
  unfold dIsN at h
  split at h
  · refine ⟨q, ?_⟩
    rw [← rep_non p]
    exact Post.now (P := rD K G) h R rfl
  · exact h.elim
theorem ad_notN : Ad2 K G dNotN (fun x y H Q => y = V.non ∧ Q (V.bl (!decide (x = V.non))) H) := by
  intro E Z H st a b x y Q R p q h
  unfold dNotN at h
  split at h
  · refine ⟨q, ?_⟩
    rw [← rep_non p]
    exact Post.now (P := rD K G) h R rfl
  · exact h.elim
abbrev rAdd (K : PySem.W.Frag) : R2 := fun x y H Q => (rI0 (fun i j => .int (i + j)) x y H Q ∨ ∃ i j, x = V.str i ∧ y = V.str j ∧ i.length + j.length ≤ sizeLine ∧ Q (V.str (i ++ j)) H) ∨ (rCat x y H Q ∨ rCatA K x y H Q)
theorem op_addS {X : Cx} : OpR X (binaryOp .Add) (rAdd X.K) := OpR.or (OpR.or op_add op_add_str) (OpR.or op_cat op_catA)
theorem ad_add : Ad2 K G dAdd (rAdd K) := by
  intro E Z H st a b x y Q R p q h
  unfold dAdd at h
  split at h
  · rename_i e1 e2
    cases RelH.int p e1; cases RelH.int q e2
    exact .inl (.inl ⟨_, _, rfl, rfl, Post.now (P := rD K G) h R rfl⟩)
  · rename_i e1 e2
    cases RelH.str p e1; cases RelH.str q e2
    split at h
    · rename_i hz; exact .inl (.inr ⟨_, _, rfl, rfl, hz, Post.now (P := rD K G) h R rfl⟩)
    · exact h.elim
  · rename_i e1 e2
    obtain ⟨l, xs, rfl, h1, r1⟩ := R.lst p e1
    obtain ⟨l', ys, rfl, h2, r2⟩ := R.lst q e2
    split at h
    · rename_i hz
      refine .inr (.inl ⟨l, l', xs, ys, rfl, rfl, h1, h2, by rw [← r1.length, ← r2.length]; exact hz, fun p hp => h.newL R (r1.append r2) hp⟩)
    · exact h.elim
  · rename_i e1 e2
    obtain ⟨l, xs, rfl, h1, r1⟩ := R.tup p e1
    obtain ⟨l', ys, rfl, h2, r2⟩ := R.tup q e2
    split at h
    · rename_i hz
      cases rd_self e1 rfl
      cases rd_self e2 rfl
      refine .inr (.inr ⟨l, l', xs, ys, rfl, rfl, h1, h2, by rw [← r1.length, ← r2.length]; exact hz, fun e => ?_, fun _ e => ?_, fun _ _ p hp => h.newT R (r1.append r2) hp⟩)
      · subst e
        have := r1.length
        cases List.length_eq_zero_iff.mp (by simpa using this)
        exact Post.now (P := rD K G) h R q
      · subst e
        have := r2.length
        cases List.length_eq_zero_iff.mp (by simpa using this)
        rw [List.append_nil] at h
        exact Post.now (P := rD K G) h R p
    · exact h.elim
  · exact h.elim
end
/-! ### items, lengths, slices -/
def dIx (a b : D) (st : Sto) : R D := match rd st a, b with
  | .lst xs, .int i => match atI xs i with | some d => .ok d st | none => .stuck
  | .rls xs, .int i => match atI xs i with | some d => .ok d st | none => .stuck
  | .tup xs, .int i => match atI xs i with | some d => .ok d st | none => .stuck
  | .str z, .int i => if z.length ≤ sizeLine then (match atI z.cps.toList i with | some c => .ok (.str ⟨#[c]⟩) st | none => .stuck) else .stuck
  | _, _ => .stuck
def dLen (as : List D) (st : Sto) : R D := match as with
  | [a] => match rd st a with
    | .lst xs => .ok (.int xs.length) st
    | .rls xs => .ok (.int xs.length) st
    | .tup xs => .ok (.int xs.length) st
    | .str z => if z.length ≤ sizeLine then .ok (.int z.length) st else .stuck
    | .dct ks _ => .ok (.int ks.length) st
    | _ => .stuck
  | _ => .stuck
section
variable {K : PySem.W.Frag} {G : Nat → Addr} {X : Cx}
theorem RepL.atI {Z : Gh} {ds : List D} {vs : List V} {i : Int} {d : D} (r : RepL K G Z ds vs) (e : atI ds i = some d) : ∃ v, atI vs i = some v ∧ Rep K G Z d v := by
  unfold L2.atI at e ⊢
  rw [← r.length]
  cases q : ixN ds.length i with
  | none => rw [q] at e; cases e
  | some j =>
    rw [q] at e
    exact r.get e
abbrev rIx (K : PySem.W.Frag) : R2 := fun x y H Q => (rIxL K x y H Q ∨ rIxT K x y H Q) ∨ rIxS x y H Q
theorem ix_S : IxR X (rIx X.K) := IxR.or' (IxR.or' ix_list ix_tup) ix_str
theorem ad_ix : Ad2 K G dIx (rIx K) := by
  intro E Z H st a b x y Q R p q h
  unfold dIx at h
  split at h
  · rename_i e1
    obtain ⟨l, xs, rfl, h1, r1⟩ := R.lst p e1
    cases (show y = _ from q)
    split at h
    · rename_i e2
      obtain ⟨v, e3, rv⟩ := r1.atI e2
      exact .inl (.inl ⟨l, xs, _, v, rfl, rfl, SqL.of h1, e3, Post.now (P := rD K G) h R rv⟩)
    · exact h.elim
  · rename_i e1
    obtain ⟨l, xs, rfl, h1, r1⟩ := R.rls p e1
    cases (show y = _ from q)
    split at h
    · rename_i e2
      obtain ⟨v, e3, rv⟩ := r1.atI e2
      exact .inl (.inl ⟨l, xs, _, v, rfl, rfl, h1, e3, Post.now (P := rD K G) h R rv⟩)
    · exact h.elim
  · rename_i e1
    obtain ⟨l, xs, rfl, h1, r1⟩ := R.tup p e1
    cases (show y = _ from q)
    split at h
    · rename_i e2
      obtain ⟨v, e3, rv⟩ := r1.atI e2
      exact .inl (.inr ⟨l, xs, _, v, rfl, rfl, h1, e3, Post.now (P := rD K G) h R rv⟩)
    · exact h.elim
  · rename_i e1
    cases RelH.str p e1
    cases (show y = _ from q)
    split at h
    · rename_i hz
      split at h
      · rename_i c e2
        exact .inr ⟨_, _, c, rfl, rfl, hz, e2, Post.now (P := rD K G) h R rfl⟩
      · exact h.elim
    · exact h.elim
  · exact h.elim
abbrev rLen (K : PySem.W.Frag) : List V → Hp → VK → Prop := fun xs H Q => (∃ p ys, xs = [V.ref p] ∧ (SqL K H p ys ∨ SqT K H p ys) ∧ Q (V.int ↑ys.length) H) ∨ ((∃ z, xs = [V.str z] ∧ z.length ≤ sizeLine ∧ Q (V.int ↑z.length) H) ∨ (∃ a kvs, xs = [V.ref a] ∧ H a = some (HO.dK kvs) ∧ Q (V.int ↑kvs.length) H))
theorem cr_lenS : CallR X (.builtin "len") (rLen X.K) := CallR.or call_len_seq (CallR.or call_len_str call_lenD)
theorem RepL.one {Z : Gh} {a : D} {xs : List V} (r : RepL K G Z [a] xs) : ∃ x, xs = [x] ∧ Rep K G Z a x := by
  obtain ⟨x, t, rfl, p, q⟩ := r
  cases (show t = [] from q)
  exact ⟨x, rfl, p⟩
theorem RepL.two {Z : Gh} {a b : D} {xs : List V} (r : RepL K G Z [a, b] xs) : ∃ x y, xs = [x, y] ∧ Rep K G Z a x ∧ Rep K G Z b y := by
  obtain ⟨x, t, rfl, p, q⟩ := r
  obtain ⟨y, rfl, q2⟩ := RepL.one q
  exact ⟨x, y, rfl, p, q2⟩
theorem ad_len : AdL K G dLen (rLen K) := by
  intro E Z H st as xs Q R r h
  unfold dLen at h
  split at h
  · rename_i a
    obtain ⟨x, rfl, p⟩ := RepL.one r
    split at h
    · rename_i e1
      obtain ⟨l, xs, rfl, h1, r1⟩ := R.lst p e1
      exact .inl ⟨l, xs, rfl, .inl (SqL.of h1), Post.now (P := rD K G) h R (by rw [r1.length]; rfl)⟩
    · rename_i e1
      obtain ⟨l, xs, rfl, h1, r1⟩ := R.rls p e1
      exact .inl ⟨l, xs, rfl, .inl h1, Post.now (P := rD K G) h R (by rw [r1.length]; rfl)⟩
    · rename_i e1
      obtain ⟨l, xs, rfl, h1, r1⟩ := R.tup p e1
      exact .inl ⟨l, xs, rfl, .inr h1, Post.now (P := rD K G) h R (by rw [r1.length]; rfl)⟩
    · rename_i e1
      cases RelH.str p e1
      split at h
      · rename_i hz; exact .inr (.inl ⟨_, rfl, hz, Post.now (P := rD K G) h R rfl⟩)
      · exact h.elim
    · rename_i e1
      obtain ⟨l, vs, rfl, h1, hn, r1⟩ := R.dct p e1
      exact .inr (.inr ⟨l, _, rfl, h1, Post.now (P := rD K G) h R (by rw [List.length_zip, ← hn, Nat.min_self]; rfl)⟩)
    · exact h.elim
  · exact h.elim
end
end S
/-! data: ==, in, displays, slices, built-in calls -/
namespace S
open PySem L2
/-! ### flat things -/
def isFl : D → Bool
  | .non | .bl _ | .int _ | .str _ => true
  | _ => false
def fl : D → V
  | .bl b => .bl b
  | .int i => .int i
  | .str x => .str x
  | _ => .non
/-- the items of a list or a tuple -/
def items (st : Sto) (d : D) : Option (List D) := match rd st d with
  | .lst xs => some xs
  | .rls xs => some xs
  | .tup xs => some xs
  | _ => none
section
variable {K : PySem.W.Frag} {G : Nat → Addr} {Z : Gh} {H : Hp} {st : Sto}
theorem rep_fl {d : D} {v : V} (h : isFl d = true) (r : Rep K G Z d v) : v = fl d := by
  cases d <;> first | exact r | cases h
theorem rep_fls : ∀ {ds : List D} {vs : List V}, ds.all isFl = true → RepL K G Z ds vs → vs = ds.map fl
  | [], _, _, r => r
  | d :: ds, _, h, ⟨v, t, e, p, q⟩ => by
    subst e
    rw [List.all_cons, Bool.and_eq_true] at h
    rw [List.map_cons, ← rep_fl h.1 p, ← rep_fls h.2 q]
theorem flat_fl {d : D} (h : isFl d = true) : flatV (fl d) = true := by cases d <;> first | rfl | cases h
theorem flat_fls : ∀ {ds : List D}, ds.all isFl = true → (ds.map fl).all flatV = true
  | [], _ => rfl
  | d :: ds, h => by
    rw [List.all_cons, Bool.and_eq_true] at h
    rw [List.map_cons, List.all_cons, flat_fl h.1, flat_fls h.2]; rfl
theorem RelH.items {d : D} {v : V} {xs : List D} (R : RelH K G Z H st) (r : Rep K G Z d v) (e : items st d = some xs) : ∃ p vs, v = .ref p ∧ (SqL K H p vs ∨ SqT K H p vs) ∧ RepL K G Z xs vs := by
  unfold S.items at e
  split at e <;> cases e
  · rename_i q; obtain ⟨p, vs, h1, h2, h3⟩ := R.lst r q; exact ⟨p, vs, h1, .inl (SqL.of h2), h3⟩
  · rename_i q; obtain ⟨p, vs, h1, h2, h3⟩ := R.rls r q; exact ⟨p, vs, h1, .inl h2, h3⟩
  · rename_i q; obtain ⟨p, vs, h1, h2, h3⟩ := R.tup r q; exact ⟨p, vs, h1, .inr h2, h3⟩
end
/-! ### data -/
mutual
def toPy : D → Option PyData
  | .non => some .none
  | .bl b => some (.bool b)
  | .int i => some (.int i)
  | .str x => some (.str x)
  | .lst xs => (toPyL xs).map .list
  | .rls xs => (toPyL xs).map .list
  | .tup xs => (toPyL xs).map .tuple
  | _ => none
def toPyL : List D → Option (List PyData)
  | [] => some []
  | d :: ds => (toPy d).bind fun p => (toPyL ds).map fun r => p :: r
end
section
variable {K : PySem.W.Frag} {G : Nat → Addr} {Z : Gh} {H : Hp}
mutual
theorem dp_of (e : Same Z.fz H) : ∀ (d : D) (v : V) (p : PyData), Rep K G Z d v → toPy d = some p → Dp K H v p
  | .non, _, _, r, h => by cases (show _ = _ from r); cases h; exact .non
  | .bl _, _, _, r, h => by cases (show _ = _ from r); cases h; exact .bl _
  | .int _, _, _, r, h => by cases (show _ = _ from r); cases h; exact .int _
  | .str _, _, _, r, h => by cases (show _ = _ from r); cases h; exact .str _
  | .lst xs, _, _, ⟨a, vs, q, s, r⟩, h => by
    subst q
    unfold toPy at h
    cases t : toPyL xs with
    | none => rw [t] at h; cases h
    | some ps => rw [t] at h; cases h; exact .lst (SqL.of (e _ _ s)) (dps_of e xs vs ps r t)
  | .rls xs, _, _, ⟨a, vs, q, s, r⟩, h => by
    subst q
    unfold toPy at h
    cases t : toPyL xs with
    | none => rw [t] at h; cases h
    | some ps => rw [t] at h; cases h; exact .lst (e.seq s) (dps_of e xs vs ps r t)
  | .tup xs, _, _, ⟨a, vs, q, s, r⟩, h => by
    subst q
    unfold toPy at h
    cases t : toPyL xs with
    | none => rw [t] at h; cases h
    | some ps => rw [t] at h; cases h; exact .tup (Same.sqt' e s) (dps_of e xs vs ps r t)
  | .dct _ _, _, _, _, h => by unfold toPy at h; cases h
  | .ins _ _ _, _, _, _, h => by unfold toPy at h; cases h
  | .ptr _, _, _, _, h => by unfold toPy at h; cases h
theorem dps_of (e : Same Z.fz H) : ∀ (ds : List D) (vs : List V) (ps : List PyData), RepL K G Z ds vs → toPyL ds = some ps → DpAll K H vs ps
  | [], _, _, r, h => by cases (show _ = _ from r); unfold toPyL at h; cases h; exact .nil
  | d :: ds, _, _, ⟨v, t, q, p, r⟩, h => by
    subst q
    unfold toPyL at h
    cases h1 : toPy d with
    | none => rw [h1] at h; cases h
    | some y =>
      cases h2 : toPyL ds with
      | none => rw [h1, h2] at h; cases h
      | some ys => rw [h1, h2] at h; cases h; exact .cons (dp_of e d v y p h1) (dps_of e ds t ys r h2)
end
theorem dp_rd {st : Sto} {d : D} {v : V} {p : PyData} (R : RelH K G Z H st) (r : Rep K G Z d v) (h : toPy (rd st d) = some p) : Dp K H v p := by
  rcases rd_flat (st := st) (d := d) rfl with ⟨i, rfl⟩ | q
  · rcases rd_ptr (st := st) i with ⟨xs, q⟩ | ⟨_, _, q⟩ | ⟨_, _, _, q⟩ | q
    · obtain ⟨l, vs, rfl, h1, h2⟩ := R.lst r q
      rw [q] at h
      unfold toPy at h
      cases t : toPyL xs with
      | none => rw [t] at h; cases h
      | some ps => rw [t] at h; cases h; exact .lst (SqL.of h1) (dps_of R.fz xs vs ps h2 t)
    · rw [q] at h; unfold toPy at h; cases h
    · rw [q] at h; unfold toPy at h; cases h
    · rw [q] at h; unfold toPy at h; cases h
  · rw [← q] at h; exact dp_of R.fz d v p r h
end
/-- whether two things are equal, as far as they are data -/
def eqD (st : Sto) (a b : D) : Option Bool :=
  if isFl a && isFl b && scal (fl a) (fl b) then some (decide (fl a = fl b)) else
  match toPy (rd st a), toPy (rd st b) with
  | some p, some q => if SeqAt.shaped p && SeqAt.shaped q then some (PyData.eqv p q) else none
  | _, _ => none
def dEq (a b : D) (st : Sto) : R D := match eqD st a b with
  | some k => .ok (.bl k) st
  | none => .stuck
def dNe (a b : D) (st : Sto) : R D := match eqD st a b with
  | some k => .ok (.bl (!k)) st
  | none => .stuck
def dIn (a b : D) (st : Sto) : R D := match items st b with
  | some ys => if isFl a && ys.all isFl then .ok (.bl (inV (fl a) (ys.map fl))) st else .stuck
  | none => match a, b with
    | .str s, .str z => if s.cps.size = 1 then .ok (.bl (decide (s.cps.toList.headD 0 ∈ z.cps.toList))) st else .ok (.bl (!(Builtin.Str.occurrences z s 0 z.length 1).isEmpty)) st
    | _, _ => .stuck
def dNotIn (a b : D) (st : Sto) : R D := match items st b with
  | some ys => if isFl a && ys.all isFl then .ok (.bl (!inV (fl a) (ys.map fl))) st else .stuck
  | none => match a, b with
    | .str s, .str z => if s.cps.size = 1 then .ok (.bl (!decide (s.cps.toList.headD 0 ∈ z.cps.toList))) st else .stuck
    | _, _ => .stuck
section
variable {K : PySem.W.Frag} {G : Nat → Addr} {X : Cx}
abbrev rEqS (K : PySem.W.Frag) : R2 := fun x y H Q => rEq x y H Q ∨ rEqD K x y H Q
abbrev rNeS (K : PySem.W.Frag) : R2 := fun x y H Q => rNe x y H Q ∨ rNeD K x y H Q
theorem op_eqS (hu : X.A.units + 64 < cLine) : OpR X (compareOp .Eq) (rEqS X.K) := OpR.or op_eq (op_eqD hu)
theorem op_neS (hu : X.A.units + 64 < cLine) : OpR X (compareOp .NotEq) (rNeS X.K) := OpR.or op_ne (op_neD hu)
theorem eqD_of {Z : Gh} {H : Hp} {st : Sto} {a b : D} {x y : V} {k : Bool} (R : RelH K G Z H st) (p : Rep K G Z a x) (q : Rep K G Z b y) (h : eqD st a b = some k) :
    (scal x y = true ∧ k = decide (x = y)) ∨ ∃ d e, Dp K H x d ∧ Dp K H y e ∧ SeqAt.shaped d = true ∧ SeqAt.shaped e = true ∧ k = PyData.eqv d e := by
  unfold eqD at h
  split at h
  · rename_i hc
    rw [Bool.and_eq_true, Bool.and_eq_true] at hc
    cases h
    rw [rep_fl hc.1.1 p, rep_fl hc.1.2 q]
    exact .inl ⟨hc.2, rfl⟩
  · split at h
    · rename_i d e h1 h2
      split at h <;> cases h
      rename_i hs
      rw [Bool.and_eq_true] at hs
      exact .inr ⟨d, e, dp_rd R p h1, dp_rd R q h2, hs.1, hs.2, rfl⟩
    · cases h
theorem ad_eq : Ad2 K G dEq (rEqS K) := by
  intro E Z H st a b x y Q R p q h
  unfold dEq at h
  split at h
  · rename_i k e
    rcases eqD_of R p q e with ⟨h1, rfl⟩ | ⟨d, e', h1, h2, h3, h4, rfl⟩
    · exact .inl ⟨h1, Post.now (P := rD K G) h R rfl⟩
    · exact .inr ⟨d, e', h1, h2, h3, h4, Post.now (P := rD K G) h R rfl⟩
  · exact h.elim
theorem ad_ne : Ad2 K G dNe (rNeS K) := by
  intro E Z H st a b x y Q R p q h
  unfold dNe at h
  split at h
  · rename_i k e
    rcases eqD_of R p q e with ⟨h1, rfl⟩ | ⟨d, e', h1, h2, h3, h4, rfl⟩
    · exact .inl ⟨h1, Post.now (P := rD K G) h R rfl⟩
    · exact .inr ⟨d, e', h1, h2, h3, h4, Post.now (P := rD K G) h R rfl⟩
  · exact h.elim
abbrev rSign : R2 := fun x y H Q => ∃ c z, x = V.str { cps := #[c] } ∧ y = V.str z ∧ Q (V.bl (decide (c ∈ z.cps.toList))) H
abbrev rSubs : R2 := fun x y H Q => ∃ i j, x = V.str i ∧ y = V.str j ∧ Q (V.bl !(Builtin.Str.occurrences j i 0 j.length 1).isEmpty) H
abbrev rInS (K : PySem.W.Frag) : R2 := fun x y H Q => rIn K false x y H Q ∨ (rSign x y H Q ∨ rSubs x y H Q)
abbrev rNotSign : R2 := fun x y H Q => ∃ c z, x = V.str { cps := #[c] } ∧ y = V.str z ∧ Q (V.bl (!decide (c ∈ z.cps.toList))) H
abbrev rNotInS (K : PySem.W.Frag) : R2 := fun x y H Q => rIn K true x y H Q ∨ rNotSign x y H Q
theorem op_inS : OpR X (compareOp .In) (rInS X.K) := OpR.or op_in_seq (OpR.or op_in_sign op_in_str)
theorem op_notInS : OpR X (compareOp .NotIn) (rNotInS X.K) := OpR.or op_notIn_seq op_notIn_sign
theorem one_sign {s : Str} (h : s.cps.size = 1) : s = ⟨#[s.cps.toList.headD 0]⟩ := by
  obtain ⟨⟨l⟩⟩ := s
  match l, h with
  | [c], _ => rfl
theorem ad_in : Ad2 K G dIn (rInS K) := by
  intro E Z H st a b x y Q R p q h
  unfold dIn at h
  split at h
  · rename_i ys e
    split at h
    · rename_i hc
      rw [Bool.and_eq_true] at hc
      obtain ⟨l, vs, rfl, hs, r⟩ := R.items q e
      rw [rep_fl hc.1 p]
      refine .inl ⟨l, vs, rfl, hs, flat_fl hc.1, by rw [rep_fls hc.2 r]; exact flat_fls hc.2, ?_⟩
      rw [if_neg Bool.false_ne_true, rep_fls hc.2 r]
      exact Post.now (P := rD K G) h R rfl
    · exact h.elim
  · split at h
    · rename_i s z _
      cases (show x = _ from p); cases (show y = _ from q)
      split at h
      · rename_i h1
        exact .inr (.inl ⟨_, z, by rw [← one_sign h1], rfl, Post.now (P := rD K G) h R rfl⟩)
      · exact .inr (.inr ⟨_, _, rfl, rfl, Post.now (P := rD K G) h R rfl⟩)
    · exact h.elim
theorem ad_notIn : Ad2 K G dNotIn (rNotInS K) := by
  intro E Z H st a b x y Q R p q h
  unfold dNotIn at h
  split at h
  · rename_i ys e
    split at h
    · rename_i hc
      rw [Bool.and_eq_true] at hc
      obtain ⟨l, vs, rfl, hs, r⟩ := R.items q e
      rw [rep_fl hc.1 p]
      refine .inl ⟨l, vs, rfl, hs, flat_fl hc.1, by rw [rep_fls hc.2 r]; exact flat_fls hc.2, ?_⟩
      rw [if_pos rfl, rep_fls hc.2 r]
      exact Post.now (P := rD K G) h R rfl
    · exact h.elim
  · split at h
    · rename_i s z _
      cases (show x = _ from p); cases (show y = _ from q)
      split at h
      · rename_i h1
        exact .inr ⟨_, z, by rw [← one_sign h1], rfl, Post.now (P := rD K G) h R rfl⟩
      · exact h.elim
    · exact h.elim
end
/-! ### displays -/
def mTup (m : MA) : M := fun env st => (m env st).bind fun ds st1 => if ds.length ≤ sizeLine then .ok (.tup ds) st1 else .stuck
def mLst (m : MA) : M := fun env st => (m env st).bind fun ds st1 => if ds.length ≤ sizeLine then .ok (.lst ds) st1 else .stuck
def mLstC (m : MA) : M := fun env st => (m env st).bind fun ds st1 => if ds.length ≤ sizeLine then .ok (.ptr st1.length) (st1 ++ [.lst ds]) else .stuck
def mStar (m : M) (n : MA) : MA := fun env st => (m env st).bind fun a st1 => match items st1 a with
  | some xs => (n env st1).bind fun r st2 => .ok (xs ++ r) st2
  | none => .stuck
section
variable {K : PySem.W.Frag} {G : Nat → Addr} {W : WX} {X : Cx} {e : Expr} {es : List Expr} {m : MA} {pos : Pos}
theorem pS_tup {k} (h : PA X es (tSA K G W m)) : PE X (.Tuple es k pos) (tS K G W (mTup m)) :=
  pe_of (pe_tup h) fun σ H Q h => rs_bind (f := fun ds _ st1 => if ds.length ≤ sizeLine then R.ok (D.tup ds) st1 else .stuck) h fun ds vs H1 Z env st R S p q => by
    split at q
    · rename_i hz; exact ⟨by rw [← RepL.length p]; exact hz, fun l hl => q.newT R p hl⟩
    · exact q.elim
theorem pS_lst (h : PA X es (tSA K G W m)) : PE X (.List es pos) (tS K G W (mLst m)) :=
  pe_of (pe_lst h) fun σ H Q h => rs_bind (f := fun ds _ st1 => if ds.length ≤ sizeLine then R.ok (D.lst ds) st1 else .stuck) h fun ds vs H1 Z env st R S p q => by
    split at q
    · rename_i hz; exact ⟨by rw [← RepL.length p]; exact hz, fun l hl => q.newL R p hl⟩
    · exact q.elim
theorem pS_lstC (h : PA X es (tSA K G W m)) : PE X (.List es pos) (tS K G W (mLstC m)) :=
  pe_of (pe_lst h) fun σ H Q h => rs_bind (f := fun ds _ st1 => if ds.length ≤ sizeLine then R.ok (D.ptr st1.length) (st1 ++ [.lst ds]) else .stuck) h fun ds vs H1 Z env st R S p q => by
    split at q
    · rename_i hz; exact ⟨by rw [← RepL.length p]; exact hz, fun l hl => q.newC R p hl⟩
    · exact q.elim
theorem pSA_star {n : M} {p : Pos} (h : PE X e (tS X.K G W n)) (h' : PA X es (tSA X.K G W m)) (hs : starEach (.Starred e p :: es) X.env = (true, eval e X.env) :: starEach es X.env := by rfl) : PA X (.Starred e p :: es) (tSA X.K G W (mStar n m)) :=
  pa_of (StX.pa_star h h' hs) fun σ H Q h => rs_bind (f := fun a env st1 => match items st1 a with | some xs => (m env st1).bind fun r st2 => .ok (xs ++ r) st2 | none => .stuck) h fun a v H1 Z env st R S p q => by
    split at q
    · rename_i xs e
      obtain ⟨l, vs, rfl, hs, r⟩ := R.items p e
      refine ⟨l, vs, rfl, hs.symm, Z, env, st, R, S, q.bind fun ys st2 Z2 us H2 l2 R2 p2 q2 => ?_⟩
      exact Post.now (P := rL X.K G) q2 R2 ((RepL.up l2 _ _ r).append p2)
    · exact q.elim
end
/-! ### slices -/
def cutD (xs : List D) (lo hi : Option Int) : List D := (xs.drop (HT.sIx xs.length 0 lo)).take (HT.sIx xs.length xs.length hi - HT.sIx xs.length 0 lo)
abbrev MO := Env → Sto → R (Option Int)
def mNoPart : MO := fun _ st => .ok none st
def mPart (m : M) : MO := fun env st => (m env st).bind fun d st1 => match d with
  | .int i => .ok (some i) st1
  | _ => .stuck
def dSl (a : D) (lo hi : Option Int) (st : Sto) : R D := match rd st a with
  | .lst xs => .ok (.lst (cutD xs lo hi)) st
  | .rls xs => .ok (.lst (cutD xs lo hi)) st
  | .tup xs => .ok (.tup (cutD xs lo hi)) st
  | .str z => if z.length ≤ sizeLine then .ok (.str (cutS z lo hi)) st else .stuck
  | _ => .stuck
def mSl (m : M) (lo hi : MO) : M := fun env st => (m env st).bind fun a st1 => (lo env st1).bind fun l st2 => (hi env st2).bind fun h st3 => dSl a l h st3
section
variable {K : PySem.W.Frag} {G : Nat → Addr} {W : WX} {X : Cx} {e : Expr} {pos : Pos}
def rO : Gh → Option Int → Option Int → Prop := fun _ a b => a = b
abbrev tSO (K : PySem.W.Frag) (G : Nat → Addr) (W : WX) (m : MO) : TO := tG K G rO W m
theorem po_of {o : Option Expr} {t t' : TO} (h : PO X o t) (k : ∀ σ H Q, t' σ H Q → t σ H Q) : PO X o t' := ⟨fun pins s σ H Q I q => h.run pins s σ H Q I (k σ H Q q)⟩
theorem pSO_none : PO X none (tSO K G W mNoPart) := po_of po_none fun σ H Q ⟨Z, env, st, R, S, h⟩ => Post.now (P := rO) h R rfl
theorem pSO_some {m : M} (h : PE X e (tS K G W m)) : PO X (some e) (tSO K G W (mPart m)) :=
  po_of (po_some h) fun σ H Q h => rs_bind (f := fun d _ st1 => match d with | .int i => .ok (some i) st1 | _ => .stuck) h fun d v H1 Z env st R S p q => by
    cases d with
    | int i => exact ⟨i, p, Post.now (P := rO) q R rfl⟩
    | _ => exact q.elim
theorem SlR.or {r r' : V → Option Int → Option Int → Hp → VK → Prop} (h : SlR X r) (h' : SlR X r') : SlR X (fun x l u H Q => r x l u H Q ∨ r' x l u H Q) := by
  intro pins s σ H x v vl vu lo hi sl Q I rv c1 c2 c3 q
  exact q.elim (h pins s σ H x v vl vu lo hi sl Q I rv c1 c2 c3) (h' pins s σ H x v vl vu lo hi sl Q I rv c1 c2 c3)
abbrev rSl (K : PySem.W.Frag) : V → Option Int → Option Int → Hp → VK → Prop := fun x l u H Q => (rSlL K x l u H Q ∨ rSlA K x l u H Q) ∨ rSlS x l u H Q
theorem sl_S : SlR X (rSl X.K) := SlR.or (SlR.or sl_list sl_tupA) sl_str
theorem RepL.slc {Z : Gh} {ds : List D} {vs : List V} (r : RepL K G Z ds vs) (lo hi : Option Int) : RepL K G Z (cutD ds lo hi) (cutV vs lo hi) := by
  unfold cutD cutV
  rw [r.length]
  exact (r.drop _).take _
theorem ad_sl {E : XK} {Z : Gh} {H : Hp} {st : Sto} {a : D} {lo hi : Option Int} {x : V} {Q : VK} (R : RelH K G Z H st) (p : Rep K G Z a x) (h : Post K G (rD K G) E Z (dSl a lo hi st) Q) : rSl K x lo hi H Q := by
  unfold dSl at h
  split at h
  · rename_i e1
    obtain ⟨l, xs, rfl, h1, r1⟩ := R.lst p e1
    exact .inl (.inl ⟨l, xs, rfl, SqL.of h1, fun q hq => h.newL R (r1.slc lo hi) hq⟩)
  · rename_i e1
    obtain ⟨l, xs, rfl, h1, r1⟩ := R.rls p e1
    exact .inl (.inl ⟨l, xs, rfl, h1, fun q hq => h.newL R (r1.slc lo hi) hq⟩)
  · rename_i e1
    obtain ⟨l, xs, rfl, h1, r1⟩ := R.tup p e1
    refine .inl (.inr ⟨l, xs, rfl, h1, fun hw => ?_, fun _ q hq => h.newT R (r1.slc lo hi) hq⟩)
    have e : cutD _ lo hi = _ := show cutD _ lo hi = _ from by
      unfold cutD
      rw [r1.length, hw.1, hw.2, List.drop_zero, Nat.sub_zero, ← r1.length, List.take_length]
    rw [e] at h
    cases rd_self e1 rfl
    exact Post.now (P := rD K G) h R p
  · rename_i e1
    cases RelH.str p e1
    split at h
    · rename_i hz; exact .inr ⟨_, rfl, hz, Post.now (P := rD K G) h R rfl⟩
    · exact h.elim
  · exact h.elim
theorem pS_sl {m : M} {lo hi : Option Expr} {ml mh : MO} {p2 : Pos} (h : PE X e (tS X.K G W m)) (h1 : PO X lo (tSO X.K G W ml)) (h2 : PO X hi (tSO X.K G W mh)) : PE X (.Subscript e (.Slice lo hi none p2) pos) (tS X.K G W (mSl m ml mh)) :=
  pe_of (pe_slice sl_S h h1 h2) fun σ H Q h => rs_bind (f := fun a env st1 => (ml env st1).bind fun l st2 => (mh env st2).bind fun h st3 => dSl a l h st3) h fun a x H1 Z env st R S p q => by
    refine ⟨Z, env, st, R, S, q.bind fun l st2 Z2 l' H2 l2 R2 p2 q2 => ?_⟩
    cases (show l = l' from p2)
    refine ⟨Z2, env, st2, R2, S.up l2, q2.bind fun u st3 Z3 u' H3 l3 R3 p3 q3 => ?_⟩
    cases (show u = u' from p3)
    exact ad_sl R3 (Rep.up (l2.trans l3) a x p) q3
end
end S
/-! calls of built-in things, methods, fields, texts -/
namespace S
open PySem PySem.Spec L2
def isS : D → Bool
  | .str _ => true
  | _ => false
def sOf : D → Str
  | .str x => x
  | _ => Str.empty
def isB : D → Bool
  | .bl _ => true
  | _ => false
def bOf : D → Bool
  | .bl x => x
  | _ => false
def isI : D → Bool
  | .int _ => true
  | _ => false
def iOf : D → Int
  | .int x => x
  | _ => 0
section
variable {K : PySem.W.Frag} {G : Nat → Addr} {Z : Gh}
theorem rep_strs : ∀ {ds : List D} {vs : List V}, ds.all isS = true → RepL K G Z ds vs → vs = (ds.map sOf).map V.str
  | [], _, _, r => r
  | d :: ds, _, h, ⟨v, t, e, p, q⟩ => by
    subst e
    rw [List.all_cons, Bool.and_eq_true] at h
    rw [List.map_cons, List.map_cons, ← rep_strs h.2 q]
    cases d <;> first | (cases (show v = _ from p); rfl) | cases h.1
theorem rep_bls : ∀ {ds : List D} {vs : List V}, ds.all isB = true → RepL K G Z ds vs → vs = (ds.map bOf).map V.bl
  | [], _, _, r => r
  | d :: ds, _, h, ⟨v, t, e, p, q⟩ => by
    subst e
    rw [List.all_cons, Bool.and_eq_true] at h
    rw [List.map_cons, List.map_cons, ← rep_bls h.2 q]
    cases d <;> first | (cases (show v = _ from p); rfl) | cases h.1
theorem rep_ints : ∀ {ds : List D} {vs : List V}, ds.all isI = true → RepL K G Z ds vs → vs = (ds.map iOf).map V.int
  | [], _, _, r => r
  | d :: ds, _, h, ⟨v, t, e, p, q⟩ => by
    subst e
    rw [List.all_cons, Bool.and_eq_true] at h
    rw [List.map_cons, List.map_cons, ← rep_ints h.2 q]
    cases d <;> first | (cases (show v = _ from p); rfl) | cases h.1
theorem reps_str : ∀ ss : List Str, RepL K G Z (ss.map D.str) (ss.map V.str)
  | [] => rfl
  | s :: r => ⟨_, _, rfl, rfl, reps_str r⟩
theorem reps_int : ∀ ss : List Int, RepL K G Z (ss.map D.int) (ss.map V.int)
  | [] => rfl
  | s :: r => ⟨_, _, rfl, rfl, reps_int r⟩
end
/-! ### f(..), f a built-in -/
section
variable {G : Nat → Addr} {W : WX} {X : Cx} {x : Str} {p pos : Pos} {e : Expr} {es : List Expr} {id T : String} {r : List V → Hp → VK → Prop} {f : List D → Sto → R D} {m : MA}
theorem pS_callB (hc : CallR X (.builtin id) r) (hf : AdL X.K G f r) (hg : Gl X x) (hm : X.mg x = none) (hv : bootBuiltins x = some (.builtin id)) (ha : PA X (e :: es) (tSA X.K G W m)) (hn : x ≠ "__name__" := by decide) (hdb : (x == ("__debug__" : Str)) = false := by decide)
    (he : starEach (e :: es) X.env = (false, eval e X.env) :: starEach es X.env := by rfl) (hpl : (backTo pos (starEach es X.env)).any (·.1) = false := by rfl) : PE X (.Call (.Name x p) (e :: es) [] pos) (tS X.K G W (mApp f m)) :=
  pe_of (pe_callB hc hg hm hv ha hn hdb he hpl) fun _ _ _ => rs_app hf
theorem pS_callTy (hc : CallR X (.type T) r) (hf : AdL X.K G f r) (hg : Gl X x) (hm : X.mg x = none) (hv : bootBuiltins x = some (.type T)) (ha : PA X (e :: es) (tSA X.K G W m)) (hn : x ≠ "__name__" := by decide) (hdb : (x == ("__debug__" : Str)) = false := by decide)
    (he : starEach (e :: es) X.env = (false, eval e X.env) :: starEach es X.env := by rfl) (hpl : (backTo pos (starEach es X.env)).any (·.1) = false := by rfl) : PE X (.Call (.Name x p) (e :: es) [] pos) (tS X.K G W (mApp f m)) :=
  pe_of (pe_callTy hc hg hm hv ha hn hdb he hpl) fun _ _ _ => rs_app hf
end
/-- the items of a list -/
def itemsL (st : Sto) (d : D) : Option (List D) := match rd st d with
  | .lst xs => some xs
  | .rls xs => some xs
  | _ => none
def dAll (as : List D) (st : Sto) : R D := match as with
  | [a] => match itemsL st a with
    | some xs => if xs.all isB then .ok (.bl ((xs.map bOf).all id)) st else .stuck
    | none => .stuck
  | _ => .stuck
def dAny (as : List D) (st : Sto) : R D := match as with
  | [a] => match itemsL st a with
    | some xs => if xs.all isB then .ok (.bl ((xs.map bOf).any id)) st else .stuck
    | none => .stuck
  | _ => .stuck
def dSum (as : List D) (st : Sto) : R D := match as with
  | [a] => match itemsL st a with
    | some xs => if xs.all isI then .ok (.int (xs.map iOf).sum) st else .stuck
    | none => .stuck
  | _ => .stuck
def dTuple (as : List D) (st : Sto) : R D := match as with
  | [a] => match items st a with
    | some xs => .ok (.tup xs) st
    | none => .stuck
  | _ => .stuck
def dList (as : List D) (st : Sto) : R D := match as with
  | [a] => match items st a with
    | some xs => .ok (.lst xs) st
    | none => .stuck
  | _ => .stuck
def dListC (as : List D) (st : Sto) : R D := match as with
  | [a] => match items st a with
    | some xs => .ok (.ptr st.length) (st ++ [.lst xs])
    | none => .stuck
  | _ => .stuck
def dStr (as : List D) (st : Sto) : R D := match as with
  | [.int i] => if i.natAbs.log2 < 1920 then .ok (.str (toString i)) st else .stuck
  | [.str s] => .ok (.str s) st
  | _ => .stuck
def dInt (as : List D) (st : Sto) : R D := match as with
  | [.int i] => .ok (.int i) st
  | [.bl k] => .ok (.int (if k = true then 1 else 0)) st
  | _ => .stuck
def dAbs (as : List D) (st : Sto) : R D := match as with
  | [.int i] => .ok (.int (if i < 0 then -i else i)) st
  | _ => .stuck
def dMax (as : List D) (st : Sto) : R D := match as with
  | [.int i, .int j] => .ok (.int (if j > i then j else i)) st
  | _ => .stuck
def dMin (as : List D) (st : Sto) : R D := match as with
  | [.int i, .int j] => .ok (.int (if j < i then j else i)) st
  | _ => .stuck
/-- texts in order -/
def insS (x : Str) : List Str → List Str
  | [] => [x]
  | y :: r => if PySem.Spec.ltCps y.cps.toList x.cps.toList then y :: insS x r else x :: y :: r
def sortS : List Str → List Str
  | [] => []
  | x :: r => insS x (sortS r)
def dSorted (as : List D) (st : Sto) : R D := match as with
  | [a] => match itemsL st a with
    | some xs => if xs.all isS && decide (xs.length < 64) then .ok (.lst ((sortS (xs.map sOf)).map .str)) st else .stuck
    | none => .stuck
  | _ => .stuck
section
variable {K : PySem.W.Frag} {G : Nat → Addr} {X : Cx}
theorem RelH.itemsL {Z : Gh} {H : Hp} {st : Sto} {d : D} {v : V} {xs : List D} (R : RelH K G Z H st) (r : Rep K G Z d v) (e : itemsL st d = some xs) : ∃ p vs, v = .ref p ∧ SqL K H p vs ∧ RepL K G Z xs vs := by
  unfold S.itemsL at e
  split at e <;> cases e
  · rename_i q; obtain ⟨p, vs, h1, h2, h3⟩ := R.lst r q; exact ⟨p, vs, h1, SqL.of h2, h3⟩
  · rename_i q; obtain ⟨p, vs, h1, h2, h3⟩ := R.rls r q; exact ⟨p, vs, h1, h2, h3⟩
theorem ad_all : AdL K G dAll (rAll K) := by
  intro E Z H st as xs Q R r h
  unfold dAll at h
  split at h
  · obtain ⟨x, rfl, p⟩ := RepL.one r
    split at h
    · rename_i e1
      obtain ⟨l, vs, rfl, h1, r1⟩ := R.itemsL p e1
      split at h
      · rename_i hb; exact ⟨l, _, rfl, by rw [← rep_bls hb r1]; exact h1, Post.now (P := rD K G) h R rfl⟩
      · exact h.elim
    · exact h.elim
  · exact h.elim
theorem ad_any : AdL K G dAny (rAny K) := by
  intro E Z H st as xs Q R r h
  unfold dAny at h
  split at h
  · obtain ⟨x, rfl, p⟩ := RepL.one r
    split at h
    · rename_i e1
      obtain ⟨l, vs, rfl, h1, r1⟩ := R.itemsL p e1
      split at h
      · rename_i hb; exact ⟨l, _, rfl, by rw [← rep_bls hb r1]; exact h1, Post.now (P := rD K G) h R rfl⟩
      · exact h.elim
    · exact h.elim
  · exact h.elim
theorem ad_sum : AdL K G dSum (rSum K) := by
  intro E Z H st as xs Q R r h
  unfold dSum at h
  split at h
  · obtain ⟨x, rfl, p⟩ := RepL.one r
    split at h
    · rename_i e1
      obtain ⟨l, vs, rfl, h1, r1⟩ := R.itemsL p e1
      split at h
      · rename_i hb; exact ⟨l, _, rfl, by rw [← rep_ints hb r1]; exact h1, Post.now (P := rD K G) h R rfl⟩
      · exact h.elim
    · exact h.elim
  · exact h.elim
abbrev rTuple (K : PySem.W.Frag) : List V → Hp → VK → Prop := fun xs H Q => ∃ p ys, xs = [V.ref p] ∧ ((SqL K H p ys ∧ ∀ (l : Addr), H l = none → Q (V.ref l) (upd H l (HO.tup ys))) ∨ SqT K H p ys ∧ Q (V.ref p) H)
theorem ad_tuple : AdL K G dTuple (rTuple K) := by
  intro E Z H st as xs Q R r h
  unfold dTuple at h
  split at h
  · obtain ⟨x, rfl, p⟩ := RepL.one r
    split at h
    · rename_i e1
      unfold items at e1
      split at e1 <;> cases e1
      · rename_i q; obtain ⟨l, vs, rfl, h2, h3⟩ := R.lst p q; exact ⟨l, vs, rfl, .inl ⟨SqL.of h2, fun l hl => h.newT R h3 hl⟩⟩
      · rename_i q; obtain ⟨l, vs, rfl, h2, h3⟩ := R.rls p q; exact ⟨l, vs, rfl, .inl ⟨h2, fun l hl => h.newT R h3 hl⟩⟩
      · rename_i q
        obtain ⟨l, vs, rfl, h2, h3⟩ := R.tup p q
        cases rd_self q rfl
        exact ⟨l, vs, rfl, .inr ⟨h2, Post.now (P := rD K G) h R p⟩⟩
    · exact h.elim
  · exact h.elim
abbrev rList (K : PySem.W.Frag) : List V → Hp → VK → Prop := fun xs H Q => ∃ p ys, xs = [V.ref p] ∧ (SqL K H p ys ∨ SqT K H p ys) ∧ ∀ (l : Addr), H l = none → Q (V.ref l) (upd H l (HO.lst ys))
theorem ad_list : AdL K G dList (rList K) := by
  intro E Z H st as xs Q R r h
  unfold dList at h
  split at h
  · obtain ⟨x, rfl, p⟩ := RepL.one r
    split at h
    · rename_i e1
      obtain ⟨l, vs, rfl, h1, r1⟩ := R.items p e1
      exact ⟨l, vs, rfl, h1, fun q hq => h.newL R r1 hq⟩
    · exact h.elim
  · exact h.elim
theorem ad_listC : AdL K G dListC (rList K) := by
  intro E Z H st as xs Q R r h
  unfold dListC at h
  split at h
  · obtain ⟨x, rfl, p⟩ := RepL.one r
    split at h
    · rename_i e1
      obtain ⟨l, vs, rfl, h1, r1⟩ := R.items p e1
      exact ⟨l, vs, rfl, h1, fun q hq => h.newC R r1 hq⟩
    · exact h.elim
  · exact h.elim
abbrev rStr : List V → Hp → VK → Prop := fun xs H Q => (∃ i, xs = [.int i] ∧ i.natAbs.log2 < 1920 ∧ Q (.str (toString i)) H) ∨ ∃ a, xs = [.str a] ∧ Q (.str a) H
theorem cr_str : CallR X (.type "str") rStr := CallR.or call_str_int SkE.call_str_str
theorem ad_str : AdL K G dStr rStr := by
  intro E Z H st as xs Q R r h
  unfold dStr at h
  split at h
  · obtain ⟨x, rfl, p⟩ := RepL.one r
    cases (show x = _ from p)
    split at h
    · rename_i hz; exact .inl ⟨_, rfl, hz, Post.now (P := rD K G) h R rfl⟩
    · exact h.elim
  · obtain ⟨x, rfl, p⟩ := RepL.one r
    cases (show x = _ from p)
    exact .inr ⟨_, rfl, Post.now (P := rD K G) h R rfl⟩
  · exact h.elim
abbrev rInt : List V → Hp → VK → Prop := fun xs H Q => (∃ i, xs = [V.int i] ∧ Q (V.int i) H) ∨ ∃ k, xs = [V.bl k] ∧ Q (V.int (if k = true then 1 else 0)) H
theorem ad_int : AdL K G dInt rInt := by
  intro E Z H st as xs Q R r h
  unfold dInt at h
  split at h
  · obtain ⟨x, rfl, p⟩ := RepL.one r
    cases (show x = _ from p)
    exact .inl ⟨_, rfl, Post.now (P := rD K G) h R rfl⟩
  · obtain ⟨x, rfl, p⟩ := RepL.one r
    cases (show x = _ from p)
    exact .inr ⟨_, rfl, Post.now (P := rD K G) h R rfl⟩
  · exact h.elim
theorem ad_abs : AdL K G dAbs (fun xs H Q => ∃ i, xs = [V.int i] ∧ Q (V.int (if i < 0 then -i else i)) H) := by
  intro E Z H st as xs Q R r h
  unfold dAbs at h
  split at h
  · obtain ⟨x, rfl, p⟩ := RepL.one r
    cases (show x = _ from p)
    exact ⟨_, rfl, Post.now (P := rD K G) h R rfl⟩
  · exact h.elim
theorem ad_max : AdL K G dMax (fun xs H Q => ∃ i j, xs = [V.int i, V.int j] ∧ Q (V.int (if j > i then j else i)) H) := by
  intro E Z H st as xs Q R r h
  unfold dMax at h
  split at h
  · obtain ⟨x, y, rfl, p, q⟩ := RepL.two r
    cases (show x = _ from p); cases (show y = _ from q)
    exact ⟨_, _, rfl, Post.now (P := rD K G) h R rfl⟩
  · exact h.elim
theorem ad_min : AdL K G dMin (fun xs H Q => ∃ i j, xs = [V.int i, V.int j] ∧ Q (V.int (if j < i then j else i)) H) := by
  intro E Z H st as xs Q R r h
  unfold dMin at h
  split at h
  · obtain ⟨x, y, rfl, p, q⟩ := RepL.two r
    cases (show x = _ from p); cases (show y = _ from q)
    exact ⟨_, _, rfl, Post.now (P := rD K G) h R rfl⟩
  · exact h.elim
/-! sorting -/
theorem ltCps_iff (a b : List Nat) : PySem.Spec.ltCps a b = true ↔ a < b := by rw [PyProof.Rows.ltCps_eq, decide_eq_true_iff]
theorem ltCps_asym {a b : Str} (h : PySem.Spec.ltCps b.cps.toList a.cps.toList = false) (h' : PySem.Spec.ltCps a.cps.toList b.cps.toList = false) : a = b := by
  have e1 : ¬ b.cps.toList < a.cps.toList := fun q => by rw [(ltCps_iff _ _).mpr q] at h; cases h
  have e2 : ¬ a.cps.toList < b.cps.toList := fun q => by rw [(ltCps_iff _ _).mpr q] at h'; cases h'
  have : a.cps.toList = b.cps.toList := List.le_antisymm (List.not_lt.mp e1) (List.not_lt.mp e2)
  obtain ⟨⟨l⟩⟩ := a
  obtain ⟨⟨k⟩⟩ := b
  cases (show l = k from this)
  rfl
abbrev LeS (a b : Str) : Prop := PySem.Spec.ltCps b.cps.toList a.cps.toList = false
theorem LeS.trans {a b c : Str} (h : LeS a b) (h' : LeS b c) : LeS a c := by
  cases q : PySem.Spec.ltCps c.cps.toList a.cps.toList with
  | false => exact q
  | true =>
    have h1 : ¬ b.cps.toList < a.cps.toList := fun z => by rw [LeS, (ltCps_iff _ _).mpr z] at h; cases h
    have h2 : ¬ c.cps.toList < b.cps.toList := fun z => by rw [LeS, (ltCps_iff _ _).mpr z] at h'; cases h'
    exact absurd ((ltCps_iff _ _).mp q) (List.not_lt.mpr (List.le_trans (List.not_lt.mp h1) (List.not_lt.mp h2)))
theorem insS_perm (x : Str) : ∀ l : List Str, (insS x l).Perm (x :: l)
  | [] => .refl _
  | y :: r => by
    unfold insS
    split
    · exact ((insS_perm x r).cons y).trans (.swap x y r)
    · exact .refl _
theorem sortS_perm : ∀ l : List Str, (sortS l).Perm l
  | [] => .refl _
  | x :: r => (insS_perm x _).trans ((sortS_perm r).cons x)
theorem insS_sorted (x : Str) : ∀ l : List Str, l.Pairwise LeS → (insS x l).Pairwise LeS
  | [], _ => by simp [insS]
  | y :: r, h => by
    unfold insS
    rw [List.pairwise_cons] at h
    split
    · rename_i q
      refine List.pairwise_cons.mpr ⟨fun z hz => ?_, insS_sorted x r h.2⟩
      rcases List.mem_cons.mp ((insS_perm x r).mem_iff.mp hz) with rfl | hz
      · show PySem.Spec.ltCps _ _ = false
        cases q' : PySem.Spec.ltCps z.cps.toList y.cps.toList with
        | false => rfl
        | true => exact absurd ((ltCps_iff _ _).mp q) (List.not_lt.mpr (List.le_of_lt ((ltCps_iff _ _).mp q')))
      · exact h.1 z hz
    · rename_i q
      have q : LeS x y := by
        show PySem.Spec.ltCps _ _ = false
        cases e : PySem.Spec.ltCps y.cps.toList x.cps.toList with
        | false => rfl
        | true => exact absurd e q
      refine List.pairwise_cons.mpr ⟨fun z hz => ?_, List.pairwise_cons.mpr h⟩
      rcases List.mem_cons.mp hz with rfl | hz
      · exact q
      · exact q.trans (h.1 z hz)
theorem sortS_sorted : ∀ l : List Str, (sortS l).Pairwise LeS
  | [] => .nil
  | x :: r => insS_sorted x _ (sortS_sorted r)
theorem rising_pair : ∀ (l : List Str) (p : Str), PyProof.Rows.risingS p l = true → (p :: l).Pairwise LeS
  | [], p, _ => by simp
  | x :: r, p, h => by
    unfold PyProof.Rows.risingS at h
    rw [Bool.and_eq_true] at h
    have hx : LeS p x := by
      show PySem.Spec.ltCps _ _ = false
      cases e : PySem.Spec.ltCps x.cps.toList p.cps.toList with
      | false => rfl
      | true => rw [e] at h; cases h.1
    have ih := rising_pair r x h.2
    refine List.pairwise_cons.mpr ⟨fun z hz => ?_, ih⟩
    rcases List.mem_cons.mp hz with rfl | hz
    · exact hx
    · exact hx.trans ((List.pairwise_cons.mp ih).1 z hz)
theorem sorted_pair {l : List Str} (h : PyProof.Rows.sortedS l = true) : l.Pairwise LeS := by
  cases l with
  | nil => exact .nil
  | cons x r => exact rising_pair r x h
theorem sortS_uniq {l ys : List Str} (hp : ys.Perm l) (hs : PyProof.Rows.sortedS ys = true) : ys = sortS l :=
  (hp.trans (sortS_perm l).symm).eq_of_pairwise (fun a b _ _ h1 h2 => ltCps_asym h1 h2) (sorted_pair hs) (sortS_sorted l)
theorem ad_sorted : AdL K G dSorted (rSortedS K) := by
  intro E Z H st as xs Q R r h
  unfold dSorted at h
  split at h
  · obtain ⟨x, rfl, p⟩ := RepL.one r
    split at h
    · rename_i e1
      obtain ⟨l, vs, rfl, h1, r1⟩ := R.itemsL p e1
      split at h
      · rename_i hb
        rw [Bool.and_eq_true, decide_eq_true_iff] at hb
        refine ⟨l, _, rfl, by rw [← rep_strs hb.1 r1]; exact h1, by rw [List.length_map]; exact hb.2, fun ys p hp hs hn => ?_⟩
        rw [sortS_uniq hp hs]
        exact h.newL R (reps_str _) hn
      · exact h.elim
    · exact h.elim
  · exact h.elim
end
/-! ### texts -/
def dJoin (a b : D) (st : Sto) : R D := match a, items st b with
  | .str z, some ys => if ys.all isS && decide (((ys.map sOf).map fun x => x.length).sum + ys.length * z.length ≤ 16777216) then .ok (.str (Txt.join z (ys.map sOf))) st else .stuck
  | _, _ => .stuck
def dSplit (a b : D) (st : Sto) : R D := match a, b with
  | .str z, .str s => if (s.length == 0) = false ∧ z.length + 2 ≤ sizeLine then .ok (.lst ((Txt.split z s).map .str)) st else .stuck
  | _, _ => .stuck
def mTxt (f : D → D → Sto → R D) (m n : M) : M := fun env st => (m env st).bind fun a st1 => if isS a then (n env st1).bind fun b st2 => f a b st2 else .stuck
def mFmt (m : M) : M := fun env st => (m env st).bind fun a st1 => match a with
  | .str z => if z.length ≤ sizeLine then .ok (.str z) st1 else .stuck
  | .int i => if i.natAbs.log2 < 1920 then .ok (.str (toString i)) st1 else .stuck
  | _ => .stuck
def mJs : List M → Str → Env → Sto → R D
  | [], acc, _, st => .ok (.str acc) st
  | m :: ms, acc, env, st => (m env st).bind fun a st1 => match a with
    | .str y => if (acc ++ y).length ≤ sizeLine then mJs ms (acc ++ y) env st1 else .stuck
    | _ => .stuck
section
variable {K : PySem.W.Frag} {G : Nat → Addr} {W : WX} {X : Cx} {o e : Expr} {m n : M} {pos apos : Pos} {σ : St} {H : Hp}
theorem rs_txt {f : D → D → Sto → R D} {r : V → List V → Hp → VK → Prop} {Q : VK} (hf : Ad2 K G f (fun x y H Q => r x [y] H Q)) (h : tS K G W (mTxt f m n) σ H Q) : tM1 r (tS K G W m) (tS K G W n) σ H Q :=
  rs_bind (f := fun a env st1 => if isS a then (n env st1).bind fun b st2 => f a b st2 else .stuck) h fun a x H1 Z env st R S p q => by
    cases a with
    | str z => exact ⟨⟨z, p⟩, Z, env, st, R, S, Post.bind (P := rD K G) (show Post K G (rD K G) _ Z ((n env st).bind fun b st2 => f (.str z) b st2) Q from q) fun b st' Z' y H' l R' p' q' => hf _ Z' H' st' (.str z) b x y Q R' p p' q'⟩
    | _ => exact q.elim
theorem ad_join : Ad2 K G dJoin (fun x y H Q => ∃ a p ys, x = V.str a ∧ [y] = [V.ref p] ∧ (SqL K H p (List.map V.str ys) ∨ SqT K H p (List.map V.str ys)) ∧ (List.map (fun x => x.length) ys).sum + ys.length * a.length ≤ 16777216 ∧ Q (V.str (Txt.join a ys)) H) := by
  intro E Z H st a b x y Q R p q h
  unfold dJoin at h
  split at h
  · rename_i e
    cases (show x = _ from p)
    obtain ⟨l, vs, rfl, hs, r⟩ := R.items q e
    split at h
    · rename_i hb
      rw [Bool.and_eq_true, decide_eq_true_iff] at hb
      refine ⟨_, l, _, rfl, rfl, by rw [← rep_strs hb.1 r]; exact hs, ?_, Post.now (P := rD K G) h R rfl⟩
      rw [List.length_map]; exact hb.2
    · exact h.elim
  · exact h.elim
theorem ad_split : Ad2 K G dSplit (fun x y H Q => ∃ a b, x = V.str a ∧ [y] = [V.str b] ∧ (b.length == 0) = false ∧ a.length + 2 ≤ sizeLine ∧ rNewStrs (Txt.split a b) H Q) := by
  intro E Z H st a b x y Q R p q h
  unfold dSplit at h
  split at h
  · cases (show x = _ from p); cases (show y = _ from q)
    split at h
    · rename_i hc; exact ⟨_, _, rfl, rfl, hc.1, hc.2, fun l hl => h.newL R (reps_str _) hl⟩
    · exact h.elim
  · exact h.elim
theorem pS_join (ho : PE X o (tS X.K G W m)) (he : PE X e (tS X.K G W n)) (h1 : starEach [e] X.env = [(false, eval e X.env)] := by rfl) (h2 : attributeBase o (Str.ofString "join") X.env (eval o X.env) = eval o X.env := by rfl) (h3 : (apos.endLine == pos.line) = true := by rfl) :
    PE X (.Call (.Attribute o (Str.ofString "join") apos) [e] [] pos) (tS X.K G W (mTxt dJoin m n)) := pe_of (pe_join ho he h1 h2 h3) fun _ _ _ => rs_txt ad_join
theorem pS_split (ho : PE X o (tS X.K G W m)) (he : PE X e (tS X.K G W n)) (h1 : starEach [e] X.env = [(false, eval e X.env)] := by rfl) (h2 : attributeBase o (Str.ofString "split") X.env (eval o X.env) = eval o X.env := by rfl) (h3 : (apos.endLine == pos.line) = true := by rfl) :
    PE X (.Call (.Attribute o (Str.ofString "split") apos) [e] [] pos) (tS X.K G W (mTxt dSplit m n)) := pe_of (pe_split ho he h1 h2 h3) fun _ _ _ => rs_txt ad_split
theorem pS_fmt (h : PE X e (tS K G W m)) : PE X (.FormattedValue e (-1) none pos) (tS K G W (mFmt m)) :=
  pe_of (pe_fmt h) fun σ H Q h => rs_bind (f := fun (a : D) _ st1 => match a with
    | .str z => if z.length ≤ sizeLine then R.ok (D.str z) st1 else .stuck
    | .int i => if i.natAbs.log2 < 1920 then .ok (.str (toString i)) st1 else .stuck
    | _ => .stuck) h fun a x H1 Z env st R S p q => by
    cases a with
    | str z =>
      dsimp only at q
      split at q
      · rename_i hz; exact .inl ⟨z, p, hz, Post.now (P := rD K G) q R rfl⟩
      · exact q.elim
    | int i =>
      dsimp only at q
      split at q
      · rename_i hz; exact .inr ⟨i, p, hz, Post.now (P := rD K G) q R rfl⟩
      · exact q.elim
    | _ => exact q.elim
theorem rs_js : ∀ (ms : List M) (acc : Str) (H : Hp) (Q : VK), tS K G W (mJs ms acc) σ H Q → tJs (ms.map (tS K G W)) acc σ H fun out H1 => Q (.str out) H1
  | [], acc, H, Q, ⟨Z, env, st, R, S, h⟩ => Post.now (P := rD K G) h R rfl
  | m :: ms, acc, H, Q, h => rs_bind (f := fun (a : D) env st1 => match a with
    | .str y => if (acc ++ y).length ≤ sizeLine then mJs ms (acc ++ y) env st1 else .stuck
    | _ => .stuck) h fun a x H1 Z env st R S p q => by
    cases a with
    | str y =>
      dsimp only at q
      split at q
      · rename_i hz; exact ⟨y, p, hz, rs_js ms (acc ++ y) H1 Q ⟨Z, env, st, R, S, q⟩⟩
      · exact q.elim
    | _ => exact q.elim
theorem pS_js {v1 v2 : Expr} {rest : List Expr} {ms : List M} (h : PJ X (v1 :: v2 :: rest) (ms.map (tS K G W))) : PE X (.JoinedStr (v1 :: v2 :: rest) pos) (tS K G W (mJs ms Str.empty)) :=
  pe_of (pe_joined h) fun σ H Q h => rs_js ms Str.empty H Q h
theorem pS_js1 (h : PE X e (tS K G W m)) : PE X (.JoinedStr [e] pos) (tS K G W m) := pe_joined1 h
theorem pj_cons {ms : List M} {es : List Expr} (h : PE X e (tS K G W m)) (h' : PJ X es (ms.map (tS K G W))) : PJ X (e :: es) ((m :: ms).map (tS K G W)) := .cons h h'
theorem pj_nil : PJ X [] (([] : List M).map (tS K G W)) := .nil
end
/-! ### fields -/
def look (f : Str) : List Str → List D → Option D
  | g :: r, d :: ds => if f == g then some d else look f r ds
  | _, _ => none
def putN (f : Str) : List Str → List Str
  | [] => [f]
  | g :: r => if g = f then g :: r else g :: putN f r
def putX {α : Type} (f : Str) (x : α) : List Str → List α → List α
  | [], _ => [x]
  | g :: r, d :: ds => if g = f then x :: ds else d :: putX f x r ds
  | _ :: _, [] => []
def dFld (ok : Nat → Bool) (f : Str) (a : D) (st : Sto) : R D := match rd st a with
  | .ins c ns ds => if ok c = true then (match look f ns ds with | some d => .ok d st | none => .stuck) else .stuck
  | _ => .stuck
def mFld (ok : Nat → Bool) (f : Str) (m : M) : M := fun env st => (m env st).bind fun a st1 => dFld ok f a st1
def dPutF (ok : Nat → Bool) (f : Str) (d o : D) (st : Sto) : R D := match o with
  | .ptr i => (match st[i]? with
    | some (.ins c ns ds) => if ok c = true ∧ ns.length < 1000 then .ok D.non (st.set i (.ins c (putN f ns) (putX f d ns ds))) else .stuck
    | _ => .stuck)
  | _ => .stuck
def mSetF (ok : Nat → Bool) (f : Str) (mo mv : M) : MS := mDo (mBin (dPutF ok f) mv mo)
section
variable {K : PySem.W.Frag} {G : Nat → Addr} {W : WX} {X : Cx} {Z : Gh} {o e : Expr} {m n : M} {pos pos' : Pos} {σ : St} {H : Hp}
theorem look_of {f : Str} {d : D} : ∀ {ns : List Str} {ds : List D} {vs : List V}, ns.length = vs.length → RepL K G Z ds vs → look f ns ds = some d → ∃ v, (ns.zip vs).lookup f = some v ∧ Rep K G Z d v
  | [], _, _, _, _, h => by unfold look at h; cases h
  | _ :: _, [], _, _, _, h => by unfold look at h; cases h
  | g :: r, x :: ds, _, hl, ⟨v, t, e, p, q⟩, h => by
    subst e
    unfold look at h
    rw [List.zip_cons_cons, List.lookup_cons]
    cases hg : f == g with
    | true => rw [hg] at h; cases h; exact ⟨v, rfl, p⟩
    | false => rw [hg] at h; exact look_of (by simpa using hl) q (by simpa using h)
theorem putF_zip {f : Str} {v : V} : ∀ {ns : List Str} {vs : List V}, ns.length = vs.length → putF f v (ns.zip vs) = (putN f ns).zip (putX f v ns vs) ∧ (putN f ns).length = (putX f v ns vs).length
  | [], vs, h => by cases vs with | nil => exact ⟨rfl, rfl⟩ | cons _ _ => cases h
  | g :: r, [], h => by cases h
  | g :: r, u :: us, h => by
    have ih := putF_zip (f := f) (v := v) (ns := r) (vs := us) (by simpa using h)
    rw [List.zip_cons_cons]
    unfold putF putN putX
    split
    · exact ⟨rfl, by simpa using h⟩
    · exact ⟨by rw [List.zip_cons_cons, ih.1], by simp [ih.2]⟩
theorem RepL.putX {f : Str} {d : D} {v : V} (p : Rep K G Z d v) : ∀ {ns : List Str} {ds : List D} {vs : List V}, RepL K G Z ds vs → RepL K G Z (S.putX f d ns ds) (S.putX f v ns vs)
  | [], _, _, _ => ⟨v, [], rfl, p, rfl⟩
  | _ :: _, [], _, r => by cases (show _ = _ from r); exact rfl
  | g :: r, x :: ds, _, ⟨u, t, e, q, s⟩ => by
    subst e
    unfold S.putX
    split
    · exact ⟨v, t, rfl, p, s⟩
    · exact ⟨u, _, rfl, q, RepL.putX p s⟩
theorem pS_fld {ok : Nat → Bool} {f : Str} (hA : ∀ c, ok c = true → Cls X.K (G c) ∧ NoAttr X.K (G c) f) (h : PE X e (tS X.K G W m)) (ha : attributeBase e f X.env (eval e X.env) = eval e X.env := by rfl) : PE X (.Attribute e f pos) (tS X.K G W (mFld ok f m)) :=
  pe_of (pe_fld h ha) fun σ H Q h => rs_bind (f := fun a _ st1 => dFld ok f a st1) h fun a x H1 Z env st R S p q => by
    unfold dFld at q
    split at q
    · rename_i c ns ds e1
      obtain ⟨l, dx, vs, rfl, h1, hn, r⟩ := R.ins p e1
      split at q
      · rename_i hc
        split at q
        · rename_i d e2
          obtain ⟨v, e3, rv⟩ := look_of hn r e2
          exact ⟨l, _, dx, _, v, rfl, h1, (hA c hc).1, (hA c hc).2, e3, Post.now (P := rD X.K G) q R rv⟩
        · exact q.elim
      · exact q.elim
    · exact q.elim
theorem pS_setF {ok : Nat → Bool} {f : Str} (hA : ∀ c, ok c = true → Cls X.K (G c) ∧ NoAttr X.K (G c) f) (ho : PE X o (tS X.K G W m)) (hv : PE X e (tS X.K G W n)) (hs : swapsWith e (some (.Attribute o f pos')) pos.line X.env = pure false := by rfl) :
    PS X (.Assign [.Attribute o f pos'] e pos) (tSS X.K G W (mSetF ok f m n)) :=
  ps_of (ps_fld ho hv hs) fun Dn σ H ⟨Z, env, st, R, S, h⟩ => by
    have h' : Post X.K G (rD X.K G) (WE W σ) Z (mBin (dPutF ok f) n m env st) fun _ H' => Dn.nx σ H' :=
      post_stm (f := fun _ st' => .nx env st') S h fun d st' Z' v H' l R' r q => q Z' σ H' (Gh.le.refl _) R' (S.up l)
    refine ⟨Z, env, st, R, S, h'.bind fun d st1 Z1 y H1 l1 R1 p1 q1 => ?_⟩
    refine ⟨Z1, env, st1, R1, S.up l1, q1.bind fun a st2 Z2 x H2 l2 R2 p2 q2 => ?_⟩
    unfold dPutF at q2
    split at q2
    · rename_i i
      split at q2
      · rename_i c ns ds e1
        split at q2
        · rename_i hc
          obtain ⟨l, hl, rfl⟩ := p2
          obtain ⟨dx, vs, h1, hn, r⟩ := R2.cell _ _ _ e1 hl
          refine ⟨l, _, dx, _, rfl, h1, (hA c hc.1).1, (hA c hc.1).2, ?_, ?_⟩
          · rw [List.length_zip, ← hn, Nat.min_self]; exact hc.2
          · have z := putF_zip (f := f) (v := y) hn
            rw [z.1]
            refine Post.now (P := rD X.K G) (b := .non) q2 (R2.put (c' := .ins c (putN f ns) (putX f d ns ds)) e1 rfl hl ?_) rfl
            exact ⟨dx, _, upd_same, z.2, RepL.putX (Rep.up l2 d y p1) r⟩
        · exact q2.elim
      · exact q2.elim
    · exact q2.elim
end
end S
/-! calls of own defs, of methods, of classes; what changes; loops -/
namespace S
open PySem L2
/-! ### what does not change any more -/
section
variable {K : PySem.W.Frag} {G : Nat → Addr} {Z : Gh} {H : Hp} {st : Sto}
theorem RelH.frz {i : Nat} {c : C} {p : Addr} {o : HO} (R : RelH K G Z H st) (hi : st[i]? = some c) (hl : c.live = true) (hp : Z.rho[i]? = some p) (ho : H p = some o) :
    Z.le ⟨upd Z.fz p o, Z.rho, Z.tmp⟩ ∧ RelH K G ⟨upd Z.fz p o, Z.rho, Z.tmp⟩ H (st.set i .dead) := by
  have zp := R.off i c p hi hl hp
  have lt : i < st.length := (List.getElem?_eq_some_iff.mp hi).1
  have l : Z.le ⟨upd Z.fz p o, Z.rho, Z.tmp⟩ := ⟨fun b u e => by
    show upd Z.fz p o b = some u
    rw [upd_ne (ne_of_none e zp)]; exact e, ⟨[], by simp⟩, rfl⟩
  have alt : ∀ {j : Nat} {u : C}, (st.set i .dead)[j]? = some u → u.live = true → j ≠ i ∧ st[j]? = some u := fun {j u} e hu => by
    by_cases hj : j = i
    · subst hj
      rw [List.getElem?_set_self lt] at e
      cases e; cases hu
    · rw [List.getElem?_set_ne (Ne.symm hj)] at e
      exact ⟨hj, e⟩
  refine ⟨l, ⟨fun b u e => ?_, by rw [List.length_set]; exact R.len, fun j u a e1 e2 => ?_, fun j u a e1 hu e2 => ?_, fun j k u u' a e1 e2 h1 h2 r1 r2 => ?_, R.tmp, fun a u e => ⟨?_, fun j u' e1 hu => (R.tof a u e).2 j u' (alt e1 hu).2 hu⟩⟩⟩
  · have e' : upd Z.fz p o b = some u := e
    by_cases hb : b = p
    · subst hb; rw [upd_same] at e'; cases e'; exact ho
    · rw [upd_ne hb] at e'; exact R.fz _ _ e'
  · cases hu : u.live with
    | false => cases u <;> first | trivial | cases hu
    | true => exact (R.cell j u a (alt e1 hu).2 e2).up l
  · obtain ⟨hj, e⟩ := alt e1 hu
    show upd Z.fz p o a = none
    have ne : a ≠ p := fun z => hj (R.inj j i u c p e hi hu hl (by rw [e2, z]) hp)
    rw [upd_ne ne]
    exact R.off j u a e hu e2
  · obtain ⟨_, e⟩ := alt e1 h1
    obtain ⟨_, e'⟩ := alt e2 h2
    exact R.inj j k u u' a e e' h1 h2 r1 r2
  · show upd Z.fz p o a = none
    have ne : a ≠ p := fun z => (R.tof a u e).2 i c hi hl (by rw [z]; exact hp)
    rw [upd_ne ne]; exact (R.tof a u e).1
end
def dFrz (d : D) (st : Sto) : R D := match d with
  | .ptr i => (match st[i]? with
    | some (.lst xs) => .ok (.lst xs) (st.set i .dead)
    | some (.dct ks ds) => .ok (.dct ks ds) (st.set i .dead)
    | some (.ins c ns ds) => .ok (.ins c ns ds) (st.set i .dead)
    | _ => .stuck)
  | d => .ok d st
def mFrz (m : M) : M := fun env st => (m env st).bind fun d st1 => dFrz d st1
section
variable {K : PySem.W.Frag} {G : Nat → Addr} {W : WX} {X : Cx} {e : Expr} {m : M} {E : XK} {Z : Gh} {H : Hp} {st : Sto} {d : D} {v : V} {Q : VK}
theorem Post.frz (h : Post K G (rD K G) E Z (dFrz d st) Q) (R : RelH K G Z H st) (r : Rep K G Z d v) : Q v H := by
  unfold dFrz at h
  split at h
  · rename_i i
    obtain ⟨p, hp, rfl⟩ := r
    split at h
    · rename_i xs e1
      obtain ⟨vs, h1, h2⟩ := R.cell _ _ _ e1 hp
      obtain ⟨l, R'⟩ := R.frz e1 rfl hp h1
      exact h _ _ _ l R' ⟨p, vs, rfl, upd_same, RepL.up l _ _ h2⟩
    · rename_i ks ds e1
      obtain ⟨vs, h1, hn, h2⟩ := R.cell _ _ _ e1 hp
      obtain ⟨l, R'⟩ := R.frz e1 rfl hp h1
      exact h _ _ _ l R' ⟨p, vs, rfl, upd_same, hn, RepL.up l _ _ h2⟩
    · rename_i c ns ds e1
      obtain ⟨dx, vs, h1, hn, h2⟩ := R.cell _ _ _ e1 hp
      obtain ⟨l, R'⟩ := R.frz e1 rfl hp h1
      exact h _ _ _ l R' ⟨p, dx, vs, rfl, upd_same, hn, RepL.up l _ _ h2⟩
    · exact h.elim
  · exact Post.now (P := rD K G) h R r
theorem pS_frz (h : PE X e (tS K G W m)) : PE X e (tS K G W (mFrz m)) :=
  pe_of h fun σ H Q h => rs_bind (f := fun d _ st1 => dFrz d st1) h fun d v H1 Z env st R S p q => q.frz R p
end
/-! ### lists that change -/
def dAppend (a : D) (as : List D) (st : Sto) : R D := match a, as with
  | .ptr i, [d] => (match st[i]? with
    | some (.lst xs) => if xs.length < sizeLine then .ok .non (st.set i (.lst (xs ++ [d]))) else .stuck
    | _ => .stuck)
  | _, _ => .stuck
def dExtend (a : D) (as : List D) (st : Sto) : R D := match a, as with
  | .ptr i, [d] => (match st[i]?, rd st d with
    | some (.lst xs), .lst ys => if xs.length + ys.length ≤ sizeLine then .ok .non (st.set i (.lst (xs ++ ys))) else .stuck
    | _, _ => .stuck)
  | _, _ => .stuck
/-- the thing is a list of whatever sort -/
def isLst (st : Sto) (d : D) : Bool := match rd st d with
  | .lst _ => true
  | .rls _ => true
  | _ => false
def mLm (f : D → List D → Sto → R D) (m : M) (n : MA) : M := fun env st => (m env st).bind fun a st1 => if isLst st1 a = true then (n env st1).bind fun as st2 => f a as st2 else .stuck
def mLm0 (f : D → List D → Sto → R D) (m : M) : M := fun env st => (m env st).bind fun a st1 => if isLst st1 a = true then f a [] st1 else .stuck
def dSetIx (v o i : D) (st : Sto) : R D := match o, i with
  | .ptr j, .int k => (match st[j]? with
    | some (.lst xs) => (match ixN xs.length k with
      | some n => .ok .non (st.set j (.lst (xs.set n v)))
      | none => .stuck)
    | _ => .stuck)
  | _, _ => .stuck
def mSetIx (mo mi mv : M) : MS := mDo fun env st => (mv env st).bind fun v st1 => (mo env st1).bind fun o st2 => (mi env st2).bind fun i st3 => dSetIx v o i st3
section
variable {K : PySem.W.Frag} {G : Nat → Addr} {W : WX} {X : Cx} {o e i : Expr} {es : List Expr} {m n k : M} {pos apos : Pos} {σ : St} {H : Hp}
def AdM (K : PySem.W.Frag) (G : Nat → Addr) (f : D → List D → Sto → R D) (r : V → List V → Hp → VK → Prop) : Prop := ∀ (E : XK) (Z : Gh) (H : Hp) (st : Sto) (a : D) (as : List D) (x : V) (xs : List V) (Q : VK), RelH K G Z H st → Rep K G Z a x → RepL K G Z as xs → Post K G (rD K G) E Z (f a as st) Q → r x xs H Q
theorem ad_append : AdM K G dAppend rAppend := by
  intro E Z H st a as x xs Q R p r h
  unfold dAppend at h
  split at h
  · obtain ⟨l, hl, rfl⟩ := p
    obtain ⟨y, rfl, q⟩ := RepL.one r
    split at h
    · rename_i ys e1
      split at h
      · rename_i hz
        obtain ⟨vs, h1, h2⟩ := R.cell _ _ _ e1 hl
        refine ⟨l, vs, y, rfl, rfl, h1, by rw [← h2.length]; exact hz, ?_⟩
        exact Post.now (P := rD K G) (b := .non) h (R.put e1 rfl hl ⟨_, upd_same, h2.append ⟨y, [], rfl, q, rfl⟩⟩) rfl
      · exact h.elim
    · exact h.elim
  · exact h.elim
theorem ad_extend : AdM K G dExtend rExtend := by
  intro E Z H st a as x xs Q R p r h
  unfold dExtend at h
  split at h
  · obtain ⟨l, hl, rfl⟩ := p
    obtain ⟨y, rfl, q⟩ := RepL.one r
    split at h
    · rename_i ys zs e1 e2
      split at h
      · rename_i hz
        obtain ⟨vs, h1, h2⟩ := R.cell _ _ _ e1 hl
        obtain ⟨b, us, rfl, h3, h4⟩ := R.lst q e2
        refine ⟨l, b, vs, us, rfl, rfl, h1, h3, by rw [← h2.length, ← h4.length]; exact hz, ?_⟩
        exact Post.now (P := rD K G) (b := .non) h (R.put e1 rfl hl ⟨_, upd_same, h2.append h4⟩) rfl
      · exact h.elim
    · exact h.elim
  · exact h.elim
theorem RelH.isLst {Z : Gh} {st : Sto} {d : D} {v : V} (R : RelH K G Z H st) (r : Rep K G Z d v) (e : isLst st d = true) : tyV K "list" v H := by
  unfold S.isLst at e
  split at e
  · rename_i q; obtain ⟨p, vs, rfl, h2, h3⟩ := R.lst r q; exact .inl ⟨rfl, vs, SqL.of h2⟩
  · rename_i q; obtain ⟨p, vs, rfl, h2, h3⟩ := R.rls r q; exact .inl ⟨rfl, vs, h2⟩
  · cases e
theorem rs_lm {f : D → List D → Sto → R D} {r : V → List V → Hp → VK → Prop} {n : MA} {Q : VK} (hf : AdM K G f r) (h : tS K G W (mLm f m n) σ H Q) : tBM K "list" r (tS K G W m) (tSA K G W n) σ H Q :=
  rs_bind (f := fun a env st1 => if isLst st1 a = true then (n env st1).bind fun as st2 => f a as st2 else .stuck) h fun a x H1 Z env st R S p q => by
    split at q
    · rename_i hc
      exact ⟨R.isLst p hc, Z, env, st, R, S, q.bind fun as st' Z' xs H' l R' p' q' => hf _ Z' H' st' a as x xs Q R' (Rep.up l a x p) p' q'⟩
    · exact q.elim
theorem rs_lm0 {f : D → List D → Sto → R D} {r : V → List V → Hp → VK → Prop} {Q : VK} (hf : AdM K G f r) (h : tS K G W (mLm0 f m) σ H Q) : tBM0 K "list" r (tS K G W m) σ H Q :=
  rs_bind (f := fun a env st1 => if isLst st1 a = true then f a [] st1 else .stuck) h fun a x H1 Z env st R S p q => by
    split at q
    · rename_i hc
      exact ⟨R.isLst p hc, hf _ Z H1 st a [] x [] Q R p rfl q⟩
    · exact q.elim
theorem pS_lm {f : D → List D → Sto → R D} {r : V → List V → Hp → VK → Prop} {n : MA} {t : TE} (hf : AdM X.K G f r) (h : PE X e (tBM X.K "list" r (tS X.K G W m) (tSA X.K G W n))) : PE X e (tS X.K G W (mLm f m n)) := pe_of h fun _ _ _ => rs_lm hf
theorem pS_lm0 {f : D → List D → Sto → R D} {r : V → List V → Hp → VK → Prop} (hf : AdM X.K G f r) (h : PE X e (tBM0 X.K "list" r (tS X.K G W m))) : PE X e (tS X.K G W (mLm0 f m)) := pe_of h fun _ _ _ => rs_lm0 hf
theorem pS_setIx {p1 : Pos} (ho : PE X o (tS K G W m)) (hi : PE X i (tS K G W n)) (hv : PE X e (tS K G W k))
    (hp : ∀ v : Value, assign (o.Subscript i p1) X.env v = (do
                let ov ← holding [v] (eval o X.env)
                let iv ← holding [v, ov] (eval i X.env)
                standAt p1
                holding [v, ov, iv] (setItem ov iv v)
                release [v, ov, iv] []) := by intro _; rfl)
    (h1 : swapsWithSole [o.Subscript i p1] e pos.line X.env = pure false := by rfl) (h2 : swappedStores [o.Subscript i p1] e X.env = pure none := by rfl)
    (h3 : List.map (fun x => x.snd) (assignEach [o.Subscript i p1] X.env) = [assign (o.Subscript i p1) X.env] := by rfl) :
    PS X (.Assign [o.Subscript i p1] e pos) (tSS K G W (mSetIx m n k)) :=
  ps_of (ps_asg hv (pg_sub ho hi set_list hp) h1 h2 h3) fun Dn σ H ⟨Z, env, st, R, S, h⟩ => by
    have h' : Post K G (rD K G) (WE W σ) Z ((k env st).bind fun v st1 => (m env st1).bind fun o st2 => (n env st2).bind fun i st3 => dSetIx v o i st3) fun _ H' => Dn.nx σ H' :=
      post_stm (m := fun env st => (k env st).bind fun v st1 => (m env st1).bind fun o st2 => (n env st2).bind fun i st3 => dSetIx v o i st3) (f := fun _ st' => .nx env st') S h fun d st' Z' v H' l R' r q => q Z' σ H' (Gh.le.refl _) R' (S.up l)
    refine ⟨Z, env, st, R, S, h'.bind fun d st1 Z1 y H1 l1 R1 p1 q1 => ?_⟩
    refine ⟨Z1, env, st1, R1, S.up l1, q1.bind fun a st2 Z2 x H2 l2 R2 p2 q2 => ?_⟩
    refine ⟨Z2, env, st2, R2, S.up (l1.trans l2), q2.bind fun b st3 Z3 z H3 l3 R3 p3 q3 => ?_⟩
    unfold dSetIx at q3
    split at q3
    · obtain ⟨l, hl, rfl⟩ := p2
      cases (show z = _ from p3)
      split at q3
      · rename_i xs e1
        split at q3
        · rename_i j e2
          obtain ⟨vs, h1, h2⟩ := R3.cell _ _ _ e1 (l3.at hl)
          refine ⟨l, vs, _, j, rfl, rfl, h1, by rw [← h2.length]; exact e2, ?_⟩
          exact Post.now (P := rD K G) (b := .non) q3 (R3.put e1 rfl (l3.at hl) ⟨_, upd_same, h2.set (Rep.up (l2.trans l3) d y p1) j⟩) rfl
        · exact q3.elim
      · exact q3.elim
    · exact q3.elim
end
/-- what was made within and is not reached any more is forgotten -/
def gc (n : Nat) (d : D) (st : Sto) : R D := if below n d && (st.take n).all (belowC n) then .ok d (st.take n) else .ok d st
section
variable {K : PySem.W.Frag} {G : Nat → Addr} {Z : Gh}
theorem gc_le {Z' : Gh} (l : Z.le Z') : Z.le ⟨Z'.fz, Z'.rho.take Z.rho.length, Z'.tmp⟩ := by
  obtain ⟨h1, ⟨r, e⟩, h2⟩ := l
  refine ⟨h1, ⟨[], ?_⟩, h2⟩
  show Z'.rho.take Z.rho.length = Z.rho ++ []
  rw [e, List.take_left, List.append_nil]
theorem gc_cut {Z' : Gh} {n : Nat} {d : D} {v : V} (b : below n d = true) (r : Rep K G Z' d v) : Rep K G ⟨Z'.fz, Z'.rho.take n, Z'.tmp⟩ d v := Rep.cut (Z := Z') (Z' := ⟨Z'.fz, Z'.rho.take n, Z'.tmp⟩) (Same.refl _) (fun i hi => List.getElem?_take_of_lt hi) d v b r
theorem gc_cutL {Z' : Gh} {n : Nat} {ds : List D} {vs : List V} (b : belowL n ds = true) (r : RepL K G Z' ds vs) : RepL K G ⟨Z'.fz, Z'.rho.take n, Z'.tmp⟩ ds vs := RepL.cut (Z := Z') (Z' := ⟨Z'.fz, Z'.rho.take n, Z'.tmp⟩) (Same.refl _) (fun i hi => List.getElem?_take_of_lt hi) ds vs b r
theorem gc_post {E : XK} {n : Nat} {d : D} {v : V} {st : Sto} {Q : VK} {Z' : Gh} {H : Hp} (hn : n = Z.rho.length) (h : Post K G (rD K G) E Z (gc n d st) Q) (l : Z.le Z') (R : RelH K G Z' H st) (r : Rep K G Z' d v) : Q v H := by
  subst hn
  unfold gc at h
  split at h
  · rename_i hb
    rw [Bool.and_eq_true] at hb
    exact h _ _ _ (gc_le l) (R.drop _ hb.2) (gc_cut hb.1 r)
  · exact h _ _ _ l R r
theorem frz_gc {E : XK} {n : Nat} {d : D} {v : V} {st : Sto} {Q : VK} {Z' : Gh} {H : Hp} (hn : n = Z.rho.length) (h : Post K G (rD K G) E Z ((dFrz d st).bind fun d' st2 => gc n d' st2) Q) (l : Z.le Z') (R : RelH K G Z' H st) (r : Rep K G Z' d v) : Q v H := by
  have h2 : Post K G (rD K G) E Z' (dFrz d st) fun v H => Q v H := by
    cases e : dFrz d st with
    | ok d' st2 => rw [e] at h; exact fun Z2 v2 H2 l2 R2 r2 => gc_post hn h (l.trans l2) R2 r2
    | exc c ns ds st2 =>
      unfold dFrz at e
      split at e
      · split at e <;> cases e
      · cases e
    | stuck => rw [e] at h; exact h
  exact h2.frz R r
end
/-! ### what no changing thing takes part in -/
/-- run with no changing thing in sight, where none is handed in and none comes out -/
def pur (f : List D → Sto → R D) (ds : List D) (st : Sto) : R D := if belowL 0 ds = true then (match f ds [] with
  | .ok d _ => if below 0 d = true then .ok d st else f ds st
  | .exc c ns es _ => if belowL 0 es = true then .exc c ns es st else f ds st
  | .stuck => .stuck) else f ds st
section
variable {K : PySem.W.Frag} {G : Nat → Addr} {Z : Gh}
open Classical in
/-- the changing things, set aside -/
noncomputable def aside (Z : Gh) (H : Hp) (st : Sto) : Hp := fun a => if ∃ (i : Nat) (c : C), st[i]? = some c ∧ c.live = true ∧ Z.rho[i]? = some a then H a else Z.tmp a
theorem aside_in {H : Hp} {st : Sto} {i : Nat} {c : C} {a : Addr} (h1 : st[i]? = some c) (h2 : c.live = true) (h3 : Z.rho[i]? = some a) : aside Z H st a = H a := if_pos ⟨i, c, h1, h2, h3⟩
theorem aside_tmp {H : Hp} {st : Sto} (R : RelH K G Z H st) {a : Addr} {o : HO} (h : Z.tmp a = some o) : aside Z H st a = some o := by
  unfold aside
  rw [if_neg]
  · exact h
  · rintro ⟨i, c, h1, h2, h3⟩
    exact (R.tof a o h).2 i c h1 h2 h3
theorem aside_go {H : Hp} {st : Sto} (R : RelH K G Z H st) : RelH K G ⟨Z.fz, [], aside Z H st⟩ H [] := by
  refine ⟨R.fz, rfl, fun i c a e _ => by simp at e, fun i c a e _ _ => by simp at e, fun i j c c' a e _ _ _ _ _ => by simp at e, fun a o e => ?_, fun a o e => ⟨?_, fun i c e _ => by simp at e⟩⟩
  · have e' : aside Z H st a = some o := e
    unfold aside at e'
    split at e'
    · exact e'
    · exact R.tmp _ _ e'
  · have e' : aside Z H st a = some o := e
    unfold aside at e'
    split at e'
    · rename_i h
      obtain ⟨i, c, h1, h2, h3⟩ := h
      exact R.off i c a h1 h2 h3
    · exact (R.tof a o e').1
theorem aside_back {H H1 : Hp} {st st1 : Sto} {Z1 : Gh} (R : RelH K G Z H st) (l : Gh.le ⟨Z.fz, [], aside Z H st⟩ Z1) (R1 : RelH K G Z1 H1 st1) : Z.le ⟨Z1.fz, Z.rho, Z.tmp⟩ ∧ RelH K G ⟨Z1.fz, Z.rho, Z.tmp⟩ H1 st := by
  have le : Z.le ⟨Z1.fz, Z.rho, Z.tmp⟩ := ⟨l.fz, ⟨[], (List.append_nil _).symm⟩, rfl⟩
  have tm : ∀ {a : Addr} {o : HO}, aside Z H st a = some o → Z1.tmp a = some o := fun {a o} e => by rw [l.tmp]; exact e
  have cellv : ∀ {i : Nat} {c : C} {a : Addr} {o : HO}, st[i]? = some c → c.live = true → Z.rho[i]? = some a → H a = some o → H1 a = some o ∧ Z1.fz a = none := fun {i c a o} h1 h2 h3 h4 => by
    have e := tm ((aside_in h1 h2 h3).trans h4)
    exact ⟨R1.tmp _ _ e, (R1.tof _ _ e).1⟩
  have some_of : ∀ {i : Nat} {c : C} {a : Addr}, st[i]? = some c → c.live = true → Z.rho[i]? = some a → ∃ o, H a = some o := fun {i c a} h1 h2 h3 => by
    have q := R.cell i c a h1 h3
    cases c with
    | lst xs => obtain ⟨vs, e, _⟩ := q; exact ⟨_, e⟩
    | dct ks ds => obtain ⟨vs, e, _⟩ := q; exact ⟨_, e⟩
    | ins c ns ds => obtain ⟨dx, vs, e, _⟩ := q; exact ⟨_, e⟩
    | dead => cases h2
  refine ⟨le, ⟨R1.fz, R.len, fun i c a h1 h3 => ?_, fun i c a h1 h2 h3 => ?_, R.inj, fun a o e => R1.tmp _ _ (tm (aside_tmp R e)), fun a o e => ⟨(R1.tof _ _ (tm (aside_tmp R e))).1, (R.tof a o e).2⟩⟩⟩
  · have q := R.cell i c a h1 h3
    cases c with
    | lst xs => obtain ⟨vs, e, r⟩ := q; exact ⟨vs, (cellv h1 rfl h3 e).1, RepL.up le _ _ r⟩
    | dct ks ds => obtain ⟨vs, e, n, r⟩ := q; exact ⟨vs, (cellv h1 rfl h3 e).1, n, RepL.up le _ _ r⟩
    | ins c ns ds => obtain ⟨dx, vs, e, n, r⟩ := q; exact ⟨dx, vs, (cellv h1 rfl h3 e).1, n, RepL.up le _ _ r⟩
    | dead => trivial
  · obtain ⟨o, e⟩ := some_of h1 h2 h3
    exact (cellv h1 h2 h3 e).2
theorem pur_post {f : List D → Sto → R D} {E : XK} {H : Hp} {st : Sto} {ds : List D} {vs : List V} {Q : VK} (R : RelH K G Z H st) (r : RepL K G Z ds vs) (h : Post K G (rD K G) E Z (pur f ds st) Q) : ∃ Z' st', RelH K G Z' H st' ∧ RepL K G Z' ds vs ∧ Post K G (rD K G) E Z' (f ds st') Q := by
  unfold pur at h
  split at h
  · rename_i hb
    have r0 : RepL K G ⟨Z.fz, [], aside Z H st⟩ ds vs := RepL.cut (Z := Z) (Z' := ⟨Z.fz, [], aside Z H st⟩) (n := 0) (Same.refl _) (fun i hi => absurd hi (Nat.not_lt_zero _)) ds vs hb r
    cases e1 : f ds [] with
    | ok d st1 =>
      rw [e1] at h
      dsimp only at h
      split at h
      · rename_i hd
        refine ⟨_, [], aside_go R, r0, ?_⟩
        rw [e1]
        intro Z1 v H1 l R1 p
        obtain ⟨l2, R2⟩ := aside_back R l R1
        exact h _ v H1 l2 R2 (Rep.cut (Z := Z1) (Z' := ⟨Z1.fz, Z.rho, Z.tmp⟩) (n := 0) (Same.refl _) (fun i hi => absurd hi (Nat.not_lt_zero _)) d v hd p)
      · exact ⟨Z, st, R, r, h⟩
    | exc c ns es st1 =>
      rw [e1] at h
      dsimp only at h
      split at h
      · rename_i hd
        refine ⟨_, [], aside_go R, r0, ?_⟩
        rw [e1]
        intro Z1 H1 x l R1 p
        obtain ⟨l2, R2⟩ := aside_back R l R1
        refine h _ H1 x l2 R2 ?_
        rcases p with p | ⟨a, us, p1, p2, p3, p4⟩
        · exact .inl p
        · exact .inr ⟨a, us, p1, p2, p3, RepL.cut (Z := Z1) (Z' := ⟨Z1.fz, Z.rho, Z.tmp⟩) (n := 0) (Same.refl _) (fun i hi => absurd hi (Nat.not_lt_zero _)) es us hd p4⟩
      · exact ⟨Z, st, R, r, h⟩
    | stuck => rw [e1] at h; exact h.elim
  · exact ⟨Z, st, R, r, h⟩
end
/-! ### promises -/
section
variable (K : PySem.W.Frag) (G : Nat → Addr)
def spS (n : Nat) (F : List D → Sto → R D) : Sp := fun vs H Q E => vs.length = n ∧ ∃ Z ds st, RelH K G Z H st ∧ RepL K G Z ds vs ∧ Post K G (rD K G) E Z (F ds st) Q
end
theorem spS_pur {K : PySem.W.Frag} {G : Nat → Addr} {n : Nat} {F : List D → Sto → R D} {vs : List V} {H : Hp} {Q : VK} {E : XK} (h : spS K G n (pur F) vs H Q E) : spS K G n F vs H Q E := by
  obtain ⟨hn, Z, ds, st, R, r, q⟩ := h
  obtain ⟨Z', st', R', r', q'⟩ := pur_post R r q
  exact ⟨hn, Z', ds, st', R', r', q'⟩
theorem okPur {P : Program} {w : World} {K : PySem.W.Frag} {mg : Str → Option Value} {base : Heap} {CX : CXT} {k n : Nat} {f : Addr} {fd : FuncData} {ps : List Str} {G : Nat → Addr} {F : List D → Sto → R D} (h : FnOk P w K mg base CX k f fd ps (spS K G n F)) : FnOk P w K mg base CX k f fd ps (spS K G n (pur F)) := h.imp fun _ _ _ _ q => spS_pur q
abbrev wE (E : XK) : WX := fun cls d _ H => E cls d H
def mCall (n : Nat) (F : List D → Sto → R D) (dds : List D) (m : MA) : M := fun env st => (m env st).bind fun ds st1 => if (ds ++ dds).length = n then F (ds ++ dds) st1 else .stuck
def mMeth (c : Nat) (nm : Str) (n : Nat) (F : List D → Sto → R D) (dds : List D) (mo : M) (m : MA) : M := fun env st => (mo env st).bind fun o st1 => match rd st1 o with
  | .ins c' ns _ => if c' = c ∧ ns.contains nm = false then (m env st1).bind fun ds st2 => if (o :: (ds ++ dds)).length = n then F (o :: (ds ++ dds)) st2 else .stuck else .stuck
  | _ => .stuck
/-- a new instance, which may change on -/
def dNew (c n : Nat) (F : List D → Sto → R D) (ds : List D) (st : Sto) : R D :=
  if (D.ptr st.length :: ds).length = n then (F (.ptr st.length :: ds) (st ++ [.ins c [] []])).bind fun r st2 => match r with
    | .non => .ok (.ptr st.length) st2
    | _ => .stuck
  else .stuck
/-- a new instance, which will not change any more -/
def dNewF (c n : Nat) (F : List D → Sto → R D) (ds : List D) (st : Sto) : R D := (dNew c n F ds st).bind fun d st2 => (dFrz d st2).bind fun d' st3 => gc st.length d' st3
def mMake (c n : Nat) (F : List D → Sto → R D) (dds : List D) (m : MA) : M := fun env st => (m env st).bind fun ds st1 => dNew c n F (ds ++ dds) st1
section
variable {G : Nat → Addr} {W : WX} {X : Cx} {k n : Nat} {f C : Addr} {fd : FuncData} {ps : List Str} {F : List D → Sto → R D} {dds : List D} {dvs : List V} {ds : List Value} {E : XK} {x : Str} {p pos apos : Pos} {e o : Expr} {es : List Expr} {m : MA} {mo : M}
theorem pS_call (Fk : FnOk X.prog X.w X.K X.mg X.base (L2.CX X.prog X.w) k f fd ps (spS X.K G n F)) (hr : Room k X.A) (hg : Gl X x) (hm : X.mg x = some (.ref f)) (hk : PySem.W.keepIn X.K (.ref f) = true) (hb : Binds X.K fd ps ds) (hd : Vals dvs ds) (hdv : ∀ Z, RepL X.K G Z dds dvs) (tk : Takes X W)
    (ha : PA X (e :: es) (tSA X.K G W m)) (hdb : (x == ("__debug__" : Str)) = false := by decide) (he : starEach (e :: es) X.env = (false, eval e X.env) :: starEach es X.env := by rfl) (hpl : (backTo pos (starEach es X.env)).any (·.1) = false := by rfl) :
    PE X (.Call (.Name x p) (e :: es) [] pos) (tS X.K G W (mCall n F dds m)) :=
  pe_of (pe_callSD (E := WE W) Fk hr hg hm hk hb hd (fun σ => passAt tk σ) ha hdb he hpl) fun σ H Q h => rs_bind (f := fun ds _ st1 => if (ds ++ dds).length = n then F (ds ++ dds) st1 else .stuck) h fun ds vs H1 Z env st R S p q => by
    split at q
    · rename_i hl
      have r : RepL X.K G Z (ds ++ dds) (vs ++ dvs) := RepL.append p (hdv Z)
      exact ⟨r.length ▸ hl, Z, _, st, R, r, q⟩
    · exact q.elim
theorem look_none {nm : Str} : ∀ {ns : List Str} {vs : List V}, ns.contains nm = false → (ns.zip vs).lookup nm = none
  | [], _, _ => rfl
  | _ :: _, [], _ => rfl
  | g :: r, v :: vs, h => by
    rw [List.contains_cons, Bool.or_eq_false_iff] at h
    rw [List.zip_cons_cons, List.lookup_cons, h.1]
    exact look_none h.2
theorem rs_meth {c : Nat} {nm : Str} {m : MA} {σ : St} {H : Hp} {Q : VK} {K : PySem.W.Frag} (hdv : ∀ Z, RepL K G Z dds dvs) (h : tS K G (wE E) (mMeth c nm n F dds mo m) σ H Q) : tMeth (G c) nm (spS K G n F) dvs E (tS K G (wE E) mo) (tSA K G (wE E) m) σ H Q :=
  rs_bind (f := fun o env st1 => match rd st1 o with
    | .ins c' ns _ => if c' = c ∧ ns.contains nm = false then (m env st1).bind fun ds st2 => if (o :: (ds ++ dds)).length = n then F (o :: (ds ++ dds)) st2 else .stuck else .stuck
    | _ => .stuck) h fun o x H1 Z env st R S p q => by
    split at q
    · rename_i c' ns ds' e1
      split at q
      · rename_i hc
        obtain ⟨rfl, hc⟩ := hc
        obtain ⟨l, dx, vs', ex, h1, hn, r⟩ := R.ins p e1
        refine ⟨l, dx, _, ex, h1, look_none hc, Z, env, st, R, S, q.bind fun ds st2 Z2 vs H2 l2 R2 p2 q2 => ?_⟩
        split at q2
        · rename_i hl
          have r2 : RepL K G Z2 (o :: (ds ++ dds)) (x :: (vs ++ dvs)) := ⟨x, _, rfl, Rep.up l2 o x p, RepL.append p2 (hdv Z2)⟩
          exact ⟨r2.length ▸ hl, Z2, _, st2, R2, r2, q2⟩
        · exact q2.elim
      · exact q.elim
    · exact q.elim
theorem rs_new {c : Nat} {K : PySem.W.Frag} {Z : Gh} {H : Hp} {st : Sto} {ds : List D} {vs : List V} {Q : VK} (R : RelH K G Z H st) (r : RepL K G Z ds vs) (h : Post K G (rD K G) E Z (dNew c n F ds st) Q) {x dx : Addr} (hx : H x = none) (hdx : H dx = none) (hne : dx ≠ x) :
    spS K G n F (.ref x :: vs) (upd (upd H dx (.own x)) x (.ins (G c) dx [])) (fun v H2 => v = .non ∧ Q (.ref x) H2) E := by
  unfold dNew at h
  split at h
  · rename_i hl
    have R1 := R.more (o := .own x) hdx
    have hx1 : upd H dx (.own x) x = none := by rw [upd_ne (Ne.symm hne)]; exact hx
    obtain ⟨l, R2⟩ := R1.add (o := .ins (G c) dx []) (c := .ins c [] []) hx1 fun Z' _ => ⟨dx, [], upd_same, rfl, rfl⟩
    have hat : (Z.rho ++ [x])[st.length]? = some x := by rw [← R.len]; simp
    have r2 : RepL K G ⟨Z.fz, Z.rho ++ [x], Z.tmp⟩ (.ptr st.length :: ds) (.ref x :: vs) := ⟨_, _, rfl, ⟨x, hat, rfl⟩, RepL.up l _ _ r⟩
    refine ⟨r2.length ▸ hl, _, _, _, R2, r2, (Post.up l h).bind fun d st2 Z2 v H2 l2 R3 p2 q2 => ?_⟩
    cases d with
    | non => exact ⟨p2, Post.now (P := rD K G) q2 R3 ⟨x, l2.at hat, rfl⟩⟩
    | _ => exact q2.elim
  · exact h.elim
theorem pS_make {c : Nat} (Mk' : Mk X.K (G c) f) (Fk : FnOk X.prog X.w X.K X.mg X.base (L2.CX X.prog X.w) k f fd ps (spS X.K G n F)) (hr : Room (k + 1) X.A) (hg : Gl X x) (hm : X.mg x = some (.ref (G c))) (hb : Binds X.K fd ps ds) (hd : Vals dvs ds) (hdv : ∀ Z, RepL X.K G Z dds dvs) (hx : Passes (L2.CX X.prog X.w) X E)
    (ha : PA X (e :: es) (tSA X.K G (wE E) m)) (hdb : (x == ("__debug__" : Str)) = false := by decide) (he : starEach (e :: es) X.env = (false, eval e X.env) :: starEach es X.env := by rfl) (hpl : (backTo pos (starEach es X.env)).any (·.1) = false := by rfl) :
    PE X (.Call (.Name x p) (e :: es) [] pos) (tS X.K G (wE E) (mMake c n F dds m)) :=
  pe_of (pe_make Mk' Fk hr hg hm hb hd hx ha hdb he hpl) fun σ H Q h => rs_bind (f := fun ds _ st1 => dNew c n F (ds ++ dds) st1) h fun ds vs H1 Z env st R S p q => fun x dx hx hdx hne => rs_new R (RepL.append p (hdv Z)) q hx hdx hne
def mMakeF (c n : Nat) (F : List D → Sto → R D) (dds : List D) (m : MA) : M := fun env st => (m env st).bind fun ds st1 => pur (dNewF c n F) (ds ++ dds) st1
theorem newF_new {c : Nat} {K : PySem.W.Frag} {Z : Gh} {st : Sto} {ds : List D} {Q : VK} (hz : Z.rho.length = st.length) (h : Post K G (rD K G) E Z (dNewF c n F ds st) Q) : Post K G (rD K G) E Z (dNew c n F ds st) Q := by
  unfold dNewF at h
  cases e : dNew c n F ds st with
  | ok d st2 => rw [e] at h; exact fun Z2 v2 H2 l2 R2 r2 => frz_gc hz.symm h l2 R2 r2
  | exc c' ns ds' st2 => rw [e] at h; exact h
  | stuck => rw [e] at h; exact h
theorem pS_makeF {c : Nat} (Mk' : Mk X.K (G c) f) (Fk : FnOk X.prog X.w X.K X.mg X.base (L2.CX X.prog X.w) k f fd ps (spS X.K G n F)) (hr : Room (k + 1) X.A) (hg : Gl X x) (hm : X.mg x = some (.ref (G c))) (hb : Binds X.K fd ps ds) (hd : Vals dvs ds) (hdv : ∀ Z, RepL X.K G Z dds dvs) (hx : Passes (L2.CX X.prog X.w) X E)
    (ha : PA X (e :: es) (tSA X.K G (wE E) m)) (hdb : (x == ("__debug__" : Str)) = false := by decide) (he : starEach (e :: es) X.env = (false, eval e X.env) :: starEach es X.env := by rfl) (hpl : (backTo pos (starEach es X.env)).any (·.1) = false := by rfl) :
    PE X (.Call (.Name x p) (e :: es) [] pos) (tS X.K G (wE E) (mMakeF c n F dds m)) :=
  pe_of (pe_make Mk' Fk hr hg hm hb hd hx ha hdb he hpl) fun σ H Q h => rs_bind (f := fun ds _ st1 => pur (dNewF c n F) (ds ++ dds) st1) h fun ds vs H1 Z env st R S p q => fun x dx hx hdx hne => by
    obtain ⟨Z', st', R', r', q'⟩ := pur_post R (RepL.append p (hdv Z)) q
    exact rs_new R' r' (newF_new R'.len q') hx hdx hne
/-- C(k = e, ..): gD puts the values in the parameters' order -/
def mMakeK (c n : Nat) (F : List D → Sto → R D) (l : Nat) (gD : List D → List D) (m : MA) : M := fun env st => (m env st).bind fun ds st1 => if ds.length = l then dNewF c n F (gD ds) st1 else .stuck
theorem pS_makeK {c : Nat} {ks : List Str} {kws : List Keyword} {g : List Value → List Value → List Value} {gV : List V → List V → List V} {gD : List D → List D} (Mk' : Mk X.K (G c) f) (Fk : FnOk X.prog X.w X.K X.mg X.base (L2.CX X.prog X.w) k f fd ps (spS X.K G n F)) (hr : Room (k + 1) X.A) (hg : Gl X x) (hm : X.mg x = some (.ref (G c))) (hb : KBn X.K fd ps 1 ks g gV)
    (hgD : ∀ Z ds vs v, ds.length = ks.length → RepL X.K G Z ds vs → ∃ us, gV [v] vs = v :: us ∧ RepL X.K G Z (gD ds) us) (hx : Passes (L2.CX X.prog X.w) X E) (ha : PK X kws (tSA X.K G (wE E) m))
    (h1 : ((backToKw pos (keywordEach kws X.env)).all fun x => x.fst.isSome) = true := by rfl) (h2 : List.filterMap (fun x => x.fst) (backToKw pos (keywordEach kws X.env)) = ks := by rfl) (hdb : (x == ("__debug__" : Str)) = false := by decide)
    (h3 : (((backTo pos (starEach [] X.env)).any fun x => x.fst) || (backToKw pos (keywordEach kws X.env)).any fun x => x.fst.isNone) = false := by rfl) :
    PE X (.Call (.Name x p) [] kws pos) (tS X.K G (wE E) (mMakeK c n F ks.length gD m)) :=
  pe_of (pe_makeK0 Mk' Fk hr hg hm hb hx ha h1 h2 hdb h3) fun σ H Q h => rs_bind (f := fun ds _ st1 => if ds.length = ks.length then dNewF c n F (gD ds) st1 else .stuck) h fun ds vs H1 Z env st R S p q => by
    split at q
    · rename_i hl
      refine ⟨rfl, by rw [← RepL.length p]; exact hl, fun x dx hx hdx hne => ?_⟩
      obtain ⟨us, e, r⟩ := hgD Z ds vs (.ref x) hl p
      rw [e]
      exact rs_new R r (newF_new R.len q) hx hdx hne
    · exact q.elim
/-- keywords' values -/
theorem pk_of {kws : List Keyword} {t t' : TA} (h : PK X kws t) (k : ∀ σ H Q, t' σ H Q → t σ H Q) : PK X kws t' := ⟨fun pos pins s σ H Q I q => h.run pos pins s σ H Q I (k σ H Q q)⟩
theorem pSK_nil {K : PySem.W.Frag} : PK X [] (tSA K G W mNil) := pk_of pk_nil fun _ _ _ => rs_nil
theorem pSK_cons {K : PySem.W.Frag} {m : M} {n : MA} {kws : List Keyword} {nm : Option Str} {kp : Pos} (h : PE X e (tS K G W m)) (h' : PK X kws (tSA K G W n)) : PK X (⟨nm, e, kp⟩ :: kws) (tSA K G W (mCons m n)) := pk_of (pk_cons h h') fun _ _ _ => rs_cons
theorem pS_meth {c : Nat} {nm : Str} {pl : Sem Bool} (ho : PE X o (tS X.K G (wE E) mo)) (hc : Cls X.K (G c)) (hm : Meth X.K (G c) nm f) (Fk : FnOk X.prog X.w X.K X.mg X.base (L2.CX X.prog X.w) k f fd ps (spS X.K G n F)) (hr : Room k X.A) (hb : Binds X.K fd ps ds) (hd : Vals dvs ds) (hdv : ∀ Z, RepL X.K G Z dds dvs) (hx : Passes (L2.CX X.prog X.w) X E) (ha : PA X (e :: es) (tSA X.K G (wE E) m))
    (hst : starEach (e :: es) X.env = (false, eval e X.env) :: starEach es X.env := by rfl) (hpl : (backTo pos (starEach es X.env)).any (·.1) = false := by rfl)
    (ht : eval (.Call (.Attribute o nm apos) (e :: es) [] pos) X.env = (do
      let ov ← eval o X.env
      standAt apos.atName
      let (f, first) ← holding [ov] (getMethod ov nm pl)
      callWith pos f first (backTo pos (starEach (e :: es) X.env)) (backToKw pos (keywordEach [] X.env))) := by rfl) :
    PE X (.Call (.Attribute o nm apos) (e :: es) [] pos) (tS X.K G (wE E) (mMeth c nm n F dds mo m)) :=
  pe_of (pe_meth ho hc hm Fk hr hb hd hx ha hst hpl ht) fun σ H Q h => rs_meth hdv h
theorem pS_meth0 {c : Nat} {nm : Str} {pl : Sem Bool} (ho : PE X o (tS X.K G (wE E) mo)) (hc : Cls X.K (G c)) (hm : Meth X.K (G c) nm f) (Fk : FnOk X.prog X.w X.K X.mg X.base (L2.CX X.prog X.w) k f fd ps (spS X.K G n F)) (hr : Room k X.A) (hb : Binds X.K fd ps ds) (hd : Vals dvs ds) (hdv : ∀ Z, RepL X.K G Z dds dvs) (hx : Passes (L2.CX X.prog X.w) X E)
    (ht : eval (.Call (.Attribute o nm apos) [] [] pos) X.env = (do
      let ov ← eval o X.env
      standAt apos.atName
      let (f, first) ← holding [ov] (getMethod ov nm pl)
      callWith pos f first (backTo pos (starEach [] X.env)) (backToKw pos (keywordEach [] X.env))) := by rfl) :
    PE X (.Call (.Attribute o nm apos) [] [] pos) (tS X.K G (wE E) (mMeth c nm n F dds mo mNil)) :=
  pe_of (pe_meth0 ho hc hm Fk hr hb hd hx ht) fun σ H Q h => by
    obtain ⟨Z, env, st, R, S, q⟩ := rs_meth hdv h
    refine ⟨Z, env, st, R, S, q.imp fun x H1 ⟨a, dx, fs, e1, e2, e3, q2⟩ => ⟨a, dx, fs, e1, e2, e3, rs_nil q2⟩⟩
end
/-! ### a def -/
def gcX (n : Nat) (c : Nat) (ns : List Str) (ds : List D) (st : Sto) : R D := if belowL n ds && (st.take n).all (belowC n) then .exc c ns ds (st.take n) else .exc c ns ds st
def mFun (fz : Bool) (n : Nat) (ms : MS) : List D → Sto → R D := fun ds st => match ms (ds.map some ++ List.replicate (n - ds.length) none) st with
  | .nx _ st' => gc st.length .non st'
  | .rt d st' => if fz = true then (dFrz d st').bind fun d' st2 => gc st.length d' st2 else gc st.length d st'
  | .exc _ c ns ds st' => gcX st.length c ns ds st'
  | _ => .stuck
section
variable {K : PySem.W.Frag} {G : Nat → Addr} {Z : Gh}
theorem repE_none : ∀ n : Nat, RepE K G Z (List.replicate n none) (List.replicate n none)
  | 0 => rfl
  | n + 1 => ⟨none, _, rfl, trivial, repE_none n⟩
theorem repE_start {k : Nat} : ∀ {ds : List D} {vs : List V}, RepL K G Z ds vs → RepE K G Z (ds.map some ++ List.replicate k none) (vs.map some ++ List.replicate k none)
  | [], _, r => by cases (show _ = _ from r); exact repE_none k
  | d :: ds, _, ⟨v, t, e, p, q⟩ => by subst e; exact ⟨some v, _, rfl, ⟨v, rfl, p⟩, repE_start q⟩
theorem gcX_post {E : XK} {n c : Nat} {ns : List Str} {ds : List D} {x : Option Addr} {st : Sto} {Q : VK} {Z' : Gh} {H : Hp} (hn : n = Z.rho.length) (h : Post K G (rD K G) E Z (gcX n c ns ds st) Q) (l : Z.le Z') (R : RelH K G Z' H st) (r : XOk K G Z' ns ds x) : E (.ref (G c)) x H := by
  subst hn
  unfold gcX at h
  split at h
  · rename_i hb
    rw [Bool.and_eq_true] at hb
    refine h _ _ _ (gc_le l) (R.drop _ hb.2) ?_
    rcases r with r | ⟨a, vs, h1, h2, h3, h4⟩
    · exact .inl r
    · exact .inr ⟨a, vs, h1, h2, h3, gc_cutL hb.1 h4⟩
  · exact h _ _ _ l R r
theorem fun_post {fz : Bool} {E : XK} {n : Nat} {ms : MS} {ds : List D} {st : Sto} {Q : VK} (hz : Z.rho.length = st.length) (h : Post K G (rD K G) E Z (mFun fz n ms ds st) Q) :
    PostS K G (wE E) Z (ms (ds.map some ++ List.replicate (n - ds.length) none) st) { nx := fun _ H' => Q .non H', rt := Q } := by
  unfold mFun at h
  cases q : ms (ds.map some ++ List.replicate (n - ds.length) none) st with
  | nx env st' => rw [q] at h; exact fun Z' σ H l R S => gc_post hz.symm h l R rfl
  | rt d st' =>
    rw [q] at h
    cases fz with
    | true => exact fun Z' v H l R r => frz_gc hz.symm h l R r
    | false => exact fun Z' v H l R r => gc_post hz.symm h l R r
  | bk env st' => rw [q] at h; exact h.elim
  | ct env st' => rw [q] at h; exact h.elim
  | exc env c ns ds st' => rw [q] at h; exact fun Z' σ H x l R S r => gcX_post hz.symm h l R r
  | stuck => rw [q] at h; exact h
theorem sp_body {fz : Bool} {N : List Str} {n : Nat} {ms : MS} {vs : List V} {H : Hp} {Q : VK} {E : XK} (h : spS K G n (mFun fz N.length ms) vs H Q E) : tSS K G (wE E) ms { nx := fun _ H' => Q .non H', rt := Q } (L2.start N vs) H := by
  obtain ⟨_, Z, ds, st, R, r, h⟩ := h
  refine ⟨Z, _, st, R, ?_, fun_post R.len h⟩
  unfold L2.start
  rw [r.length]
  exact repE_start r
end
section
variable {P : Program} {w : World} {K : PySem.W.Frag} {mg : Str → Option Value} {base : Heap} {G : Nat → Addr}
theorem fnS {fz : Bool} {x qual : Str} {st : Stmt} {f : Addr} {fd : FuncData} {N ps : List Str} {k n : Nat} {ms : MS} (F : Fun K x qual st f fd) (S : FnScope N ps (defScope st)) (hn : n = ps.length)
    (hb : ∀ (cdv : Value) (A : Around) (outer : List PySem.Env) (s : Shared) (H : Hp) (E : XK), Room k (A.deeper (PyProof.Rows.envOfC qual (defScope st) s.heap.objs.size f cdv)) → PSs (cxOf (L2.CX P w) P w K mg base N qual (defScope st) f cdv A outer s H E) (defBody st) (tSS K G (wE E) ms)) :
    FnOk P w K mg base (L2.CX P w) (k + 1) f fd ps (spS K G n (mFun fz N.length ms)) :=
  F.okX S (fun vs H Q E h => by rw [h.1, hn]) fun cdv A outer s H vs Q E hr h => ⟨_, hb cdv A outer s H E hr, sp_body h⟩
end
end S
/-! targets, loops, comprehensions -/
namespace S
open PySem L2
/-! ### targets -/
inductive Tg where
  | nm (i : Nat)
  | tp (ts : List Tg)
mutual
def Tg.at (t : Tg) (d : D) (env : Env) (st : Sto) : Option Env := match t with
  | .nm i => some (env.set i (some d))
  | .tp ts => match items st d with
    | some ds => if ds.length = ts.length then Tg.ats ts ds env st else none
    | none => none
def Tg.ats (ts : List Tg) (ds : List D) (env : Env) (st : Sto) : Option Env := match ts, ds with
  | [], [] => some env
  | t :: r, d :: ds => match Tg.at t d env st with
    | some env1 => Tg.ats r ds env1 st
    | none => none
  | _, _ => none
end
mutual
def Tg.slots : Tg → List Nat
  | .nm i => [i]
  | .tp ts => Tg.slotss ts
def Tg.slotss : List Tg → List Nat
  | [] => []
  | t :: r => Tg.slots t ++ Tg.slotss r
end
abbrev gSq (K : PySem.W.Frag) (n : Nat) (t : TGs) : TG := fun v σ H Q => gTup K n t v σ H Q ∨ gUnl K n t v σ H Q
mutual
def gOf (K : PySem.W.Frag) : Tg → TG
  | .nm i => gName i
  | .tp ts => gSq K ts.length (gsOf K ts)
def gsOf (K : PySem.W.Frag) : List Tg → TGs
  | [] => gNil
  | t :: r => gCons (gOf K t) (gsOf K r)
end
/-- the same but for some slots -/
def Off (vs : List Nat) (σ σ' : St) : Prop := σ.length = σ'.length ∧ ∀ j : Nat, j ∉ vs → σ[j]? = σ'[j]?
theorem Off.refl (vs : List Nat) (σ : St) : Off vs σ σ := ⟨rfl, fun _ _ => rfl⟩
theorem Off.trans {vs : List Nat} {a b c : St} (h : Off vs a b) (h' : Off vs b c) : Off vs a c := ⟨h.1.trans h'.1, fun j hj => (h.2 j hj).trans (h'.2 j hj)⟩
theorem Off.set {vs : List Nat} {σ : St} {i : Nat} {x : Option V} (h : i ∈ vs) : Off vs (σ.set i x) σ := ⟨by simp, fun j hj => List.getElem?_set_ne (fun e => hj (by rw [← e]; exact h))⟩
theorem wipe_in {σ : St} {i : Nat} : ∀ {vs : List Nat}, i ∈ vs → i < σ.length → (wipe σ vs)[i]? = some none
  | v :: vs, h, hl => by
    unfold wipe
    by_cases e : v = i
    · subst e; rw [List.getElem?_set_self (by rw [wipe_length]; exact hl)]
    · rw [List.getElem?_set_ne e]
      exact wipe_in ((List.mem_cons.mp h).resolve_left fun z => e z.symm) hl
theorem Off.wipe {vs : List Nat} {a b : St} (h : Off vs a b) : L2.wipe a vs = L2.wipe b vs := by
  apply List.ext_getElem?
  intro j
  by_cases hj : j ∈ vs
  · by_cases hl : j < a.length
    · rw [wipe_in hj hl, wipe_in hj (h.1 ▸ hl)]
    · rw [List.getElem?_eq_none (by rw [wipe_length]; omega), List.getElem?_eq_none (by rw [wipe_length, ← h.1]; omega)]
  · rw [wipe_out hj, wipe_out hj]; exact h.2 j hj
theorem off_wipe (vs : List Nat) (σ : St) : Off vs (L2.wipe σ vs) σ := ⟨wipe_length σ vs, fun _ hj => wipe_out hj⟩
section
variable {K : PySem.W.Frag} {G : Nat → Addr} {Z : Gh} {H : Hp} {st : Sto}
mutual
theorem Tg.run (R : RelH K G Z H st) : ∀ (t : Tg) (d : D) (v : V) (env env' : Env) (σ : St) (Q : St → Hp → Prop), RepE K G Z env σ → Rep K G Z d v → t.at d env st = some env' → (∀ σ', RepE K G Z env' σ' → Off t.slots σ' σ → Q σ' H) → gOf K t v σ H Q
  | .nm i, d, v, env, env', σ, Q, S, p, e, k => by
    unfold Tg.at at e
    cases e
    unfold gOf
    exact k _ (S.set p i) (Off.set (by simp [Tg.slots]))
  | .tp ts, d, v, env, env', σ, Q, S, p, e, k => by
    unfold Tg.at at e
    split at e
    · rename_i ds e1
      split at e
      · rename_i hl
        obtain ⟨l, vs, rfl, hs, r⟩ := R.items p e1
        have z := Tg.runs R ts ds vs env env' σ Q S r e (fun σ' S' o => k σ' S' (by unfold Tg.slots; exact o))
        unfold gOf
        rcases hs with hs | hs
        · exact .inr ⟨l, vs, rfl, hs, by rw [← r.length]; exact hl, z⟩
        · exact .inl ⟨l, vs, rfl, hs, by rw [← r.length]; exact hl, z⟩
      · cases e
    · cases e
theorem Tg.runs (R : RelH K G Z H st) : ∀ (ts : List Tg) (ds : List D) (vs : List V) (env env' : Env) (σ : St) (Q : St → Hp → Prop), RepE K G Z env σ → RepL K G Z ds vs → Tg.ats ts ds env st = some env' → (∀ σ', RepE K G Z env' σ' → Off (Tg.slotss ts) σ' σ → Q σ' H) → gsOf K ts vs σ H Q
  | [], [], _, env, env', σ, Q, S, p, e, k => by
    unfold Tg.ats at e
    cases e
    cases (show _ = _ from p)
    unfold gsOf
    exact ⟨rfl, k σ S (Off.refl _ _)⟩
  | [], _ :: _, _, env, env', σ, Q, S, p, e, k => by unfold Tg.ats at e; cases e
  | _ :: _, [], _, env, env', σ, Q, S, p, e, k => by unfold Tg.ats at e; cases e
  | t :: r, d :: ds, _, env, env', σ, Q, S, ⟨v, us, q, p, pr⟩, e, k => by
    subst q
    unfold Tg.ats at e
    split at e
    · rename_i env1 e1
      unfold gsOf
      refine ⟨v, us, rfl, Tg.run R t d v env env1 σ _ S p e1 fun σ1 S1 o1 => ?_⟩
      refine Tg.runs R r ds us env1 env' σ1 Q S1 pr e fun σ2 S2 o2 => k σ2 S2 ?_
      unfold Tg.slotss
      exact Off.trans ⟨o2.1, fun j hj => o2.2 j fun z => hj (List.mem_append_right _ z)⟩ ⟨o1.1, fun j hj => o1.2 j fun z => hj (List.mem_append_left _ z)⟩
    · cases e
end
variable {X : Cx} {pos : Pos}
theorem pG_nm {i : Nat} {x : Str} (hN : X.N.Nodup) (hi : X.N[i]? = some x) (hx : Loc X.env.scope x) (hf : X.fn x = true ∨ X.env.scope.names.lookup x = some .local := by first | exact .inl rfl | exact .inr rfl | assumption) : PG X (.Name x pos) (gOf K (.nm i)) := by
  unfold gOf
  exact pg_name hN hi hx hf
theorem pG_tp {es : List Expr} {k : Nat} {ts : List Tg} (hc : X.calm = true) (h : PGs X es (gsOf X.K ts)) (hn : (assignEach es X.env).length = ts.length := by rfl) (hst : (assignEach es X.env).findIdx? (·.1) = none := by rfl) : PG X (.Tuple es k pos) (gOf X.K (.tp ts)) := by
  unfold gOf
  refine ⟨fun pins s σ H v u Q I r q => ?_⟩
  rcases q with q | q
  · exact (pg_tup hc h hn hst).run pins s σ H v u Q I r q
  · exact (pg_unl hc h hn hst).run pins s σ H v u Q I r q
theorem pGs_nil : PGs X [] (gsOf K []) := by unfold gsOf; exact pgs_nil
theorem pGs_cons {e : Expr} {es : List Expr} {t : Tg} {ts : List Tg} (h1 : PG X e (gOf K t)) (h2 : PGs X es (gsOf K ts)) (hs : (assignEach (e :: es) X.env).map (·.2) = assign e X.env :: (assignEach es X.env).map (·.2) := by rfl) : PGs X (e :: es) (gsOf K (t :: ts)) := by unfold gsOf; exact pgs_cons h1 h2 hs
end
/-- a, b = e -/
def mAsg (t : Tg) (m : M) : MS := fun env st => match m env st with
  | .ok d st' => (match t.at d env st' with
    | some env' => .nx env' st'
    | none => .stuck)
  | .exc c ns ds st' => .exc env c ns ds st'
  | .stuck => .stuck
theorem pS_asg {K : PySem.W.Frag} {G : Nat → Addr} {W : WX} {X : Cx} {tg e : Expr} {pos : Pos} {t : Tg} {m : M} (he : PE X e (tS K G W m)) (hg : PG X tg (gOf K t)) (h1 : swapsWithSole [tg] e pos.line X.env = pure false := by rfl) (h2 : swappedStores [tg] e X.env = pure none := by rfl)
    (h3 : List.map (fun x => x.snd) (assignEach [tg] X.env) = [assign tg X.env] := by rfl) : PS X (.Assign [tg] e pos) (tSS K G W (mAsg t m)) :=
  ps_of (ps_asg he hg h1 h2 h3) fun Dn σ H ⟨Z, env, st, R, S, h⟩ => ⟨Z, env, st, R, S, post_stm (f := fun d st' => match t.at d env st' with | some env' => .nx env' st' | none => .stuck) S h fun d st' Z' v H' l R' r q => by
    cases e : t.at d env st' with
    | none => rw [e] at q; exact q.elim
    | some env' => rw [e] at q; exact Tg.run R' t d v env env' σ _ (S.up l) r e fun σ' S' _ => q Z' σ' H' (Gh.le.refl _) R' S'⟩
/-! ### what is walked -/
section
variable (K : PySem.W.Frag) (G : Nat → Addr)
def rI : Gh → List D → It → Prop := fun Z ds J => ∃ (Gd : Hp → Prop) (Y : Nat → Hp → V → Hp → Prop), Walk J ds.length Gd Y ∧ (∀ Z' H st, Z.ex Z' → RelH K G Z' H st → Gd H) ∧
  ∀ (i : Nat) x H H' Z' st, Z.ex Z' → RelH K G Z' H st → i < ds.length → Y i H x H' → ∃ Z'' d, Z'.le Z'' ∧ RelH K G Z'' H' st ∧ ds[i]? = some d ∧ Rep K G Z'' d x
abbrev tSI (W : WX) (m : MA) : TI := tG K G (rI K G) W m
end
theorem pi_of {X : Cx} {tg e : Expr} {t t' : TI} (h : PI X tg e t) (k : ∀ σ H Q, t' σ H Q → t σ H Q) : PI X tg e t' := ⟨fun pins s σ H R I q => h.run pins s σ H R I (k σ H R q)⟩
/-- the items of a list or tuple that will not change -/
def itemsF : D → Option (List D)
  | .lst xs => some xs
  | .rls xs => some xs
  | .tup xs => some xs
  | _ => none
def mItSeq (m : M) : MA := fun env st => (m env st).bind fun d st1 => match itemsF d with
  | some xs => .ok xs st1
  | none => .stuck
def signs (z : Str) : List D := z.cps.toList.map fun c => .str ⟨#[c]⟩
def mItStr (m : M) : MA := fun env st => (m env st).bind fun d st1 => match d with
  | .str z => .ok (signs z) st1
  | _ => .stuck
def rangeD (lo : Int) (n : Nat) : List D := (List.range n).map fun (i : Nat) => D.int (lo + i)
def mItRange (m : MA) : MA := fun env st => (m env st).bind fun ds st1 => match ds with
  | [.int j] => if -(2 ^ 62) ≤ j ∧ j < 2 ^ 62 then .ok (rangeD 0 j.toNat) st1 else .stuck
  | _ => .stuck
def mItRange2 (m : MA) : MA := fun env st => (m env st).bind fun ds st1 => match ds with
  | [.int i, .int j] => if -(2 ^ 62) ≤ i ∧ i < 2 ^ 62 ∧ -(2 ^ 62) ≤ j ∧ j < 2 ^ 62 then .ok (rangeD i (j - i).toNat) st1 else .stuck
  | _ => .stuck
def enumD (xs : List D) : List D := xs.zipIdx.map fun p => .tup [.int (p.2 : Nat), p.1]
def mItEnum (m : MA) : MA := fun env st => (m env st).bind fun ds st1 => match ds with
  | [d] => (match d with
    | .lst xs => .ok (enumD xs) st1
    | .rls xs => .ok (enumD xs) st1
    | _ => .stuck)
  | _ => .stuck
section
variable {K : PySem.W.Frag} {G : Nat → Addr} {W : WX} {X : Cx} {tg e : Expr} {m : M} {pos p : Pos}
theorem walkL {Z : Gh} {a : Addr} {vs : List V} {ds : List D} (hs : SqL K Z.fz a vs) (r : RepL K G Z ds vs) : rI K G Z ds (Itl K a) := by
  refine ⟨_, _, r.length ▸ walk_list (xs := vs), fun Z' H st l R => R.fz.seq (l.fz.seq hs), fun i x H H' Z' st l R hi y => ?_⟩
  obtain ⟨rfl, y⟩ := y
  obtain ⟨d, hd⟩ : ∃ d, ds[i]? = some d := ⟨_, List.getElem?_eq_getElem hi⟩
  obtain ⟨v, h1, h2⟩ := (RepL.ux l _ _ r).get hd
  rw [y] at h1; cases h1
  exact ⟨Z', d, Gh.le.refl _, R, hd, h2⟩
theorem walkT {Z : Gh} {a : Addr} {vs : List V} {ds : List D} (hs : SqT K Z.fz a vs) (r : RepL K G Z ds vs) : rI K G Z ds (Itt K a) := by
  refine ⟨_, _, r.length ▸ walk_tup (xs := vs), fun Z' H st l R => Same.sqt' R.fz (Same.sqt' l.fz hs), fun i x H H' Z' st l R hi y => ?_⟩
  obtain ⟨rfl, y⟩ := y
  obtain ⟨d, hd⟩ : ∃ d, ds[i]? = some d := ⟨_, List.getElem?_eq_getElem hi⟩
  obtain ⟨v, h1, h2⟩ := (RepL.ux l _ _ r).get hd
  rw [y] at h1; cases h1
  exact ⟨Z', d, Gh.le.refl _, R, hd, h2⟩
theorem pI_seq (h : PE X e (tS X.K G W m)) : PI X tg e (tSI X.K G W (mItSeq m)) := by
  refine ⟨fun pins s σ H Rr I q => ?_⟩
  obtain ⟨Z, env, st, R, S, h0⟩ := q
  have lst : ∀ d st1, m env st = .ok d st1 → (∃ xs, (d = .lst xs ∨ d = .rls xs)) → iList X.K (tS X.K G W m) σ H Rr := fun d st1 e1 hd => by
    refine ⟨Z, env, st, R, S, ?_⟩
    unfold mItSeq at h0
    rw [e1] at h0 ⊢
    obtain ⟨xs, ed | ed⟩ := hd <;> subst ed
    · intro Z' v H' l R' r
      obtain ⟨a, vs, rfl, hs, rl⟩ := id r
      exact ⟨a, rfl, ⟨vs, SqL.of (R'.fz _ _ hs)⟩, (Post.up l h0).now R' (walkL (SqL.of hs) rl)⟩
    · intro Z' v H' l R' r
      obtain ⟨a, vs, rfl, hs, rl⟩ := id r
      exact ⟨a, rfl, ⟨vs, R'.fz.seq hs⟩, (Post.up l h0).now R' (walkL hs rl)⟩
  cases e1 : m env st with
  | ok d st1 =>
    cases d with
    | tup xs =>
      refine (pi_tup h).run pins s σ H Rr I ⟨Z, env, st, R, S, ?_⟩
      unfold mItSeq at h0
      rw [e1] at h0 ⊢
      intro Z' v H' l R' r
      obtain ⟨a, vs, rfl, hs, rl⟩ := id r
      exact ⟨a, rfl, ⟨vs, Same.sqt' R'.fz hs⟩, (Post.up l h0).now R' (walkT hs rl)⟩
    | lst xs => exact (pi_list h).run pins s σ H Rr I (lst _ _ e1 ⟨xs, .inl rfl⟩)
    | rls xs => exact (pi_list h).run pins s σ H Rr I (lst _ _ e1 ⟨xs, .inr rfl⟩)
    | _ => unfold mItSeq at h0; rw [e1] at h0; exact h0.elim
  | exc c ns ds st1 =>
    refine (pi_list h).run pins s σ H Rr I ⟨Z, env, st, R, S, ?_⟩
    unfold mItSeq at h0
    rw [e1] at h0 ⊢
    exact h0
  | stuck => unfold mItSeq at h0; rw [e1] at h0; exact h0.elim
theorem walkS {Z : Gh} {z : Str} : rI K G Z (signs z) (Its z) := by
  have hl : (signs z).length = z.cps.size := by simp [signs]
  refine ⟨_, _, hl ▸ walk_str, fun _ _ _ _ _ => trivial, fun i x H H' Z' st l R hi y => ?_⟩
  obtain ⟨rfl, c, hc, rfl⟩ := y
  refine ⟨Z', .str ⟨#[c]⟩, Gh.le.refl _, R, ?_, rfl⟩
  unfold signs
  rw [List.getElem?_map, Array.getElem?_toList, hc]
  rfl
theorem pI_str (h : PE X e (tS K G W m)) : PI X tg e (tSI K G W (mItStr m)) :=
  pi_of (pi_str h) fun σ H Q h => rs_bind (f := fun d _ st1 => match d with | .str z => .ok (signs z) st1 | _ => .stuck) h fun d v H1 Z env st R S r q => by
    cases d with
    | str z => exact ⟨z, r, Post.now (P := rI K G) q R walkS⟩
    | _ => exact q.elim
theorem walkR {Z : Gh} {lo : Int} {n : Nat} : rI K G Z (rangeD lo n) (Itr lo n) := by
  have hl : (rangeD lo n).length = n := by simp [rangeD]
  refine ⟨_, _, (by rw [hl]; exact walk_range : Walk (Itr lo n) (rangeD lo n).length (fun _ => True) (YFn fun i => V.int (lo + (i : Nat)))), fun _ _ _ _ _ => trivial, fun i x H H' Z' st l R hi y => ?_⟩
  obtain ⟨rfl, rfl⟩ := y
  refine ⟨Z', .int (lo + i), Gh.le.refl _, R, ?_, rfl⟩
  unfold rangeD
  rw [List.getElem?_map, List.getElem?_range (hl ▸ hi)]
  rfl
theorem RepL.n1 {Z : Gh} {vs : List V} {j : Int} (r : RepL K G Z [.int j] vs) : vs = [.int j] := by
  obtain ⟨x, rfl, p⟩ := RepL.one r
  cases (show x = _ from p); rfl
theorem pI_range1 {a : Expr} {m : MA} (hg : Gl X "range") (hm : X.mg "range" = none) (ha : PA X [a] (tSA K G W m)) (hs : starEach [a] X.env = [(false, eval a X.env)] := by rfl) : PI X tg (.Call (.Name "range" p) [a] [] pos) (tSI K G W (mItRange m)) :=
  pi_of (pi_range1 hg hm ha hs) fun σ H Q h => rs_bind (f := fun ds _ st1 => match ds with
    | [.int j] => if -(2 ^ 62) ≤ j ∧ j < 2 ^ 62 then .ok (rangeD 0 j.toNat) st1 else .stuck
    | _ => .stuck) h fun ds vs H1 Z env st R S r q => by
    split at q
    · cases r.n1
      split at q
      · rename_i hc; exact ⟨_, rfl, hc.1, hc.2, Post.now (P := rI K G) q R walkR⟩
      · exact q.elim
    · exact q.elim
theorem pI_range2 {a b : Expr} {m : MA} (hg : Gl X "range") (hm : X.mg "range" = none) (ha : PA X [a, b] (tSA K G W m)) (hs : starEach [a, b] X.env = [(false, eval a X.env), (false, eval b X.env)] := by rfl) (hs2 : starEach [b] X.env = [(false, eval b X.env)] := by rfl) : PI X tg (.Call (.Name "range" p) [a, b] [] pos) (tSI K G W (mItRange2 m)) :=
  pi_of (pi_range2 hg hm ha hs hs2) fun σ H Q h => rs_bind (f := fun ds _ st1 => match ds with
    | [.int i, .int j] => if -(2 ^ 62) ≤ i ∧ i < 2 ^ 62 ∧ -(2 ^ 62) ≤ j ∧ j < 2 ^ 62 then .ok (rangeD i (j - i).toNat) st1 else .stuck
    | _ => .stuck) h fun ds vs H1 Z env st R S r q => by
    split at q
    · obtain ⟨x, y, rfl, p1, p2⟩ := RepL.two r
      cases (show x = _ from p1); cases (show y = _ from p2)
      split at q
      · rename_i hc; exact ⟨_, _, rfl, hc, Post.now (P := rI K G) q R walkR⟩
      · exact q.elim
    · exact q.elim
theorem walkE {Z : Gh} {a : Addr} {vs : List V} {ds : List D} (hs : SqL K Z.fz a vs) (r : RepL K G Z ds vs) : rI K G Z (enumD ds) (Ite K a) := by
  have hl : (enumD ds).length = vs.length := by simp [enumD, r.length]
  refine ⟨_, _, hl ▸ walk_enum (xs := vs), fun Z' H st l R => R.fz.seq (l.fz.seq hs), fun i x H H' Z' st l R hi y => ?_⟩
  obtain ⟨T, x1, x2, rfl, hT, rfl, e1, e2⟩ := y
  have hi' : i < ds.length := by simpa [enumD] using hi
  obtain ⟨d, hd⟩ : ∃ d, ds[i]? = some d := ⟨_, List.getElem?_eq_getElem hi'⟩
  obtain ⟨v, h1, h2⟩ := (RepL.ux l _ _ r).get hd
  have e2 : vs[i]? = some x2 := e2
  have e1 : some (V.int (i : Nat)) = some x1 := e1
  rw [e2] at h1; cases h1; cases e1
  obtain ⟨l', R'⟩ := R.lay (o := .tup [.int (i : Nat), x2]) hT
  refine ⟨_, .tup [.int (i : Nat), d], l', R', ?_, T, _, rfl, .inl (.inl upd_same), _, _, rfl, rfl, _, _, rfl, Rep.up l' _ _ h2, rfl⟩
  unfold enumD
  rw [List.getElem?_map, List.getElem?_zipIdx, hd]
  simp
theorem pI_enum {a : Expr} {m : MA} {elts : List Expr} {kk : Nat} {tpos : Pos} (hg : Gl X "enumerate") (hm : X.mg "enumerate" = none) (ha : PA X [a] (tSA X.K G W m)) (hs : starEach [a] X.env = [(false, eval a X.env)] := by rfl) : PI X (.Tuple elts kk tpos) (.Call (.Name "enumerate" p) [a] [] pos) (tSI X.K G W (mItEnum m)) :=
  pi_of (pi_enum hg hm ha hs) fun σ H Q h => rs_bind (f := fun ds _ st1 => match ds with
    | [d] => (match d with
      | .lst xs => .ok (enumD xs) st1
      | .rls xs => .ok (enumD xs) st1
      | _ => .stuck)
    | _ => .stuck) h fun ds vs H1 Z env st R S r q => by
    split at q
    · obtain ⟨x, rfl, p1⟩ := RepL.one r
      split at q
      · obtain ⟨b, us, rfl, hs, rl⟩ := p1
        exact ⟨b, us, rfl, SqL.of (R.fz _ _ hs), Post.now (P := rI X.K G) q R (walkE (SqL.of hs) rl)⟩
      · obtain ⟨b, us, rfl, hs, rl⟩ := p1
        exact ⟨b, us, rfl, R.fz.seq hs, Post.now (P := rI X.K G) q R (walkE hs rl)⟩
      · exact q.elim
    · exact q.elim
end
end S
/-! for, comprehensions -/
namespace S
open PySem L2
/-! ### for -/
def mForGo (t : Tg) (body : MS) : List D → Env → Sto → RS
  | [], env, st => .nx env st
  | d :: ds, env, st => match t.at d env st with
    | none => .stuck
    | some env1 => match body env1 st with
      | .nx env2 st2 => mForGo t body ds env2 st2
      | .ct env2 st2 => mForGo t body ds env2 st2
      | .bk env2 st2 => .nx env2 st2
      | r => r
def mFor (t : Tg) (mi : MA) (body : MS) : MS := fun env st => match mi env st with
  | .ok ds st1 => mForGo t body ds env st1
  | .exc c ns ds st1 => .exc env c ns ds st1
  | .stuck => .stuck
section
variable {K : PySem.W.Frag} {G : Nat → Addr} {W : WX} {X : Cx} {tg iter : Expr} {body : List Stmt} {pos : Pos} {t : Tg} {mi : MA} {mb : MS}
theorem for_run {Dn : Ends} {σ : St} {H : Hp} {Z : Gh} {env : Env} {st : Sto} {ds : List D} {J : It} (R : RelH K G Z H st) (S : RepE K G Z env σ) (w : rI K G Z ds J) (h : PostS K G W Z (mForGo t mb ds env st) Dn) :
    ∃ W' : Nat → Nat → St → Hp → Prop, (∃ m, W' 0 m σ H) ∧ ∀ i m σ H, W' i m σ H →
      (J.stop i H ∧ Dn.nx σ H) ∨ (J.go i H ∧ ∃ N : St → Hp → Prop, (∀ σ' H', N σ' H' → ∃ m', m' < m ∧ W' (i + 1) m' σ' H') ∧ ∀ x H', J.yld i H x H' → gOf K t x σ H' fun σ2 H2 => tSS K G W mb { Dn with nx := N, ct := N, bk := Dn.nx } σ2 H2) := by
  obtain ⟨Gd, Y, wk, hG, hY⟩ := w
  refine for_it wk (fun i σ H => ∃ Z1 env st, Z.le Z1 ∧ RelH K G Z1 H st ∧ RepE K G Z1 env σ ∧ PostS K G W Z1 (mForGo t mb (ds.drop i) env st) Dn) ⟨Z, env, st, Gh.le.refl _, R, S, h⟩ (fun i σ H _ ⟨Z1, _, _, l, R1, _⟩ => hG Z1 H _ l.ex R1) (fun i x σ H H' hi ⟨Z1, env1, st1, l, R1, S1, h1⟩ y => ?_) fun σ H ⟨Z1, env1, st1, l, R1, S1, h1⟩ => ?_
  · obtain ⟨Z2, d, l2, R2, hd, rd⟩ := hY i x H H' Z1 st1 l.ex R1 hi y
    have e : ds.drop i = d :: ds.drop (i + 1) := by
      rw [List.getElem?_eq_getElem hi] at hd
      cases hd
      exact List.drop_eq_getElem_cons hi
    rw [e] at h1
    unfold mForGo at h1
    cases e1 : t.at d env1 st1 with
    | none => rw [e1] at h1; exact h1.elim
    | some env2 =>
      rw [e1] at h1
      refine Tg.run R2 t d x env1 env2 σ _ (S1.up l2) rd e1 fun σ2 S2 _ => ⟨Z2, env2, st1, R2, S2, ?_⟩
      dsimp only at h1
      cases e2 : mb env2 st1 with
      | nx env3 st3 => rw [e2] at h1; exact fun Z3 σ3 H3 l3 R3 S3 => ⟨Z3, env3, st3, l.trans (l2.trans l3), R3, S3, PostS.up (l2.trans l3) h1⟩
      | ct env3 st3 => rw [e2] at h1; exact fun Z3 σ3 H3 l3 R3 S3 => ⟨Z3, env3, st3, l.trans (l2.trans l3), R3, S3, PostS.up (l2.trans l3) h1⟩
      | bk env3 st3 => rw [e2] at h1; exact fun Z3 σ3 H3 l3 R3 S3 => h1 Z3 σ3 H3 (l2.trans l3) R3 S3
      | rt d' st3 => rw [e2] at h1; exact fun Z3 v H3 l3 R3 S3 => h1 Z3 v H3 (l2.trans l3) R3 S3
      | exc env3 c ns ds' st3 => rw [e2] at h1; exact fun Z3 σ3 H3 x l3 R3 S3 => h1 Z3 σ3 H3 x (l2.trans l3) R3 S3
      | stuck => rw [e2] at h1; exact h1
  · rw [List.drop_length] at h1
    exact h1 Z1 σ H (Gh.le.refl _) R1 S1
theorem pS_for (hp : PassesOwn (model X.prog X.w) X.A X.env X.xe) (hc : X.calm = true) (hi : PI X tg iter (tSI K G W mi)) (hg : PG X tg (gOf K t)) (hb : PSs X body (tSS K G W mb)) (hf : ∀ x : Value, foldedSetIterable iter X.env x = pure x := by intro _; rfl) :
    PS X (.For tg iter body [] pos) (tSS K G W (mFor t mi mb)) :=
  ps_of (ps_for hp hc hi hg hb hf) fun Dn σ H ⟨Z, env, st, R, S, h⟩ => by
    refine ⟨Z, env, st, R, S, ?_⟩
    unfold mFor at h
    cases q : mi env st with
    | ok ds st1 =>
      rw [q] at h
      exact fun Z1 J H1 l R1 w => for_run R1 (S.up l) w (PostS.up l h)
    | exc c ns ds st1 => rw [q] at h; exact fun Z1 H1 x l R1 r => h Z1 σ H1 x l R1 (S.up l) r
    | stuck => rw [q] at h; exact h
end
/-! ### list comprehensions -/
def wipeE (env : Env) : List Nat → Env
  | [] => env
  | v :: vs => (wipeE env vs).set v none
/-- nothing may be raised within -/
def R.only {α β : Type} (r : R α) (f : α → Sto → R β) : R β := match r with
  | .ok a st => f a st
  | _ => .stuck
def mLcGo (t : Tg) (vs : List Nat) (mt : MB) (me : M) : List D → Env → Sto → List D → R (List D)
  | [], _, st, acc => .ok acc st
  | d :: ds, env, st, acc => match t.at d (wipeE env vs) st with
    | none => .stuck
    | some env1 => (mt env1 st).only fun b st1 => if b = true then (me env1 st1).only fun y st2 => (if acc.length < sizeLine then mLcGo t vs mt me ds env st2 (acc ++ [y]) else .stuck) else mLcGo t vs mt me ds env st1 acc
def mLc (t : Tg) (vs : List Nat) (mi : MA) (mt : MB) (me : M) : M := fun env st => (mi env st).bind fun ds st1 => (mLcGo t vs mt me ds env st1 []).bind fun acc st2 => .ok (.lst acc) st2
def mLcC (t : Tg) (vs : List Nat) (mi : MA) (mt : MB) (me : M) : M := fun env st => (mi env st).bind fun ds st1 => (mLcGo t vs mt me ds env st1 []).bind fun acc st2 => .ok (.ptr st2.length) (st2 ++ [.lst acc])
def mYes : MB := fun _ st => .ok true st
abbrev W0 : WX := wE E0
section
variable {K : PySem.W.Frag} {G : Nat → Addr} {Z : Gh}
theorem RepE.setN : ∀ {env : Env} {σ : St} (i : Nat) (x : Option V), RepE K G Z env σ → RepE K G Z (env.set i none) (σ.set i x)
  | [], _, _, _, h => by cases (show _ = _ from h); exact rfl
  | _ :: _, _, 0, x, ⟨y, r, e, h, t⟩ => by cases e; exact ⟨x, r, rfl, trivial, t⟩
  | _ :: _, _, i + 1, x, ⟨y, r, e, h, t⟩ => by cases e; exact ⟨y, _, rfl, h, RepE.setN i x t⟩
theorem RepE.wipe {env : Env} {σ : St} (h : RepE K G Z env σ) : ∀ vs : List Nat, RepE K G Z (wipeE env vs) (L2.wipe σ vs)
  | [] => h
  | v :: vs => (RepE.wipe h vs).setN v none
end
/-- how far a comprehension has come: D is being made -/
structure LcAt (K : PySem.W.Frag) (G : Nat → Addr) (Z0 : Gh) (Dd : Addr) (acc : List D) (Z : Gh) (st : Sto) (H : Hp) : Prop where
  ex : Z0.ex Z
  rel : RelH K G Z H st
  at_ : ∃ vs, Z.tmp = upd Z0.tmp Dd (.lst vs) ∧ RepL K G Z acc vs
section
variable {K : PySem.W.Frag} {G : Nat → Addr} {W : WX} {X : Cx} {tg iter elt : Expr} {ifs : List Expr} {pos : Pos} {t : Tg} {vs : List Nat} {mi : MA} {mt : MB} {me : M} {Z0 Z : Gh} {Dd : Addr} {acc : List D} {st : Sto} {H : Hp} {σ : St}
theorem LcAt.le {Z' : Gh} {st' : Sto} {H' : Hp} (L : LcAt K G Z0 Dd acc Z st H) (l : Z.le Z') (R : RelH K G Z' H' st') : LcAt K G Z0 Dd acc Z' st' H' := by
  obtain ⟨e, _, vs, h1, h2⟩ := L
  exact ⟨e.trans l.ex, R, vs, l.tmp.trans h1, RepL.up l _ _ h2⟩
theorem LcAt.add {y : D} {v : V} (L : LcAt K G Z0 Dd acc Z st H) (hz : acc.length < sizeLine) (r : Rep K G Z y v) : ∃ vs, H Dd = some (.lst vs) ∧ vs.length < sizeLine ∧ ∃ Z', LcAt K G Z0 Dd (acc ++ [y]) Z' st (upd H Dd (.lst (vs ++ [v]))) ∧ Z.ex Z' := by
  obtain ⟨e, R, vs, h1, h2⟩ := L
  have hp : Z.tmp Dd = some (.lst vs) := by rw [h1, upd_same]
  have ex : Z.ex ⟨Z.fz, Z.rho, upd Z.tmp Dd (.lst (vs ++ [v]))⟩ := ⟨Same.refl _, ⟨[], by simp⟩⟩
  refine ⟨vs, R.tmp _ _ hp, by rw [← h2.length]; exact hz, ⟨Z.fz, Z.rho, upd Z.tmp Dd (.lst (vs ++ [v]))⟩, ⟨e.trans ex, R.setTmp hp, vs ++ [v], ?_, ?_⟩, ex⟩
  · show upd Z.tmp Dd _ = upd Z0.tmp Dd _
    rw [h1, upd_upd]
  · exact (RepL.ux ex _ _ h2).append ⟨v, [], rfl, Rep.ux ex _ _ r, rfl⟩
theorem LcAt.start (R : RelH K G Z0 H st) (hn : H Dd = none) : ∃ Z, LcAt K G Z0 Dd [] Z st (upd H Dd (.lst [])) ∧ Z0.ex Z :=
  ⟨⟨Z0.fz, Z0.rho, upd Z0.tmp Dd (.lst [])⟩, ⟨⟨Same.refl _, ⟨[], by simp⟩⟩, R.addTmp hn, [], rfl, rfl⟩, ⟨Same.refl _, ⟨[], by simp⟩⟩⟩
theorem LcAt.fin {E : XK} {Q : VK} (L : LcAt K G Z0 Dd acc Z st H) (hn : Z0.tmp Dd = none) (h : Post K G (rD K G) E Z0 (.ok (.lst acc) st) Q) : Q (.ref Dd) H := by
  obtain ⟨e, R, vs, h1, h2⟩ := L
  obtain ⟨R', ex⟩ := R.tmpFz h1 hn
  have e2 := e.trans ex
  exact h _ _ _ ⟨e2.fz, e2.rho, rfl⟩ R' ⟨Dd, vs, rfl, upd_same, RepL.ux ex _ _ h2⟩
theorem LcAt.finC {E : XK} {Q : VK} (L : LcAt K G Z0 Dd acc Z st H) (hn : Z0.tmp Dd = none) (h : Post K G (rD K G) E Z0 (.ok (.ptr st.length) (st ++ [.lst acc])) Q) : Q (.ref Dd) H := by
  obtain ⟨e, R, vs, h1, h2⟩ := L
  have hp : Z.tmp Dd = some (.lst vs) := by rw [h1, upd_same]
  obtain ⟨R', ex⟩ := R.tmpC (c := .lst acc) h1 hn fun Z' l => ⟨vs, R.tmp _ _ hp, RepL.ux l _ _ h2⟩
  have e2 := e.trans ex
  exact h _ _ _ ⟨e2.fz, e2.rho, rfl⟩ R' ⟨Dd, by show (Z.rho ++ [Dd])[st.length]? = some Dd; rw [← R.len]; simp, rfl⟩
/-- one turn: the target, the tests, the element -/
theorem lc_turn {Fin : Sto → List D → Prop} {Nx : Hp → Prop} {env : Env} {env1 : Env} {σ2 : St} {k : R (List D)} (L : LcAt K G Z0 Dd acc Z st H) (S : RepE K G Z env1 σ2)
    (hk : ∀ st2 acc2, Fin st2 acc2 → ∀ Z2 H2, LcAt K G Z0 Dd acc2 Z2 st2 H2 → Nx H2)
    (h : ∀ b st1, mt env1 st = .ok b st1 → if b = true then ∀ y st2, me env1 st1 = .ok y st2 → acc.length < sizeLine ∧ Fin st2 (acc ++ [y]) else Fin st1 acc)
    (hm : ∃ b st1, mt env1 st = .ok b st1 ∧ (b = true → ∃ y st2, me env1 st1 = .ok y st2)) :
    tSB K G W0 mt σ2 H fun b H3 => if b = true then tS K G W0 me σ2 H3 fun y H4 => ∃ acc, H4 Dd = some (.lst acc) ∧ acc.length < sizeLine ∧ Nx (upd H4 Dd (.lst (acc ++ [y]))) else Nx H3 := by
  obtain ⟨b, st1, e1, hm⟩ := hm
  have h1 := h b st1 e1
  refine ⟨Z, env1, st, L.rel, S, ?_⟩
  rw [e1]
  intro Z1 b' H1 l1 R1 eb
  cases (show b = b' from eb)
  cases b with
  | false => exact iteF (hk _ _ h1 Z1 H1 (L.le l1 R1))
  | true =>
    obtain ⟨y, st2, e2⟩ := hm rfl
    have h2 := h1 y st2 e2
    refine iteT ⟨Z1, env1, st1, R1, S.up l1, ?_⟩
    rw [e2]
    intro Z2 v H2 l2 R2 r
    obtain ⟨vs, hd, hl, Z3, L3, _⟩ := ((L.le l1 R1).le l2 R2).add h2.1 r
    exact ⟨vs, hd, hl, hk _ _ h2.2 Z3 _ L3⟩
end
end S
/-! comprehensions, put together -/
namespace S
open PySem L2
section
variable {K : PySem.W.Frag} {G : Nat → Addr} {W : WX} {X : Cx} {tg iter elt : Expr} {ifs : List Expr} {pos : Pos} {t : Tg} {vs : List Nat} {mi : MA} {mt : MB} {me : M} {Z : Gh} {Dd : Addr} {σ : St}
theorem drop_cons {α : Type} {ds : List α} {i : Nat} {d : α} (hi : i < ds.length) (hd : ds[i]? = some d) : ds.drop i = d :: ds.drop (i + 1) := by
  rw [List.getElem?_eq_getElem hi] at hd
  cases hd
  exact List.drop_eq_getElem_cons hi
theorem Off.sub {us vs : List Nat} {a b : St} (h : Off us a b) (hs : ∀ i ∈ us, i ∈ vs) : Off vs a b := ⟨h.1, fun j hj => h.2 j fun z => hj (hs j z)⟩
/-- what a turn asks, from what is wanted at the end -/
theorem turn_of {γ δ : Type} {P' : Gh → γ → δ → Prop} {E : XK} {Q : δ → Hp → Prop} {env1 : Env} {st : Sto} {acc : List D} {go : Sto → List D → R (List D)} {f : List D → Sto → R γ}
    (h : Post K G P' E Z (((mt env1 st).only fun b st1 => if b = true then (me env1 st1).only fun y st2 => (if acc.length < sizeLine then go st2 (acc ++ [y]) else .stuck) else go st1 acc).bind f) Q) :
    (∀ b st1, mt env1 st = .ok b st1 → if b = true then ∀ y st2, me env1 st1 = .ok y st2 → acc.length < sizeLine ∧ Post K G P' E Z ((go st2 (acc ++ [y])).bind f) Q else Post K G P' E Z ((go st1 acc).bind f) Q) ∧
    ∃ b st1, mt env1 st = .ok b st1 ∧ (b = true → ∃ y st2, me env1 st1 = .ok y st2) := by
  cases e1 : mt env1 st with
  | ok b st1 =>
    rw [e1] at h
    cases b with
    | false => exact ⟨fun b' st' e => by cases e; exact iteF h, false, st1, rfl, fun z => by cases z⟩
    | true =>
      replace h : Post K G P' E Z (((me env1 st1).only fun y st2 => (if acc.length < sizeLine then go st2 (acc ++ [y]) else .stuck)).bind f) Q := h
      cases e2 : me env1 st1 with
      | ok y st2 =>
        rw [e2] at h
        replace h : Post K G P' E Z ((if acc.length < sizeLine then go st2 (acc ++ [y]) else .stuck).bind f) Q := h
        split at h
        · rename_i hz
          refine ⟨fun b' st' e => ?_, true, st1, rfl, fun _ => ⟨y, st2, e2⟩⟩
          cases e
          refine iteT fun y' st3 e3 => ?_
          rw [e2] at e3; cases e3
          exact ⟨hz, h⟩
        · exact h.elim
      | exc c ns ds st2 => rw [e2] at h; exact h.elim
      | stuck => rw [e2] at h; exact h.elim
  | exc c ns ds st1 => rw [e1] at h; exact h.elim
  | stuck => rw [e1] at h; exact h.elim
theorem lc_run {H : Hp} {env : Env} {st : Sto} {ds : List D} {J : It} {E : XK} {Q : VK} {f : List D → Sto → R D} (R : RelH K G Z H st) (S : RepE K G Z env σ) (w : rI K G Z ds J) (hsl : ∀ i ∈ t.slots, i ∈ vs) (hD : H Dd = none)
    (hf : ∀ acc Z1 st1 H1, LcAt K G Z Dd acc Z1 st1 H1 → Post K G (rD K G) E Z (f acc st1) Q → Q (.ref Dd) H1)
    (h : Post K G (rD K G) E Z ((mLcGo t vs mt me ds env st []).bind f) Q) :
    ∃ W' : Nat → Nat → Hp → Prop, (∃ m, W' 0 m (upd H Dd (.lst []))) ∧ ∀ i m H, W' i m H →
      (J.stop i H ∧ Q (.ref Dd) H) ∨ (J.go i H ∧ ∃ Nx : Hp → Prop, (∀ H', Nx H' → ∃ m', m' < m ∧ W' (i + 1) m' H') ∧ ∀ x H', J.yld i H x H' → gOf K t x (wipe σ vs) H' fun σ2 H2 => wipe σ2 vs = wipe σ vs ∧ tSB K G W0 mt σ2 H2 fun b H3 =>
        if b = true then tS K G W0 me σ2 H3 fun y H4 => ∃ acc, H4 Dd = some (.lst acc) ∧ acc.length < sizeLine ∧ Nx (upd H4 Dd (.lst (acc ++ [y]))) else Nx H3) := by
  obtain ⟨Gd, Y, wk, hG, hY⟩ := w
  obtain ⟨Z1, L0, _⟩ := LcAt.start (Dd := Dd) R hD
  refine lc_it wk (fun i H => ∃ Z1 st1 acc, LcAt K G Z Dd acc Z1 st1 H ∧ Post K G (rD K G) E Z ((mLcGo t vs mt me (ds.drop i) env st1 acc).bind f) Q) ⟨Z1, st, [], L0, h⟩ (fun i H _ ⟨Z1, _, _, L, _⟩ => hG Z1 H _ L.ex L.rel) (fun i x H H' hi ⟨Z1, st1, acc, L, h1⟩ y => ?_) fun H ⟨Z1, st1, acc, L, h1⟩ => ?_
  · obtain ⟨Z2, d, l2, R2, hd, rd⟩ := hY i x H H' Z1 st1 L.ex L.rel hi y
    have L2 := L.le l2 R2
    rw [drop_cons hi hd] at h1
    unfold mLcGo at h1
    cases e1 : t.at d (wipeE env vs) st1 with
    | none => rw [e1] at h1; exact h1.elim
    | some env2 =>
      rw [e1] at h1
      refine Tg.run R2 t d x (wipeE env vs) env2 (wipe σ vs) _ ((RepE.ux L2.ex _ _ S).wipe vs) rd e1 fun σ2 S2 off => ⟨(Off.trans (off.sub hsl) (off_wipe vs σ)).wipe, ?_⟩
      obtain ⟨ha, hb⟩ := turn_of (go := fun st acc => mLcGo t vs mt me (ds.drop (i + 1)) env st acc) h1
      exact lc_turn (env := env) (k := .stuck) L2 S2 (Fin := fun st2 acc2 => Post K G (rD K G) E Z ((mLcGo t vs mt me (ds.drop (i + 1)) env st2 acc2).bind f) Q) (fun st2 acc2 F Z3 H3 L3 => ⟨Z3, st2, acc2, L3, F⟩) ha hb
  · rw [List.drop_length] at h1
    exact hf acc Z1 st1 H L h1
theorem rs_lc {H : Hp} {Q : VK} (hsl : ∀ i ∈ t.slots, i ∈ vs) (h : tS K G W (mLc t vs mi mt me) σ H Q) : tLc (tSI K G W mi) (gOf K t) (tSB K G W0 mt) (tS K G W0 me) vs σ H Q :=
  rs_bind (f := fun ds env st1 => (mLcGo t vs mt me ds env st1 []).bind fun acc st2 => .ok (D.lst acc) st2) h fun ds J H1 Z env st R S w q => fun Dd hD => lc_run R S w hsl hD (fun acc Z1 st1 H1 L h => L.fin (R.tmp.free hD) h) q
theorem rs_lcC {H : Hp} {Q : VK} (hsl : ∀ i ∈ t.slots, i ∈ vs) (h : tS K G W (mLcC t vs mi mt me) σ H Q) : tLc (tSI K G W mi) (gOf K t) (tSB K G W0 mt) (tS K G W0 me) vs σ H Q :=
  rs_bind (f := fun ds env st1 => (mLcGo t vs mt me ds env st1 []).bind fun acc st2 => .ok (D.ptr st2.length) (st2 ++ [.lst acc])) h fun ds J H1 Z env st R S w q => fun Dd hD => lc_run R S w hsl hD (fun acc Z1 st1 H1 L h => L.finC (R.tmp.free hD) h) q
theorem pTs_nil : PTs X [] (tSB K G W mYes) := ⟨fun pins s σ H Q I ⟨Z, env, st, R, S, h⟩ => pts_nil.run pins s σ H Q I (Post.now (P := rB) h R rfl)⟩
theorem pTs_one {c : Expr} (h : PT X c (tSB K G W mt)) : PTs X [c] (tSB K G W mt) := pts_one h
variable {scope : Scope} {own : List (Str × Nat)}
theorem pS_lc (hc : X.calm = true) (hN : X.N.Nodup) (hi : PI X tg iter (tSI X.K G W mi)) (ok : BlkOk X.N X.env.scope scope own)
    (hg : ∀ (s : Shared) (H : Hp) (C : Addr) (cl : List (Str × Addr)) (fp : List Addr), PG (X.blk s H scope (compEnvC scope cl C X.env) fp) tg (gOf X.K t))
    (ht : ∀ (s : Shared) (H : Hp) (C : Addr) (cl : List (Str × Addr)) (fp : List Addr), PTs (X.blk s H scope (compEnvC scope cl C X.env) fp) ifs (tSB X.K G W0 mt))
    (he : ∀ (s : Shared) (H : Hp) (C : Addr) (cl : List (Str × Addr)) (fp : List Addr), PE (X.blk s H scope (compEnvC scope cl C X.env) fp) elt (tS X.K G W0 me))
    (hvs : own.map (·.2) = vs := by rfl) (hsl : ∀ i ∈ t.slots, i ∈ vs := by decide) (hf : ∀ x : Value, foldedSetIterable iter X.env x = pure x := by intro _; rfl) :
    PE X (.ListComp elt [⟨tg, iter, ifs, 0⟩] scope pos) (tS X.K G W (mLc t vs mi mt me)) :=
  by subst hvs; exact pe_of (pe_lc hc hN hi ok hg ht he hf) fun σ H Q h => rs_lc hsl h
theorem pS_lcC (hc : X.calm = true) (hN : X.N.Nodup) (hi : PI X tg iter (tSI X.K G W mi)) (ok : BlkOk X.N X.env.scope scope own)
    (hg : ∀ (s : Shared) (H : Hp) (C : Addr) (cl : List (Str × Addr)) (fp : List Addr), PG (X.blk s H scope (compEnvC scope cl C X.env) fp) tg (gOf X.K t))
    (ht : ∀ (s : Shared) (H : Hp) (C : Addr) (cl : List (Str × Addr)) (fp : List Addr), PTs (X.blk s H scope (compEnvC scope cl C X.env) fp) ifs (tSB X.K G W0 mt))
    (he : ∀ (s : Shared) (H : Hp) (C : Addr) (cl : List (Str × Addr)) (fp : List Addr), PE (X.blk s H scope (compEnvC scope cl C X.env) fp) elt (tS X.K G W0 me))
    (hvs : own.map (·.2) = vs := by rfl) (hsl : ∀ i ∈ t.slots, i ∈ vs := by decide) (hf : ∀ x : Value, foldedSetIterable iter X.env x = pure x := by intro _; rfl) :
    PE X (.ListComp elt [⟨tg, iter, ifs, 0⟩] scope pos) (tS X.K G W (mLcC t vs mi mt me)) :=
  by subst hvs; exact pe_of (pe_lc hc hN hi ok hg ht he hf) fun σ H Q h => rs_lcC hsl h
/-- y = [..] -/
theorem pS_setLc {i : Nat} {y : Str} {py spos : Pos} (hc : X.calm = true) (hN : X.N.Nodup) (hy : X.N[i]? = some y) (hl : X.env.scope.names.lookup y = some .local)
    (hw : swapsWith (.ListComp elt [⟨tg, iter, ifs, 0⟩] scope pos) (some (.Name y py)) spos.line X.env = pure true) (hi : PI X tg iter (tSI X.K G W mi)) (ok : BlkOk X.N X.env.scope scope own)
    (hg : ∀ (s : Shared) (H : Hp) (C : Addr) (cl : List (Str × Addr)) (fp : List Addr), PG (X.blk s H scope (compEnvC scope cl C X.env) fp) tg (gOf X.K t))
    (ht : ∀ (s : Shared) (H : Hp) (C : Addr) (cl : List (Str × Addr)) (fp : List Addr), PTs (X.blk s H scope (compEnvC scope cl C X.env) fp) ifs (tSB X.K G W0 mt))
    (he : ∀ (s : Shared) (H : Hp) (C : Addr) (cl : List (Str × Addr)) (fp : List Addr), PE (X.blk s H scope (compEnvC scope cl C X.env) fp) elt (tS X.K G W0 me))
    (hvs : own.map (·.2) = vs := by rfl) (hsl : ∀ i ∈ t.slots, i ∈ vs := by decide) (hf : ∀ x : Value, foldedSetIterable iter X.env x = pure x := by intro _; rfl) :
    PS X (.Assign [.Name y py] (.ListComp elt [⟨tg, iter, ifs, 0⟩] scope pos) spos) (tSS X.K G W (mSet i (mLc t vs mi mt me))) :=
  by subst hvs; exact ps_of (ps_setLc (i := i) hc hN hy hl hw hi ok hg ht he hf) fun Dn σ H ⟨Z, env, st, R, S, h⟩ => rs_lc hsl ⟨Z, env, st, R, S, post_stm (f := fun d st' => .nx (env.set i (some d)) st') S h fun d st' Z' v H' l R' r q => q Z' _ H' (Gh.le.refl _) R' ((S.up l).set r i)⟩
end
end S
/-! comprehensions of two clauses; of dicts; dicts -/
namespace S
open PySem L2
/-! ### two clauses -/
def mLcIn (t1 : Tg) (vs1 : List Nat) (mt1 : MB) (me : M) : List D → Env → Sto → List D → R (List D) := mLcGo t1 vs1 mt1 me
def mLc2Go (t : Tg) (vs : List Nat) (mt : MB) (t1 : Tg) (vs1 : List Nat) (mi1 : MA) (mt1 : MB) (me : M) : List D → Env → Sto → List D → R (List D)
  | [], _, st, acc => .ok acc st
  | d :: ds, env, st, acc => match t.at d (wipeE env vs) st with
    | none => .stuck
    | some env1 => (mt env1 st).only fun b st1 => if b = true then (mi1 env1 st1).only fun ds1 st2 => (mLcGo t1 vs1 mt1 me ds1 env1 st2 acc).only fun acc2 st3 => mLc2Go t vs mt t1 vs1 mi1 mt1 me ds env st3 acc2 else mLc2Go t vs mt t1 vs1 mi1 mt1 me ds env st1 acc
def mLc2 (t : Tg) (vs : List Nat) (mi : MA) (mt : MB) (t1 : Tg) (vs1 : List Nat) (mi1 : MA) (mt1 : MB) (me : M) : M := fun env st => (mi env st).bind fun ds st1 => (mLc2Go t vs mt t1 vs1 mi1 mt1 me ds env st1 []).bind fun acc st2 => .ok (.lst acc) st2
section
variable {K : PySem.W.Frag} {G : Nat → Addr} {W : WX} {X : Cx} {tg iter tg1 iter1 elt : Expr} {ifs ifs1 : List Expr} {pos : Pos} {t t1 : Tg} {vs vs1 : List Nat} {mi mi1 : MA} {mt mt1 : MB} {me : M} {Z0 Z : Gh} {Dd : Addr} {σ : St}
theorem Post.only {α β γ δ : Type} {P : Gh → α → β → Prop} {P' : Gh → γ → δ → Prop} {E : XK} {r : R α} {f : α → Sto → R γ} {Q : δ → Hp → Prop} (h : Post K G P' E Z (r.only f) Q) : ∃ a st, r = .ok a st ∧ Post K G P' E Z (f a st) Q := by
  cases r with
  | ok a st => exact ⟨a, st, rfl, h⟩
  | exc c ns ds st => exact h.elim
  | stuck => exact h.elim
/-- a walk within a walk: the list grows, then Nx -/
theorem lc1_it {J : It} {n : Nat} {Gd : Hp → Prop} {Y : Nat → Hp → V → Hp → Prop} (w : Walk J n Gd Y) {g : TG} {tt : TT} {te : TE} {σ : St} {H : Hp} {Dd : Addr} {Nx : Hp → Prop} (Pv : Nat → Hp → Prop) (h0 : Pv 0 H) (hG : ∀ i H, i ≤ n → Pv i H → Gd H)
    (hs : ∀ i x H H', i < n → Pv i H → Y i H x H' → g x (wipe σ vs) H' fun σ2 H2 => wipe σ2 vs = wipe σ vs ∧ tt σ2 H2 fun b H3 =>
      if b = true then te σ2 H3 fun y H4 => ∃ acc, H4 Dd = some (.lst acc) ∧ acc.length < sizeLine ∧ Pv (i + 1) (upd H4 Dd (.lst (acc ++ [y]))) else Pv (i + 1) H3) (hd : ∀ H, Pv n H → Nx H) :
    ∃ W' : Nat → Nat → Hp → Prop, (∃ m, W' 0 m H) ∧ ∀ j k H, W' j k H →
      (J.stop j H ∧ Nx H) ∨ (J.go j H ∧ ∃ Nx1 : Hp → Prop, (∀ H', Nx1 H' → ∃ k', k' < k ∧ W' (j + 1) k' H') ∧ ∀ x H', J.yld j H x H' → g x (wipe σ vs) H' fun σ3 H5 => wipe σ3 vs = wipe σ vs ∧ tt σ3 H5 fun b H6 =>
        if b = true then te σ3 H6 fun y H7 => ∃ acc, H7 Dd = some (.lst acc) ∧ acc.length < sizeLine ∧ Nx1 (upd H7 Dd (.lst (acc ++ [y]))) else Nx1 H6) := by
  refine ⟨fun i m H => m = n - i ∧ i ≤ n ∧ Pv i H, ⟨n, by simp, Nat.zero_le _, h0⟩, ?_⟩
  rintro i m H ⟨rfl, hi, p⟩
  have q := hG i H hi p
  rcases Nat.lt_or_ge i n with hlt | hge
  · exact .inr ⟨w.goes i H hlt q, Pv (i + 1), fun H' p' => ⟨n - (i + 1), by omega, rfl, hlt, p'⟩, fun x H' y => hs i x H H' hlt p (w.yields i H x H' hlt q y)⟩
  · obtain rfl : i = n := by omega
    exact .inl ⟨w.stops H q, hd H p⟩
theorem in_run {H : Hp} {env : Env} {st : Sto} {ds : List D} {J : It} {acc acc' : List D} {st' : Sto} {Nx : Hp → Prop} (L : LcAt K G Z0 Dd acc Z st H) (S : RepE K G Z env σ) (w : rI K G Z ds J) (hsl : ∀ i ∈ t.slots, i ∈ vs)
    (h : mLcGo t vs mt me ds env st acc = .ok acc' st') (hn : ∀ Z' H', LcAt K G Z0 Dd acc' Z' st' H' → Nx H') :
    ∃ W' : Nat → Nat → Hp → Prop, (∃ m, W' 0 m H) ∧ ∀ j k H, W' j k H →
      (J.stop j H ∧ Nx H) ∨ (J.go j H ∧ ∃ Nx1 : Hp → Prop, (∀ H', Nx1 H' → ∃ k', k' < k ∧ W' (j + 1) k' H') ∧ ∀ x H', J.yld j H x H' → gOf K t x (wipe σ vs) H' fun σ3 H5 => wipe σ3 vs = wipe σ vs ∧ tSB K G W0 mt σ3 H5 fun b H6 =>
        if b = true then tS K G W0 me σ3 H6 fun y H7 => ∃ acc, H7 Dd = some (.lst acc) ∧ acc.length < sizeLine ∧ Nx1 (upd H7 Dd (.lst (acc ++ [y]))) else Nx1 H6) := by
  obtain ⟨Gd, Y, wk, hG, hY⟩ := w
  refine lc1_it wk (fun i H => ∃ Z1 st1 acc1, Z.ex Z1 ∧ LcAt K G Z0 Dd acc1 Z1 st1 H ∧ mLcGo t vs mt me (ds.drop i) env st1 acc1 = .ok acc' st') ⟨Z, st, acc, Gh.ex.refl _, L, h⟩ (fun i H _ ⟨Z1, _, _, x1, L1, _⟩ => hG Z1 H _ x1 L1.rel) (fun i x H H' hi ⟨Z1, st1, acc1, x1, L1, h1⟩ y => ?_) fun H ⟨Z1, st1, acc1, x1, L1, h1⟩ => ?_
  · obtain ⟨Z2, d, l2, R2, hd, rd⟩ := hY i x H H' Z1 st1 x1 L1.rel hi y
    have L2 := L1.le l2 R2
    rw [drop_cons hi hd] at h1
    unfold mLcGo at h1
    cases e1 : t.at d (wipeE env vs) st1 with
    | none => rw [e1] at h1; cases h1
    | some env2 =>
      rw [e1] at h1
      refine Tg.run R2 t d x (wipeE env vs) env2 (wipe σ vs) _ ((RepE.ux (x1.trans l2.ex) _ _ S).wipe vs) rd e1 fun σ2 S2 off => ⟨(Off.trans (off.sub hsl) (off_wipe vs σ)).wipe, ?_⟩
      dsimp only at h1
      -- the turn by itself
      refine ⟨Z2, env2, st1, R2, S2, ?_⟩
      cases e2 : mt env2 st1 with
      | ok b st2 =>
        rw [e2] at h1
        intro Z3 b' H3 l3 R3 eb
        cases (show b = b' from eb)
        cases b with
        | false => exact iteF ⟨Z3, st2, acc1, (x1.trans l2.ex).trans l3.ex, L2.le l3 R3, h1⟩
        | true =>
          replace h1 : ((me env2 st2).only fun y st3 => if acc1.length < sizeLine then mLcGo t vs mt me (ds.drop (i + 1)) env st3 (acc1 ++ [y]) else .stuck) = .ok acc' st' := h1
          refine iteT ⟨Z3, env2, st2, R3, S2.up l3, ?_⟩
          cases e3 : me env2 st2 with
          | ok y' st3 =>
            rw [e3] at h1
            replace h1 : (if acc1.length < sizeLine then mLcGo t vs mt me (ds.drop (i + 1)) env st3 (acc1 ++ [y']) else .stuck) = .ok acc' st' := h1
            split at h1
            · rename_i hz
              intro Z4 v H4 l4 R4 r
              obtain ⟨us, hd', hl, Z5, L5, x5⟩ := ((L2.le l3 R3).le l4 R4).add hz r
              exact ⟨us, hd', hl, Z5, st3, _, (((x1.trans l2.ex).trans l3.ex).trans l4.ex).trans x5, L5, h1⟩
            · cases h1
          | exc c ns ds' st3 => rw [e3] at h1; cases h1
          | stuck => rw [e3] at h1; cases h1
      | exc c ns ds' st2 => rw [e2] at h1; cases h1
      | stuck => rw [e2] at h1; cases h1
  · rw [List.drop_length] at h1
    unfold mLcGo at h1
    cases h1
    exact hn Z1 H L1
theorem rs_lc2 {H : Hp} {Q : VK} (hsl : ∀ i ∈ t.slots, i ∈ vs) (hsl1 : ∀ i ∈ t1.slots, i ∈ vs1) (h : tS K G W (mLc2 t vs mi mt t1 vs1 mi1 mt1 me) σ H Q) : tLc2 (tSI K G W mi) (gOf K t) (tSB K G W0 mt) (tSI K G W0 mi1) (gOf K t1) (tSB K G W0 mt1) (tS K G W0 me) vs vs1 σ H Q := by
  refine rs_bind (f := fun ds env st1 => (mLc2Go t vs mt t1 vs1 mi1 mt1 me ds env st1 []).bind fun acc st2 => .ok (D.lst acc) st2) h fun ds J H1 Z env st R S w q => fun Dd hD => ?_
  obtain ⟨Gd, Y, wk, hG, hY⟩ := w
  obtain ⟨Z1, L0, _⟩ := LcAt.start (Dd := Dd) R hD
  let Fin : Nat → Sto → List D → Prop := fun i st1 acc => Post K G (rD K G) (WE W σ) Z ((mLc2Go t vs mt t1 vs1 mi1 mt1 me (ds.drop i) env st1 acc).bind fun acc st2 => .ok (D.lst acc) st2) Q
  let Pv : Nat → Hp → Prop := fun i H => ∃ Z1 st1 acc, LcAt K G Z Dd acc Z1 st1 H ∧ Fin i st1 acc
  refine ⟨fun i m H => m = ds.length - i ∧ i ≤ ds.length ∧ Pv i H, ⟨ds.length, by simp, Nat.zero_le _, Z1, st, [], L0, q⟩, ?_⟩
  rintro i m H ⟨rfl, hi, Z1, st1, acc, L, F⟩
  have g1 := hG Z1 H _ L.ex L.rel
  rcases Nat.lt_or_ge i ds.length with hlt | hge
  · refine .inr ⟨wk.goes i H hlt g1, Pv (i + 1), fun H' p' => ⟨ds.length - (i + 1), by omega, rfl, hlt, p'⟩, fun x H' y => ?_⟩
    obtain ⟨Z2, d, l2, R2, hd, rd⟩ := hY i x H H' Z1 st1 L.ex L.rel hlt (wk.yields i H x H' hlt g1 y)
    have L2 := L.le l2 R2
    have F : Post K G (rD K G) (WE W σ) Z ((mLc2Go t vs mt t1 vs1 mi1 mt1 me (ds.drop i) env st1 acc).bind fun acc st2 => .ok (D.lst acc) st2) Q := F
    rw [drop_cons hlt hd] at F
    unfold mLc2Go at F
    cases e1 : t.at d (wipeE env vs) st1 with
    | none => rw [e1] at F; exact F.elim
    | some env2 =>
      rw [e1] at F
      refine Tg.run R2 t d x (wipeE env vs) env2 (wipe σ vs) _ ((RepE.ux L2.ex _ _ S).wipe vs) rd e1 fun σ2 S2 off => ⟨(Off.trans (off.sub hsl) (off_wipe vs σ)).wipe, ?_⟩
      refine ⟨Z2, env2, st1, R2, S2, ?_⟩
      dsimp only at F
      cases e2 : mt env2 st1 with
      | ok b st2 =>
        rw [e2] at F
        intro Z3 b' H3 l3 R3 eb
        cases (show b = b' from eb)
        cases b with
        | false => exact iteF ⟨Z3, st2, acc, L2.le l3 R3, F⟩
        | true =>
          replace F : Post K G (rD K G) (WE W σ) Z (((mi1 env2 st2).only fun ds1 st2 => (mLcGo t1 vs1 mt1 me ds1 env2 st2 acc).only fun acc2 st3 => mLc2Go t vs mt t1 vs1 mi1 mt1 me (ds.drop (i + 1)) env st3 acc2).bind fun acc st2 => .ok (D.lst acc) st2) Q := F
          refine iteT ⟨Z3, env2, st2, R3, S2.up l3, ?_⟩
          cases e3 : mi1 env2 st2 with
          | ok ds1 st3 =>
            rw [e3] at F
            replace F : Post K G (rD K G) (WE W σ) Z (((mLcGo t1 vs1 mt1 me ds1 env2 st3 acc).only fun acc2 st3 => mLc2Go t vs mt t1 vs1 mi1 mt1 me (ds.drop (i + 1)) env st3 acc2).bind fun acc st2 => .ok (D.lst acc) st2) Q := F
            intro Z4 J1 H4 l4 R4 w1
            cases e4 : mLcGo t1 vs1 mt1 me ds1 env2 st3 acc with
            | ok acc2 st4 =>
              rw [e4] at F
              exact in_run (Z0 := Z) ((L2.le l3 R3).le l4 R4) (S2.up (l3.trans l4)) w1 hsl1 e4 fun Z' H' L' => ⟨Z', st4, acc2, L', F⟩
            | exc c ns ds' st4 => rw [e4] at F; exact F.elim
            | stuck => rw [e4] at F; exact F.elim
          | exc c ns ds' st3 => rw [e3] at F; exact F.elim
          | stuck => rw [e3] at F; exact F.elim
      | exc c ns ds' st2 => rw [e2] at F; exact F.elim
      | stuck => rw [e2] at F; exact F.elim
  · obtain rfl : i = ds.length := by omega
    have F : Post K G (rD K G) (WE W σ) Z ((mLc2Go t vs mt t1 vs1 mi1 mt1 me (ds.drop ds.length) env st1 acc).bind fun acc st2 => .ok (D.lst acc) st2) Q := F
    rw [List.drop_length] at F
    exact .inl ⟨wk.stops H g1, L.fin (R.tmp.free hD) F⟩
variable {scope : Scope} {own : List (Str × Nat)}
theorem pS_lc2 (hc : X.calm = true) (hN : X.N.Nodup) (hi : PI X tg iter (tSI X.K G W mi)) (ok : BlkOk X.N X.env.scope scope own) (hv : ∀ i ∈ vs1, i ∈ own.map (·.2))
    (hg : ∀ (s : Shared) (H : Hp) (C : Addr) (cl : List (Str × Addr)) (fp : List Addr), PG (X.blk s H scope (compEnvC scope cl C X.env) fp) tg (gOf X.K t))
    (ht : ∀ (s : Shared) (H : Hp) (C : Addr) (cl : List (Str × Addr)) (fp : List Addr), PTs (X.blk s H scope (compEnvC scope cl C X.env) fp) ifs (tSB X.K G W0 mt))
    (hi1 : ∀ (s : Shared) (H : Hp) (C : Addr) (cl : List (Str × Addr)) (fp : List Addr), PI (X.blk s H scope (compEnvC scope cl C X.env) fp) tg1 iter1 (tSI X.K G W0 mi1))
    (hg1 : ∀ (s : Shared) (H : Hp) (C : Addr) (cl : List (Str × Addr)) (fp : List Addr), PG (X.blk s H scope (compEnvC scope cl C X.env) fp) tg1 (gOf X.K t1))
    (ht1 : ∀ (s : Shared) (H : Hp) (C : Addr) (cl : List (Str × Addr)) (fp : List Addr), PTs (X.blk s H scope (compEnvC scope cl C X.env) fp) ifs1 (tSB X.K G W0 mt1))
    (he : ∀ (s : Shared) (H : Hp) (C : Addr) (cl : List (Str × Addr)) (fp : List Addr), PE (X.blk s H scope (compEnvC scope cl C X.env) fp) elt (tS X.K G W0 me))
    (hvs : own.map (·.2) = vs := by rfl) (hsl : ∀ i ∈ t.slots, i ∈ vs := by decide) (hsl1 : ∀ i ∈ t1.slots, i ∈ vs1 := by decide) (hf : ∀ x : Value, foldedSetIterable iter X.env x = pure x := by intro _; rfl) (hf1 : ∀ (env : PySem.Env) (x : Value), foldedSetIterable iter1 env x = pure x := by intro _ _; rfl) :
    PE X (.ListComp elt [⟨tg, iter, ifs, 0⟩, ⟨tg1, iter1, ifs1, 0⟩] scope pos) (tS X.K G W (mLc2 t vs mi mt t1 vs1 mi1 mt1 me)) :=
  by subst hvs; exact pe_of (pe_lc2 hc hN hi ok hv hg ht hi1 hg1 ht1 he hf hf1) fun σ H Q h => rs_lc2 hsl hsl1 h
theorem pS_setLc2 {i : Nat} {y : Str} {py spos : Pos} (hc : X.calm = true) (hN : X.N.Nodup) (hy : X.N[i]? = some y) (hl : X.env.scope.names.lookup y = some .local)
    (hw : swapsWith (.ListComp elt [⟨tg, iter, ifs, 0⟩, ⟨tg1, iter1, ifs1, 0⟩] scope pos) (some (.Name y py)) spos.line X.env = pure true) (hi : PI X tg iter (tSI X.K G W mi)) (ok : BlkOk X.N X.env.scope scope own) (hv : ∀ i ∈ vs1, i ∈ own.map (·.2))
    (hg : ∀ (s : Shared) (H : Hp) (C : Addr) (cl : List (Str × Addr)) (fp : List Addr), PG (X.blk s H scope (compEnvC scope cl C X.env) fp) tg (gOf X.K t))
    (ht : ∀ (s : Shared) (H : Hp) (C : Addr) (cl : List (Str × Addr)) (fp : List Addr), PTs (X.blk s H scope (compEnvC scope cl C X.env) fp) ifs (tSB X.K G W0 mt))
    (hi1 : ∀ (s : Shared) (H : Hp) (C : Addr) (cl : List (Str × Addr)) (fp : List Addr), PI (X.blk s H scope (compEnvC scope cl C X.env) fp) tg1 iter1 (tSI X.K G W0 mi1))
    (hg1 : ∀ (s : Shared) (H : Hp) (C : Addr) (cl : List (Str × Addr)) (fp : List Addr), PG (X.blk s H scope (compEnvC scope cl C X.env) fp) tg1 (gOf X.K t1))
    (ht1 : ∀ (s : Shared) (H : Hp) (C : Addr) (cl : List (Str × Addr)) (fp : List Addr), PTs (X.blk s H scope (compEnvC scope cl C X.env) fp) ifs1 (tSB X.K G W0 mt1))
    (he : ∀ (s : Shared) (H : Hp) (C : Addr) (cl : List (Str × Addr)) (fp : List Addr), PE (X.blk s H scope (compEnvC scope cl C X.env) fp) elt (tS X.K G W0 me))
    (hvs : own.map (·.2) = vs := by rfl) (hsl : ∀ i ∈ t.slots, i ∈ vs := by decide) (hsl1 : ∀ i ∈ t1.slots, i ∈ vs1 := by decide) (hf : ∀ x : Value, foldedSetIterable iter X.env x = pure x := by intro _; rfl) (hf1 : ∀ (env : PySem.Env) (x : Value), foldedSetIterable iter1 env x = pure x := by intro _ _; rfl) :
    PS X (.Assign [.Name y py] (.ListComp elt [⟨tg, iter, ifs, 0⟩, ⟨tg1, iter1, ifs1, 0⟩] scope pos) spos) (tSS X.K G W (mSet i (mLc2 t vs mi mt t1 vs1 mi1 mt1 me))) :=
  by subst hvs; exact ps_of (ps_setLc2 (i := i) hc hN hy hl hw hi ok hv hg ht hi1 hg1 ht1 he hf hf1) fun Dn σ H ⟨Z, env, st, R, S, h⟩ => rs_lc2 hsl hsl1 ⟨Z, env, st, R, S, post_stm (f := fun d st' => .nx (env.set i (some d)) st') S h fun d st' Z' v H' l R' r q => q Z' _ H' (Gh.le.refl _) R' ((S.up l).set r i)⟩
end
end S
/-! comprehensions of dicts -/
namespace S
open PySem L2
def kOf : D → Option Key
  | .int i => some (.inl i)
  | .str x => some (.inr x)
  | _ => none
def kD : Key → D
  | .inl i => .int i
  | .inr x => .str x
def putKs (k : Key) (ks : List Key) : List Key := if ks.any (fun x => decide (x = k)) = true then ks else ks ++ [k]
def repl {α : Type} (k : Key) (x : α) : List Key → List α → List α
  | k' :: r, y :: ys => (if k' = k then x else y) :: repl k x r ys
  | _, _ => []
def putKd {α : Type} (k : Key) (x : α) (ks : List Key) (ds : List α) : List α := if ks.any (fun x => decide (x = k)) = true then repl k x ks ds else ds ++ [x]
section
variable {K : PySem.W.Frag} {G : Nat → Addr} {Z : Gh}
theorem kOf_rep {d : D} {v : V} {k : Key} (e : kOf d = some k) (r : Rep K G Z d v) : v = kV k := by
  cases d <;> first | (cases e; exact r) | cases e
theorem rep_kD (k : Key) : Rep K G Z (kD k) (kV k) := by cases k <;> exact rfl
theorem any_zip {k : Key} : ∀ {ks : List Key} {vs : List V}, ks.length = vs.length → ((ks.zip vs).any fun kv => decide (kv.1 = k)) = ks.any fun x => decide (x = k)
  | [], _, _ => rfl
  | _ :: _, [], h => by cases h
  | k' :: r, v :: vs, h => by
    rw [List.zip_cons_cons, List.any_cons, List.any_cons, any_zip (by simpa using h)]
theorem repl_zip {k : Key} {v : V} : ∀ {ks : List Key} {vs : List V}, ks.length = vs.length → (ks.zip vs).map (fun kv => if kv.1 = k then (kv.1, v) else kv) = ks.zip (repl k v ks vs) ∧ (repl k v ks vs).length = vs.length
  | [], [], _ => ⟨rfl, rfl⟩
  | [], _ :: _, h => by cases h
  | _ :: _, [], h => by cases h
  | k' :: r, u :: us, h => by
    have ih := repl_zip (k := k) (v := v) (ks := r) (vs := us) (by simpa using h)
    unfold repl
    rw [List.zip_cons_cons, List.map_cons, List.zip_cons_cons, ih.1]
    refine ⟨?_, by simp [ih.2]⟩
    split <;> rfl
theorem putK_zip {k : Key} {v : V} {ks : List Key} {vs : List V} (h : ks.length = vs.length) : putK (ks.zip vs) k v = (putKs k ks).zip (putKd k v ks vs) ∧ (putKs k ks).length = (putKd k v ks vs).length := by
  unfold putK putKs putKd
  rw [any_zip h]
  split
  · have z := repl_zip (k := k) (v := v) h
    exact ⟨z.1, h.trans z.2.symm⟩
  · refine ⟨?_, by simp [h]⟩
    rw [List.zip_append h]
    rfl
theorem RepL.repl {k : Key} {d : D} {v : V} (p : Rep K G Z d v) : ∀ {ks : List Key} {ds : List D} {vs : List V}, RepL K G Z ds vs → RepL K G Z (S.repl k d ks ds) (S.repl k v ks vs)
  | [], ds, vs, r => by cases ds <;> cases vs <;> exact rfl
  | _ :: _, [], _, r => by cases (show _ = _ from r); exact rfl
  | k' :: r, x :: ds, _, ⟨u, t, e, q, s⟩ => by
    subst e
    unfold S.repl
    refine ⟨_, _, rfl, ?_, RepL.repl p s⟩
    split
    · exact p
    · exact q
theorem RepL.putKd {k : Key} {d : D} {v : V} (p : Rep K G Z d v) {ks : List Key} {ds : List D} {vs : List V} (r : RepL K G Z ds vs) : RepL K G Z (S.putKd k d ks ds) (S.putKd k v ks vs) := by
  unfold S.putKd
  split
  · exact RepL.repl p r
  · exact r.append ⟨v, [], rfl, p, rfl⟩
end
def mDcGo (t : Tg) (vs : List Nat) (mt : MB) (mk mv : M) : List D → Env → Sto → List Key → List D → R (List Key × List D)
  | [], _, st, ks, ds => .ok (ks, ds) st
  | d :: r, env, st, ks, ds => match t.at d (wipeE env vs) st with
    | none => .stuck
    | some env1 => (mt env1 st).only fun b st1 => if b = true then (mk env1 st1).only fun y st2 => (mv env1 st2).only fun z st3 => (match kOf y with
        | some k => if ks.length < sizeLine then mDcGo t vs mt mk mv r env st3 (putKs k ks) (putKd k z ks ds) else .stuck
        | none => .stuck) else mDcGo t vs mt mk mv r env st1 ks ds
def mDc (t : Tg) (vs : List Nat) (mi : MA) (mt : MB) (mk mv : M) : M := fun env st => (mi env st).bind fun ds st1 => (mDcGo t vs mt mk mv ds env st1 [] []).bind fun p st2 => .ok (.dct p.1 p.2) st2
/-- the keys, walked -/
def mItDc (t : Tg) (vs : List Nat) (mi : MA) (mt : MB) (mk mv : M) : MA := fun env st => (mi env st).bind fun ds st1 => (mDcGo t vs mt mk mv ds env st1 [] []).bind fun p st2 => .ok (p.1.map kD) st2
structure DcAt (K : PySem.W.Frag) (G : Nat → Addr) (Z0 : Gh) (Dd : Addr) (ks : List Key) (ds : List D) (Z : Gh) (st : Sto) (H : Hp) : Prop where
  ex : Z0.ex Z
  rel : RelH K G Z H st
  at_ : ∃ vs, Z.tmp = upd Z0.tmp Dd (.dK (ks.zip vs)) ∧ ks.length = vs.length ∧ RepL K G Z ds vs
section
variable {K : PySem.W.Frag} {G : Nat → Addr} {W : WX} {X : Cx} {tg iter kx vx : Expr} {ifs : List Expr} {pos : Pos} {t : Tg} {vs : List Nat} {mi : MA} {mt : MB} {mk mv : M} {Z0 Z : Gh} {Dd : Addr} {st : Sto} {H : Hp} {σ : St} {ks : List Key} {ds : List D}
theorem DcAt.le {Z' : Gh} {st' : Sto} {H' : Hp} (L : DcAt K G Z0 Dd ks ds Z st H) (l : Z.le Z') (R : RelH K G Z' H' st') : DcAt K G Z0 Dd ks ds Z' st' H' := by
  obtain ⟨e, _, vs, h1, hn, h2⟩ := L
  exact ⟨e.trans l.ex, R, vs, l.tmp.trans h1, hn, RepL.up l _ _ h2⟩
theorem DcAt.add {k : Key} {z : D} {v : V} (L : DcAt K G Z0 Dd ks ds Z st H) (hz : ks.length < sizeLine) (r : Rep K G Z z v) : ∃ kvs, H Dd = some (.dK kvs) ∧ kvs.length < sizeLine ∧ ∃ Z', DcAt K G Z0 Dd (putKs k ks) (putKd k z ks ds) Z' st (upd H Dd (.dK (putK kvs k v))) := by
  obtain ⟨e, R, vs, h1, hn, h2⟩ := L
  have hp : Z.tmp Dd = some (.dK (ks.zip vs)) := by rw [h1, upd_same]
  have pz := putK_zip (k := k) (v := v) hn
  have ex : Z.ex ⟨Z.fz, Z.rho, upd Z.tmp Dd (.dK (putK (ks.zip vs) k v))⟩ := ⟨Same.refl _, ⟨[], by simp⟩⟩
  refine ⟨_, R.tmp _ _ hp, by rw [List.length_zip, ← hn, Nat.min_self]; exact hz, ⟨Z.fz, Z.rho, upd Z.tmp Dd (.dK (putK (ks.zip vs) k v))⟩, ⟨e.trans ex, R.setTmp hp, _, ?_, pz.2, ?_⟩⟩
  · show upd Z.tmp Dd _ = upd Z0.tmp Dd _
    rw [h1, upd_upd, pz.1]
  · exact RepL.putKd (Rep.ux ex _ _ r) (RepL.ux ex _ _ h2)
theorem DcAt.start (R : RelH K G Z0 H st) (hn : H Dd = none) : ∃ Z, DcAt K G Z0 Dd [] [] Z st (upd H Dd (.dK [])) :=
  ⟨⟨Z0.fz, Z0.rho, upd Z0.tmp Dd (.dK [])⟩, ⟨⟨Same.refl _, ⟨[], by simp⟩⟩, R.addTmp hn, [], rfl, rfl, rfl⟩⟩
theorem dc_run {H : Hp} {env : Env} {st : Sto} {ds : List D} {J : It} {γ δ : Type} {P' : Gh → γ → δ → Prop} {E : XK} {Q : δ → Hp → Prop} {Qd : Hp → Prop} {f : List Key × List D → Sto → R γ} (R : RelH K G Z H st) (S : RepE K G Z env σ) (w : rI K G Z ds J) (hsl : ∀ i ∈ t.slots, i ∈ vs) (hD : H Dd = none)
    (hf : ∀ ks ds Z1 st1 H1, DcAt K G Z Dd ks ds Z1 st1 H1 → Post K G P' E Z (f (ks, ds) st1) Q → Qd H1)
    (h : Post K G P' E Z ((mDcGo t vs mt mk mv ds env st [] []).bind f) Q) :
    ∃ W' : Nat → Nat → Hp → Prop, (∃ m, W' 0 m (upd H Dd (.dK []))) ∧ ∀ i m H, W' i m H →
      (J.stop i H ∧ Qd H) ∨ (J.go i H ∧ ∃ Nx : Hp → Prop, (∀ H', Nx H' → ∃ m', m' < m ∧ W' (i + 1) m' H') ∧ ∀ x H', J.yld i H x H' → gOf K t x (wipe σ vs) H' fun σ2 H2 => wipe σ2 vs = wipe σ vs ∧ tSB K G W0 mt σ2 H2 fun b H3 =>
        if b = true then tS K G W0 mk σ2 H3 fun y H4 => tS K G W0 mv σ2 H4 fun z H5 => ∃ kvs k, y = kV k ∧ H5 Dd = some (.dK kvs) ∧ kvs.length < sizeLine ∧ Nx (upd H5 Dd (.dK (putK kvs k z))) else Nx H3) := by
  obtain ⟨Gd, Y, wk, hG, hY⟩ := w
  obtain ⟨Z1, L0⟩ := DcAt.start (Dd := Dd) R hD
  let Pv : Nat → Hp → Prop := fun i H => ∃ Z1 st1 ks1 ds1, DcAt K G Z Dd ks1 ds1 Z1 st1 H ∧ Post K G P' E Z ((mDcGo t vs mt mk mv (ds.drop i) env st1 ks1 ds1).bind f) Q
  refine ⟨fun i m H => m = ds.length - i ∧ i ≤ ds.length ∧ Pv i H, ⟨ds.length, by simp, Nat.zero_le _, Z1, st, [], [], L0, h⟩, ?_⟩
  rintro i m H ⟨rfl, hi, Z1, st1, ks1, ds1, L, F⟩
  have g1 := hG Z1 H _ L.ex L.rel
  rcases Nat.lt_or_ge i ds.length with hlt | hge
  · refine .inr ⟨wk.goes i H hlt g1, Pv (i + 1), fun H' p' => ⟨ds.length - (i + 1), by omega, rfl, hlt, p'⟩, fun x H' y => ?_⟩
    obtain ⟨Z2, d, l2, R2, hd, rd⟩ := hY i x H H' Z1 st1 L.ex L.rel hlt (wk.yields i H x H' hlt g1 y)
    have L2 := L.le l2 R2
    rw [drop_cons hlt hd] at F
    unfold mDcGo at F
    cases e1 : t.at d (wipeE env vs) st1 with
    | none => rw [e1] at F; exact F.elim
    | some env2 =>
      rw [e1] at F
      refine Tg.run R2 t d x (wipeE env vs) env2 (wipe σ vs) _ ((RepE.ux L2.ex _ _ S).wipe vs) rd e1 fun σ2 S2 off => ⟨(Off.trans (off.sub hsl) (off_wipe vs σ)).wipe, ?_⟩
      refine ⟨Z2, env2, st1, R2, S2, ?_⟩
      dsimp only at F
      cases e2 : mt env2 st1 with
      | ok b st2 =>
        rw [e2] at F
        intro Z3 b' H3 l3 R3 eb
        cases (show b = b' from eb)
        cases b with
        | false => exact iteF ⟨Z3, st2, ks1, ds1, L2.le l3 R3, F⟩
        | true =>
          refine iteT ⟨Z3, env2, st2, R3, S2.up l3, ?_⟩
          replace F : Post K G P' E Z (((mk env2 st2).only fun y st2 => (mv env2 st2).only fun z st3 => (match kOf y with
            | some k => if ks1.length < sizeLine then mDcGo t vs mt mk mv (ds.drop (i + 1)) env st3 (putKs k ks1) (putKd k z ks1 ds1) else .stuck
            | none => .stuck)).bind f) Q := F
          cases e3 : mk env2 st2 with
          | ok y' st3 =>
            rw [e3] at F
            replace F : Post K G P' E Z (((mv env2 st3).only fun z st3 => (match kOf y' with
              | some k => if ks1.length < sizeLine then mDcGo t vs mt mk mv (ds.drop (i + 1)) env st3 (putKs k ks1) (putKd k z ks1 ds1) else .stuck
              | none => .stuck)).bind f) Q := F
            intro Z4 yv H4 l4 R4 ry
            refine ⟨Z4, env2, st3, R4, S2.up (l3.trans l4), ?_⟩
            cases e4 : mv env2 st3 with
            | ok z' st4 =>
              rw [e4] at F
              replace F : Post K G P' E Z ((match kOf y' with
                | some k => if ks1.length < sizeLine then mDcGo t vs mt mk mv (ds.drop (i + 1)) env st4 (putKs k ks1) (putKd k z' ks1 ds1) else .stuck
                | none => .stuck).bind f) Q := F
              intro Z5 zv H5 l5 R5 rz
              cases e5 : kOf y' with
              | none => rw [e5] at F; exact F.elim
              | some k =>
                rw [e5] at F
                dsimp only at F
                split at F
                · rename_i hz
                  obtain ⟨kvs, hk, hl, Z6, L6⟩ := (((L2.le l3 R3).le l4 R4).le l5 R5).add (k := k) hz rz
                  exact ⟨kvs, k, kOf_rep e5 ry, hk, hl, Z6, st4, _, _, L6, F⟩
                · exact F.elim
            | exc c ns ds' st4 => rw [e4] at F; exact F.elim
            | stuck => rw [e4] at F; exact F.elim
          | exc c ns ds' st3 => rw [e3] at F; exact F.elim
          | stuck => rw [e3] at F; exact F.elim
      | exc c ns ds' st2 => rw [e2] at F; exact F.elim
      | stuck => rw [e2] at F; exact F.elim
  · obtain rfl : i = ds.length := by omega
    rw [List.drop_length] at F
    exact .inl ⟨wk.stops H g1, hf ks1 ds1 Z1 st1 H L F⟩
variable {scope : Scope} {own : List (Str × Nat)}
theorem pS_dc (hc : X.calm = true) (hN : X.N.Nodup) (hi : PI X tg iter (tSI X.K G W mi)) (ok : BlkOk X.N X.env.scope scope own)
    (hg : ∀ (s : Shared) (H : Hp) (C : Addr) (cl : List (Str × Addr)) (fp : List Addr), PG (X.blk s H scope (compEnvC scope cl C X.env) fp) tg (gOf X.K t))
    (ht : ∀ (s : Shared) (H : Hp) (C : Addr) (cl : List (Str × Addr)) (fp : List Addr), PTs (X.blk s H scope (compEnvC scope cl C X.env) fp) ifs (tSB X.K G W0 mt))
    (hk : ∀ (s : Shared) (H : Hp) (C : Addr) (cl : List (Str × Addr)) (fp : List Addr), PE (X.blk s H scope (compEnvC scope cl C X.env) fp) kx (tS X.K G W0 mk))
    (hv : ∀ (s : Shared) (H : Hp) (C : Addr) (cl : List (Str × Addr)) (fp : List Addr), PE (X.blk s H scope (compEnvC scope cl C X.env) fp) vx (tS X.K G W0 mv))
    (hvs : own.map (·.2) = vs := by rfl) (hsl : ∀ i ∈ t.slots, i ∈ vs := by decide) (hf : ∀ x : Value, foldedSetIterable iter X.env x = pure x := by intro _; rfl) :
    PE X (.DictComp kx vx [⟨tg, iter, ifs, 0⟩] scope pos) (tS X.K G W (mDc t vs mi mt mk mv)) := by
  subst hvs
  exact pe_of (pe_dc hc hN hi ok hg ht hk hv hf) fun σ H Q h => rs_bind (f := fun ds env st1 => (mDcGo t (own.map (·.2)) mt mk mv ds env st1 [] []).bind fun p st2 => .ok (D.dct p.1 p.2) st2) h fun ds J H1 Z env st R S w q => fun Dd hD =>
    dc_run R S w hsl hD (fun ks ds Z1 st1 H1 L h => by
      obtain ⟨e, R1, vs, h1, hn, h2⟩ := L
      obtain ⟨R', ex⟩ := R1.tmpFz h1 (R.tmp.free hD)
      have e2 := e.trans ex
      exact h _ _ _ ⟨e2.fz, e2.rho, rfl⟩ R' ⟨Dd, vs, rfl, upd_same, hn, RepL.ux ex _ _ h2⟩) q
/-- evaluated, then locked for good -/
theorem pe_locked {e : Expr} {t : TE} (h : PE X e t) : PE X e (fun σ H Q => t σ H fun x H1 => ∃ d kvs, x = .ref d ∧ H1 d = some (.dK kvs) ∧ ∀ od, Q x (upd H1 d (.frz od (.dK kvs)))) := by
  refine ⟨fun pins s σ H Q I q => thn (h.run pins s σ H _ I q) fun u s1 ⟨x, H1, I1, rx, d, kvs, ex, hd, k⟩ => ?_⟩
  obtain ⟨od, I2⟩ := I1.lock hd trivial
  exact ⟨x, _, I2, rx, k od⟩
theorem walkK {Z : Gh} {d : Addr} {o : Obj} {ks : List Key} {us : List V} (hl : ks.length = us.length) (hd : Z.fz d = some (.frz o (.dK (ks.zip us)))) : rI K G Z (ks.map kD) (Itk d o (ks.zip us)) := by
  have hn : (ks.map kD).length = (ks.zip us).length := by rw [List.length_map, List.length_zip, ← hl, Nat.min_self]
  refine ⟨_, _, hn ▸ walk_keys, fun Z' H st l R => R.fz _ _ (l.fz _ _ hd), fun i x H H' Z' st l R hi y => ?_⟩
  obtain ⟨rfl, k, v, e, rfl⟩ := y
  refine ⟨Z', kD k, Gh.le.refl _, R, ?_, rep_kD k⟩
  rw [List.getElem?_zip_eq_some] at e
  rw [List.getElem?_map, e.1]
  rfl
theorem pI_dc (hc : X.calm = true) (hN : X.N.Nodup) {tg0 : Expr} (hi : PI X tg iter (tSI X.K G W mi)) (ok : BlkOk X.N X.env.scope scope own)
    (hg : ∀ (s : Shared) (H : Hp) (C : Addr) (cl : List (Str × Addr)) (fp : List Addr), PG (X.blk s H scope (compEnvC scope cl C X.env) fp) tg (gOf X.K t))
    (ht : ∀ (s : Shared) (H : Hp) (C : Addr) (cl : List (Str × Addr)) (fp : List Addr), PTs (X.blk s H scope (compEnvC scope cl C X.env) fp) ifs (tSB X.K G W0 mt))
    (hk : ∀ (s : Shared) (H : Hp) (C : Addr) (cl : List (Str × Addr)) (fp : List Addr), PE (X.blk s H scope (compEnvC scope cl C X.env) fp) kx (tS X.K G W0 mk))
    (hv : ∀ (s : Shared) (H : Hp) (C : Addr) (cl : List (Str × Addr)) (fp : List Addr), PE (X.blk s H scope (compEnvC scope cl C X.env) fp) vx (tS X.K G W0 mv))
    (hvs : own.map (·.2) = vs := by rfl) (hsl : ∀ i ∈ t.slots, i ∈ vs := by decide) (hf : ∀ x : Value, foldedSetIterable iter X.env x = pure x := by intro _; rfl) :
    PI X tg0 (.DictComp kx vx [⟨tg, iter, ifs, 0⟩] scope pos) (tSI X.K G W (mItDc t vs mi mt mk mv)) := by
  subst hvs
  refine pi_of (pi_keys (pe_locked (pe_dc hc hN hi ok hg ht hk hv hf))) fun σ H Q h => rs_bind (f := fun ds env st1 => (mDcGo t (own.map (·.2)) mt mk mv ds env st1 [] []).bind fun p st2 => .ok (p.1.map kD) st2) h fun ds J H1 Z env st R S w q => fun Dd hD => ?_
  refine dc_run (P' := rI X.K G) R S w hsl hD (fun ks ds Z1 st1 H1 L h => ?_) q
  obtain ⟨e, R1, vs, h1, hn, h2⟩ := L
  have hp : Z1.tmp Dd = some (.dK (ks.zip vs)) := by rw [h1, upd_same]
  refine ⟨Dd, ks.zip vs, rfl, R1.tmp _ _ hp, fun od => ⟨Dd, od, rfl, .inl ⟨ks.zip vs, upd_same, ?_⟩⟩⟩
  have R2 := R1.setTmp (o' := .frz od (.dK (ks.zip vs))) hp
  obtain ⟨R', ex⟩ := R2.tmpFz (t := Z.tmp) (p := Dd) (o := .frz od (.dK (ks.zip vs))) (by show upd Z1.tmp Dd _ = _; rw [h1, upd_upd]) (R.tmp.free hD)
  have e2 : Z.ex _ := (e.trans (⟨Same.refl _, ⟨[], by simp⟩⟩ : Z1.ex ⟨Z1.fz, Z1.rho, upd Z1.tmp Dd (.frz od (.dK (ks.zip vs)))⟩)).trans ex
  exact h _ _ _ ⟨e2.fz, e2.rho, rfl⟩ R' (walkK hn upd_same)
end
end S
/-! sorts of things: isinstance, own ==, own str -/
namespace S
open PySem L2
inductive Ty where
  | non | bl | int | str | lst | tup | dct | cls (c : Nat) | bad
  deriving DecidableEq
def tyD : D → Ty
  | .non => .non
  | .bl _ => .bl
  | .int _ => .int
  | .str _ => .str
  | .lst _ => .lst
  | .rls _ => .lst
  | .tup _ => .tup
  | .dct _ _ => .dct
  | .ins c _ _ => .cls c
  | .ptr _ => .bad
  | .cls _ => .bad
def tyW (G : Nat → Addr) : Ty → Value
  | .non => .type "NoneType"
  | .bl => .type "bool"
  | .int => .type "int"
  | .str => .type "str"
  | .lst => .type "list"
  | .tup => .type "tuple"
  | .dct => .type "dict"
  | .cls c => .ref (G c)
  | .bad => .none
/-- what is known of the own classes -/
def TyOk (K : PySem.W.Frag) (G : Nat → Addr) : Ty → Prop
  | .cls c => ClsT K (G c)
  | .bad => False
  | _ => True
section
variable {K : PySem.W.Frag} {G : Nat → Addr} {Z : Gh} {H : Hp} {st : Sto} {d : D} {v : V}
theorem RelH.tyx (R : RelH K G Z H st) (r : Rep K G Z d v) (ok : TyOk K G (tyD (rd st d))) : TyX K H v (tyW G (tyD (rd st d))) := by
  cases e : rd st d with
  | non => cases RelH.non r e; exact .base .non
  | bl b => cases RelH.bl r e; exact .base (.bl _)
  | int b => cases RelH.int r e; exact .base (.int _)
  | str b => cases RelH.str r e; exact .base (.str _)
  | lst xs => obtain ⟨p, vs, rfl, h, _⟩ := R.lst r e; exact .base (.lst h)
  | rls xs =>
    obtain ⟨p, vs, rfl, h, _⟩ := R.rls r e
    rcases h with (h | ⟨o, h⟩) | ⟨o, its, n, h1, h2, h3, h4⟩
    · exact .base (.lst h)
    · exact .base (.frz h)
    · exact .kList h1 h2
  | tup xs =>
    obtain ⟨p, vs, rfl, h, _⟩ := R.tup r e
    rcases h with (h | ⟨o, h⟩) | ⟨o, its, n, h1, h2, h3⟩
    · exact .base (.tup h)
    · exact .fTuple h
    · exact .kTuple h1 h2
  | dct ks xs => obtain ⟨p, vs, rfl, h, _⟩ := R.dct r e; exact .base (.dK h)
  | ins c ns xs =>
    rw [e] at ok
    obtain ⟨p, dx, vs, rfl, h, _⟩ := R.ins r e
    exact ClsT.ty ok h
  | ptr i => rw [e] at ok; exact ok.elim
  | cls c => rw [e] at ok; exact ok.elim
end
/-- isinstance(x, ..) by a table -/
def dIsi (ki : Ty → Option Bool) (a : D) (st : Sto) : R D := match ki (tyD (rd st a)) with
  | some b => .ok (.bl b) st
  | none => .stuck
def mIsi (ki : Ty → Option Bool) (m : M) : M := fun env st => (m env st).bind fun a st1 => dIsi ki a st1
section
variable {G : Nat → Addr} {W : WX} {X : Cx} {e : Expr} {m : M} {p pos : Pos} {ki : Ty → Option Bool}
theorem pS_isi {ce : Expr} {cl : V} {u : Value} (hc : PE X ce (tC cl)) (hcl : ClsV cl u) (hk : ∀ t b, ki t = some b → TyOk X.K G t ∧ PySem.W.kitOne X.K (tyW G t) u = some b) (hg : Gl X "isinstance") (hm : X.mg "isinstance" = none) (h : PE X e (tS X.K G W m))
    (he : starEach [e, ce] X.env = (false, eval e X.env) :: starEach [ce] X.env := by rfl) (he1 : starEach [ce] X.env = [(false, eval ce X.env)] := by rfl) (hpl : (backTo pos (starEach [ce] X.env)).any (·.1) = false := by rfl) :
    PE X (.Call (.Name "isinstance" p) [e, ce] [] pos) (tS X.K G W (mIsi ki m)) :=
  pe_of (pe_callB call_isi hg hm (by decide +kernel) (pa_cons h (pa_cons hc pa_nil he1) he) (by decide) (by decide) he hpl) fun σ H Q h => rs_bind (f := fun a _ st1 => dIsi ki a st1) h fun a x H1 Z env st R S r q => by
    unfold dIsi at q
    split at q
    · rename_i b e1
      obtain ⟨ok, k1⟩ := hk _ b e1
      exact ⟨x, cl, _, u, b, rfl, hcl, R.tyx r ok, k1, Post.now (P := rD X.K G) q R rfl⟩
    · exact q.elim
/-- isinstance(x, (T1, T2)) -/
theorem pS_isiT {ces : List Expr} {cls : List V} {us : List Value} {k : Nat} {tpos : Pos} {tc : TA} (hc : PA X ces tc) (htc : ∀ σ H Q, Q cls H → tc σ H Q) (hcl : Paired ClsV cls us) (hl : cls.length ≤ sizeLine) (hk : ∀ t b, ki t = some b → TyOk X.K G t ∧ PySem.W.kitAny X.K (tyW G t) us = some b) (hg : Gl X "isinstance") (hm : X.mg "isinstance" = none) (h : PE X e (tS X.K G W m))
    (he : starEach [e, .Tuple ces k tpos] X.env = (false, eval e X.env) :: starEach [.Tuple ces k tpos] X.env := by rfl) (he1 : starEach [.Tuple ces k tpos] X.env = [(false, eval (.Tuple ces k tpos) X.env)] := by rfl) (hpl : (backTo pos (starEach [.Tuple ces k tpos] X.env)).any (·.1) = false := by rfl) :
    PE X (.Call (.Name "isinstance" p) [e, .Tuple ces k tpos] [] pos) (tS X.K G W (mIsi ki m)) :=
  pe_of (pe_callB call_isiT hg hm (by decide +kernel) (pa_cons h (pa_cons (pe_tup hc) pa_nil he1) he) (by decide) (by decide) he hpl) fun σ H Q h => rs_bind (f := fun a _ st1 => dIsi ki a st1) h fun a x H1 Z env st R S r q => by
    unfold dIsi at q
    split at q
    · rename_i b e1
      obtain ⟨ok, k1⟩ := hk _ b e1
      refine htc σ H1 _ ⟨hl, fun tp htp => ?_⟩
      obtain ⟨l, R'⟩ := R.lay (o := .tup cls) htp
      exact ⟨x, tp, cls, _, us, b, rfl, upd_same, hcl, R'.tyx (Rep.up l _ _ r) ok, k1, Post.now (P := rD X.K G) (Post.up l q) R' rfl⟩
    · exact q.elim
end
/-! ### own == -/
def Ad2E (K : PySem.W.Frag) (G : Nat → Addr) (E : XK) (f : D → D → Sto → R D) (r : R2) : Prop := ∀ (Z : Gh) (H : Hp) (st : Sto) (a b : D) (x y : V) (Q : VK), RelH K G Z H st → Rep K G Z a x → Rep K G Z b y → Post K G (rD K G) E Z (f a b st) Q → r x y H Q
theorem Ad2.e {K : PySem.W.Frag} {G : Nat → Addr} {E : XK} {f : D → D → Sto → R D} {r : R2} (h : Ad2 K G f r) : Ad2E K G E f r := fun Z H st a b x y Q => h E Z H st a b x y Q
/-- a group of classes that compare by the same def; f for all else -/
def dOwnEq (cs : List Nat) (nf : Nat → Ty → Bool) (F : List D → Sto → R D) (f : D → D → Sto → R D) (a b : D) (st : Sto) : R D := match rd st a with
  | .ins c _ _ => if cs.contains c = true then (if nf c (tyD (rd st b)) = true then F [a, b] st else .stuck) else f a b st
  | _ => f a b st
def notD (r : R D) : R D := r.bind fun d st => match d with
  | .bl b => .ok (.bl (!b)) st
  | _ => .stuck
def dOwnNe (cs : List Nat) (nf : Nat → Ty → Bool) (F : List D → Sto → R D) (f : D → D → Sto → R D) (a b : D) (st : Sto) : R D := match rd st a with
  | .ins c _ _ => if cs.contains c = true then (if nf c (tyD (rd st b)) = true then notD (F [a, b] st) else .stuck) else f a b st
  | _ => f a b st
section
variable {K : PySem.W.Frag} {G : Nat → Addr} {E : XK} {X : Cx} {cs : List Nat} {nf : Nat → Ty → Bool} {F : List D → Sto → R D} {f : D → D → Sto → R D} {g : Addr} {r : R2}
theorem ad_ownEq (hc : ∀ c, cs.contains c = true → EqC K (G c) g) (hn : ∀ c t, nf c t = true → TyOk K G t ∧ PySem.W.notFirst K (G c) (tyW G t) = true) (hf : Ad2E K G E f r) : Ad2E K G E (dOwnEq cs nf F f) (fun x y H Q => r x y H Q ∨ rOwnEq K g (spS K G 2 F) E x y H Q) := by
  intro Z H st a b x y Q R p q h
  unfold dOwnEq at h
  split at h
  · rename_i c ns ds e1
    split at h
    · rename_i hcc
      split at h
      · rename_i hnn
        obtain ⟨l, dx, vs, rfl, h1, hl, rl⟩ := R.ins p e1
        exact .inr ⟨l, _, dx, _, _, rfl, h1, hc c hcc, R.tyx q (hn _ _ hnn).1, (hn _ _ hnn).2, rfl, Z, [a, b], st, R, ⟨_, _, rfl, p, _, _, rfl, q, rfl⟩, h⟩
      · exact h.elim
    · exact .inl (hf Z H st a b x y Q R p q h)
  · exact .inl (hf Z H st a b x y Q R p q h)
theorem ad_ownNe (hc : ∀ c, cs.contains c = true → EqC K (G c) g) (hn : ∀ c t, nf c t = true → TyOk K G t ∧ PySem.W.notFirst K (G c) (tyW G t) = true) (hf : Ad2E K G E f r) : Ad2E K G E (dOwnNe cs nf F f) (fun x y H Q => r x y H Q ∨ rOwnNe K g (spS K G 2 F) E x y H Q) := by
  intro Z H st a b x y Q R p q h
  unfold dOwnNe at h
  split at h
  · rename_i c ns ds e1
    split at h
    · rename_i hcc
      split at h
      · rename_i hnn
        obtain ⟨l, dx, vs, rfl, h1, hl, rl⟩ := R.ins p e1
        refine .inr ⟨l, _, dx, _, _, rfl, h1, hc c hcc, R.tyx q (hn _ _ hnn).1, (hn _ _ hnn).2, rfl, Z, [a, b], st, R, ⟨_, _, rfl, p, _, _, rfl, q, rfl⟩, h.bind fun d st' Z' z H' l' R' p' q' => ?_⟩
        cases d with
        | bl b => exact ⟨b, p', Post.now (P := rD K G) q' R' rfl⟩
        | _ => exact q'.elim
      · exact h.elim
    · exact .inl (hf Z H st a b x y Q R p q h)
  · exact .inl (hf Z H st a b x y Q R p q h)
variable {a b : Expr} {m n : M} {pos : Pos} {σ : St} {H : Hp}
theorem rs_binE {Q : VK} (hf : Ad2E K G E f r) (h : tS K G (wE E) (mBin f m n) σ H Q) : tOp r (tS K G (wE E) m) (tS K G (wE E) n) σ H Q := by
  refine rs_bind (f := fun a env st1 => (n env st1).bind fun b st2 => f a b st2) h fun a x H1 Z env st R S p q => ?_
  exact ⟨Z, env, st, R, S, q.bind fun b st' Z' y H' l R' p' q' => hf Z' H' st' a b x y Q R' (Rep.up l a x p) p' q'⟩
theorem pS_cmpE {op : CmpOp} (ho : OpR X (compareOp op) r) (hf : Ad2E X.K G E f r) (ha : PE X a (tS X.K G (wE E) m)) (hb : PE X b (tS X.K G (wE E) n)) (hm : behindInMarks op b = false) : PE X (.Compare a [op] [b] pos) (tS X.K G (wE E) (mBin f m n)) :=
  pe_of (pe_cmpR ho ha hb hm) fun _ _ _ => rs_binE hf
theorem pS_cmpTE {op : CmpOp} (ho : OpR X (compareOp op) r) (hf : Ad2E X.K G E f r) (ha : PE X a (tS X.K G (wE E) m)) (hb : PE X b (tS X.K G (wE E) n)) (hm : behindInMarks op b = false) : PT X (.Compare a [op] [b] pos) (tSB X.K G (wE E) (mTest (mBin f m n))) :=
  pt_of (pt_cmpR ho ha hb hm) fun σ H Q h => rs_binE hf (rs_test h)
/-! ### str(o) by the own __str__ -/
def dStrX (cs : List Nat) (F : List D → Sto → R D) (f : List D → Sto → R D) (as : List D) (st : Sto) : R D := match as with
  | [a] => (match rd st a with
    | .ins c _ _ => if cs.contains c = true then (F [a] st).bind fun d st1 => (if isS d then .ok d st1 else .stuck) else f as st
    | _ => f as st)
  | _ => f as st
def AdLE (K : PySem.W.Frag) (G : Nat → Addr) (E : XK) (f : List D → Sto → R D) (r : List V → Hp → VK → Prop) : Prop := ∀ (Z : Gh) (H : Hp) (st : Sto) (as : List D) (xs : List V) (Q : VK), RelH K G Z H st → RepL K G Z as xs → Post K G (rD K G) E Z (f as st) Q → r xs H Q
theorem AdL.e {f : List D → Sto → R D} {r : List V → Hp → VK → Prop} (h : AdL K G f r) : AdLE K G E f r := fun Z H st as xs Q => h E Z H st as xs Q
theorem ad_strX {f : List D → Sto → R D} {r : List V → Hp → VK → Prop} (hc : ∀ c, cs.contains c = true → PySem.W.findIn K (.ref (G c)) "__str__" = some (some (.ref g))) (hf : AdLE K G E f r) : AdLE K G E (dStrX cs F f) (fun xs H Q => r xs H Q ∨ rStrOwn K g (spS K G 1 F) E xs H Q) := by
  intro Z H st as xs Q R p h
  unfold dStrX at h
  split at h
  · rename_i a
    split at h
    · rename_i c ns ds e1
      split at h
      · rename_i hcc
        obtain ⟨x, rfl, pa⟩ := RepL.one p
        obtain ⟨l, dx, vs, rfl, h1, hl, rl⟩ := R.ins pa e1
        refine .inr ⟨l, _, dx, _, rfl, h1, hc c hcc, rfl, Z, [a], st, R, ⟨_, _, rfl, pa, rfl⟩, h.bind fun d st' Z' z H' l' R' p' q' => ?_⟩
        cases d with
        | str t => exact ⟨t, p', Post.now (P := rD K G) q' R' p'⟩
        | _ => exact q'.elim
      · exact .inl (hf Z H st _ xs Q R p h)
    · exact .inl (hf Z H st _ xs Q R p h)
  · exact .inl (hf Z H st _ xs Q R p h)
theorem pS_callTyE {T : String} {x : Str} {p : Pos} {e : Expr} {es : List Expr} {f : List D → Sto → R D} {r : List V → Hp → VK → Prop} {m : MA} (hc : CallR X (.type T) r) (hf : AdLE X.K G E f r) (hg : Gl X x) (hm : X.mg x = none) (hv : bootBuiltins x = some (.type T)) (ha : PA X (e :: es) (tSA X.K G (wE E) m)) (hn : x ≠ "__name__" := by decide) (hdb : (x == ("__debug__" : Str)) = false := by decide)
    (he : starEach (e :: es) X.env = (false, eval e X.env) :: starEach es X.env := by rfl) (hpl : (backTo pos (starEach es X.env)).any (·.1) = false := by rfl) : PE X (.Call (.Name x p) (e :: es) [] pos) (tS X.K G (wE E) (mApp f m)) :=
  pe_of (pe_callTy hc hg hm hv ha hn hdb he hpl) fun σ H Q h => rs_bind (f := fun as _ st1 => f as st1) h fun as xs H1 Z env st R S p q => hf Z H1 st as xs Q R p q
end
/-! ### bodies that say super() -/
section
variable {K : PySem.W.Frag} {G : Nat → Addr} {W : WX} {X : Cx} {st : Stmt} {rest : List Stmt} {c : Code}
theorem psa_ofS {t t' : TS} (h : PSA X c st t) (k : ∀ Dn σ H, t' Dn σ H → t Dn σ H) : PSA X c st t' := ⟨fun pins s σ H Dn I q => h.run pins s σ H Dn I (k Dn σ H q)⟩
theorem pssa_ofS {t t' : TS} (h : PSsA X c rest t) (k : ∀ Dn σ H, t' Dn σ H → t Dn σ H) : PSsA X c rest t' := ⟨fun pins s σ H Dn I q => h.run pins s σ H Dn I (k Dn σ H q)⟩
theorem pSA_st {a : MS} (h : PS X st (tSS K G W a)) : PSA X c st (tSS K G W a) := psa_of h
theorem pSsA_cons {a b : MS} (h : PSA X c st (tSS K G W a)) (h' : PSsA X c rest (tSS K G W b)) : PSsA X c (st :: rest) (tSS K G W (mSeq a b)) := pssa_ofS (pssa_cons h h') fun _ _ _ => rs_seq
theorem pSsA_one {a : MS} (h : PSA X c st (tSS K G W a)) : PSsA X c [st] (tSS K G W a) := pssa_one h
end
/-- super().m(e, ..), self in slot i -/
def mSup (cs : List Nat) (i n : Nat) (F : List D → Sto → R D) (m : MA) : MS := mDo fun env st => match env[i]? with
  | some (some o) => (match rd st o with
    | .ins c _ _ => if cs.contains c = true then (m env st).bind fun ds st1 => (if (o :: ds).length = n then F (o :: ds) st1 else .stuck) else .stuck
    | _ => .stuck)
  | _ => .stuck
section
variable {G : Nat → Addr} {X : Cx} {Dd g : Addr} {y nm : Str} {k n : Nat} {fd : FuncData} {ps : List Str} {F : List D → Sto → R D} {E : XK} {e : Expr} {es : List Expr} {m : MA} {p0 p1 p2 pos pos' : Pos} {i : Nat} {pl : Sem Bool} {body : List Stmt} {cs : List Nat}
theorem pSA_super (Sx : SupX X Dd y) (Fk : FnOk X.prog X.w X.K X.mg X.base (L2.CX X.prog X.w) k g fd ps (spS X.K G n F)) (hM : ∀ c, cs.contains c = true → SupM X.K (G c) Dd nm g) (hr : Room k X.A) (hb : Binds X.K fd ps []) (hx : Passes (L2.CX X.prog X.w) X E) (ha : PA X (e :: es) (tSA X.K G (wE E) m)) (hN : X.N[i]? = some y := by rfl) (hm : (nm == ("__class__" : Str)) = false := by decide)
    (hi : interactive X.env = false := by rfl) (hs : swapsWith (.Call (.Attribute (.Call (.Name "super" p0) [] [] p1) nm p2) (e :: es) [] pos) none pos'.line X.env = pure false := by rfl)
    (hst : starEach (e :: es) X.env = (false, eval e X.env) :: starEach es X.env := by rfl) (hpl : (backTo pos (starEach es X.env)).any (·.1) = false := by rfl)
    (he : eval (.Call (.Attribute (.Call (.Name "super" p0) [] [] p1) nm p2) (e :: es) [] pos) X.env = (do
      let ov ← attributeBase (.Call (.Name "super" p0) [] [] p1) nm X.env (eval (.Call (.Name "super" p0) [] [] p1) X.env)
      standAt p2.atName
      let (f, first) ← holding [ov] (getMethod ov nm pl)
      callWith pos f first (backTo pos (starEach (e :: es) X.env)) []) := by rfl) :
    PSA X (.func body X.env) (.Expr (.Call (.Attribute (.Call (.Name "super" p0) [] [] p1) nm p2) (e :: es) [] pos) pos') (tSS X.K G (wE E) (mSup cs i n F m)) :=
  psa_ofS (psa_super (i := i) Sx Fk hr hb hx ha hN hm hi hs hst hpl he) fun Dn σ H ⟨Z, env, st, R, S, h⟩ => by
    have h' : Post X.K G (rD X.K G) (WE (wE E) σ) Z (match env[i]? with
      | some (some o) => (match rd st o with
        | .ins c _ _ => if cs.contains c = true then (m env st).bind fun ds st1 => (if (o :: ds).length = n then F (o :: ds) st1 else .stuck) else .stuck
        | _ => .stuck)
      | _ => .stuck) fun _ H' => Dn.nx σ H' :=
      post_stm (m := fun env st => match env[i]? with
        | some (some o) => (match rd st o with
          | .ins c _ _ => if cs.contains c = true then (m env st).bind fun ds st1 => (if (o :: ds).length = n then F (o :: ds) st1 else .stuck) else .stuck
          | _ => .stuck)
        | _ => .stuck) (f := fun _ st' => .nx env st') S h fun d st' Z' v H' l R' r q => q Z' σ H' (Gh.le.refl _) R' (S.up l)
    split at h'
    · rename_i o e0
      obtain ⟨v, e1, r⟩ := S.get e0
      split at h'
      · rename_i c ns ds e2
        split at h'
        · rename_i hc
          obtain ⟨l, dx, vs, rfl, h1, hl, rl⟩ := R.ins r e2
          refine ⟨l, _, dx, _, e1, h1, hM c hc, Z, env, st, R, S, h'.bind fun ds st1 Z1 vs H1 l1 R1 p1 q1 => ?_⟩
          split at q1
          · rename_i hn
            have r2 : RepL X.K G Z1 (o :: ds) (.ref l :: vs) := ⟨_, _, rfl, Rep.up l1 _ _ r, p1⟩
            exact ⟨r2.length ▸ hn, Z1, _, st1, R1, r2, q1⟩
          · exact q1.elim
        · exact h'.elim
      · exact h'.elim
    · exact h'.elim
end
section
variable {P : Program} {w : World} {K : PySem.W.Frag} {mg : Str → Option Value} {base : Heap} {G : Nat → Addr}
theorem fnSS {fz : Bool} {x qual y : Str} {st : Stmt} {f Dd : Addr} {fd : FuncData} {N ps : List Str} {k n : Nat} {ms : MS} {ar : Arg} {cdD : ClassData} (F : Sn P K x qual st ps f fd Dd) (T : SupT P K mg) (S : FnScopeS N ps (defScope st)) (hD : PySem.W.clsIn K Dd = some cdD) (hn : n = ps.length)
    (hp : ((defArgs st).posonlyargs ++ (defArgs st).args).head? = some ar) (hy : ar.arg = y) (hl : (defScope st).names.lookup y = some .local)
    (hb : ∀ (cdv : Value) (cc : Addr) (A : Around) (outer : List PySem.Env) (s : Shared) (H : Hp) (E : XK), Room k (A.deeper (PySem.W.ksEnv qual (defScope st) s.heap.objs.size f cdv cc)) → SupX (cxS (L2.CX P w) P w K mg base N qual (defScope st) f cdv cc A outer s H E) Dd y →
      PSsA (cxS (L2.CX P w) P w K mg base N qual (defScope st) f cdv cc A outer s H E) (.func (defBody st) (PySem.W.ksEnv qual (defScope st) s.heap.objs.size f cdv cc)) (defBody st) (tSS K G (wE E) ms)) :
    FnOk P w K mg base (L2.CX P w) (k + 1) f fd ps (spS K G n (mFun fz N.length ms)) :=
  F.okX T S hD hp hy hl (fun vs H Q E h => by rw [h.1, hn]) fun cdv cc A outer s H vs Q E hr hs h => ⟨_, hb cdv cc A outer s H E hr hs, sp_body h⟩
end
end S
/-! zip of two things, each a list or a tuple -/
namespace S
open PySem L2
/-- a list (true) or a tuple (false) -/
def SqA (b : Bool) (K : PySem.W.Frag) (H : Hp) (a : Addr) (xs : List V) : Prop := match b with
  | true => SqL K H a xs
  | false => SqT K H a xs
def ItA (b : Bool) (h : Heap) (it a : Addr) (i : Nat) : Prop := match b with
  | true => h.IsListIter it a i
  | false => h.IsTupleIter it a i
def SeA (b : Bool) (h : Heap) (a : Addr) (its : Array Value) : Prop := match b with
  | true => h.IsList a its
  | false => h.IsTuple a its
def itO (b : Bool) (a : Addr) : Obj := match b with
  | true => { cls := .type "list_iterator", data := .fields #[.ref a, .int 0 0] }
  | false => { cls := .type "tuple_iterator", data := .fields #[.ref a, .int 0 0] }
section
variable {prog : Program} {w : World} {A : Around} {b : Bool}
theorem draws_a (hh : A.handled = none) (it l : Addr) (hne : l ≠ it) (items : Array Value) : Draws prog w A it [it, l] items.size (fun i v => items[i]? = some v) (fun i h => ItA b h it l i ∧ SeA b h l items) := by
  cases b with
  | true => exact Draws.list hh it l hne items
  | false => exact Draws.tuple hh it l hne items
theorem begins_a (l : Addr) (items : Array Value) : Begins (.ref l) (itO b l) fun h => SeA b h l items := by
  cases b with
  | true => exact begins_list l items
  | false => exact begins_tuple l items
theorem ItA.some_ {h : Heap} {it a : Addr} {i : Nat} (x : ItA b h it a i) : ∃ o, h.get? it = some o ∧ ∀ v, o.data ≠ .cell v := by
  cases b with
  | true => obtain ⟨o, e, _, d⟩ := x; exact ⟨o, e, fun v q => by rw [d] at q; cases q⟩
  | false => obtain ⟨o, e, _, d⟩ := x; exact ⟨o, e, fun v q => by rw [d] at q; cases q⟩
theorem ItA.at_ {h h' : Heap} {it a : Addr} {i : Nat} (x : ItA b h it a i) (k : ∀ o, h.get? it = some o → h'.get? it = some o) : ItA b h' it a i := by
  cases b with
  | true => exact Heap.IsListIter.at x k
  | false => exact Heap.IsTupleIter.at x k
theorem ItA.new {h : Heap} {it a : Addr} (e : h.get? it = some (itO b a)) : ItA b h it a 0 := by
  cases b with
  | true => exact ⟨_, e, rfl, rfl⟩
  | false => exact ⟨_, e, rfl, rfl⟩
variable {X : Cx} {pins : List (Addr × Obj)} {σ : St} {H : Hp} {s : Shared} {a : Addr} {xs ys : List V}
theorem sqa_read (I : Inv X pins σ H s) (q : SqA b X.K H a xs) : ∃ its : List Value, Vals xs its ∧ SeA b s.heap a its.toArray ∧ a < s.heap.objs.size := by
  cases b with
  | true =>
    obtain ⟨its, rv, p, _⟩ := I.list q
    exact ⟨its, rv, p.isList, p.lt⟩
  | false =>
    obtain ⟨its, rv, p, _⟩ := I.tuple q
    obtain ⟨o, ho, _⟩ := id p
    exact ⟨its, rv, p, Heap.lt_size ho⟩
theorem sqa_inj (I : Inv X pins σ H s) (q : SqA b X.K H a xs) (q' : SqA b X.K H a ys) : xs = ys := by
  cases b with
  | true => exact I.list_inj q q'
  | false => exact I.tuple_inj q q'
end
/-- the things at a and b as they stand at each turn, their items in new pairs -/
def ItzA (p q : Bool) (K : PySem.W.Frag) (a b : Addr) : It where
  go := fun i H => ∃ xs ys : List V, SqA p K H a xs ∧ SqA q K H b ys ∧ i < xs.length ∧ i < ys.length
  yld := fun i H v H' => ∃ T x y, v = .ref T ∧ H T = none ∧ H' = upd H T (.tup [x, y]) ∧ (∀ xs, SqA p K H a xs → xs[i]? = some x) ∧ ∀ ys, SqA q K H b ys → ys[i]? = some y
  stop := fun i H => ∃ xs ys : List V, SqA p K H a xs ∧ SqA q K H b ys ∧ i ≤ xs.length ∧ i ≤ ys.length ∧ (i = xs.length ∨ i = ys.length)
abbrev ZSep (z TI TO i1 i2 a b : Addr) : Prop := ZipSep2 z TI TO i1 i2 [i1, a] [i2, b]
theorem zsep {n a b : Addr} (h1 : a < n) (h2 : b < n) : ZSep (n + 4) (n + 2) (n + 3) n (n + 1) a b := by
  have f : ∀ {x : Addr} (k : Nat), x < n → n + k ≠ x := fun k h e => Nat.lt_irrefl _ (Nat.lt_of_le_of_lt (Nat.le_trans (Nat.le_add_right n k) (Nat.le_of_eq e)) h)
  have g : ∀ j k : Nat, j ≠ k → n + j ≠ n + k := fun j k h e => h (Nat.add_left_cancel e)
  have m : ∀ {c x y : Addr}, c ≠ x → c ≠ y → c ∉ [x, y] := fun p q z => by
    simp only [List.mem_cons, List.not_mem_nil, or_false] at z
    exact z.elim p q
  exact ⟨g 2 4 (by decide), g 3 4 (by decide), g 2 3 (by decide), g 2 0 (by decide), List.mem_cons_self, m (g 4 0 (by decide)) (f 4 h1), m (g 3 0 (by decide)) (f 3 h1), g 2 1 (by decide), List.mem_cons_self, m (g 4 1 (by decide)) (f 4 h2), m (g 3 1 (by decide)) (f 3 h2), m (g 0 1 (by decide)) (f 0 h2), m (g 1 0 (by decide)) (f 1 h1)⟩
theorem turn_zipA {P : Program} {w : World} {K : PySem.W.Frag} {elts : List Expr} {kk : Nat} {tpos : Pos} {p q : Bool} {a b z TI TO i1 i2 : Addr} (S : ZSep z TI TO i1 i2 a b) (hai : a ≠ i1) (hbi : b ≠ i2) :
    Turn P w K (.Tuple elts kk tpos) (ItzA p q K a b) [z, TI, TO, i1, i2] z (fun i h => IsZip h z TI TO .none ∧ IsTupOf2 h TI (.ref i1) (.ref i2) ∧ (∃ x y, IsTupOf2 h TO x y) ∧ ItA p h i1 a i ∧ ItA q h i2 b i) where
  mem := List.mem_cons_self
  obj := fun i h ⟨hz, hTI, ⟨x, y, hTO⟩, h1, h2⟩ c hc => by
    simp only [List.mem_cons, List.not_mem_nil, or_false] at hc
    rcases hc with rfl | rfl | rfl | rfl | rfl
    · exact ⟨_, hz, fun _ z => by cases z⟩
    · exact ⟨_, hTI, fun _ z => by cases z⟩
    · exact ⟨_, hTO, fun _ z => by cases z⟩
    · exact h1.some_
    · exact h2.some_
  keep := fun i h h' ⟨hz, hTI, ⟨x, y, hTO⟩, h1, h2⟩ k => ⟨k _ (by simp) _ hz, k _ (by simp) _ hTI, ⟨x, y, k _ (by simp) _ hTO⟩, h1.at_ (k _ (by simp)), h2.at_ (k _ (by simp))⟩
  item := fun X hP hw hK hc i pins s σ H E I hf ⟨hz, hTI, ⟨x0, y0, hTO⟩, h1, h2⟩ ⟨xs, ys, qx, qy, lx, ly⟩ => by
    subst hP hw hK
    obtain ⟨its, rv, se, _⟩ := sqa_read I qx
    obtain ⟨its2, rv2, se2, _⟩ := sqa_read I qy
    have n1 : i < its.toArray.size := by rw [List.size_toArray, ← rv.length]; exact lx
    have n2 : i < its2.toArray.size := by rw [List.size_toArray, ← rv2.length]; exact ly
    refine wpAny_pyNext_zipD2_item S (draws_a (A := X.A.in1) (b := p) (I.ok.hd hc) i1 a hai its.toArray) (draws_a (A := X.A.in1) (b := q) (I.ok.hd hc) i2 b hbi its2.toArray) hz hTI hTO ⟨h1, se⟩ ⟨h2, se2⟩ n1 n2 fun u1 u2 h' tk y1 y2 z' TO' s1' s2' hT hsz hk => ?_
    refine ⟨_, rfl, wpAny_letOwnedTupleGo_zip (s := { s with heap := h', toks := tk }) z' fun h2' z2 sb => ?_⟩
    obtain ⟨x, hx⟩ : ∃ x, xs[i]? = some x := ⟨_, List.getElem?_eq_getElem lx⟩
    obtain ⟨y, hy⟩ : ∃ y, ys[i]? = some y := ⟨_, List.getElem?_eq_getElem ly⟩
    obtain ⟨u, hu, ru⟩ := rv.get hx
    obtain ⟨v, hv, rv'⟩ := rv2.get hy
    have eu : u = u1 := by
      have e : its[i]? = some u1 := by simpa using y1
      rw [hu] at e; exact Option.some.inj e
    have ev : v = u2 := by
      have e : its2[i]? = some u2 := by simpa using y2
      rw [hv] at e; exact Option.some.inj e
    subst eu ev
    have far : ∀ c ∈ [z, TI, TO, i1, i2], c < s.heap.objs.size := fun c hcm => by
      simp only [List.mem_cons, List.not_mem_nil, or_false] at hcm
      rcases hcm with rfl | rfl | rfl | rfl | rfl
      · exact Heap.lt_size hz
      · exact Heap.lt_size hTI
      · exact Heap.lt_size hTO
      · obtain ⟨_, e, _⟩ := h1.some_; exact Heap.lt_size e
      · obtain ⟨_, e, _⟩ := h2.some_; exact Heap.lt_size e
    have ne : ∀ {c : Addr}, c ∈ [z, TI, TO, i1, i2] → s.heap.objs.size ≠ c := fun hcm => Nat.ne_of_gt (far _ hcm)
    have kept : ∀ c o, c ∉ [z, TI, TO, i1, i2] → s.heap.get? c = some o → h2'.get? c = some o := fun c o hcm e => by
      simp only [List.mem_cons, List.not_mem_nil, or_false, not_or] at hcm
      exact (sb.2 c hcm.1).trans (hk c o hcm.1 hcm.2.2.1 hcm.2.2.2.1 hcm.2.2.2.2 e)
    have I1 : Inv X pins σ (upd H s.heap.objs.size (.tup [x, y])) { s with heap := h2', toks := tk } := I.turnedNew kept hf (Nat.le_refl _)
      ⟨by show 2 ≤ sizeLine; decide, [u, v], .cons ru (.cons rv' .nil), ⟨_, (sb.2 _ (ne (by simp))).trans hT, rfl, _, rfl⟩⟩
    have zi1 : i1 ≠ z := fun e => S.zi1 e.symm
    have zi2 : i2 ≠ z := fun e => S.zi2 e.symm
    refine ⟨.ref s.heap.objs.size, _, I1, rfl, ⟨_, x, y, rfl, I.hok.fresh (Nat.le_refl _), rfl, fun l hl => by rw [sqa_inj I hl qx]; exact hx, fun l hl => by rw [sqa_inj I hl qy]; exact hy⟩, ⟨z2, ?_, ⟨u, v, ?_⟩, ?_, ?_⟩, fun c hcm => ?_⟩
    · exact (sb.2 _ S.TIz).trans (hk _ _ S.TIz S.TITO S.TIi1 S.TIi2 hTI)
    · exact (sb.2 _ S.TOz).trans TO'
    · exact s1'.1.at_ fun o e => (sb.2 _ zi1).trans e
    · exact s2'.1.at_ fun o e => (sb.2 _ zi2).trans e
    · rw [upd_ne (Ne.symm (ne hcm))]; exact (hf c hcm).1
  done := fun X hP hw hK hc i pins s σ H E I hf ⟨hz, hTI, ⟨x0, y0, hTO⟩, h1, h2⟩ ⟨xs, ys, qx, qy, lx, ly, hend⟩ => by
    subst hP hw hK
    obtain ⟨its, rv, se, _⟩ := sqa_read I qx
    obtain ⟨its2, rv2, se2, _⟩ := sqa_read I qy
    have e1 : its.toArray.size = xs.length := by rw [List.size_toArray, rv.length]
    have e2 : its2.toArray.size = ys.length := by rw [List.size_toArray, rv2.length]
    refine wpAny_pyNext_zipD2_end S (draws_a (A := X.A.in1) (b := p) (I.ok.hd hc) i1 a hai its.toArray) (draws_a (A := X.A.in1) (b := q) (I.ok.hd hc) i2 b hbi its2.toArray) hz hTI hTO ⟨h1, se⟩ ⟨h2, se2⟩ (by omega) (by omega) (by omega) fun h' tk hk => ⟨rfl, I.turnedL (ch := [z, TI, TO, i1, i2]) (fun c o hcm e => ?_) hf⟩
    simp only [List.mem_cons, List.not_mem_nil, or_false, not_or] at hcm
    exact hk c o hcm.1 hcm.2.2.1 hcm.2.2.2.1 hcm.2.2.2.2 e
  self := fun A i s Q E st h => wpAny_pyIter_zip st.1 h
end S
namespace S
open PySem L2
def iZipS (K : PySem.W.Frag) (ta : TA) : TI := fun σ H R => ta σ H fun vs H1 => ∃ (p q : Bool) (a b : Addr) (xs ys : List V), vs = [.ref a, .ref b] ∧ SqA p K H1 a xs ∧ SqA q K H1 b ys ∧ R (ItzA p q K a b) H1
theorem zip_fin {X : Cx} {pins : List (Addr × Obj)} {σ : St} {H1 : Hp} {s1 : Shared} {h' : Heap} {R : It → Hp → Prop} {elts : List Expr} {kk : Nat} {tpos : Pos} {pb qb : Bool} {a b : Addr} (I1 : Inv X pins σ H1 s1) (I2 : Inv X pins σ H1 { s1 with heap := h' }) (la : a < s1.heap.objs.size) (lb : b < s1.heap.objs.size)
    (hz : IsZip h' (s1.heap.objs.size + 4) (s1.heap.objs.size + 2) (s1.heap.objs.size + 3) .none) (hTI : IsTupOf2 h' (s1.heap.objs.size + 2) (.ref s1.heap.objs.size) (.ref (s1.heap.objs.size + 1))) (hTO : IsTupOf2 h' (s1.heap.objs.size + 3) .none .none) (g1 : h'.get? s1.heap.objs.size = some (itO pb a)) (g2 : h'.get? (s1.heap.objs.size + 1) = some (itO qb b)) (hr : R (ItzA pb qb X.K a b) H1) :
    PIE X pins σ (.Tuple elts kk tpos) R (.ref (s1.heap.objs.size + 4)) { s1 with heap := h' } := by
  refine ⟨s1.heap.objs.size + 4, [s1.heap.objs.size + 4, s1.heap.objs.size + 2, s1.heap.objs.size + 3, s1.heap.objs.size, s1.heap.objs.size + 1], _, _, H1, rfl, I2, turn_zipA (zsep la lb) (Nat.ne_of_lt la) (Nat.ne_of_lt (Nat.lt_succ_of_lt lb)), ⟨hz, hTI, ⟨_, _, hTO⟩, ItA.new g1, ItA.new g2⟩, fun c hcm => ?_, hr⟩
  have hle : s1.heap.objs.size ≤ c := by
    simp only [List.mem_cons, List.not_mem_nil, or_false] at hcm
    rcases hcm with rfl | rfl | rfl | rfl | rfl
    · exact Nat.le_add_right _ _
    · exact Nat.le_add_right _ _
    · exact Nat.le_add_right _ _
    · exact Nat.le_refl _
    · exact Nat.le_add_right _ _
  exact I1.fpOk hle (I1.hok.fresh hle)
theorem pi_zipS {X : Cx} {e e2 : Expr} {ta : TA} {p pos tpos : Pos} {elts : List Expr} {kk : Nat} (hg : Gl X "zip") (hm : X.mg "zip" = none) (ha : PA X [e, e2] ta)
    (hs : starEach [e, e2] X.env = (false, eval e X.env) :: starEach [e2] X.env := by rfl) (hpl : (backTo pos (starEach [e2] X.env)).any (·.1) = false := by rfl) :
    PI X (.Tuple elts kk tpos) (.Call (.Name "zip" p) [e, e2] [] pos) (iZipS X.K ta) := by
  refine ⟨fun pins s σ H R I h => ?_⟩
  refine PyProof.Rows.Call_ (ld_blt I hg hm PyProof.Rows.boot_zip (PyProof.Rows.callWith_type1 (thn (ha.run pos pins s σ H _ I h) fun us s1 ⟨vs, H1, I1, rv, q1⟩ => ?_) hs hpl))
  obtain ⟨pb, qb, a, b, xs, ys, ev, qx, qy, hr⟩ := q1
  subst ev
  cases rv with
  | cons r rr =>
    cases rr with
    | cons r' rn =>
      cases rn
      cases (show _ = Value.ref a from r)
      cases (show _ = Value.ref b from r')
      obtain ⟨its, _, se, la⟩ := sqa_read I1 qx
      obtain ⟨its2, _, se2, lb⟩ := sqa_read I1 qy
      refine zip_begins2 (begins_a (b := pb) a its.toArray) (begins_a (b := qb) b its2.toArray) se se2 fun h' hz hTI hTO g1 g2 hsz hk => ?_
      have I2 : Inv X pins σ H1 { s1 with heap := h' } := I1.kept (t' := s1.toks) hk
      refine wpAny_pyIter_zip hz ?_
      exact zip_fin I1 I2 la lb hz hTI hTO g1 g2 hr
theorem walk_zipA {p q : Bool} {K : PySem.W.Frag} {a b : Addr} {xs ys : List V} : Walk (ItzA p q K a b) (min xs.length ys.length) (fun H => SqA p K H a xs ∧ SqA q K H b ys) (YPair (fun i => xs[i]?) (fun i => ys[i]?)) where
  goes := fun i H hi h => ⟨xs, ys, h.1, h.2, by omega, by omega⟩
  stops := fun H h => ⟨xs, ys, h.1, h.2, by omega, by omega, by omega⟩
  yields := fun i H x H' hi h ⟨T, u, v, e1, e2, e3, e4, e5⟩ => ⟨T, u, v, e1, e2, e3, e4 xs h.1, e5 ys h.2⟩
def zipD (xs ys : List D) : List D := (xs.zip ys).map fun p => .tup [p.1, p.2]
def mItZip (m : MA) : MA := fun env st => (m env st).bind fun ds st1 => match ds with
  | [a, b] => (match itemsF a, itemsF b with
    | some xs, some ys => .ok (zipD xs ys) st1
    | _, _ => .stuck)
  | _ => .stuck
section
variable {K : PySem.W.Frag} {G : Nat → Addr} {W : WX} {X : Cx} {Z : Gh}
theorem itemsF_sq {d : D} {v : V} {xs : List D} (r : Rep K G Z d v) (e : itemsF d = some xs) : ∃ b a vs, v = .ref a ∧ SqA b K Z.fz a vs ∧ RepL K G Z xs vs := by
  cases d with
  | lst ys => cases e; obtain ⟨a, vs, h1, h2, h3⟩ := r; exact ⟨true, a, vs, h1, SqL.of h2, h3⟩
  | rls ys => cases e; obtain ⟨a, vs, h1, h2, h3⟩ := r; exact ⟨true, a, vs, h1, h2, h3⟩
  | tup ys => cases e; obtain ⟨a, vs, h1, h2, h3⟩ := r; exact ⟨false, a, vs, h1, h2, h3⟩
  | _ => cases e
theorem SqA.same {b : Bool} {H H' : Hp} {a : Addr} {xs : List V} (e : Same H H') (h : SqA b K H a xs) : SqA b K H' a xs := by
  cases b with
  | true => exact e.seq h
  | false => exact Same.sqt' e h
theorem walkZ {p q : Bool} {a b : Addr} {us vs : List V} {xs ys : List D} (h1 : SqA p K Z.fz a us) (h2 : SqA q K Z.fz b vs) (r1 : RepL K G Z xs us) (r2 : RepL K G Z ys vs) : rI K G Z (zipD xs ys) (ItzA p q K a b) := by
  have hl : (zipD xs ys).length = min us.length vs.length := by simp [zipD, r1.length, r2.length]
  refine ⟨_, _, hl ▸ walk_zipA (xs := us) (ys := vs), fun Z' H st l R => ⟨(h1.same l.fz).same R.fz, (h2.same l.fz).same R.fz⟩, fun i x H H' Z' st l R hi y => ?_⟩
  obtain ⟨T, x1, x2, rfl, hT, rfl, e1, e2⟩ := y
  have e1 : us[i]? = some x1 := e1
  have e2 : vs[i]? = some x2 := e2
  have hi' : i < min us.length vs.length := hl ▸ hi
  obtain ⟨d1, hd1⟩ : ∃ d, xs[i]? = some d := ⟨_, List.getElem?_eq_getElem (by rw [r1.length]; omega)⟩
  obtain ⟨d2, hd2⟩ : ∃ d, ys[i]? = some d := ⟨_, List.getElem?_eq_getElem (by rw [r2.length]; omega)⟩
  obtain ⟨v1, g1, p1⟩ := (RepL.ux l _ _ r1).get hd1
  obtain ⟨v2, g2, p2⟩ := (RepL.ux l _ _ r2).get hd2
  rw [e1] at g1; cases g1
  rw [e2] at g2; cases g2
  obtain ⟨l', R'⟩ := R.lay (o := .tup [x1, x2]) hT
  refine ⟨_, .tup [d1, d2], l', R', ?_, T, _, rfl, .inl (.inl upd_same), _, _, rfl, Rep.up l' _ _ p1, _, _, rfl, Rep.up l' _ _ p2, rfl⟩
  unfold zipD
  rw [List.getElem?_map, (List.getElem?_zip_eq_some (z := (d1, d2))).mpr ⟨hd1, hd2⟩]
  rfl
theorem pI_zip {e e2 : Expr} {m : MA} {p pos tpos : Pos} {elts : List Expr} {kk : Nat} (hg : Gl X "zip") (hm : X.mg "zip" = none) (ha : PA X [e, e2] (tSA X.K G W m))
    (hs : starEach [e, e2] X.env = (false, eval e X.env) :: starEach [e2] X.env := by rfl) (hpl : (backTo pos (starEach [e2] X.env)).any (·.1) = false := by rfl) :
    PI X (.Tuple elts kk tpos) (.Call (.Name "zip" p) [e, e2] [] pos) (tSI X.K G W (mItZip m)) :=
  pi_of (pi_zipS hg hm ha hs hpl) fun σ H Q h => rs_bind (f := fun ds _ st1 => match ds with
    | [a, b] => (match itemsF a, itemsF b with
      | some xs, some ys => .ok (zipD xs ys) st1
      | _, _ => .stuck)
    | _ => .stuck) h fun ds vs H1 Z env st R S r q => by
    split at q
    · obtain ⟨x, y, rfl, p1, p2⟩ := RepL.two r
      split at q
      · rename_i e1 e2
        obtain ⟨b1, a1, us, rfl, q1, r1⟩ := itemsF_sq p1 e1
        obtain ⟨b2, a2, ws, rfl, q2, r2⟩ := itemsF_sq p2 e2
        exact ⟨b1, b2, a1, a2, us, ws, rfl, q1.same R.fz, q2.same R.fz, Post.now (P := rI X.K G) q R (walkZ q1 q2 r1 r2)⟩
      · exact q.elim
    · exact q.elim
end
end S
/-! calls by keywords and with defaults -/
namespace S
open PySem L2
def pickA {α : Type} (arr : List Nat) (xs : List α) : List α := arr.filterMap fun i => xs[i]?
theorem pick_vals {vs : List V} {us : List Value} (r : Vals vs us) : ∀ arr : List Nat, Vals (pickA arr vs) (pickA arr us)
  | [] => .nil
  | i :: arr => by
    have ih := pick_vals r arr
    unfold pickA at ih ⊢
    rw [List.filterMap_cons, List.filterMap_cons]
    cases e : vs[i]? with
    | none => rw [r.none_of e]; exact ih
    | some v =>
      obtain ⟨u, e2, rv⟩ := r.get e
      rw [e2]
      exact .cons rv ih
theorem pick_rep {K : PySem.W.Frag} {G : Nat → Addr} {Z : Gh} {ds : List D} {vs : List V} (r : RepL K G Z ds vs) : ∀ arr : List Nat, RepL K G Z (pickA arr ds) (pickA arr vs)
  | [] => rfl
  | i :: arr => by
    have ih := pick_rep r arr
    unfold pickA at ih ⊢
    rw [List.filterMap_cons, List.filterMap_cons]
    cases e : ds[i]? with
    | none =>
      have e2 : vs[i]? = none := List.getElem?_eq_none_iff.mpr (by rw [← r.length]; exact List.getElem?_eq_none_iff.mp e)
      rw [e2]; exact ih
    | some d =>
      obtain ⟨v, e2, rv⟩ := r.get e
      rw [e2]
      exact ⟨v, _, rfl, rv, ih⟩
/-- how a call binds: n values by place, those named ks, the defaults; arr puts them in the parameters' order -/
def KBa (K : PySem.W.Frag) (fd : FuncData) (ps : List Str) (n : Nat) (ks : List Str) (arr : List Nat) (dvs : List V) : Prop := ∃ its, KBn K fd ps n ks (fun us ws => pickA arr (us ++ (ws ++ its))) (fun vs zs => pickA arr (vs ++ (zs ++ dvs)))
section
variable {K : PySem.W.Frag} {x qual : Str} {params : Arguments} {body : List Stmt} {scope : Scope} {dvs : List V} {f : Addr} {fd : FuncData} {ps : List Str}
theorem kba_of (F : FunD K x qual params body scope dvs [] f fd) {n : Nat} {ks : List Str} {arr : List Nat} (hd : dvs ≠ [])
    (h : ∀ (T : Addr) (kV doc pm : Value) (an : Option Addr) (cdv ct : Value) (us ws its : List Value), us.length = n → ws.length = ks.length → its.length = dvs.length →
      ∃ k, bindArgs (PySem.W.fnOf x qual params body scope (.ref T) kV doc pm an cdv ct) ⟨us, ks.zip ws⟩ = seqItems? (.ref T) >>= k ∧ k (some its.toArray) = pure (ps.zip (pickA arr (us ++ (ws ++ its))))) : KBa K fd ps n ks arr dvs := by
  obtain ⟨oc, od, dV, kV, doc, pm, an, cdv, ct, osl, rfl, lk, hcd, hD, hK⟩ := F.ex
  rcases hD with ⟨e, _⟩ | ⟨_, T, o, its, m, rfl, lT, oT, rT⟩
  · exact absurd e hd
  · refine ⟨its, fun s us ws X l1 l2 => ?_, fun r1 r2 => pick_vals (r1.append (r2.append rT)) arr⟩
    obtain ⟨k, e1, e2⟩ := h T kV doc pm an cdv ct us ws its l1 l2 rT.length.symm
    refine BindsTo.of_looks fun M => ?_
    rw [e1]
    exact looks_items X lT oT (.of_pure e2)
theorem kba_of0 (F : FunD K x qual params body scope [] [] f fd) {n : Nat} {ks : List Str} {arr : List Nat}
    (h : ∀ (kV doc pm : Value) (an : Option Addr) (cdv ct : Value) (us ws : List Value), us.length = n → ws.length = ks.length →
      bindArgs (PySem.W.fnOf x qual params body scope .none kV doc pm an cdv ct) ⟨us, ks.zip ws⟩ = pure (ps.zip (pickA arr (us ++ (ws ++ []))))) : KBa K fd ps n ks arr [] := by
  obtain ⟨oc, od, dV, kV, doc, pm, an, cdv, ct, osl, rfl, lk, hcd, hD, hK⟩ := F.ex
  rcases hD with ⟨_, rfl⟩ | ⟨e, _⟩
  · exact ⟨[], fun s us ws X l1 l2 => .of_eq (h kV doc pm an cdv ct us ws l1 l2), fun r1 r2 => pick_vals (r1.append (r2.append .nil)) arr⟩
  · exact absurd rfl e
end
/-- arguments by place, then by keywords -/
def mArgs (l1 l2 : Nat) (m n : MA) (dds : List D) : MA := fun env st => (m env st).bind fun ds st1 => (n env st1).bind fun zs st2 => if ds.length = l1 ∧ zs.length = l2 then .ok (ds ++ (zs ++ dds)) st2 else .stuck
def mCallA (n : Nat) (F : List D → Sto → R D) (arr : List Nat) (m : MA) : M := fun env st => (m env st).bind fun ds st1 => if (pickA arr ds).length = n then F (pickA arr ds) st1 else .stuck
def dNewA (c n : Nat) (F : List D → Sto → R D) (arr : List Nat) (ds : List D) (st : Sto) : R D :=
  if (pickA arr (.ptr st.length :: ds)).length = n then (F (pickA arr (.ptr st.length :: ds)) (st ++ [.ins c [] []])).bind fun r st2 => match r with
    | .non => (dFrz (.ptr st.length) st2).bind fun d' st3 => gc st.length d' st3
    | _ => .stuck
  else .stuck
def mMakeA (c n : Nat) (F : List D → Sto → R D) (arr : List Nat) (m : MA) : M := fun env st => (m env st).bind fun ds st1 => pur (dNewA c n F arr) ds st1
def mMethA (c : Nat) (nm : Str) (n : Nat) (F : List D → Sto → R D) (arr : List Nat) (mo : M) (m : MA) : M := fun env st => (mo env st).bind fun o st1 => match rd st1 o with
  | .ins c' ns _ => if c' = c ∧ ns.contains nm = false then (m env st1).bind fun ds st2 => (if (pickA arr (o :: ds)).length = n then F (pickA arr (o :: ds)) st2 else .stuck) else .stuck
  | _ => .stuck
section
variable {G : Nat → Addr} {X : Cx} {k n l1 l2 : Nat} {f : Addr} {fd : FuncData} {ps ks : List Str} {F : List D → Sto → R D} {arr : List Nat} {dds : List D} {dvs : List V} {E : XK} {x : Str} {p pos apos : Pos} {e o : Expr} {es : List Expr} {kws : List Keyword} {m mk : MA} {mo : M} {σ : St} {H : Hp}
theorem rs_args {K : PySem.W.Frag} {W : WX} {γ δ : Type} {P' : Gh → γ → δ → Prop} {l2 : Nat} {f : List D → Env → Sto → R γ} {Q : δ → Hp → Prop} {Q1 : List V → List V → Hp → Prop} (hdv : ∀ Z, RepL K G Z dds dvs) (h : tG K G P' W (fun env st => (mArgs l1 l2 m mk dds env st).bind fun ds st1 => f ds env st1) σ H Q)
    (hk : ∀ vs zs H1 Z env st ds, vs.length = l1 → zs.length = l2 → RelH K G Z H1 st → RepE K G Z env σ → RepL K G Z ds (vs ++ (zs ++ dvs)) → Post K G P' (WE W σ) Z (f ds env st) Q → Q1 vs zs H1) :
    tSA K G W m σ H fun vs H1 => tSA K G W mk σ H1 fun zs H2 => Q1 vs zs H2 := by
  obtain ⟨Z, env, st, R, S, h⟩ := h
  refine ⟨Z, env, st, R, S, ?_⟩
  unfold mArgs at h
  dsimp only at h
  cases e1 : m env st with
  | ok ds st1 =>
    rw [e1] at h
    intro Z1 vs H1 l1' R1 r1
    refine ⟨Z1, env, st1, R1, S.up l1', ?_⟩
    replace h : Post K G P' (WE W σ) Z (((mk env st1).bind fun zs st2 => if ds.length = l1 ∧ zs.length = l2 then .ok (ds ++ (zs ++ dds)) st2 else .stuck).bind fun ds st1 => f ds env st1) Q := h
    cases e2 : mk env st1 with
    | ok zs st2 =>
      rw [e2] at h
      replace h : Post K G P' (WE W σ) Z ((if ds.length = l1 ∧ zs.length = l2 then _root_.S.R.ok (ds ++ (zs ++ dds)) st2 else .stuck).bind fun ds st1 => f ds env st1) Q := h
      split at h
      · rename_i hl
        intro Z2 ws H2 l2' R2 r2
        exact hk vs ws H2 Z2 env st2 _ (by rw [← RepL.length r1]; exact hl.1) (by rw [← RepL.length r2]; exact hl.2) R2 (S.up (l1'.trans l2')) ((RepL.up l2' _ _ r1).append (RepL.append r2 (hdv Z2))) (Post.up (l1'.trans l2') h)
      · exact h.elim
    | exc c ns ds' st2 => rw [e2] at h; exact fun Z2 H2 x l R2 r => h Z2 H2 x (l1'.trans l) R2 r
    | stuck => rw [e2] at h; exact h.elim
  | exc c ns ds' st1 => rw [e1] at h; exact h
  | stuck => rw [e1] at h; exact h.elim
theorem rs_newA {c : Nat} {K : PySem.W.Frag} {Z : Gh} {H : Hp} {st : Sto} {ds : List D} {vs : List V} {Q : VK} (R : RelH K G Z H st) (r : RepL K G Z ds vs) (h : Post K G (rD K G) E Z (dNewA c n F arr ds st) Q) {x dx : Addr} (hx : H x = none) (hdx : H dx = none) (hne : dx ≠ x) :
    spS K G n F (pickA arr (.ref x :: vs)) (upd (upd H dx (.own x)) x (.ins (G c) dx [])) (fun v H2 => v = .non ∧ Q (.ref x) H2) E := by
  unfold dNewA at h
  split at h
  · rename_i hl
    have R1 := R.more (o := .own x) hdx
    have hx1 : upd H dx (.own x) x = none := by rw [upd_ne (Ne.symm hne)]; exact hx
    obtain ⟨l, R2⟩ := R1.add (o := .ins (G c) dx []) (c := .ins c [] []) hx1 fun Z' _ => ⟨dx, [], upd_same, rfl, rfl⟩
    have hat : (Z.rho ++ [x])[st.length]? = some x := by rw [← R.len]; simp
    have r2 : RepL K G ⟨Z.fz, Z.rho ++ [x], Z.tmp⟩ (.ptr st.length :: ds) (.ref x :: vs) := ⟨_, _, rfl, ⟨x, hat, rfl⟩, RepL.up l _ _ r⟩
    have r3 := pick_rep r2 arr
    refine ⟨r3.length ▸ hl, _, _, _, R2, r3, ?_⟩
    cases e1 : F (pickA arr (.ptr st.length :: ds)) (st ++ [.ins c [] []]) with
    | ok d st2 =>
      rw [e1] at h
      intro Z2 v H2 l2 R3 p2
      cases d with
      | non => exact ⟨p2, frz_gc R.len.symm h (l.trans l2) R3 ⟨x, l2.at hat, rfl⟩⟩
      | _ => exact h.elim
    | exc c' ns ds' st2 => rw [e1] at h; exact fun Z2 H2 y l2 R3 r => h Z2 H2 y (l.trans l2) R3 r
    | stuck => rw [e1] at h; exact h.elim
  · exact h.elim
theorem pS_callA (Fk : FnOk X.prog X.w X.K X.mg X.base (L2.CX X.prog X.w) k f fd ps (spS X.K G n F)) (hr : Room k X.A) (hg : Gl X x) (hm : X.mg x = some (.ref f)) (hk : PySem.W.keepIn X.K (.ref f) = true) (hb : KBa X.K fd ps l1 ks arr dvs) (hdv : ∀ Z, RepL X.K G Z dds dvs) (hx : Passes (L2.CX X.prog X.w) X E)
    (ha : PA X (e :: es) (tSA X.K G (wE E) m)) (hkw : PK X kws (tSA X.K G (wE E) mk)) (hall : (backToKw pos (keywordEach kws X.env)).all (·.1.isSome) = true := by rfl) (hks : (backToKw pos (keywordEach kws X.env)).filterMap (·.1) = ks := by rfl)
    (hdb : (x == ("__debug__" : Str)) = false := by decide) (he : starEach (e :: es) X.env = (false, eval e X.env) :: starEach es X.env := by rfl)
    (hpl : ((backTo pos (starEach (e :: es) X.env)).any (·.1) || (backToKw pos (keywordEach kws X.env)).any (·.1.isNone)) = false := by rfl) (hl2 : ks.length = l2 := by rfl) :
    PE X (.Call (.Name x p) (e :: es) kws pos) (tS X.K G (wE E) (mCallA n F arr (mArgs l1 l2 m mk dds))) := by
  subst hl2
  obtain ⟨its, hb⟩ := hb
  refine pe_of (pe_callN Fk hr hg hm hk hb hx ha hkw hall hks hdb he hpl) fun σ H Q h => rs_args (Q1 := fun vs zs H2 => vs.length = l1 ∧ zs.length = ks.length ∧ spS X.K G n F (pickA arr (vs ++ (zs ++ dvs))) H2 Q E) (f := fun ds _ st1 => if (pickA arr ds).length = n then F (pickA arr ds) st1 else .stuck) hdv h fun vs zs H1 Z env st ds h1 h2 R S r q => ?_
  split at q
  · rename_i hl
    have r3 := pick_rep r arr
    exact ⟨h1, h2, r3.length ▸ hl, Z, _, st, R, r3, q⟩
  · exact q.elim
theorem pS_makeA {c : Nat} (Mk' : Mk X.K (G c) f) (Fk : FnOk X.prog X.w X.K X.mg X.base (L2.CX X.prog X.w) k f fd ps (spS X.K G n F)) (hr : Room (k + 1) X.A) (hg : Gl X x) (hm : X.mg x = some (.ref (G c))) (hb : KBa X.K fd ps (l1 + 1) ks arr dvs) (hdv : ∀ Z, RepL X.K G Z dds dvs) (hx : Passes (L2.CX X.prog X.w) X E)
    (ha : PA X (e :: es) (tSA X.K G (wE E) m)) (hkw : PK X kws (tSA X.K G (wE E) mk)) (hall : (backToKw pos (keywordEach kws X.env)).all (·.1.isSome) = true := by rfl) (hks : (backToKw pos (keywordEach kws X.env)).filterMap (·.1) = ks := by rfl) (hdb : (x == ("__debug__" : Str)) = false := by decide)
    (he : starEach (e :: es) X.env = (false, eval e X.env) :: starEach es X.env := by rfl) (hpl : ((backTo pos (starEach (e :: es) X.env)).any (·.1) || (backToKw pos (keywordEach kws X.env)).any (·.1.isNone)) = false := by rfl) (hl2 : ks.length = l2 := by rfl) :
    PE X (.Call (.Name x p) (e :: es) kws pos) (tS X.K G (wE E) (mMakeA c n F arr (mArgs l1 l2 m mk dds))) := by
  subst hl2
  obtain ⟨its, hb⟩ := hb
  refine pe_of (pe_makeK Mk' Fk hr hg hm hb hx ha hkw hall hks hdb he hpl) fun σ H Q h => rs_args (Q1 := fun vs zs H2 => vs.length = l1 ∧ zs.length = ks.length ∧ ∀ x dx, H2 x = none → H2 dx = none → dx ≠ x → spS X.K G n F (pickA arr ((.ref x :: vs) ++ (zs ++ dvs))) (upd (upd H2 dx (.own x)) x (.ins (G c) dx [])) (fun v H3 => v = .non ∧ Q (.ref x) H3) E) (f := fun ds _ st1 => pur (dNewA c n F arr) ds st1) hdv h fun vs zs H1 Z env st ds h1 h2 R S r q => ?_
  obtain ⟨Z', st', R', r', q'⟩ := pur_post R r q
  exact ⟨h1, h2, fun x dx hx hdx hne => rs_newA R' r' q' hx hdx hne⟩
theorem pS_makeA0 {c : Nat} (Mk' : Mk X.K (G c) f) (Fk : FnOk X.prog X.w X.K X.mg X.base (L2.CX X.prog X.w) k f fd ps (spS X.K G n F)) (hr : Room (k + 1) X.A) (hg : Gl X x) (hm : X.mg x = some (.ref (G c))) (hb : KBa X.K fd ps 1 ks arr dvs) (hdv : ∀ Z, RepL X.K G Z dds dvs) (hx : Passes (L2.CX X.prog X.w) X E)
    (hkw : PK X kws (tSA X.K G (wE E) mk)) (hall : (backToKw pos (keywordEach kws X.env)).all (·.1.isSome) = true := by rfl) (hks : (backToKw pos (keywordEach kws X.env)).filterMap (·.1) = ks := by rfl) (hdb : (x == ("__debug__" : Str)) = false := by decide)
    (hpl : ((backTo pos (starEach [] X.env)).any (·.1) || (backToKw pos (keywordEach kws X.env)).any (·.1.isNone)) = false := by rfl) (hl2 : ks.length = l2 := by rfl) :
    PE X (.Call (.Name x p) [] kws pos) (tS X.K G (wE E) (mMakeA c n F arr (mArgs 0 l2 mNil mk dds))) := by
  subst hl2
  obtain ⟨its, hb⟩ := hb
  refine pe_of (pe_makeK0 Mk' Fk hr hg hm hb hx hkw hall hks hdb hpl) fun σ H Q h => rs_nil (rs_args (Q1 := fun vs zs H2 => vs.length = 0 ∧ zs.length = ks.length ∧ ∀ x dx, H2 x = none → H2 dx = none → dx ≠ x → spS X.K G n F (pickA arr ((.ref x :: vs) ++ (zs ++ dvs))) (upd (upd H2 dx (.own x)) x (.ins (G c) dx [])) (fun v H3 => v = .non ∧ Q (.ref x) H3) E) (f := fun ds _ st1 => pur (dNewA c n F arr) ds st1) hdv h fun vs zs H1 Z env st ds h1 h2 R S r q => ?_)
  obtain ⟨Z', st', R', r', q'⟩ := pur_post R r q
  exact ⟨h1, h2, fun x dx hx hdx hne => rs_newA R' r' q' hx hdx hne⟩
/-- o.m(k = v, ..) -/
def tMethK (C : Addr) (nm : Str) (sp : Sp) (l2 : Nat) (gV : List V → List V → List V) (E : XK) (ta : TE) (tk : TA) : TE := fun σ H Q => ta σ H fun x H1 => ∃ a dx fs, x = .ref a ∧ H1 a = some (.ins C dx fs) ∧ fs.lookup nm = none ∧ tk σ H1 fun zs H2 => zs.length = l2 ∧ sp (gV [x] zs) H2 Q E
theorem pe_methK {C : Addr} {nm : Str} {pl : Sem Bool} {ta : TE} {tk : TA} {sp : Sp} {g : List Value → List Value → List Value} {gV : List V → List V → List V} (ho : PE X o ta) (hc : Cls X.K C) (hm : Meth X.K C nm f) (Fk : FnOk X.prog X.w X.K X.mg X.base (L2.CX X.prog X.w) k f fd ps sp) (hr : Room k X.A) (hb : KBn X.K fd ps 1 ks g gV) (hx : Passes (L2.CX X.prog X.w) X E) (hkw : PK X kws tk)
    (hall : (backToKw pos (keywordEach kws X.env)).all (·.1.isSome) = true := by rfl) (hks : (backToKw pos (keywordEach kws X.env)).filterMap (·.1) = ks := by rfl) (hpl : ((backTo pos (starEach [] X.env)).any (·.1) || (backToKw pos (keywordEach kws X.env)).any (·.1.isNone)) = false := by rfl)
    (ht : eval (.Call (.Attribute o nm apos) [] kws pos) X.env = (do
      let ov ← eval o X.env
      standAt apos.atName
      let (f, first) ← holding [ov] (getMethod ov nm pl)
      callWith pos f first (backTo pos (starEach [] X.env)) (backToKw pos (keywordEach kws X.env))) := by rfl) :
    PE X (.Call (.Attribute o nm apos) [] kws pos) (tMethK C nm sp ks.length gV E ta tk) := by
  refine ⟨fun pins s σ H Q I h => PySem.W.methodCall_KW (pl := pl) (thn (ho.run pins s σ H _ I h) fun u s1 ⟨x, H1, I1, rx, a, dx, fs, ex, ea, l, q⟩ => ?_) ht⟩
  subst ex
  cases (show u = Value.ref a from rx)
  refine getmeth_ok I1 ea hc hm l (PySem.W.callWith_KW0 (first := [.ref a]) (h₀ := X.base) I.ok.mod.kin hm.kp hall (thn (hkw.run pos pins s1 σ H1 _ I1 q) fun ws s2 ⟨zs, H2, I2, rz, l2, q2⟩ => ⟨I2.kIn, ?_⟩) hpl)
  rw [hks]
  exact run_fnN (us := [.ref a]) (vs := [.ref a]) Fk hr hb hx I2 (.cons rfl .nil) rz rfl l2 q2
theorem pS_methA0 {c : Nat} {nm : Str} {pl : Sem Bool} (ho : PE X o (tS X.K G (wE E) mo)) (hc : Cls X.K (G c)) (hm : Meth X.K (G c) nm f) (Fk : FnOk X.prog X.w X.K X.mg X.base (L2.CX X.prog X.w) k f fd ps (spS X.K G n F)) (hr : Room k X.A) (hb : KBa X.K fd ps 1 ks arr dvs) (hdv : ∀ Z, RepL X.K G Z dds dvs) (hx : Passes (L2.CX X.prog X.w) X E) (hkw : PK X kws (tSA X.K G (wE E) mk))
    (hall : (backToKw pos (keywordEach kws X.env)).all (·.1.isSome) = true := by rfl) (hks : (backToKw pos (keywordEach kws X.env)).filterMap (·.1) = ks := by rfl) (hpl : ((backTo pos (starEach [] X.env)).any (·.1) || (backToKw pos (keywordEach kws X.env)).any (·.1.isNone)) = false := by rfl)
    (ht : eval (.Call (.Attribute o nm apos) [] kws pos) X.env = (do
      let ov ← eval o X.env
      standAt apos.atName
      let (f, first) ← holding [ov] (getMethod ov nm pl)
      callWith pos f first (backTo pos (starEach [] X.env)) (backToKw pos (keywordEach kws X.env))) := by rfl) (hl2 : ks.length = l2 := by rfl) :
    PE X (.Call (.Attribute o nm apos) [] kws pos) (tS X.K G (wE E) (mMethA c nm n F arr mo (mArgs 0 l2 mNil mk dds))) := by
  subst hl2
  obtain ⟨its, hb⟩ := hb
  refine pe_of (pe_methK (pl := pl) ho hc hm Fk hr hb hx hkw hall hks hpl ht) fun σ H Q h => rs_bind (f := fun o env st1 => match rd st1 o with
    | .ins c' ns _ => if c' = c ∧ ns.contains nm = false then (mArgs 0 ks.length mNil mk dds env st1).bind fun ds st2 => (if (pickA arr (o :: ds)).length = n then F (pickA arr (o :: ds)) st2 else .stuck) else .stuck
    | _ => .stuck) h fun o x H1 Z env st R S p q => ?_
  split at q
  · rename_i c' ns ds' e1
    split at q
    · rename_i hcc
      obtain ⟨rfl, hcc⟩ := hcc
      obtain ⟨l, dx, vs', ex, h1, hn, r⟩ := R.ins p e1
      refine ⟨l, dx, _, ex, h1, look_none hcc, ?_⟩
      cases e2 : mk env st with
      | ok zs st2 =>
        refine ⟨Z, env, st, R, S, ?_⟩
        have q2 : Post X.K G (rD X.K G) (WE (wE E) σ) Z ((if ([] : List D).length = 0 ∧ zs.length = ks.length then _root_.S.R.ok ([] ++ (zs ++ dds)) st2 else .stuck).bind fun ds st2 => (if (pickA arr (o :: ds)).length = n then F (pickA arr (o :: ds)) st2 else .stuck)) Q := by
          have z : mArgs 0 ks.length mNil mk dds env st = if ([] : List D).length = 0 ∧ zs.length = ks.length then _root_.S.R.ok ([] ++ (zs ++ dds)) st2 else .stuck := by
            unfold mArgs mNil
            show ((mk env st).bind _) = _
            rw [e2]
            rfl
          rw [z] at q
          exact q
        rw [e2]
        intro Z2 ws H2 l2 R2 r2
        split at q2
        · rename_i hl
          replace q2 : Post X.K G (rD X.K G) (WE (wE E) σ) Z (if (pickA arr (o :: (zs ++ dds))).length = n then F (pickA arr (o :: (zs ++ dds))) st2 else .stuck) Q := q2
          split at q2
          · rename_i hl2
            have r3 := pick_rep (K := X.K) (G := G) (Z := Z2) (ds := o :: (zs ++ dds)) (vs := x :: (ws ++ dvs)) ⟨x, _, rfl, Rep.up l2 _ _ p, RepL.append r2 (hdv Z2)⟩ arr
            exact ⟨by rw [← RepL.length r2]; exact hl.2, r3.length ▸ hl2, Z2, _, st2, R2, r3, Post.up l2 q2⟩
          · exact q2.elim
        · exact q2.elim
      | exc c2 ns2 ds2 st2 =>
        refine ⟨Z, env, st, R, S, ?_⟩
        have z : mArgs 0 ks.length mNil mk dds env st = .exc c2 ns2 ds2 st2 := by
          unfold mArgs mNil
          show ((mk env st).bind _) = _
          rw [e2]
          rfl
        rw [z] at q
        rw [e2]
        exact q
      | stuck =>
        have z : mArgs 0 ks.length mNil mk dds env st = .stuck := by
          unfold mArgs mNil
          show ((mk env st).bind _) = _
          rw [e2]
          rfl
        rw [z] at q
        exact q.elim
    · exact q.elim
  · exact q.elim
end
section
variable {P : Program} {w : World} {K : PySem.W.Frag} {mg : Str → Option Value} {base : Heap} {G : Nat → Addr}
theorem fnSD {fz : Bool} {x qual : Str} {params : Arguments} {body : List Stmt} {scope : Scope} {dvs : List V} {f : Addr} {fd : FuncData} {N ps : List Str} {k n : Nat} {ms : MS} (F : FunD K x qual params body scope dvs [] f fd) (S : FnScope N ps scope) (hn : n = ps.length)
    (hb : ∀ (cdv : Value) (A : Around) (outer : List PySem.Env) (s : Shared) (H : Hp) (E : XK), Room k (A.deeper (PyProof.Rows.envOfC qual scope s.heap.objs.size f cdv)) → PSs (cxOf (L2.CX P w) P w K mg base N qual scope f cdv A outer s H E) body (tSS K G (wE E) ms)) :
    FnOk P w K mg base (L2.CX P w) (k + 1) f fd ps (spS K G n (mFun fz N.length ms)) :=
  F.ok S (fun vs H Q E h => by rw [h.1, hn]) fun cdv A outer s H vs Q E hr h => ⟨_, hb cdv A outer s H E hr, sp_body h⟩
end
/-- what is never reached -/
def mNever : MS := fun _ _ => .stuck
theorem pS_never {K : PySem.W.Frag} {G : Nat → Addr} {W : WX} {X : Cx} {st : Stmt} : PS X st (tSS K G W mNever) := ps_of ps_never fun _ _ _ ⟨_, _, _, _, _, h⟩ => h
end S
/-! what is walked, of whatever sort; the text's facts -/
namespace S
open PySem L2
def mItAny (m : M) : MA := fun env st => (m env st).bind fun d st1 => match d with
  | .str z => .ok (signs z) st1
  | d => match itemsF d with
    | some xs => .ok xs st1
    | none => .stuck
theorem pI_any {G : Nat → Addr} {W : WX} {X : Cx} {tg e : Expr} {m : M} (h : PE X e (tS X.K G W m)) : PI X tg e (tSI X.K G W (mItAny m)) := by
  refine ⟨fun pins s σ H Rr I q => ?_⟩
  obtain ⟨Z, env, st, R, S, h0⟩ := q
  cases e1 : m env st with
  | ok d st1 =>
    cases d with
    | str z =>
      refine (pI_str h).run pins s σ H Rr I ⟨Z, env, st, R, S, ?_⟩
      unfold mItAny at h0
      unfold mItStr
      rw [e1] at h0 ⊢
      exact h0
    | _ =>
      refine (pI_seq h).run pins s σ H Rr I ⟨Z, env, st, R, S, ?_⟩
      unfold mItAny at h0
      unfold mItSeq
      rw [e1] at h0 ⊢
      exact h0
  | exc c ns ds st1 =>
    refine (pI_seq h).run pins s σ H Rr I ⟨Z, env, st, R, S, ?_⟩
    unfold mItAny at h0
    unfold mItSeq
    rw [e1] at h0 ⊢
    exact h0
  | stuck => unfold mItAny at h0; rw [e1] at h0; exact h0.elim
theorem kitAny2 {K : PySem.W.Frag} {t u v : Value} {a b : Bool} (h : PySem.W.kitOne K t u = some a) (h' : PySem.W.kitOne K t v = some b) : PySem.W.kitAny K t [u, v] = some (a || b) := by
  unfold PySem.W.kitAny
  rw [h]
  cases a with
  | true => rfl
  | false =>
    show PySem.W.kitAny K t [v] = some b
    unfold PySem.W.kitAny
    rw [h']
    cases b <;> rfl
theorem fR {P : Program} {w : World} {K : PySem.W.Frag} {mg : Str → Option Value} {base : Heap} {CX : CXT} {k : Nat} {f : Addr} {fd : FuncData} {ps : List Str} {sp : Sp} (F : FnOk P w K mg base CX k f fd ps sp) (b : Binds K fd ps []) : FnR P w K mg base CX k f sp :=
  (F.raw b .nil).imp fun vs H Q E h => by rw [List.append_nil]; exact h
theorem kit_ownF2 {K : PySem.W.Frag} {t : Value} {C : Addr} {cd : ClassData} (hne : (t == .ref C) = false) (h : PySem.W.clsIn K C = some cd) (ht : PySem.W.typeIn K (.ref C) = some (.type "type")) (hs : PySem.W.subIn K t (.ref C) = some false) : PySem.W.kitOne K t (.ref C) = some false := by
  unfold PySem.W.kitOne
  rw [hne]
  show (if ((PySem.W.clsIn K C).isSome && PySem.W.typeIn K (.ref C) == some (.type "type")) = true then PySem.W.subIn K t (.ref C) else none) = some false
  rw [h, ht]
  exact (if_pos rfl).trans hs
/-- a def of the module, found by the name g -/
structure Dv (K : PySem.W.Frag) (mg : Str → Option Value) (g x qual : Str) (st : Stmt) (ps : List Str) (dvs : List V) (f : Addr) (fd : FuncData) : Prop where
  F : FunD K x qual (defArgs st) (defBody st) (defScope st) dvs [] f fd
  g : mg g = some (.ref f)
/-- a method -/
structure Mv (K : PySem.W.Frag) (x qual : Str) (st : Stmt) (ps : List Str) (dvs : List V) (f : Addr) (fd : FuncData) : Prop where
  F : FunD K x qual (defArgs st) (defBody st) (defScope st) dvs [] f fd
  fn : PySem.W.isFn K (.ref f) = true
theorem funD_mk {K : PySem.W.Frag} {x qual : Str} {st : Stmt} {f : Addr} {oc : Value} {od an : Option Addr} {osl : Array (Option Value)} {kV doc pm cdv ct : Value} (l : K.lookup f = some ⟨oc, od, .func (PySem.W.fnOf x qual (defArgs st) (defBody st) (defScope st) .none kV doc pm an cdv ct), osl⟩)
    (c : PySem.W.codeIn K cdv qual = true) (k : PySem.W.keepIn K (.ref f) = true) : FunD K x qual (defArgs st) (defBody st) (defScope st) [] [] f (PySem.W.fnOf x qual (defArgs st) (defBody st) (defScope st) .none kV doc pm an cdv ct) := ⟨⟨oc, od, .none, kV, doc, pm, an, cdv, ct, osl, rfl, l, c, .inl ⟨rfl, rfl⟩, .inl rfl⟩, k⟩
theorem funD_mkD {K : PySem.W.Frag} {x qual : Str} {st : Stmt} {f T : Addr} {oc : Value} {od an : Option Addr} {osl : Array (Option Value)} {kV doc pm cdv ct : Value} {o : Obj} {its : List Value} {n : Nat} {dvs : List V} (hd : dvs ≠ []) (l : K.lookup f = some ⟨oc, od, .func (PySem.W.fnOf x qual (defArgs st) (defBody st) (defScope st) (.ref T) kV doc pm an cdv ct), osl⟩)
    (c : PySem.W.codeIn K cdv qual = true) (k : PySem.W.keepIn K (.ref f) = true) (lT : K.lookup T = some o) (oT : o.data = .seq its.toArray n) (rT : Vals dvs its) : FunD K x qual (defArgs st) (defBody st) (defScope st) dvs [] f (PySem.W.fnOf x qual (defArgs st) (defBody st) (defScope st) (.ref T) kV doc pm an cdv ct) := ⟨⟨oc, od, .ref T, kV, doc, pm, an, cdv, ct, osl, rfl, l, c, .inr ⟨hd, T, o, its, n, rfl, lT, oT, rT⟩, .inl rfl⟩, k⟩
/-- the binding by keywords of a method that says super() -/
theorem kba_ofS {P : Program} {K : PySem.W.Frag} {x qual : Str} {st : Stmt} {f Dc : Addr} {fd : FuncData} {ps : List Str} (F : Sn P K x qual st ps f fd Dc) {n : Nat} {ks : List Str} {arr : List Nat}
    (h : ∀ (kV doc pm : Value) (an : Option Addr) (cda : Addr) (ct : Value) (cc : Addr) (us ws : List Value), us.length = n → ws.length = ks.length →
      bindArgs (PySem.W.ksFn x qual (defArgs st) (defBody st) (defScope st) .none kV doc pm an (.ref cda) ct cc) ⟨us, ks.zip ws⟩ = pure (ps.zip (pickA arr (us ++ (ws ++ []))))) : KBa K fd ps n ks arr [] := by
  obtain ⟨oc, od, kV, doc, pm, an, cda, ct, osl, cc, cl, cld, csl, ccl, cdd, vs, ccs, file, tf, rfl, _⟩ := F.ex
  exact ⟨[], fun s us ws X l1 l2 => .of_eq (h kV doc pm an cda ct cc us ws l1 l2), fun r1 r2 => pick_vals (r1.append (r2.append .nil)) arr⟩
end S
/-! the law as a whole -/
namespace S
open PySem L2
def spAll (K : PySem.W.Frag) (n : Nat) (F : List D → Sto → R D) : Sp := fun vs H Q E => ∀ G : Nat → Addr, spS K G n F vs H Q E
theorem repInts {K : PySem.W.Frag} {G : Nat → Addr} {Z : Gh} : ∀ ns : List Int, RepL K G Z (ns.map D.int) (ns.map V.int)
  | [] => rfl
  | n :: r => ⟨_, _, rfl, rfl, repInts r⟩
theorem sp_script {K : PySem.W.Frag} {H : Hp} {a : Addr} {ns : List Int} {F : List D → Sto → R D} {st : Sto} {E : XK} (h : SqL K H a (ns.map V.int)) (hF : F [.rls (ns.map D.int)] [] = .ok (.bl true) st) : spAll K 1 F [.ref a] H (fun v _ => v = .bl true) E := fun G => by
  refine ⟨rfl, ⟨H, [], fun _ => none⟩, [.rls (ns.map D.int)], [], ⟨Same.refl _, rfl, fun i c b e _ => by simp at e, fun i c b e _ _ => by simp at e, fun i j c c' b e _ _ _ _ _ => by simp at e, fun b o e => (by cases e), fun b o e => (by cases e)⟩, ⟨_, _, rfl, ⟨a, _, rfl, h, repInts ns⟩, rfl⟩, ?_⟩
  rw [hF]
  exact fun Z' v H' _ _ r => r
theorem lawS {l : PySem.W.OpenLaw} {n k : Nat} {q : Program} {loose : List Str} {XP : (Str → Option Value) → Heap → Prop} {YP : World → Heap → Prop} {d : DefRec} {K : Params → PySem.W.Frag} {x : Str} {P : Program} {F : List D → Sto → R D}
    (hp : l.prog = P) (hn : l.most = some n) (hn2 : n ≤ sizeLine) (hdf : d.params.defaults = []) (hr : Room k callerA) (hY : ∀ (w : World) (h : Heap), YP w h → (K w.params).In h)
    (Fk : ∀ (w : World) (mg : Str → Option Value) (fa : Addr) (h : Heap), (K w.params).In h → h.Ns mainGlobals mg → mg d.name = some (.ref fa) →
      ∃ (fd : FuncData) (G : Nat → Addr), (∀ (s : Shared) (u : Value), BindsTo s fd ⟨[u], []⟩ [(x, u)]) ∧ ∀ base : Heap, FnOk P w (K w.params) mg base (L2.CX P w) k fa fd [x] (spS (K w.params) G 1 F))
    (hF : ∀ ns : List Int, ns.length ≤ n → ∃ st, F [.rls (ns.map D.int)] [] = .ok (.bl true) st) : PySem.W.WalkO q loose XP YP l.row.toRowW d [] (fun f vs => PySem.call f vs) := by
  subst hp
  refine L2.walk_of (n := n) (k := k) (x := x) (CX := fun w => L2.CX l.prog w) (sp := fun w => spAll (K w.params) 1 F) (K := K) hn hn2 hdf hr hY (fun w mg fa h KX G hmg => ?_) (fun w H a ns hl hO hS => ?_) fun w H s e s' z => ?_
  · obtain ⟨fd, G', hb, hk⟩ := Fk w mg fa h KX G hmg
    exact ⟨fd, hb, fun base _ _ => (hk base).imp fun _ _ _ _ z => z G'⟩
  · obtain ⟨st, e⟩ := hF ns hl
    exact sp_script hS e
  · obtain ⟨_, _, _, _, _, _, _, _, _, _, _, _, h⟩ := z
    exact h
end S
/-! dicts by ints and texts -/
namespace S
open PySem L2
def lookK (k : Key) : List Key → List D → Option D
  | j :: ks, d :: ds => if j = k then some d else lookK k ks ds
  | _, _ => none
section
variable {K : PySem.W.Frag} {G : Nat → Addr} {Z : Gh}
theorem lookK_of {k : Key} : ∀ {ks : List Key} {ds : List D} {vs : List V}, ks.length = vs.length → RepL K G Z ds vs → (∀ d, lookK k ks ds = some d → ∃ v, valV (ks.zip vs) k = some v ∧ Rep K G Z d v) ∧ (lookK k ks ds = none → valV (ks.zip vs) k = none)
  | [], _, _, _, _ => ⟨fun d h => (by unfold lookK at h; cases h), fun _ => rfl⟩
  | _ :: _, [], _, hl, r => by cases (show _ = _ from r); cases hl
  | j :: ks, x :: ds, _, hl, ⟨v, t, e, p, q⟩ => by
    subst e
    have ih := lookK_of (k := k) (ks := ks) (ds := ds) (vs := t) (by simpa using hl) q
    unfold lookK
    rw [List.zip_cons_cons]
    by_cases hj : j = k
    · rw [if_pos hj, valV_pos (show (j, v).1 = k from hj)]
      exact ⟨fun d h => ⟨v, rfl, (Option.some.inj h) ▸ p⟩, fun h => (by cases h)⟩
    · rw [if_neg hj, valV_neg (show ¬ (j, v).1 = k from hj)]
      exact ih
end
def dGetK (a b : D) (st : Sto) : R D := match rd st a with
  | .dct ks ds => (match kOf b with
    | some k => (match lookK k ks ds with | some d => .ok d st | none => .stuck)
    | none => .stuck)
  | _ => .stuck
/-- b in a -/
def dInK (b a : D) (st : Sto) : R D := match rd st a with
  | .dct ks ds => (match kOf b with
    | some k => .ok (.bl (lookK k ks ds).isSome) st
    | none => .stuck)
  | _ => .stuck
def dNotInK (b a : D) (st : Sto) : R D := match rd st a with
  | .dct ks ds => (match kOf b with
    | some k => .ok (.bl (!(lookK k ks ds).isSome)) st
    | none => .stuck)
  | _ => .stuck
def dPutK (v o i : D) (st : Sto) : R D := match o with
  | .ptr j => (match st[j]? with
    | some (.dct ks ds) => (match kOf i with
      | some k => if ks.length < sizeLine then .ok .non (st.set j (.dct (putKs k ks) (putKd k v ks ds))) else .stuck
      | none => .stuck)
    | _ => .stuck)
  | _ => .stuck
def mSetK (mo mi mv : M) : MS := mDo fun env st => (mv env st).bind fun v st1 => (mo env st1).bind fun o st2 => (mi env st2).bind fun i st3 => dPutK v o i st3
section
variable {K : PySem.W.Frag} {G : Nat → Addr} {W : WX} {X : Cx} {o i e : Expr} {m n k : M} {pos pos' : Pos} {σ : St} {H : Hp}
abbrev rGetK : R2 := fun x y H Q => ∃ a v, x = .ref a ∧ DGet H a y (some v) ∧ Q v H
abbrev rInK : R2 := fun y x H Q => ∃ a o, x = .ref a ∧ DGet H a y o ∧ Q (.bl o.isSome) H
abbrev rNotInK : R2 := fun y x H Q => ∃ a o, x = .ref a ∧ DGet H a y o ∧ Q (.bl (!o.isSome)) H
theorem ad_getK : Ad2 K G dGetK rGetK := fun E Z H st a b x y Q R ra rb h => by
  unfold dGetK at h
  split at h
  · rename_i ks ds e1
    split at h
    · rename_i k e2
      split at h
      · rename_i d e3
        obtain ⟨p, vs, rfl, hp, hl, r⟩ := R.dct ra e1
        obtain ⟨v, h1, h2⟩ := (lookK_of hl r).1 d e3
        cases kOf_rep e2 rb
        exact ⟨p, v, rfl, h1 ▸ DGet.k hp, Post.now (P := rD K G) h R h2⟩
      · exact h.elim
    · exact h.elim
  · exact h.elim
theorem lookK_some {Z : Gh} {k : Key} {ks : List Key} {ds : List D} {vs : List V} (hl : ks.length = vs.length) (r : RepL K G Z ds vs) : (valV (ks.zip vs) k).isSome = (lookK k ks ds).isSome := by
  cases e : lookK k ks ds with
  | none => rw [(lookK_of hl r).2 e]; rfl
  | some d => obtain ⟨v, h1, _⟩ := (lookK_of hl r).1 d e; rw [h1]; rfl
theorem ad_inK : Ad2 K G dInK rInK := fun E Z H st b a y x Q R rb ra h => by
  unfold dInK at h
  split at h
  · rename_i ks ds e1
    split at h
    · rename_i k e2
      obtain ⟨p, vs, rfl, hp, hl, r⟩ := R.dct ra e1
      cases kOf_rep e2 rb
      exact ⟨p, _, rfl, DGet.k hp, Post.now (P := rD K G) h R (by rw [lookK_some hl r]; exact rfl)⟩
    · exact h.elim
  · exact h.elim
theorem ad_notInK : Ad2 K G dNotInK rNotInK := fun E Z H st b a y x Q R rb ra h => by
  unfold dNotInK at h
  split at h
  · rename_i ks ds e1
    split at h
    · rename_i k e2
      obtain ⟨p, vs, rfl, hp, hl, r⟩ := R.dct ra e1
      cases kOf_rep e2 rb
      exact ⟨p, _, rfl, DGet.k hp, Post.now (P := rD K G) h R (by rw [lookK_some hl r]; exact rfl)⟩
    · exact h.elim
  · exact h.elim
theorem units1 {n : Nat} {A : Around} (hr : Room n A) : A.units + 1 < cLine := by
  have := hr.units
  omega
theorem pS_getK (hu : X.A.units + 1 < cLine) (ho : PE X o (tS X.K G W m)) (hi : PE X i (tS X.K G W n)) (hs : NoSl i := by intro _ _; rfl) : PE X (.Subscript o i pos) (tS X.K G W (mBin dGetK m n)) :=
  pe_of (pe_dget hu ho hi hs) fun _ _ _ h => rs_bin (r := rGetK) ad_getK h
theorem pS_inK (hu : X.A.units + 1 < cLine) (hi : PE X i (tS X.K G W m)) (ho : PE X o (tS X.K G W n)) (hm : behindInMarks .In o = false) : PE X (.Compare i [.In] [o] pos) (tS X.K G W (mBin dInK m n)) :=
  pe_of (pe_cmp (pc_din hu hi ho) hm) fun _ _ _ h => rs_bin (r := rInK) ad_inK h
theorem pS_inKT (hu : X.A.units + 1 < cLine) (hi : PE X i (tS X.K G W m)) (ho : PE X o (tS X.K G W n)) (hm : behindInMarks .In o = false) : PT X (.Compare i [.In] [o] pos) (tSB X.K G W (mTest (mBin dInK m n))) :=
  pt_of (pt_cmp (pc_din hu hi ho) hm) fun _ _ _ h => rs_bin (r := rInK) ad_inK (rs_test h)
theorem pS_notInK (hu : X.A.units + 1 < cLine) (hi : PE X i (tS X.K G W m)) (ho : PE X o (tS X.K G W n)) (hm : behindInMarks .NotIn o = false) : PE X (.Compare i [.NotIn] [o] pos) (tS X.K G W (mBin dNotInK m n)) :=
  pe_of (pe_cmp (pc_dnotin hu hi ho) hm) fun _ _ _ h => rs_bin (r := rNotInK) ad_notInK h
theorem pS_notInKT (hu : X.A.units + 1 < cLine) (hi : PE X i (tS X.K G W m)) (ho : PE X o (tS X.K G W n)) (hm : behindInMarks .NotIn o = false) : PT X (.Compare i [.NotIn] [o] pos) (tSB X.K G W (mTest (mBin dNotInK m n))) :=
  pt_of (pt_cmp (pc_dnotin hu hi ho) hm) fun _ _ _ h => rs_bin (r := rNotInK) ad_notInK (rs_test h)
/-- d[k] = v -/
theorem pS_setK (hu : X.A.units + 1 < cLine) (ho : PE X o (tS X.K G W m)) (hi : PE X i (tS X.K G W n)) (hv : PE X e (tS X.K G W k)) (hs : swapsWith e (some (.Subscript o i pos')) pos.line X.env = pure false := by rfl) :
    PS X (.Assign [.Subscript o i pos'] e pos) (tSS X.K G W (mSetK m n k)) :=
  ps_of (ps_dput hu ho hi hv hs) fun Dn σ H ⟨Z, env, st, R, S, h⟩ => by
    have h' : Post X.K G (rD X.K G) (WE W σ) Z ((k env st).bind fun v st1 => (m env st1).bind fun o st2 => (n env st2).bind fun i st3 => dPutK v o i st3) fun _ H' => Dn.nx σ H' :=
      post_stm (m := fun env st => (k env st).bind fun v st1 => (m env st1).bind fun o st2 => (n env st2).bind fun i st3 => dPutK v o i st3) (f := fun _ st' => .nx env st') S h fun d st' Z' v H' l R' r q => q Z' σ H' (Gh.le.refl _) R' (S.up l)
    refine ⟨Z, env, st, R, S, h'.bind fun d st1 Z1 y H1 l1 R1 p1 q1 => ?_⟩
    refine ⟨Z1, env, st1, R1, S.up l1, q1.bind fun a st2 Z2 x H2 l2 R2 p2 q2 => ?_⟩
    refine ⟨Z2, env, st2, R2, S.up (l1.trans l2), q2.bind fun b st3 Z3 z H3 l3 R3 p3 q3 => ?_⟩
    unfold dPutK at q3
    split at q3
    · obtain ⟨l, hl, rfl⟩ := p2
      split at q3
      · rename_i ks ds e1
        split at q3
        · rename_i k e2
          split at q3
          · rename_i hz
            cases kOf_rep e2 p3
            obtain ⟨vs, h1, h2, h3⟩ := R3.cell _ _ _ e1 (l3.at hl)
            have hlz : (ks.zip vs).length < sizeLine := by rw [List.length_zip, h2, Nat.min_self, ← h2]; exact hz
            refine ⟨l, _, rfl, DPut.k h1 hlz, ?_⟩
            obtain ⟨z1, z2⟩ := putK_zip (k := k) (v := y) h2
            exact Post.now (P := rD X.K G) (b := .non) q3 (R3.put e1 rfl (l3.at hl) ⟨_, by rw [upd_same, z1], z2, h3.putKd (Rep.up (l2.trans l3) d y p1)⟩) rfl
          · exact q3.elim
        · exact q3.elim
      · exact q3.elim
    · exact q3.elim
end
/-! ### displays -/
def mPrs : List (M × M) → S.Env → Sto → R (List D × List D)
  | [], _, st => .ok ([], []) st
  | (k, v) :: r, env, st => (k env st).only fun a st1 => (v env st1).only fun b st2 => (mPrs r env st2).only fun p st3 => .ok (a :: p.1, b :: p.2) st3
def kOfs : List D → Option (List Key)
  | [] => some []
  | d :: ds => match kOf d, kOfs ds with
    | some k, some ks => some (k :: ks)
    | _, _ => none
/-- {k: v, ..}, which may change on -/
def mDispC (ps : List (M × M)) : M := fun env st => (mPrs ps env st).only fun p st1 => match kOfs p.1 with
  | some ks => if ks.Nodup ∧ ks.length ≤ 15 ∧ ks.length = p.2.length then .ok (.ptr st1.length) (st1 ++ [.dct ks p.2]) else .stuck
  | none => .stuck
/-- {k: v, ..} -/
def mDisp (ps : List (M × M)) : M := fun env st => (mPrs ps env st).only fun p st1 => match kOfs p.1 with
  | some ks => if ks.Nodup ∧ ks.length ≤ 15 ∧ ks.length = p.2.length then .ok (.dct ks p.2) st1 else .stuck
  | none => .stuck
section
variable {K : PySem.W.Frag} {G : Nat → Addr} {W : WX} {X : Cx} {pos : Pos} {σ : St} {H : Hp}
abbrev prT (K : PySem.W.Frag) (G : Nat → Addr) (W : WX) (ps : List (M × M)) : List (TE × TE) := ps.map fun p => (tS K G W p.1, tS K G W p.2)
theorem only_ok {α β : Type} {r : R α} {f : α → Sto → R β} {b : β} {st' : Sto} (h : r.only f = .ok b st') : ∃ a st1, r = .ok a st1 ∧ f a st1 = .ok b st' := by
  cases r with
  | ok a st1 => exact ⟨a, st1, rfl, h⟩
  | exc c ns ds st1 => cases h
  | stuck => cases h
theorem prs_run : ∀ {ps : List (M × M)} {env : S.Env} {st st' : Sto} {as bs : List D}, mPrs ps env st = .ok (as, bs) st' → ∀ {Z : Gh} {H : Hp} {σ : St} {Q : List (V × V) → Hp → Prop}, RelH K G Z H st → RepE K G Z env σ →
    (∀ Z' H' xs ys, Z.le Z' → RelH K G Z' H' st' → RepL K G Z' as xs → RepL K G Z' bs ys → Q (xs.zip ys) H') → tPairs (prT K G W ps) σ H Q
  | [], env, st, st', as, bs, h, Z, H, σ, Q, R, S, k => by
    cases h
    exact k Z H [] [] (Gh.le.refl Z) R rfl rfl
  | (mk, mv) :: r, env, st, st', as, bs, h, Z, H, σ, Q, R, S, k => by
    unfold mPrs at h
    obtain ⟨a, st1, e1, h⟩ := only_ok h
    obtain ⟨b, st2, e2, h⟩ := only_ok h
    obtain ⟨⟨as', bs'⟩, st3, e3, h⟩ := only_ok h
    cases h
    refine ⟨Z, env, st, R, S, ?_⟩
    show Post K G (rD K G) (WE W σ) Z (mk env st) _
    rw [e1]
    intro Z1 x H1 l1 R1 p1
    refine ⟨Z1, env, st1, R1, S.up l1, ?_⟩
    show Post K G (rD K G) (WE W σ) Z1 (mv env st1) _
    rw [e2]
    intro Z2 y H2 l2 R2 p2
    refine prs_run e3 R2 (S.up (l1.trans l2)) fun Z3 H3 xs ys l3 R3 r1 r2 => ?_
    exact k Z3 H3 (x :: xs) (y :: ys) ((l1.trans l2).trans l3) R3 ⟨x, xs, rfl, Rep.up (l2.trans l3) a x p1, r1⟩ ⟨y, ys, rfl, Rep.up l3 b y p2, r2⟩
theorem kOfs_rep {Z : Gh} : ∀ {ds : List D} {ks : List Key} {vs : List V}, kOfs ds = some ks → RepL K G Z ds vs → vs = ks.map kV
  | [], _, _, h, r => by cases h; exact r
  | d :: ds, ks, _, h, ⟨v, t, e, p, q⟩ => by
    subst e
    unfold kOfs at h
    split at h
    · rename_i k ks' h1 h2
      cases h
      rw [kOfs_rep h2 q, kOf_rep h1 p]; rfl
    · cases h
theorem valV_mem {k : Key} {v : V} : ∀ {acc : List (Key × V)}, valV acc k = some v → k ∈ acc.map (·.1)
  | [], e => by cases e
  | q :: r, e => by
    by_cases hq : q.1 = k
    · rw [List.map_cons, hq]; exact .head _
    · rw [valV_neg hq] at e; exact .tail _ (valV_mem e)
theorem merge_all : ∀ (more acc : List (Key × V)), ((acc ++ more).map (·.1)).Nodup → mergeK acc more = acc ++ more
  | [], acc, _ => (List.append_nil acc).symm
  | p :: r, acc, h => by
    have hn : valV acc p.1 = none := by
      cases e : valV acc p.1 with
      | none => rfl
      | some v =>
        have hm := valV_mem e
        rw [List.map_append, List.map_cons, List.nodup_append] at h
        exact absurd rfl (h.2.2 _ hm _ (.head _))
    show mergeK (putK acc p.1 p.2) r = _
    rw [putK_new p.2 hn, merge_all r (acc ++ [(p.1, p.2)]) (by simpa using h)]
    simp
theorem zip_keys {ks : List Key} : ∀ {vs : List V}, ks.length = vs.length → (ks.zip vs).map (·.1) = ks := fun {vs} h => by
  rw [List.map_fst_zip (Nat.le_of_eq h)]
theorem zip_kV : ∀ {ks : List Key} {ys : List V}, (ks.map kV).zip ys = (ks.zip ys).map fun kv => (kV kv.1, kv.2)
  | [], _ => rfl
  | _ :: _, [] => rfl
  | k :: ks, y :: ys => by rw [List.map_cons, List.zip_cons_cons, List.zip_cons_cons, List.map_cons, zip_kV]
/-- the display runs; what then stands at p is told -/
theorem disp_run {ps : List (M × M)} {env : S.Env} {st st' : Sto} {as bs : List D} {ks : List Key} {Z : Gh} {H : Hp} {σ : St} {Q : VK} (e : mPrs ps env st = .ok (as, bs) st') (hk : kOfs as = some ks) (hn : ks.Nodup) (h15 : ks.length ≤ 15) (hl : ks.length = bs.length)
    (R : RelH K G Z H st) (S : RepE K G Z env σ) (q : ∀ p Z' H' ys, Z.ex Z' → Z'.tmp = upd Z.tmp p (.dK (ks.zip ys)) → Z.tmp p = none → RelH K G Z' H' st' → RepL K G Z' bs ys → ks.length = ys.length → Q (.ref p) H') : tDisp (prT K G W ps) σ H Q := by
  intro p hp
  have hnt : Z.tmp p = none := by
    cases z : Z.tmp p with
    | none => rfl
    | some o => rw [R.tmp _ _ z] at hp; cases hp
  have ex : Z.ex ⟨Z.fz, Z.rho, upd Z.tmp p (.dK [])⟩ := ⟨Same.refl _, ⟨[], by simp⟩⟩
  refine prs_run (W := W) e (R.addTmp (o := .dK []) hp) (RepE.ux ex _ _ S) fun Z1 H1 xs ys l1 R1 r1 r2 => ?_
  have htm : Z1.tmp p = some (.dK []) := by rw [l1.tmp]; exact upd_same
  have hys : ks.length = ys.length := by rw [hl]; exact r2.length
  refine ⟨R1.tmp _ _ htm, ks.zip ys, ?_, by rw [List.length_zip]; omega, ?_⟩
  · rw [kOfs_rep hk r1]; exact zip_kV
  · rw [merge_all (ks.zip ys) [] (by rw [List.nil_append, zip_keys hys]; exact hn), List.nil_append]
    have ex2 : Z1.ex ⟨Z1.fz, Z1.rho, upd Z1.tmp p (.dK (ks.zip ys))⟩ := ⟨Same.refl _, ⟨[], by simp⟩⟩
    refine q p _ _ ys ((ex.trans l1.ex).trans ex2) ?_ hnt (R1.setTmp htm) (RepL.ux ex2 _ _ r2) hys
    show upd Z1.tmp p _ = upd Z.tmp p _
    rw [l1.tmp]
    exact upd_upd
theorem pS_dispC {keys : List (Option Expr)} {values : List Expr} {ps : List (M × M)} (h : PPs X pos keys values (prT X.K G W ps)) (hall : keys.all (·.isSome) = true := by rfl) (hl : keys.length = values.length := by rfl) (h0 : keys ≠ [] := by simp) (h15 : keys.length ≤ 15 := by decide) :
    PE X (.Dict keys values pos) (tS X.K G W (mDispC ps)) :=
  pe_of (pe_disp h hall hl h0 h15) fun σ H Q ⟨Z, env, st, R, S, q⟩ => by
    unfold mDispC at q
    cases e1 : mPrs ps env st with
    | ok p st1 =>
      obtain ⟨as, bs⟩ := p
      rw [e1] at q
      replace q : Post X.K G (rD X.K G) (WE W σ) Z (match kOfs as with
        | some ks => if ks.Nodup ∧ ks.length ≤ 15 ∧ ks.length = bs.length then .ok (.ptr st1.length) (st1 ++ [.dct ks bs]) else .stuck
        | none => .stuck) Q := q
      split at q
      · rename_i ks hk
        split at q
        · rename_i hc
          refine disp_run e1 hk hc.1 hc.2.1 hc.2.2 R S fun p Z' H' ys ex ht hn R' r' hy => ?_
          have hp : Z'.tmp p = some (.dK (ks.zip ys)) := by rw [ht]; exact upd_same
          obtain ⟨R2, ex2⟩ := R'.tmpC (c := .dct ks bs) ht hn fun Z2 l => ⟨ys, R'.tmp _ _ hp, hy, RepL.ux l _ _ r'⟩
          have e2 := ex.trans ex2
          exact q _ _ _ ⟨e2.fz, e2.rho, rfl⟩ R2 ⟨p, by show (Z'.rho ++ [p])[st1.length]? = some p; rw [← R'.len]; simp, rfl⟩
        · exact q.elim
      · exact q.elim
    | exc c ns ds st1 => rw [e1] at q; exact q.elim
    | stuck => rw [e1] at q; exact q.elim
theorem pS_disp {keys : List (Option Expr)} {values : List Expr} {ps : List (M × M)} (h : PPs X pos keys values (prT X.K G W ps)) (hall : keys.all (·.isSome) = true := by rfl) (hl : keys.length = values.length := by rfl) (h0 : keys ≠ [] := by simp) (h15 : keys.length ≤ 15 := by decide) :
    PE X (.Dict keys values pos) (tS X.K G W (mDisp ps)) :=
  pe_of (pe_disp h hall hl h0 h15) fun σ H Q ⟨Z, env, st, R, S, q⟩ => by
    unfold mDisp at q
    cases e1 : mPrs ps env st with
    | ok p st1 =>
      obtain ⟨as, bs⟩ := p
      rw [e1] at q
      replace q : Post X.K G (rD X.K G) (WE W σ) Z (match kOfs as with
        | some ks => if ks.Nodup ∧ ks.length ≤ 15 ∧ ks.length = bs.length then .ok (.dct ks bs) st1 else .stuck
        | none => .stuck) Q := q
      split at q
      · rename_i ks hk
        split at q
        · rename_i hc
          refine disp_run e1 hk hc.1 hc.2.1 hc.2.2 R S fun p Z' H' ys ex ht hn R' r' hy => ?_
          obtain ⟨R2, ex2⟩ := R'.tmpFz ht hn
          have e2 := ex.trans ex2
          exact q _ _ _ ⟨e2.fz, e2.rho, rfl⟩ R2 ⟨p, ys, rfl, upd_same, hy, RepL.ux ex2 _ _ r'⟩
        · exact q.elim
      · exact q.elim
    | exc c ns ds st1 => rw [e1] at q; exact q.elim
    | stuck => rw [e1] at q; exact q.elim
/-- {} -/
def mDict0 : M := fun _ st => .ok (.ptr st.length) (st ++ [.dct [] []])
theorem pS_dict0 : PE X (.Dict [] [] pos) (tS X.K G W mDict0) := pe_of pe_dnewK fun σ H Q ⟨Z, env, st, R, S, q⟩ p hp => by
  obtain ⟨l, R'⟩ := R.add (o := .dK []) (c := .dct [] []) hp fun Z' _ => ⟨[], upd_same, rfl, rfl⟩
  exact q _ _ _ l R' ⟨p, by show (Z.rho ++ [p])[st.length]? = some p; rw [← R.len]; simp, rfl⟩
end
end S
/-! freezing all that is reached; lists compared with the empty one; augmented assignment -/
namespace S
open PySem L2
mutual
def frzD : Nat → D → Sto → Option (D × Sto)
  | 0, _, _ => none
  | n + 1, d, st => match d with
    | .ptr i => (match st[i]? with
      | some (.lst xs) => (frzL n xs (st.set i .dead)).map fun p => (.lst p.1, p.2)
      | some (.dct ks xs) => (frzL n xs (st.set i .dead)).map fun p => (.dct ks p.1, p.2)
      | some (.ins c ns xs) => (frzL n xs (st.set i .dead)).map fun p => (.ins c ns p.1, p.2)
      | _ => none)
    | .lst xs => (frzL n xs st).map fun p => (.lst p.1, p.2)
    | .tup xs => (frzL n xs st).map fun p => (.tup p.1, p.2)
    | .dct ks xs => (frzL n xs st).map fun p => (.dct ks p.1, p.2)
    | .ins c ns xs => (frzL n xs st).map fun p => (.ins c ns p.1, p.2)
    | d => some (d, st)
def frzL : Nat → List D → Sto → Option (List D × Sto)
  | 0, _, _ => none
  | n + 1, ds, st => match ds with
    | [] => some ([], st)
    | d :: r => match frzD n d st with
      | some (d', st1) => (frzL n r st1).map fun p => (d' :: p.1, p.2)
      | none => none
end
def mDeep (n : Nat) (m : M) : M := fun env st => (m env st).bind fun d st1 => match frzD n d st1 with
  | some (d', st2) => .ok d' st2
  | none => .stuck
section
variable {K : PySem.W.Frag} {G : Nat → Addr} {W : WX} {X : Cx} {e : Expr} {m : M} {Z : Gh} {H : Hp} {st st' : Sto}
theorem map_some {α β : Type} {o : Option α} {f : α → β} {b : β} (h : o.map f = some b) : ∃ a, o = some a ∧ f a = b := by
  cases o with
  | none => cases h
  | some a => exact ⟨a, rfl, Option.some.inj h⟩
theorem frz_ok : ∀ n : Nat, (∀ (d d' : D) (v : V) (Z : Gh) (st st' : Sto), frzD n d st = some (d', st') → RelH K G Z H st → Rep K G Z d v → ∃ Z', Z.le Z' ∧ RelH K G Z' H st' ∧ Rep K G Z' d' v) ∧
    (∀ (ds ds' : List D) (vs : List V) (Z : Gh) (st st' : Sto), frzL n ds st = some (ds', st') → RelH K G Z H st → RepL K G Z ds vs → ∃ Z', Z.le Z' ∧ RelH K G Z' H st' ∧ RepL K G Z' ds' vs)
  | 0 => ⟨fun d d' v Z st st' h => (by unfold frzD at h; cases h), fun d d' v Z st st' h => (by unfold frzL at h; cases h)⟩
  | n + 1 => by
    obtain ⟨ihD, ihL⟩ := frz_ok n
    refine ⟨fun d d' v Z st st' h R r => ?_, fun ds ds' vs Z st st' h R r => ?_⟩
    · unfold frzD at h
      cases d with
      | ptr i =>
        obtain ⟨a, hp, rfl⟩ := r
        dsimp only at h
        split at h
        · rename_i xs e1
          obtain ⟨⟨ys, st2⟩, e2, e3⟩ := map_some h
          cases e3
          obtain ⟨vs, h1, h2⟩ := R.cell _ _ _ e1 hp
          obtain ⟨l, R'⟩ := R.frz e1 rfl hp h1
          obtain ⟨Z2, l2, R2, r2⟩ := ihL _ _ vs _ _ _ e2 R' (RepL.up l _ _ h2)
          exact ⟨Z2, l.trans l2, R2, a, vs, rfl, l2.fz _ _ upd_same, r2⟩
        · rename_i ks xs e1
          obtain ⟨⟨ys, st2⟩, e2, e3⟩ := map_some h
          cases e3
          obtain ⟨vs, h1, hn, h2⟩ := R.cell _ _ _ e1 hp
          obtain ⟨l, R'⟩ := R.frz e1 rfl hp h1
          obtain ⟨Z2, l2, R2, r2⟩ := ihL _ _ vs _ _ _ e2 R' (RepL.up l _ _ h2)
          exact ⟨Z2, l.trans l2, R2, a, vs, rfl, l2.fz _ _ upd_same, hn, r2⟩
        · rename_i c ns xs e1
          obtain ⟨⟨ys, st2⟩, e2, e3⟩ := map_some h
          cases e3
          obtain ⟨dx, vs, h1, hn, h2⟩ := R.cell _ _ _ e1 hp
          obtain ⟨l, R'⟩ := R.frz e1 rfl hp h1
          obtain ⟨Z2, l2, R2, r2⟩ := ihL _ _ vs _ _ _ e2 R' (RepL.up l _ _ h2)
          exact ⟨Z2, l.trans l2, R2, a, dx, vs, rfl, l2.fz _ _ upd_same, hn, r2⟩
        · cases h
      | lst xs =>
        obtain ⟨⟨ys, st2⟩, e2, e3⟩ := map_some h
        cases e3
        obtain ⟨a, vs, rfl, q, r⟩ := r
        obtain ⟨Z2, l2, R2, r2⟩ := ihL _ _ vs _ _ _ e2 R r
        exact ⟨Z2, l2, R2, a, vs, rfl, l2.fz _ _ q, r2⟩
      | tup xs =>
        obtain ⟨⟨ys, st2⟩, e2, e3⟩ := map_some h
        cases e3
        obtain ⟨a, vs, rfl, q, r⟩ := r
        obtain ⟨Z2, l2, R2, r2⟩ := ihL _ _ vs _ _ _ e2 R r
        exact ⟨Z2, l2, R2, a, vs, rfl, Same.sqt' l2.fz q, r2⟩
      | dct ks xs =>
        obtain ⟨⟨ys, st2⟩, e2, e3⟩ := map_some h
        cases e3
        obtain ⟨a, vs, rfl, q, hn, r⟩ := r
        obtain ⟨Z2, l2, R2, r2⟩ := ihL _ _ vs _ _ _ e2 R r
        exact ⟨Z2, l2, R2, a, vs, rfl, l2.fz _ _ q, hn, r2⟩
      | ins c ns xs =>
        obtain ⟨⟨ys, st2⟩, e2, e3⟩ := map_some h
        cases e3
        obtain ⟨a, dx, vs, rfl, q, hn, r⟩ := r
        obtain ⟨Z2, l2, R2, r2⟩ := ihL _ _ vs _ _ _ e2 R r
        exact ⟨Z2, l2, R2, a, dx, vs, rfl, l2.fz _ _ q, hn, r2⟩
      | _ => cases h; exact ⟨Z, Gh.le.refl Z, R, r⟩
    · unfold frzL at h
      cases ds with
      | nil => cases h; exact ⟨Z, Gh.le.refl Z, R, r⟩
      | cons d ds =>
        obtain ⟨v, t, e, p, q⟩ := r
        subst e
        dsimp only at h
        cases e1 : frzD n d st with
        | none => rw [e1] at h; cases h
        | some p1 =>
          obtain ⟨d1, st1⟩ := p1
          rw [e1] at h
          obtain ⟨⟨ds1, st2⟩, e2, e3⟩ := map_some h
          cases e3
          obtain ⟨Z1, l1, R1, r1⟩ := ihD _ _ v _ _ _ e1 R p
          obtain ⟨Z2, l2, R2, r2⟩ := ihL _ _ t _ _ _ e2 R1 (RepL.up l1 _ _ q)
          exact ⟨Z2, l1.trans l2, R2, v, t, rfl, Rep.up l2 _ _ r1, r2⟩
theorem pS_deep (n : Nat) (h : PE X e (tS K G W m)) : PE X e (tS K G W (mDeep n m)) :=
  pe_of h fun σ H Q h => rs_bind (f := fun d _ st1 => match frzD n d st1 with | some (d', st2) => .ok d' st2 | none => .stuck) h fun d v H1 Z env st R S p q => by
    cases e : frzD n d st with
    | none => rw [e] at q; exact q.elim
    | some p1 =>
      obtain ⟨d1, st1⟩ := p1
      rw [e] at q
      obtain ⟨Z1, l1, R1, r1⟩ := (frz_ok n).1 _ _ v _ _ _ e R p
      exact q Z1 v H1 l1 R1 r1
end
/-! ### name op= e -/
def mAug (f : D → D → Sto → R D) (i : Nat) (m : M) : MS := fun env st => match env[i]? with
  | some (some a) => (match (m env st).bind fun b st1 => f a b st1 with
    | .ok d st' => .nx (env.set i (some d)) st'
    | .exc c ns ds st' => .exc env c ns ds st'
    | .stuck => .stuck)
  | _ => .stuck
end S
/-! match; name op= e -/
namespace S
open PySem L2
inductive PtS where
  | val (z : Str)
  | cap (i : Nat)
inductive Pt where
  | one (p : PtS)
  | seq (ps : List PtS)
/-- none: not known; some none: no match; some (some bs): what is bound -/
def PtS.at (p : PtS) (d : D) : Option (Option (List (Nat × D))) := match p, d with
  | .val z, .str x => some (if x = z then some [] else none)
  | .cap i, d => some (some [(i, d)])
  | _, _ => none
def atS : List PtS → List D → Option (Option (List (Nat × D)))
  | [], [] => some (some [])
  | p :: ps, d :: ds => match p.at d with
    | none => none
    | some none => some none
    | some (some bs) => match atS ps ds with
      | none => none
      | some none => some none
      | some (some more) => some (some (bs ++ more))
  | _, _ => none
def Pt.at (p : Pt) (d : D) (st : Sto) : Option (Option (List (Nat × D))) := match p with
  | .one p => p.at d
  | .seq ps => match rd st d with
    | .lst xs => if xs.length = ps.length then atS ps xs else some none
    | _ => none
def setAll (env : S.Env) (bs : List (Nat × D)) : S.Env := bs.foldl (fun e p => e.set p.1 (some p.2)) env
def mMatchGo (d : D) : List (Pt × MS) → MS
  | [], env, st => .nx env st
  | (p, ms) :: r, env, st => match p.at d st with
    | none => .stuck
    | some none => mMatchGo d r env st
    | some (some bs) => ms (setAll env bs) st
def mMatch (m : M) (cs : List (Pt × MS)) : MS := fun env st => match m env st with
  | .ok d st' => mMatchGo d cs env st'
  | .exc c ns ds st' => .exc env c ns ds st'
  | .stuck => .stuck
section
variable {G : Nat → Addr} {X : Cx} {W : WX}
/-- the slots and values that a match binds, as names and values -/
def BindsR (X : Cx) (G : Nat → Addr) (Z : Gh) : List (Nat × D) → List (Str × Value) → Prop := Paired fun b n => (X.N[b.1]? = some n.1 ∧ Loc X.env.scope n.1 ∧ (X.fn n.1 = true ∨ X.env.scope.names.lookup n.1 = some .local)) ∧ ∃ v, Rep X.K G Z b.2 v ∧ RelV v n.2
def PatQ (X : Cx) (G : Nat → Addr) (Z : Gh) (r : Option (List (Nat × D))) (Q : Option (List (Str × Value)) → Shared → Prop) (s : Shared) : Prop := match r with
  | none => Q none s
  | some bs => ∀ nvs, BindsR X G Z bs nvs → Q (some nvs) s
structure PatS (X : Cx) (G : Nat → Addr) (p : Pattern) (q : PtS) : Prop where
  ns : p.isStar = false
  run : ∀ (pins : List (Addr × Obj)) (s : Shared) (σ : St) (H : Hp) (Z : Gh) (d : D) (v : V) (u : Value) (Q : Option (List (Str × Value)) → Shared → Prop) (r : Option (List (Nat × D))), Inv X pins σ H s → Rep X.K G Z d v → RelV v u → q.at d = some r →
    (∀ s', Inv X pins σ H s' → PatQ X G Z r Q s') → wpAny (model X.prog X.w) X.A (matchPattern p X.env u) Q X.xe s
theorem pat_val {z : Str} {j : Nat} {cpos pos : Pos} : PatS X G (.MatchValue (.Constant (.str z) j cpos) pos) (.val z) := ⟨rfl, fun pins s σ H Z d v u Q r I rd ru h k => by
  cases d with
  | str x =>
    cases (show v = V.str x from rd)
    obtain ⟨tk, rfl⟩ := (show ∃ tk, u = Value.str x tk from ru)
    refine wpAny_matchPattern_Value (thn ((pe_str (X := X)).run pins s σ H (fun v' H' => v' = V.str z ∧ H' = H) I ⟨rfl, rfl⟩) fun w s1 ⟨y, H1, I1, ry, ey, eH⟩ => ?_)
    subst ey; subst eH
    obtain ⟨tk2, rfl⟩ := (show ∃ tk, w = Value.str z tk from ry)
    refine PyProof.Rows.eq_str (wpAny_truthy_bool ?_)
    have h' : (if x = z then some [] else none) = r := Option.some.inj h
    subst h'
    have q := k s1 I1
    by_cases e : x = z
    · rw [if_pos e] at q
      rw [if_pos (beq_iff_eq.mpr e)]
      exact q [] .nil
    · rw [if_neg e] at q
      rw [if_neg (by rw [beq_iff_eq]; exact e)]
      exact q
  | _ => cases h⟩
theorem pat_cap {i : Nat} {x : Str} {pos : Pos} (hi : X.N[i]? = some x) (hx : Loc X.env.scope x) (hf : X.fn x = true ∨ X.env.scope.names.lookup x = some .local := by first | exact .inl rfl | exact .inr rfl | assumption) : PatS X G (.MatchAs none (some x) pos) (.cap i) := ⟨rfl, fun pins s σ H Z d v u Q r I rd ru h k => by
  refine wpAny_matchPattern_Capture ?_
  have h' : some [(i, d)] = r := Option.some.inj (by cases d <;> exact h)
  subst h'
  exact k s I [(x, u)] (.cons ⟨⟨hi, hx, hf⟩, v, rd, ru⟩ .nil)⟩
theorem pairs_app {α β : Type} {F : α → β → Prop} {l1 l2 : List α} {r1 r2 : List β} (a : Paired F l1 r1) (b : Paired F l2 r2) : Paired F (l1 ++ l2) (r1 ++ r2) := by
  induction a with
  | nil => exact b
  | cons h _ ih => exact .cons h ih
theorem pats_run : ∀ {ps : List Pattern} {qs : List PtS}, Paired (PatS X G) ps qs → ∀ (pins : List (Addr × Obj)) (s : Shared) (σ : St) (H : Hp) (Z : Gh) (ds : List D) (vs : List V) (us : List Value) (Q : Option (List (Str × Value)) → Shared → Prop) (r : Option (List (Nat × D))), Inv X pins σ H s → RepL X.K G Z ds vs → Vals vs us → atS qs ds = some r →
    (∀ s', Inv X pins σ H s' → PatQ X G Z r Q s') → wpAny (model X.prog X.w) X.A (matchEach ps X.env us) Q X.xe s := by
  intro ps qs hp
  induction hp with
  | nil =>
    intro pins s σ H Z ds vs us Q r I rl ru h k
    cases ds with
    | nil =>
      cases h
      exact wpAny_matchEach_nil (k s I [] .nil)
    | cons _ _ => cases h
  | @cons p q ps qs h1 h2 ih =>
    intro pins s σ H Z ds vs us Q r I rl ru h k
    cases ds with
    | nil => cases h
    | cons d ds =>
      obtain ⟨v, t, e, pv, pt⟩ := rl
      subst e
      cases ru with
      | @cons _ u _ us rv rt =>
        unfold atS at h
        refine wpAny_matchEach_cons ?_ h1.ns
        cases e1 : q.at d with
        | none => rw [e1] at h; cases h
        | some r1 =>
          rw [e1] at h
          refine h1.run pins s σ H Z d v u _ r1 I pv rv e1 fun s1 I1 => ?_
          cases r1 with
          | none => cases h; exact k s1 I1
          | some bs =>
            intro nvs b
            dsimp only at h ⊢
            cases e2 : atS qs ds with
            | none => rw [e2] at h; cases h
            | some r2 =>
              rw [e2] at h
              refine ih pins s1 σ H Z ds t us _ r2 I1 pt rt e2 fun s2 I2 => ?_
              cases r2 with
              | none => cases h; exact k s2 I2
              | some more =>
                cases h
                intro nvs' b'
                exact k s2 I2 (nvs ++ nvs') (pairs_app b b')
structure PatX (X : Cx) (G : Nat → Addr) (p : Pattern) (q : Pt) : Prop where
  run : ∀ (pins : List (Addr × Obj)) (s : Shared) (σ : St) (H : Hp) (Z : Gh) (st : Sto) (d : D) (v : V) (u : Value) (Q : Option (List (Str × Value)) → Shared → Prop) (r : Option (List (Nat × D))), Inv X pins σ H s → RelH X.K G Z H st → Rep X.K G Z d v → RelV v u → q.at d st = some r →
    (∀ s', Inv X pins σ H s' → PatQ X G Z r Q s') → wpAny (model X.prog X.w) X.A (matchPattern p X.env u) Q X.xe s
theorem pat_one {p : Pattern} {q : PtS} (h : PatS X G p q) : PatX X G p (.one q) := ⟨fun pins s σ H Z st d v u Q r I R rd ru e k => h.run pins s σ H Z d v u Q r I rd ru e k⟩
theorem pat_seq {ps : List Pattern} {qs : List PtS} {pos : Pos} (hc : X.calm = true) (h : Paired (PatS X G) ps qs) (hstar : ps.findIdx? (·.isStar) = none := by rfl) (hwild : (ps.all fun p => p.isWildcard || (p.isStar && p.names.isEmpty)) = false := by rfl) : PatX X G (.MatchSequence ps pos) (.seq qs) := ⟨fun pins s σ H Z st d v u Q r I R rd' ru e k => by
  unfold Pt.at at e
  dsimp only at e
  split at e
  · rename_i xs e1
    obtain ⟨p, vs, rfl, h1, rl⟩ := R.lst rd' e1
    cases (show u = Value.ref p from ru)
    obtain ⟨its, rv, pl, hz⟩ := I.list (.inl (.inl h1))
    have hl' : s.heap.IsList p its.toArray := by
      obtain ⟨o, m, e, c, d, q⟩ := pl
      exact ⟨o, e, c, m, q⟩
    have len : its.toArray.size = xs.length := by rw [List.size_toArray, ← rv.length, ← rl.length]
    have hfit : (its.toArray.size : Int) < 2 ^ 63 := by
      rw [List.size_toArray, ← rv.length]
      have : sizeLine < 2 ^ 63 := by decide +kernel
      omega
    split at e
    · rename_i hlen
      have hps : its.toArray.size = ps.length := by rw [len, hlen, h.length]
      refine PyProof.Rows.matchSeq_list_hit hl' hfit hps ?_ hstar hwild
      rw [← hps]
      refine PySem.W.kun_itemsOf (I.ok.hd hc) hl' fun h' hx => ?_
      have I1 : Inv X pins σ H { s with heap := h', toks := s.toks + 1 + 1 } := I.kept (t' := s.toks + 1 + 1) fun b o e => hx b o (Nat.ne_of_lt (Heap.lt_size e)) e
      exact pats_run h pins _ σ H Z xs vs _ Q r I1 rl (by simpa using rv) e k
    · rename_i hlen
      cases e
      exact PyProof.Rows.matchSeq_list_miss hl' hfit (by rw [len, h.length]; exact hlen) (k _ (I.tok _)) hstar hwild
  · cases e⟩
theorem bind_all : ∀ {bs : List (Nat × D)} {nvs : List (Str × Value)} {Z : Gh}, BindsR X G Z bs nvs → X.N.Nodup → ∀ {pins : List (Addr × Obj)} {s : Shared} {σ : St} {H : Hp} {env : S.Env} {Q : Unit → Shared → Prop}, Inv X pins σ H s → RepE X.K G Z env σ →
    (∀ s' σ', Inv X pins σ' H s' → RepE X.K G Z (setAll env bs) σ' → Q () s') → wpAny (model X.prog X.w) X.A (assignInOrder (nvs.map fun (n, _) => bindName X.env n) (nvs.map (·.2))) Q X.xe s := by
  intro bs nvs Z b hN
  induction b with
  | nil => intro pins s σ H env Q I S k; exact wpAny_assignInOrder_none (k s σ I S)
  | @cons a n as ns h t ih =>
    intro pins s σ H env Q I S k
    obtain ⟨⟨hi, hx, hf⟩, v, rv, ru⟩ := h
    refine wpAny_assignInOrder_more (wpAny_bindName (store_ok I hN hi hx ru (fun s1 I1 => ?_) hf))
    exact ih I1 (S.set rv a.1) fun s' σ' I' S' => k s' σ' I' S'
structure PCs (X : Cx) (G : Nat → Addr) (W : WX) (cases : List MatchCase) (cs : List (Pt × MS)) : Prop where
  run : ∀ (pins : List (Addr × Obj)) (s : Shared) (σ : St) (H : Hp) (Z : Gh) (env : S.Env) (st : Sto) (d : D) (v : V) (u : Value) (first : Bool) (Dn : Ends), Inv X pins σ H s → RelH X.K G Z H st → RepE X.K G Z env σ → Rep X.K G Z d v → RelV v u → PostS X.K G W Z (mMatchGo d cs env st) Dn →
    wpAny (model X.prog X.w) X.A (matchCases cases X.env u first) (SP X pins Dn) X.xe s
theorem pcs_nil : PCs X G W [] [] := ⟨fun pins s σ H Z env st d v u first Dn I R S rd ru h => wpAny_matchCases_nil ⟨σ, H, I, h Z σ H (Gh.le.refl Z) R S⟩⟩
theorem pcs_cons {p : Pattern} {q : Pt} {body : List Stmt} {ms : MS} {rest : List MatchCase} {cs : List (Pt × MS)} (hN : X.N.Nodup) (hp : PatX X G p q) (hb : PSs X body (tSS X.K G W ms)) (hr : PCs X G W rest cs) : PCs X G W (⟨p, none, body⟩ :: rest) ((q, ms) :: cs) :=
  ⟨fun pins s σ H Z env st d v u first Dn I R S rd ru h => by
    unfold mMatchGo at h
    cases e : q.at d st with
    | none => rw [e] at h; exact h.elim
    | some r =>
      rw [e] at h
      refine wpAny_matchCases_cons (hp.run pins s σ H Z st d v u _ r I R rd ru e fun s1 I1 => ?_)
      cases r with
      | none => exact hr.run pins s1 σ H Z env st d v u false Dn I1 R S rd ru h
      | some bs =>
        intro nvs b
        exact bind_all b hN I1 S fun s2 σ2 I2 S2 => hb.run pins s2 σ2 H Dn I2 ⟨Z, _, st, R, S2, h⟩⟩
theorem pS_match {subj : Expr} {cases : List MatchCase} {pos : Pos} {m : M} {cs : List (Pt × MS)} (hm : PE X subj (tS X.K G W m)) (hc : PCs X G W cases cs) : PS X (.Match subj cases pos) (tSS X.K G W (mMatch m cs)) :=
  ⟨fun pins s σ H Dn I ⟨Z, env, st, R, S, h⟩ => by
    refine wpAny_Match ?_
    unfold mMatch at h
    refine thn (hm.run pins s σ H (fun v H' => ∃ Z' d st', Z.le Z' ∧ RelH X.K G Z' H' st' ∧ Rep X.K G Z' d v ∧ PostS X.K G W Z' (mMatchGo d cs env st') Dn) I ⟨Z, env, st, R, S, post_stm (f := fun d st' => mMatchGo d cs env st') S h fun d st' Z' v H' l R' r q => ⟨Z', d, st', l, R', r, q⟩⟩) fun u s1 ⟨v, H1, I1, ru, Z1, d, st1, l1, R1, r1, q1⟩ => ?_
    exact hc.run pins s1 σ H1 Z1 env st1 d v u true Dn I1 R1 (S.up l1) r1 ru q1⟩
/-- name op= e, ints -/
theorem pS_aug {i : Nat} {x : Str} {e : Expr} {m : M} {op : Operator} {f : Int → Int → Int} {pos pos' : Pos} (hN : X.N.Nodup) (hi : X.N[i]? = some x) (hx : Loc X.env.scope x) (ho : PIp X op (ipI f)) (he : PE X e (tS X.K G W m)) (hf : X.fn x = true ∨ X.env.scope.names.lookup x = some .local := by first | exact .inl rfl | exact .inr rfl | assumption) :
    PS X (.AugAssign (.Name x pos') op e pos) (tSS X.K G W (mAug (dI fun a b => .int (f a b)) i m)) :=
  ps_of (ps_aug hN hi hx he ho hf) fun Dn σ H ⟨Z, env, st, R, S, h⟩ => by
    unfold mAug at h
    split at h
    · rename_i a ea
      obtain ⟨x0, ex, rx⟩ := S.get ea
      refine ⟨x0, ex, Z, env, st, R, S, ?_⟩
      have h' := post_stm (m := fun env st => (m env st).bind fun b st1 => dI (fun a b => .int (f a b)) a b st1) (f := fun d st' => .nx (env.set i (some d)) st') (Q := fun z H2 => Dn.nx (σ.set i (some z)) H2) S h fun d st' Z' v H' l R' r q => q Z' _ H' (Gh.le.refl _) R' ((S.up l).set r i)
      refine h'.bind fun b st1 Z1 y H1 l1 R1 p1 q1 => ?_
      unfold dI at q1
      split at q1
      · cases (show x0 = _ from rx)
        cases (show y = _ from p1)
        exact ⟨_, _, rfl, rfl, Post.now (P := rD X.K G) q1 R1 rfl⟩
      · exact q1.elim
    · exact h.elim
end
end S
/-! try that nothing leaves; classes as values; classmethods -/
namespace S
open PySem L2
def mThru (m : MS) : MS := fun env st => match m env st with
  | .exc _ _ _ _ _ => .stuck
  | r => r
theorem pS_thru {G : Nat → Addr} {X : Cx} {W : WX} {body : List Stmt} {h₀ : ExceptHandler} {hs : List ExceptHandler} {pos : Pos} {m : MS} (hb : PSs X.nox body (tSS X.K G W0 m)) : PS X (.Try body (h₀ :: hs) [] [] pos) (tSS X.K G W (mThru m)) :=
  ps_of (ps_try_thru0 hb) fun Dn σ H ⟨Z, env, st, R, S, h⟩ => ⟨Z, env, st, R, S, by
    unfold mThru at h
    cases e : m env st with
    | exc e' c ns ds st' => rw [e] at h; exact h.elim
    | nx a b => rw [e] at h; exact h
    | rt a b => rw [e] at h; exact h
    | bk a b => rw [e] at h; exact h
    | ct a b => rw [e] at h; exact h
    | stuck => rw [e] at h; exact h⟩
/-- a class as a value -/
theorem pS_cls {G : Nat → Addr} {X : Cx} {W : WX} {x : Str} {pos : Pos} (c : Nat) (hg : Gl X x) (hm : X.mg x = some (.ref (G c))) (hd : (x == ("__debug__" : Str)) = false := by decide) : PE X (.Name x pos) (tS X.K G W (mC (.cls c))) := pS_glob (v := .ref (G c)) hg hm rfl (fun _ => rfl) hd
section
variable {G : Nat → Addr} {X : Cx} {k n : Nat} {f g p : Addr} {fd : FuncData} {ps ks : List Str} {F : List D → Sto → R D} {dds : List D} {dvs : List V} {ds : List Value} {E : XK} {x nm : Str} {pos apos np : Pos} {e o : Expr} {es : List Expr} {kws : List Keyword} {m mk : MA} {mo : M} {mc : Value} {arr : List Nat} {l2 : Nat}
/-- v(e, ..), v a local that holds the class c -/
def mMakeV (i c n : Nat) (F : List D → Sto → R D) (dds : List D) (m : MA) : M := fun env st => match env[i]? with
  | some (some (.cls c')) => if c' = c then mMakeF c n F dds m env st else .stuck
  | _ => .stuck
theorem pe_makeV {C : Addr} {i : Nat} {sp : Sp} {t : TA} (Mk' : Mk X.K C f) (Fk : FnOk X.prog X.w X.K X.mg X.base (L2.CX X.prog X.w) k f fd ps sp) (hr : Room (k + 1) X.A) (hN : X.N[i]? = some x) (hv : Vis X.env.scope x) (hb : Binds X.K fd ps ds) (hd : Vals dvs ds) (hx : Passes (L2.CX X.prog X.w) X E) (ha : PA X (e :: es) t)
    (hdb : (x == ("__debug__" : Str)) = false := by decide) (hcd : (x == ("__classdict__" : Str)) = false := by decide) (he : starEach (e :: es) X.env = (false, eval e X.env) :: starEach es X.env := by rfl) (hpl : (backTo pos (starEach es X.env)).any (·.1) = false := by rfl) :
    PE X (.Call (.Name x np) (e :: es) [] pos) (fun σ H Q => σ[i]? = some (some (.ref C)) ∧ tMake C sp dvs E t σ H Q) :=
  ⟨fun pins s σ H Q I ⟨hs, h⟩ => by
    refine wpAny_Call_Name_kw (thn ((pe_var (pos := np) hN hv hdb hcd).run pins s σ H (fun v H1 => v = .ref C ∧ H1 = H) I ⟨.ref C, hs, rfl, rfl⟩) fun u s1 ⟨v, H1, I1, r1, e1, e2⟩ => ?_)
    subst e1; subst e2
    cases (show u = Value.ref C from r1)
    exact PySem.W.callWith_K (h₀ := X.base) I.ok.mod.kin Mk'.kp (thn (ha.run pos pins s1 σ _ _ I1 h) fun us s2 ⟨vs, H2, I2, r, q⟩ => ⟨I2.kIn, run_make Mk' Fk hr hb hd hx I2 r q⟩) he hpl⟩
theorem pS_makeV {c i : Nat} (Mk' : Mk X.K (G c) f) (Fk : FnOk X.prog X.w X.K X.mg X.base (L2.CX X.prog X.w) k f fd ps (spS X.K G n F)) (hr : Room (k + 1) X.A) (hN : X.N[i]? = some x) (hv : Vis X.env.scope x) (hb : Binds X.K fd ps ds) (hd : Vals dvs ds) (hdv : ∀ Z, RepL X.K G Z dds dvs) (hx : Passes (L2.CX X.prog X.w) X E)
    (ha : PA X (e :: es) (tSA X.K G (wE E) m)) (hdb : (x == ("__debug__" : Str)) = false := by decide) (hcd : (x == ("__classdict__" : Str)) = false := by decide) (he : starEach (e :: es) X.env = (false, eval e X.env) :: starEach es X.env := by rfl) (hpl : (backTo pos (starEach es X.env)).any (·.1) = false := by rfl) :
    PE X (.Call (.Name x np) (e :: es) [] pos) (tS X.K G (wE E) (mMakeV i c n F dds m)) :=
  pe_of (pe_makeV Mk' Fk hr hN hv hb hd hx ha hdb hcd he hpl) fun σ H Q ⟨Z, env, st, R, S, h⟩ => by
    unfold mMakeV at h
    split at h
    · rename_i c' ec
      split at h
      · rename_i hc
        subst hc
        obtain ⟨v, ev, rv⟩ := S.get ec
        cases (show v = V.ref (G c') from rv)
        refine ⟨ev, ?_⟩
        have h2 : tS X.K G (wE E) (mMakeF c' n F dds m) σ H Q := ⟨Z, env, st, R, S, h⟩
        exact rs_bind (f := fun ds _ st1 => pur (dNewF c' n F) (ds ++ dds) st1) h2 fun ds vs H1 Z env st R S p q => fun x dx hx hdx hne => by
          obtain ⟨Z', st', R', r', q'⟩ := pur_post R (RepL.append p (hdv Z)) q
          exact rs_new R' r' (newF_new R'.len q') hx hdx hne
      · exact h.elim
    · exact h.elim
/-- C.m(e, ..), m a classmethod -/
def mCMeth (c n : Nat) (F : List D → Sto → R D) (mo : M) (m : MA) : M := fun env st => (mo env st).bind fun o st1 => match o with
  | .cls c' => if c' = c then (m env st1).bind fun ds st2 => (if (D.cls c :: ds).length = n then F (.cls c :: ds) st2 else .stuck) else .stuck
  | _ => .stuck
theorem pS_cmeth {c : Nat} {pl : Sem Bool} (ho : PE X o (tS X.K G (wE E) mo)) (r : ClX.CRead X.K (G c) mc) (cm : ClX.CMet X.K (G c) mc nm p g) (Fk : FnR X.prog X.w X.K X.mg X.base (L2.CX X.prog X.w) k g (spS X.K G n F)) (hr : Room k X.A) (hx : Passes (L2.CX X.prog X.w) X E) (ha : PA X (e :: es) (tSA X.K G (wE E) m))
    (hst : starEach (e :: es) X.env = (false, eval e X.env) :: starEach es X.env := by rfl) (hpl : (backTo pos (starEach es X.env)).any (·.1) = false := by rfl)
    (ht : eval (.Call (.Attribute o nm apos) (e :: es) [] pos) X.env = (do
      let ov ← eval o X.env
      standAt apos.atName
      let (f, first) ← holding [ov] (getMethod ov nm pl)
      callWith pos f first (backTo pos (starEach (e :: es) X.env)) (backToKw pos (keywordEach [] X.env))) := by rfl) :
    PE X (.Call (.Attribute o nm apos) (e :: es) [] pos) (tS X.K G (wE E) (mCMeth c n F mo m)) :=
  pe_of (ClX.pe_cmeth (pl := pl) ho r cm Fk hr hx ha hst hpl ht) fun σ H Q h => rs_bind (f := fun o env st1 => match o with
    | .cls c' => if c' = c then (m env st1).bind fun ds st2 => (if (D.cls c :: ds).length = n then F (.cls c :: ds) st2 else .stuck) else .stuck
    | _ => .stuck) h fun o x H1 Z env st R S rp q => by
    split at q
    · rename_i c'
      split at q
      · rename_i hc
        subst hc
        refine ⟨rp, Z, env, st, R, S, q.bind fun ds st2 Z2 vs H2 l2 R2 r2 q2 => ?_⟩
        split at q2
        · rename_i hl
          have r3 : RepL X.K G Z2 (.cls c' :: ds) (.ref (G c') :: vs) := ⟨_, _, rfl, rfl, r2⟩
          exact ⟨r3.length ▸ hl, Z2, _, st2, R2, r3, q2⟩
        · exact q2.elim
      · exact q.elim
    · exact q.elim
/-- C.m(k = e, ..) -/
def mCMethA (c n : Nat) (F : List D → Sto → R D) (arr : List Nat) (mo : M) (m : MA) : M := fun env st => (mo env st).bind fun o st1 => match o with
  | .cls c' => if c' = c then (m env st1).bind fun ds st2 => (if (pickA arr (D.cls c :: ds)).length = n then F (pickA arr (.cls c :: ds)) st2 else .stuck) else .stuck
  | _ => .stuck
theorem pe_cmethK {C : Addr} {pl : Sem Bool} {ta : TE} {tk : TA} {sp : Sp} {gg : List Value → List Value → List Value} {gV : List V → List V → List V} (ho : PE X o ta) (r : ClX.CRead X.K C mc) (cm : ClX.CMet X.K C mc nm p g) (Fk : FnOk X.prog X.w X.K X.mg X.base (L2.CX X.prog X.w) k g fd ps sp) (hr : Room k X.A) (hb : KBn X.K fd ps 1 ks gg gV) (hx : Passes (L2.CX X.prog X.w) X E) (hkw : PK X kws tk)
    (hall : (backToKw pos (keywordEach kws X.env)).all (·.1.isSome) = true := by rfl) (hks : (backToKw pos (keywordEach kws X.env)).filterMap (·.1) = ks := by rfl) (hpl : ((backTo pos (starEach [] X.env)).any (·.1) || (backToKw pos (keywordEach kws X.env)).any (·.1.isNone)) = false := by rfl)
    (ht : eval (.Call (.Attribute o nm apos) [] kws pos) X.env = (do
      let ov ← eval o X.env
      standAt apos.atName
      let (f, first) ← holding [ov] (getMethod ov nm pl)
      callWith pos f first (backTo pos (starEach [] X.env)) (backToKw pos (keywordEach kws X.env))) := by rfl) :
    PE X (.Call (.Attribute o nm apos) [] kws pos) (fun σ H Q => ta σ H fun x H1 => x = .ref C ∧ tk σ H1 fun zs H2 => zs.length = ks.length ∧ sp (gV [.ref C] zs) H2 Q E) :=
  ⟨fun pins s σ H Q I h => PySem.W.methodCall_KW (pl := pl) (thn (ho.run pins s σ H _ I h) fun u s1 ⟨x, H1, I1, rx, ex, q⟩ => by
    subst ex
    cases (show u = Value.ref C from rx)
    refine ClX.getmethcm_ok I1 r cm fun s2 I2 => ?_
    refine PySem.W.callWith_of (P := PySem.W.MethP X.K s1.heap.objs.size g (.ref C)) hpl (PySem.W.keeps_M cm.fi) (PyProof.Rows.evalArgs_kw2_nil hall (thn (hkw.run pos _ s2 σ H1 _ I2 q) fun ws s3 ⟨zs, H2, I3, rz, l2, q2⟩ => ⟨⟨ClX.pin_at I3, I3.kIn⟩, ?_⟩))
    rw [hks]
    have z : wpAny (model X.prog X.w) X.A (call (.ref s1.heap.objs.size) [] (ks.zip ws)) (EP X ((s1.heap.objs.size, PySem.W.methodObj (.ref g) (.ref C)) :: pins) σ Q) X.xe s3 := by
      refine wpAny_call (PySem.W.method_call (ClX.pin_at I3) (codeAny_mono (Fk.run X.A X.stack s3 H2 ⟨[.ref C], ks.zip ws⟩ (gg [.ref C] ws) (gV [.ref C] zs) Q E hr I3.env0 (hb.to s3 [.ref C] ws I3.kIn rfl (rz.length.symm.trans l2)) (hb.rel (.cons rfl .nil) rz) q2) fun r s' hq => ?_))
      cases r with
      | error e => exact hx _ σ H2 s3 e s' I3 hq
      | ok fl =>
        cases fl with
        | ret u => exact I3.after hq
        | _ => exact hq.elim
    exact thn z fun _ _ y => ClX.unpinE y) ht⟩
theorem pS_cmethA0 {c : Nat} {pl : Sem Bool} (ho : PE X o (tS X.K G (wE E) mo)) (r : ClX.CRead X.K (G c) mc) (cm : ClX.CMet X.K (G c) mc nm p g) (Fk : FnOk X.prog X.w X.K X.mg X.base (L2.CX X.prog X.w) k g fd ps (spS X.K G n F)) (hr : Room k X.A) (hb : KBa X.K fd ps 1 ks arr dvs) (hdv : ∀ Z, RepL X.K G Z dds dvs) (hx : Passes (L2.CX X.prog X.w) X E) (hkw : PK X kws (tSA X.K G (wE E) mk))
    (hall : (backToKw pos (keywordEach kws X.env)).all (·.1.isSome) = true := by rfl) (hks : (backToKw pos (keywordEach kws X.env)).filterMap (·.1) = ks := by rfl) (hpl : ((backTo pos (starEach [] X.env)).any (·.1) || (backToKw pos (keywordEach kws X.env)).any (·.1.isNone)) = false := by rfl)
    (ht : eval (.Call (.Attribute o nm apos) [] kws pos) X.env = (do
      let ov ← eval o X.env
      standAt apos.atName
      let (f, first) ← holding [ov] (getMethod ov nm pl)
      callWith pos f first (backTo pos (starEach [] X.env)) (backToKw pos (keywordEach kws X.env))) := by rfl) (hl2 : ks.length = l2 := by rfl) :
    PE X (.Call (.Attribute o nm apos) [] kws pos) (tS X.K G (wE E) (mCMethA c n F arr mo (mArgs 0 l2 mNil mk dds))) := by
  subst hl2
  obtain ⟨its, hb⟩ := hb
  refine pe_of (pe_cmethK (pl := pl) ho r cm Fk hr hb hx hkw hall hks hpl ht) fun σ H Q h => rs_bind (f := fun o env st1 => match o with
    | .cls c' => if c' = c then (mArgs 0 ks.length mNil mk dds env st1).bind fun ds st2 => (if (pickA arr (D.cls c :: ds)).length = n then F (pickA arr (.cls c :: ds)) st2 else .stuck) else .stuck
    | _ => .stuck) h fun o x H1 Z env st R S rp q => ?_
  split at q
  · rename_i c'
    split at q
    · rename_i hc
      subst hc
      refine ⟨rp, ?_⟩
      have h2 : tS X.K G (wE E) (fun env st1 => (mArgs 0 ks.length mNil mk dds env st1).bind fun ds st2 => (if (pickA arr (D.cls c' :: ds)).length = n then F (pickA arr (.cls c' :: ds)) st2 else .stuck)) σ H1 Q := ⟨Z, env, st, R, S, q⟩
      refine rs_nil (rs_args (Q1 := fun vs zs H2 => zs.length = ks.length ∧ spS X.K G n F (pickA arr ((.ref (G c') :: []) ++ (zs ++ dvs))) H2 Q E) (f := fun ds _ st1 => if (pickA arr (D.cls c' :: ds)).length = n then F (pickA arr (.cls c' :: ds)) st1 else .stuck) hdv h2 fun vs zs H2 Z env st ds h1 h2 R S r q => ?_)
      split at q
      · rename_i hl
        obtain rfl : vs = [] := List.length_eq_zero_iff.mp h1
        have r3 := pick_rep (show RepL X.K G Z (.cls c' :: ds) (.ref (G c') :: ([] ++ (zs ++ dvs))) from ⟨_, _, rfl, rfl, r⟩) arr
        exact ⟨h2, r3.length ▸ hl, Z, _, st, R, r3, q⟩
      · exact q.elim
    · exact q.elim
  · exact q.elim
end
end S
/-! lists of unlike lengths compared -/
namespace S
open PySem L2
def dEqL (a b : D) (st : Sto) : R D := match rd st a, rd st b with
  | .lst xs, .lst ys => if xs.length = ys.length then dEq a b st else .ok (.bl false) st
  | _, _ => dEq a b st
def dNeL (a b : D) (st : Sto) : R D := match rd st a, rd st b with
  | .lst xs, .lst ys => if xs.length = ys.length then dNe a b st else .ok (.bl true) st
  | _, _ => dNe a b st
section
variable {K : PySem.W.Frag} {G : Nat → Addr} {X : Cx}
def rLens (k : Bool) : R2 := fun x y H Q => ∃ p q xs ys, x = .ref p ∧ y = .ref q ∧ H p = some (.lst xs) ∧ H q = some (.lst ys) ∧ xs.length ≠ ys.length ∧ Q (.bl k) H
theorem lens_at {pins : List (Addr × Obj)} {s : Shared} {σ : St} {H : Hp} {p : Addr} {xs : List V} (I : Inv X pins σ H s) (h : H p = some (.lst xs)) : ∃ its : Array Value, s.heap.IsList p its ∧ its.size = xs.length := by
  obtain ⟨its, rv, ⟨o, m, e, c, d, q⟩, _⟩ := I.list (.inl (.inl h))
  exact ⟨its.toArray, ⟨o, e, c, m, q⟩, by rw [List.size_toArray, rv.length]⟩
theorem op_eqLen (hu : X.A.units + 64 < cLine) : OpR X (compareOp .Eq) (rLens false) := fun pins s σ H x y v u Q I rx ry ⟨p, q, xs, ys, e1, e2, h1, h2, hn, hq⟩ => by
  subst e1; subst e2
  cases (show v = Value.ref p from rx)
  cases (show u = Value.ref q from ry)
  obtain ⟨i1, l1, z1⟩ := lens_at I h1
  obtain ⟨i2, l2, z2⟩ := lens_at I h2
  exact SeqAt.eq_list_lengthsAt l1 l2 (by rw [bne_iff_ne, z1, z2]; exact hn) (by omega) ⟨.bl false, H, I, rfl, hq⟩
theorem op_neLen (hu : X.A.units + 64 < cLine) : OpR X (compareOp .NotEq) (rLens true) := fun pins s σ H x y v u Q I rx ry ⟨p, q, xs, ys, e1, e2, h1, h2, hn, hq⟩ => by
  subst e1; subst e2
  cases (show v = Value.ref p from rx)
  cases (show u = Value.ref q from ry)
  obtain ⟨i1, l1, z1⟩ := lens_at I h1
  obtain ⟨i2, l2, z2⟩ := lens_at I h2
  exact SeqAt.RcNeAt.lists_lengths l1 l2 (by rw [bne_iff_ne, z1, z2]; exact hn) (by omega) _ _ _ _ ⟨.bl true, H, I, rfl, hq⟩
theorem ad_eqL : Ad2 K G dEqL (fun x y H Q => rEqS K x y H Q ∨ rLens false x y H Q) := fun E Z H st a b x y Q R p q h => by
  unfold dEqL at h
  split at h
  · rename_i xs ys e1 e2
    split at h
    · exact .inl (ad_eq E Z H st a b x y Q R p q h)
    · rename_i hn
      obtain ⟨p1, vs, rfl, h1, r1⟩ := R.lst p e1
      obtain ⟨p2, us, rfl, h2, r2⟩ := R.lst q e2
      exact .inr ⟨p1, p2, vs, us, rfl, rfl, h1, h2, by rw [← r1.length, ← r2.length]; exact hn, Post.now (P := rD K G) h R rfl⟩
  · exact .inl (ad_eq E Z H st a b x y Q R p q h)
theorem ad_neL : Ad2 K G dNeL (fun x y H Q => rNeS K x y H Q ∨ rLens true x y H Q) := fun E Z H st a b x y Q R p q h => by
  unfold dNeL at h
  split at h
  · rename_i xs ys e1 e2
    split at h
    · exact .inl (ad_ne E Z H st a b x y Q R p q h)
    · rename_i hn
      obtain ⟨p1, vs, rfl, h1, r1⟩ := R.lst p e1
      obtain ⟨p2, us, rfl, h2, r2⟩ := R.lst q e2
      exact .inr ⟨p1, p2, vs, us, rfl, rfl, h1, h2, by rw [← r1.length, ← r2.length]; exact hn, Post.now (P := rD K G) h R rfl⟩
  · exact .inl (ad_ne E Z H st a b x y Q R p q h)
theorem op_eqSL (hu : X.A.units + 64 < cLine) : OpR X (compareOp .Eq) (fun x y H Q => rEqS X.K x y H Q ∨ rLens false x y H Q) := S.OpR.or (op_eqS hu) (op_eqLen hu)
theorem op_neSL (hu : X.A.units + 64 < cLine) : OpR X (compareOp .NotEq) (fun x y H Q => rNeS X.K x y H Q ∨ rLens true x y H Q) := S.OpR.or (op_neS hu) (op_neLen hu)
end
end S
/-! small things: -e, C(), instances that change on -/
namespace S
open PySem L2
def dNeg (a : D) (st : Sto) : R D := match a with
  | .int i => .ok (.int (-i)) st
  | _ => .stuck
def mNeg (m : M) : M := fun env st => (m env st).bind fun a st1 => dNeg a st1
section
variable {G : Nat → Addr} {W : WX} {X : Cx} {k n : Nat} {f : Addr} {fd : FuncData} {ps : List Str} {F : List D → Sto → R D} {dds : List D} {dvs : List V} {ds : List Value} {E : XK} {x : Str} {p pos : Pos} {e : Expr} {m : M}
theorem pS_neg (h : PE X e (tS X.K G W m)) : PE X (.UnaryOp .USub e pos) (tS X.K G W (mNeg m)) :=
  pe_of (pe_un un_neg h) fun σ H Q h => rs_bind (f := fun a _ st1 => dNeg a st1) h fun a v H1 Z env st R S p q => by
    unfold dNeg at q
    split at q
    · cases (show v = _ from p)
      exact ⟨_, rfl, Post.now (P := rD X.K G) q R rfl⟩
    · exact q.elim
theorem pS_make0 {c : Nat} (Mk' : Mk X.K (G c) f) (Fk : FnOk X.prog X.w X.K X.mg X.base (L2.CX X.prog X.w) k f fd ps (spS X.K G n F)) (hr : Room (k + 1) X.A) (hg : Gl X x) (hm : X.mg x = some (.ref (G c))) (hb : Binds X.K fd ps ds) (hd : Vals dvs ds) (hdv : ∀ Z, RepL X.K G Z dds dvs) (hx : Passes (L2.CX X.prog X.w) X E)
    (hdb : (x == ("__debug__" : Str)) = false := by decide) : PE X (.Call (.Name x p) [] [] pos) (tS X.K G (wE E) (mMake c n F dds mNil)) :=
  pe_of (pe_make0 Mk' Fk hr hg hm hb hd hx hdb) fun σ H Q h => rs_nil (rs_bind (f := fun ds _ st1 => dNew c n F (ds ++ dds) st1) h fun ds vs H1 Z env st R S p q => fun x dx hx hdx hne => rs_new R (RepL.append p (hdv Z)) q hx hdx hne)
end
end S
/-! plain laws: loops with an invariant, the law's end -/
namespace S
open PySem L2
theorem for_inv {t : Tg} {body : MS} (I : S.Env → Sto → Prop) : ∀ {ds : List D} {env : S.Env} {st : Sto}, I env st → (∀ d ∈ ds, ∀ env st, I env st → ∃ env1 env2 st2, t.at d env st = some env1 ∧ body env1 st = .nx env2 st2 ∧ I env2 st2) → ∃ env' st', mForGo t body ds env st = .nx env' st' ∧ I env' st'
  | [], env, st, h0, _ => ⟨env, st, rfl, h0⟩
  | d :: ds, env, st, h0, hs => by
    obtain ⟨env1, env2, st2, e1, e2, h2⟩ := hs d (.head _) env st h0
    obtain ⟨env', st', e3, h3⟩ := for_inv I h2 fun d' m => hs d' (.tail _ m)
    refine ⟨env', st', ?_, h3⟩
    rw [← e3]
    unfold mForGo
    rw [e1]
    dsimp only
    rw [e2]
    cases ds <;> rfl
theorem range_nat {n : Nat} {d : D} (h : d ∈ rangeD 0 n) : ∃ k : Nat, k < n ∧ d = .int k := by
  obtain ⟨i, hi, rfl⟩ := List.mem_map.mp h
  exact ⟨i, List.mem_range.mp hi, by simp⟩
/-- how many cells the law asks -/
theorem cells_of (ns : List Int) (c : Int) (hc : 1 ≤ c) (hc' : c < 1000) (r : S.Env) (st : Sto) : ∃ n : Nat, mItRange (mCons (mApp dMax (mCons (mC (.int 1)) (mCons (mApp dMin (mCons (mC (.int c)) (mCons (mApp dLen (mCons (mVar 0) mNil)) mNil))) mNil))) mNil) (some (.rls (ns.map D.int)) :: r) st = .ok (rangeD 0 n) st := by
  by_cases h : (ns.length : Int) < c
  · by_cases h' : (ns.length : Int) > 1
    · exact ⟨ns.length, by simp [mItRange, mCons, mNil, mApp, mC, mVar, dMax, dMin, dLen, rd, R.bind, h, h']; omega⟩
    · exact ⟨1, by simp [mItRange, mCons, mNil, mApp, mC, mVar, dMax, dMin, dLen, rd, R.bind, h, h']⟩
  · by_cases h' : c > 1
    · refine ⟨c.toNat, ?_⟩
      have a1 : -4611686018427387904 ≤ c ∧ c < 4611686018427387904 := by omega
      simp [mItRange, mCons, mNil, mApp, mC, mVar, dMax, dMin, dLen, rd, R.bind, h, h', a1]
    · obtain rfl : c = 1 := by omega
      exact ⟨1, by simp [mItRange, mCons, mNil, mApp, mC, mVar, dMax, dMin, dLen, rd, R.bind, h]⟩
theorem below_ints : ∀ ns : List Int, belowL 0 (ns.map D.int) = true
  | [] => rfl
  | _ :: r => below_ints r
theorem law_end {n : Nat} {ms : MS} {ns : List Int} {st' : Sto} (h : ms (some (.rls (ns.map D.int)) :: List.replicate (n - 1) none) [] = .rt (.bl true) st') : ∃ st, pur (mFun true n ms) [.rls (ns.map D.int)] [] = .ok (.bl true) st := by
  have b : belowL 0 [D.rls (ns.map D.int)] = true := by
    show (belowL 0 (ns.map D.int) && true) = true
    rw [below_ints]; rfl
  have e2 : mFun true n ms [.rls (ns.map D.int)] [] = gc 0 (.bl true) st' := by
    show (match ms (some (.rls (ns.map D.int)) :: List.replicate (n - 1) none) [] with
      | .nx _ st' => gc 0 .non st'
      | .rt d st' => if true = true then (dFrz d st').bind fun d' st2 => gc 0 d' st2 else gc 0 d st'
      | .exc _ c ns ds st' => gcX 0 c ns ds st'
      | _ => .stuck) = _
    rw [h]
    rfl
  have e3 : ∃ st2, gc 0 (.bl true) st' = .ok (.bl true) st2 := by
    unfold gc
    split
    · exact ⟨_, rfl⟩
    · exact ⟨_, rfl⟩
  obtain ⟨st2, e3⟩ := e3
  refine ⟨[], ?_⟩
  unfold pur
  rw [if_pos b, e2, e3]
  rfl
end S
namespace L2
open PySem PySem.Spec PyProof.Rows
section
variable {X : Cx} {pins : List (Addr × Obj)} {σ : St} {H : Hp} {s : Shared} {a C u : Addr} {A : Around} {E : Value → Shared → Prop}
theorem upd_back {H : Hp} {a : Addr} {o : HO} (e : H a = some o) : upd H a o = H := funext fun b => by
  by_cases hb : b = a
  · rw [hb, upd_same, e]
  · exact upd_ne hb
/-- the library's bound __init__ of an exception is called: it leaves the exception as it was told -/
theorem bound_ok {us : List Value} {Q : Value → Shared → Prop} (T : OexC X.K C) (I : Inv X pins σ H s) (e : H a = some (exo a C none)) (hu : PySem.W.KxsAt "ValueError.__init__" u a s.heap) (hl : us.length ≤ sizeLine) (h : ∀ s', Inv X pins σ H s' → Q .none s') :
    wpAny (model X.prog X.w) A (call (.ref u) us) Q E s := by
  have back : ∀ (t : Nat) (h' : Heap) (t2 : Addr), (∀ b o, b ≠ a → s.heap.get? b = some o → h'.get? b = some o) → h'.get? a = some (PySem.HandSPX.excO C t2) → Q .none { s with heap := h', toks := t } := fun t h' t2 k hx => by
    have J := I.write (t' := t) (x := a) (e := a) (o := exo a C none) (by rw [e]; exact True.intro) (.inl rfl) k ⟨_, hx⟩ (exo_ok hx)
    rw [upd_back e] at J
    exact h _ J
  obtain ⟨_, _, _, _, _, _, _, _, _, _, _, _, _, _, _, hC, _⟩ := T.cls
  obtain ⟨t1, ho⟩ := exo_at I.hok e
  replace hC := I.kIn _ _ hC
  replace hu : s.heap.get? u = some (PySem.W.kxs_mw "ValueError.__init__" a) := hu
  obtain ⟨hp, g, d, t, os⟩ := s
  refine wpAny_call (codeAny_of_tree (show wpAny _ A.in1 (callAny (.ref u) ⟨us, []⟩) _ _ _ from ?_))
  simp only [callAny]
  refine wpAny_bind (wpAny_load hu ?_)
  dsimp only [PySem.W.kxs_mw]
  rw [if_pos (by decide +kernel)]
  show wpAny _ _ (if (Value.type "method-wrapper" != Value.type "method") = true then (checkBoundCall "ValueError.__init__" ⟨.ref a :: us, []⟩ >>= fun _ => again (Code.builtin "ValueError.__init__" ⟨.ref a :: us, []⟩)) else _) _ _ _
  rw [if_pos (by decide +kernel)]
  refine wpAny_bind (PySem.W.check_bound_init F.excBase_ValueError.toExcCallFacts hC ho rfl (wpAny_bind (wpAny_pure (wpAny_pure ⟨PySem.plainId_quiet F.excBase_ValueError.init.plain _, codeAny_builtin F.excBase_ValueError.initEntry ?_⟩))))
  exact PySem.W.exc_init_tree ho hl fun h' k hx _ => back _ h' _ k hx
end
/-- C's next __init__ behind D is ValueError's -/
structure SupE (K : PySem.W.Frag) (C D : Addr) : Prop where
  sub : PySem.W.mroIn K C (.ref D) = some true
  at_ : PySem.W.ks_superIn K C D "__init__" = some (some (.builtin "ValueError.__init__"))
  ve : PySem.W.mroIn K C (.type "ValueError") = some true
/-- super().__init__(e, ..) of an exception, the first parameter in slot i -/
def tSupE (K : PySem.W.Frag) (D : Addr) (i : Nat) (ta : TA) : TS := fun Dn σ H => ∃ (a C : Addr), σ[i]? = some (some (.ref a)) ∧ H a = some (exo a C none) ∧ OexC K C ∧ SupE K C D ∧
  ta σ H fun vs H1 => vs.length ≤ 1000 ∧ H1 a = some (exo a C none) ∧ Dn.nx σ H1
section
variable {X : Cx} {D : Addr} {y : Str} {e : Expr} {es : List Expr} {ta : TA} {p0 p1 p2 pos pos' : Pos} {i : Nat} {pl : Sem Bool} {body : List Stmt}
theorem psa_superE (S : SupX X D y) (ha : PA X (e :: es) ta) (hN : X.N[i]? = some y := by rfl)
    (hi : interactive X.env = false := by rfl) (hs : swapsWith (.Call (.Attribute (.Call (.Name "super" p0) [] [] p1) "__init__" p2) (e :: es) [] pos) none pos'.line X.env = pure false := by rfl)
    (hst : starEach (e :: es) X.env = (false, eval e X.env) :: starEach es X.env := by rfl) (hpl : (backTo pos (starEach es X.env)).any (·.1) = false := by rfl)
    (he : eval (.Call (.Attribute (.Call (.Name "super" p0) [] [] p1) "__init__" p2) (e :: es) [] pos) X.env = (do
      let ov ← attributeBase (.Call (.Name "super" p0) [] [] p1) "__init__" X.env (eval (.Call (.Name "super" p0) [] [] p1) X.env)
      standAt p2.atName
      let (f, first) ← holding [ov] (getMethod ov "__init__" pl)
      callWith pos f first (backTo pos (starEach (e :: es) X.env)) []) := by rfl) :
    PSA X (.func body X.env) (.Expr (.Call (.Attribute (.Call (.Name "super" p0) [] [] p1) "__init__" p2) (e :: es) [] pos) pos') (tSupE X.K D i ta) := by
  refine ⟨fun pins s σ H Dn I h => ?_⟩
  obtain ⟨a, C, hv, ea, T, SM, q⟩ := h
  refine ks_wpAt_Expr_any ?_ hi hs
  refine ks_wpAt_MethodCall ?_ he
  obtain ⟨t1, ho⟩ := exo_at I.hok ea
  refine sup_base S I hN hv (J := ⟨ho, rfl, rfl, trivial⟩) (odx := none) SM.sub (by decide) fun so s1 I1 k1 => ?_
  obtain ⟨t2, ho1⟩ := exo_at I1.hok ea
  have J1 : PySem.W.InstAt s1.heap a _ C none := ⟨ho1, rfl, rfl, trivial⟩
  have hat := SM.at_
  cases hc : PySem.W.clsIn X.K C with
  | none =>
    unfold PySem.W.ks_superIn at hat
    rw [hc] at hat
    cases hat
  | some cd =>
    unfold PySem.W.ks_superIn at hat
    rw [hc] at hat
    obtain ⟨hh, gg, d, t, os⟩ := s1
    refine PySem.W.kxs_getMethod PySem.W.kxs_ValueError (ClX.pin_at I1) (PySem.W.looks_opaque I1.kIn S.opq) (l₀ := cd.mro) ?_ rfl I1.kIn hat (J1.type.andThen (PySem.W.looks_mroIn I1.kIn SM.ve)) (PySem.W.ks_ne I1.kIn J1 hc) (by decide) ?_
    · exact fun A Q E s k q => wpAny_bind ((PySem.W.looks_clsIn I1.kIn hc) A _ E s k (wpAny_pure q))
    · have I2 := ClX.pin_new (t' := t + 1) (o := PySem.W.kxs_mw "ValueError.__init__" a) I1 (fun _ _ z => Heap.get?_push_of_some _ z) (Nat.le_refl _) (Heap.get?_push_size hh rfl) (fun v z => nomatch z)
      have go : wpAny (model X.prog X.w) X.A (spliced (backTo pos (starEach (e :: es) X.env))) (fun us s3 => PySem.W.KxsAt "ValueError.__init__" hh.objs.size a s3.heap ∧ wpAny (model X.prog X.w) X.A (call (.ref hh.objs.size) ([] ++ us)) (fun v s' => SP X pins Dn .next s') X.xe s3) X.xe ⟨hh.push (PySem.W.kxs_mw "ValueError.__init__" a), gg, d, t + 1, os⟩ :=
        thn (ha.run pos _ _ σ H _ I2 q) fun us s3 ⟨vs, H2, I3, rv, hl, ea2, q2⟩ => ⟨ClX.pin_at I3, bound_ok T I3 ea2 (ClX.pin_at I3) (by rw [List.nil_append, ← Paired.length rv, sizeLine_eq]; omega) fun s' J => ⟨σ, H2, ClX.unpin (ClX.unpin J), q2⟩⟩
      rw [hst] at go ⊢
      exact PySem.W.kxs_callWith (by show (false || (backTo pos (starEach es X.env)).any (·.1)) = false; rw [hpl]; rfl) (PySem.Calls.evalArgs_plain go)
end
/-! ### isinstance(e, C), e a caught exception that has a dict -/
def rIsX (K : PySem.W.Frag) (a : Addr) (cls : Value) (d : Option Addr) (D : Addr) : List V → Hp → VK → Prop := fun xs H Q => ∃ (c : V) (cv : Value) (b : Bool) (dd : Addr) (fs : List (Str × V)), xs = [.ref a, c] ∧ cls = .ref D ∧ d = some dd ∧ H dd = some (.xd fs) ∧ ClsV c cv ∧ PySem.W.kitOne K (.ref D) cv = some b ∧ Q (.bl b) H
theorem call_isX {X : Cx} {a D : Addr} {oe : Obj} {cls : Value} {d : Option Addr} {pn : List (Addr × Obj)} (C : ExcC X.K D) (hz : Zc cls d oe) (hf : ∃ vs, oe.data = .fields vs) : CallR (X.suite a ((a, oe) :: pn)) (.builtin "isinstance") (rIsX X.K a cls d D) := by
  intro pins s σ H xs us Q I r h
  obtain ⟨c, cv, b, dd, fs, rfl, ec, ed, ea, kc, e, q⟩ := h
  subst ec ed
  cases r with
  | cons rx rr =>
    cases rr with
    | cons rt rr =>
      cases rr
      cases rx
      cases kc.eq rt
      obtain ⟨hget, _⟩ := I.pin (a, oe) (List.mem_append.mpr (.inl List.mem_cons_self))
      obtain ⟨vs, hv⟩ := hf
      have hx : ObjOk X.prog X.w H s.heap dd (.xd fs) := I.hok dd _ ea
      obtain ⟨mA, hns, hr⟩ := hx
      obtain ⟨od, ho, hl⟩ := lookIn_ns hns
      have J : PySem.W.InstAt s.heap a oe D (some od) := ⟨hget, hz.1, by unfold PySem.W.notCls; rw [hv] <;> rfl, by rw [hz.2]; exact ho⟩
      have hcl : (PySem.W.clsIn X.K D).isSome = true := by
        have := C.hd
        unfold PySem.W.hasDictIn at this
        cases z : PySem.W.clsIn X.K D with
        | none => rw [z] at this; cases this
        | some _ => rfl
      exact PySem.W.kia_one (PySem.W.kitx_exc hcl C.hg C.hk C.hs C.ha C.hn C.ht C.hm) I.kIn J e (fun z => nomatch z) fun tk => ⟨.bl b, H, I.kept (t' := tk) fun _ _ z => z, rfl, q⟩
/-- an own exception over ValueError with an __init__ that says super() and keeps one field -/
structure Xn (P : Program) (K : PySem.W.Frag) (mg : Str → Option Value) (x : Str) (C fI : Addr) (fld : Str) : Prop where
  g : mg x = some (.ref C)
  o : OexC K C
  iC : PySem.W.findIn K (.ref C) "__init__" = some (some (.ref fI))
  tI : PySem.W.typeIn K (.ref fI) = some (.type "function")
  na : PySem.W.findIn K (.ref C) fld = some none
  su : SupE K C C
  ec : ExcC K C
  cd : ∃ cd, PySem.W.clsIn K C = some cd
theorem Xn.xf {P : Program} {K : PySem.W.Frag} {mg : Str → Option Value} {x : Str} {C fI : Addr} {fld : Str} (T : Xn P K mg x C fI fld) : XfC K C := ⟨T.ec.hg, T.ec.hk, T.ec.hs, T.ec.hd⟩
theorem rd_superE {K : PySem.W.Frag} {D : Addr} {i : Nat} {tA : TA} {Dn : Ends} {σ : St} {H : Hp} {a C : Addr} (ha : σ[i]? = some (some (.ref a))) (ho : H a = some (exo a C none)) (T : OexC K C) (S : SupE K C D) (h : tA σ H fun vs H1 => vs.length ≤ 1000 ∧ H1 a = some (exo a C none) ∧ Dn.nx σ H1) : tSupE K D i tA Dn σ H := ⟨a, C, ha, ho, T, S, h⟩
/-- what __init__(self, w) of such an exception does -/
def spExc (C : Addr) (f : Str) : Sp := fun vs H Q _ => ∃ (a : Addr) (y : V), vs = [.ref a, y] ∧ H a = some (exo a C none) ∧ ∀ dx, H dx = none → dx ≠ a → Q .non (upd (upd H dx (exd dx [(f, y)])) a (exo a C (some dx)))
theorem mkO_end {C : Addr} {f : Str} {y : V} {H : Hp} {Q : XK} (h : ∀ d H', H d = none → Same H H' → H' d = some (.xd [(f, y)]) → Q (.ref C) (some d) H') : [y].length ≤ 1000 ∧ ∀ a, H a = none → spExc C f (.ref a :: ([y] ++ [])) (upd H a (exo a C none))
    (fun v H2 => v = .non ∧ ∃ (d : Addr) (fs : List (Str × V)), H2 a = some (exo a C (some d)) ∧ H2 d = some (exd d fs) ∧ H d = none ∧ Q (.ref C) (some d) (upd (del H2 a) d (.xd fs))) (fun _ _ _ => False) := by
  refine ⟨by simp, fun a na => ⟨a, y, rfl, upd_same, fun dx n ne => ?_⟩⟩
  have n' : H dx = none := by rw [upd_ne ne] at n; exact n
  refine ⟨rfl, dx, _, upd_same, by rw [upd_ne ne, upd_same], n', h dx _ n' (fun b o e => ?_) upd_same⟩
  have ba : b ≠ a := ne_of_none e na
  have bd : b ≠ dx := ne_of_none e n'
  rw [upd_ne bd, del_ne ba, upd_ne ba, upd_ne bd, upd_ne ba]
  exact e
theorem rd_mkO {C : Addr} {sp : Sp} {dvs : List V} {tA : TA} {σ : St} {H : Hp} {Q : XK} (h : tA σ H fun vs H1 => vs.length ≤ 1000 ∧ ∀ a, H1 a = none → sp (.ref a :: (vs ++ dvs)) (upd H1 a (exo a C none))
    (fun v H2 => v = .non ∧ ∃ (d : Addr) (fs : List (Str × V)), H2 a = some (exo a C (some d)) ∧ H2 d = some (exd d fs) ∧ H1 d = none ∧ Q (.ref C) (some d) (upd (del H2 a) d (.xd fs))) (fun _ _ _ => False)) : tMkO C sp dvs tA σ H Q := h
end L2
/-! own exceptions over ValueError: made and raised -/
namespace S
open PySem L2
section
variable {P : Program} {w : World} {K : PySem.W.Frag} {mg : Str → Option Value} {base : Heap}
/-- __init__(self, p): super().__init__(p); self.fld = p -/
theorem fnX {qual p fld x : Str} {st : Stmt} {f C : Addr} {fd : FuncData} {k : Nat} {ar : Arg} (F : Sn P K "__init__" qual st ["self", p] f fd C) (T : SupT P K mg) (S : FnScopeS ["self", p] ["self", p] (defScope st)) (Xc : Xn P K mg x C f fld)
    (hp : ((defArgs st).posonlyargs ++ (defArgs st).args).head? = some ar) (hy : ar.arg = "self") (hl : (defScope st).names.lookup ("self" : Str) = some .local)
    (hb : ∀ (cdv : Value) (cc : Addr) (A : Around) (outer : List PySem.Env) (s : Shared) (H : Hp) (E : XK), Room k (A.deeper (PySem.W.ksEnv qual (defScope st) s.heap.objs.size f cdv cc)) → SupX (cxS (L2.CX P w) P w K mg base ["self", p] qual (defScope st) f cdv cc A outer s H E) C "self" →
      PSsA (cxS (L2.CX P w) P w K mg base ["self", p] qual (defScope st) f cdv cc A outer s H E) (.func (defBody st) (PySem.W.ksEnv qual (defScope st) s.heap.objs.size f cdv cc)) (defBody st) (tSeq (tSupE K C 0 (tCons (tVar 1) tNil)) (tOst K fld (tVar 0) (tVar 1)))) :
    FnOk P w K mg base (L2.CX P w) (k + 1) f fd ["self", p] (spExc C fld) := by
  obtain ⟨cdD, hD⟩ := Xc.cd
  refine F.okX T S hD hp hy hl (fun vs H Q E h => ?_) fun cdv cc A outer s H vs Q E hr hs h => ⟨_, hb cdv cc A outer s H E hr hs, ?_⟩
  · obtain ⟨a, y, rfl, _⟩ := h
    rfl
  · obtain ⟨a, y, rfl, ho, q⟩ := h
    refine ⟨a, C, rfl, ho, Xc.o, Xc.su, y, rfl, ?_⟩
    exact ⟨by simp, ho, y, rfl, .ref a, rfl, a, C, rfl, Xc.o, Xc.na, .inl ⟨ho, q⟩⟩
end
/-- raise C(e), C an own exception that keeps its argument as fld -/
def mRaise (c : Nat) (fld : Str) (m : M) : MS := fun env st => match m env st with
  | .ok d st' => .exc env c [fld] [d] st'
  | .exc c' ns ds st' => .exc env c' ns ds st'
  | .stuck => .stuck
section
variable {K : PySem.W.Frag} {G : Nat → Addr} {Z : Gh}
/-- something new that never changes, by what is kept -/
theorem RelH.laySame {H H' : Hp} {st : Sto} {p : Addr} {o : HO} (R : RelH K G Z H st) (hp : H p = none) (e : Same H H') (ho : H' p = some o) : Z.le ⟨upd Z.fz p o, Z.rho, Z.tmp⟩ ∧ RelH K G ⟨upd Z.fz p o, Z.rho, Z.tmp⟩ H' st := by
  obtain ⟨l, R1⟩ := R.lay (o := o) hp
  have s1 : Same (upd H p o) H' := fun b u h => by
    by_cases hb : b = p
    · subst hb; rw [upd_same] at h; cases h; exact ho
    · rw [upd_ne hb] at h; exact e _ _ h
  refine ⟨l, ⟨fun b u h => s1 _ _ (R1.fz _ _ h), R1.len, fun i c a h1 h2 => ?_, R1.off, R1.inj, fun b u h => s1 _ _ (R1.tmp _ _ h), R1.tof⟩⟩
  have q := R1.cell i c a h1 h2
  cases c with
  | lst ds => obtain ⟨vs, h, r⟩ := q; exact ⟨vs, s1 _ _ h, r⟩
  | dct ks ds => obtain ⟨vs, h, r⟩ := q; exact ⟨vs, s1 _ _ h, r⟩
  | ins c ns ds => obtain ⟨dx, vs, h, r⟩ := q; exact ⟨dx, vs, s1 _ _ h, r⟩
  | dead => trivial
end
section
variable {G : Nat → Addr} {W : WX} {X : Cx} {k : Nat} {fI : Addr} {fd : FuncData} {ps : List Str} {x fld : Str} {p pos pos' : Pos} {e : Expr} {m : M}
theorem pS_raise {c : Nat} (hc : X.calm = true) (tk : Takes X W) (Xc : Xn X.prog X.K X.mg x (G c) fI fld) (Fk : FnOk X.prog X.w X.K X.mg X.base (L2.CX X.prog X.w) k fI fd ps (spExc (G c) fld)) (hr : Room (k + 1) X.A) (hb : Binds X.K fd ps []) (hx : Passes (L2.CX X.prog X.w) X fun _ _ _ => False) (hg : Gl X x) (he : PE X e (tS X.K G W m))
    (hdb : (x == ("__debug__" : Str)) = false := by decide) (hs : starEach [e] X.env = (false, eval e X.env) :: starEach [] X.env := by rfl) (hpl : (backTo pos (starEach [] X.env)).any (·.1) = false := by rfl) :
    PS X (.Raise (some (.Call (.Name x p) [e] [] pos)) none pos') (tSS X.K G W (mRaise c fld m)) :=
  ps_of (ps_raise hc tk (pmk_oex Xc.o Xc.iC Xc.tI Fk hr hb .nil hx hg Xc.g (pa_cons he pa_nil hs) hdb hs hpl)) fun Dn σ H ⟨Z, env, st, R, S, h⟩ => by
    refine ⟨Z, env, st, R, S, post_stm (f := fun d st' => .exc env c [fld] [d] st') S h fun d st' Z' v H' l R' r q => ?_⟩
    refine mkO_end (C := G c) (f := fld) (y := v) (H := H') (Q := fun cls d H2 => W cls d σ H2) fun a H2 n sm ha => ?_
    obtain ⟨l2, R2⟩ := R'.laySame n sm ha
    exact q _ σ H2 (some a) l2 R2 (S.up (l.trans l2)) (.inr ⟨a, [v], rfl, upd_same, rfl, v, [], rfl, Rep.up l2 d v r, rfl⟩)
end
end S
/-! instances and methods where exceptions may go anywhere (any W) -/
namespace S
open PySem L2
section
variable {X : Cx} {k : Nat} {f C : Addr} {fd : FuncData} {ps : List Str} {sp : Sp} {E : XK} {pins : List (Addr × Obj)} {σ : St} {H : Hp} {s : Shared} {Q : VK}
/-- C(..), whatever way the arguments come; what it lets out is taken at the slots σ -/
theorem run_makeAt {pos us : List Value} {kw : List (Str × Value)} {vs : List V} (Mk' : Mk X.K C f) (Fk : FnOk X.prog X.w X.K X.mg X.base (L2.CX X.prog X.w) k f fd ps sp) (hr : Room (k + 1) X.A) (hx : PassesAt (L2.CX X.prog X.w) X σ E) (I : Inv X pins σ H s)
    (hb : ∀ s2 : Shared, X.K.In s2.heap → BindsTo s2 fd ⟨.ref (s.heap.objs.size + 1) :: pos, kw⟩ (ps.zip us)) (r : Vals vs us)
    (h : sp vs (upd (upd H s.heap.objs.size (.own (s.heap.objs.size + 1))) (s.heap.objs.size + 1) (.ins C s.heap.objs.size [])) (fun v H2 => v = .non ∧ Q (.ref (s.heap.objs.size + 1)) H2) E) : wpAny (model X.prog X.w) X.A (call (.ref C) pos kw) (EP X pins σ Q) X.xe s := by
  have J := Inv.made (C := C) I
  have go := Fk.run _ X.stack _ _ ⟨.ref (s.heap.objs.size + 1) :: pos, kw⟩ us vs _ E (hr.make C pos kw) (J.env0.make C pos kw) (hb _ J.kIn) r h
  refine wpAny_call (make_map I.kIn Mk'.makes Mk'.init (beq_iff_eq.mp Mk'.fn) (codeAny_mono go fun z s' q => ?_))
  match z, q with
  | .error e, q => exact hx pins _ _ e s' J q
  | .ok (.ret u), q =>
    obtain ⟨v, H', J', rv, ev, q'⟩ := J.after q
    subst ev
    exact ⟨rv, .ref (s.heap.objs.size + 1), H', J', rfl, q'⟩
  | .ok .next, q => exact q.elim
  | .ok .brk, q => exact q.elim
  | .ok .cont, q => exact q.elim
end
section
variable {G : Nat → Addr} {W : WX} {X : Cx} {k n l1 l2 : Nat} {f : Addr} {fd : FuncData} {ps ks : List Str} {F : List D → Sto → R D} {dds : List D} {dvs : List V} {ds : List Value} {x : Str} {p pos apos : Pos} {e o : Expr} {es : List Expr} {kws : List Keyword} {m mk : MA} {mo : M} {arr : List Nat}
theorem pS_makeW {c : Nat} (Mk' : Mk X.K (G c) f) (Fk : FnOk X.prog X.w X.K X.mg X.base (L2.CX X.prog X.w) k f fd ps (spS X.K G n F)) (hr : Room (k + 1) X.A) (hg : Gl X x) (hm : X.mg x = some (.ref (G c))) (hb : Binds X.K fd ps ds) (hd : Vals dvs ds) (hdv : ∀ Z, RepL X.K G Z dds dvs) (tk : Takes X W)
    (ha : PA X (e :: es) (tSA X.K G W m)) (hdb : (x == ("__debug__" : Str)) = false := by decide) (he : starEach (e :: es) X.env = (false, eval e X.env) :: starEach es X.env := by rfl) (hpl : (backTo pos (starEach es X.env)).any (·.1) = false := by rfl) :
    PE X (.Call (.Name x p) (e :: es) [] pos) (tS X.K G W (mMakeF c n F dds m)) :=
  ⟨fun pins s σ H Q I h => by
    have h2 : tSA X.K G W m σ H fun vs H1 => ∀ x dx, H1 x = none → H1 dx = none → dx ≠ x → spS X.K G n F (.ref x :: (vs ++ dvs)) (upd (upd H1 dx (.own x)) x (.ins (G c) dx [])) (fun v H2 => v = .non ∧ Q (.ref x) H2) (WE W σ) :=
      rs_bind (f := fun ds _ st1 => pur (dNewF c n F) (ds ++ dds) st1) h fun ds vs H1 Z env st R S p q => fun x dx hx hdx hne => by
        obtain ⟨Z', st', R', r', q'⟩ := pur_post R (RepL.append p (hdv Z)) q
        exact rs_new R' r' (newF_new R'.len q') hx hdx hne
    refine wpAny_Call_Name_kw (ld_glob I hg hm ?_ hdb)
    refine PySem.W.callWith_K (h₀ := X.base) I.ok.mod.kin Mk'.kp (thn (ha.run pos pins s σ H _ I h2) fun us s1 ⟨vs, H1, I1, r, q⟩ => ⟨I1.kIn, ?_⟩) he hpl
    have q := q (s1.heap.objs.size + 1) s1.heap.objs.size (I1.hok.fresh (Nat.le_succ _)) (I1.hok.fresh (Nat.le_refl _)) (Nat.ne_of_lt (Nat.lt_succ_self _))
    have r2 : Vals (V.ref (s1.heap.objs.size + 1) :: (vs ++ dvs)) (Value.ref (s1.heap.objs.size + 1) :: (us ++ ds)) := .cons rfl (r.append hd)
    have hl := r2.length.symm.trans (Fk.len _ _ _ _ q)
    exact run_makeAt Mk' Fk hr (passAt tk σ) I1 (fun s2 k2 => hb s2 (Value.ref (s1.heap.objs.size + 1) :: us) k2 hl) r2 q⟩
theorem pS_makeAW {c : Nat} (Mk' : Mk X.K (G c) f) (Fk : FnOk X.prog X.w X.K X.mg X.base (L2.CX X.prog X.w) k f fd ps (spS X.K G n F)) (hr : Room (k + 1) X.A) (hg : Gl X x) (hm : X.mg x = some (.ref (G c))) (hb : KBa X.K fd ps (l1 + 1) ks arr dvs) (hdv : ∀ Z, RepL X.K G Z dds dvs) (tk : Takes X W)
    (ha : PA X (e :: es) (tSA X.K G W m)) (hkw : PK X kws (tSA X.K G W mk)) (hall : (backToKw pos (keywordEach kws X.env)).all (·.1.isSome) = true := by rfl) (hks : (backToKw pos (keywordEach kws X.env)).filterMap (·.1) = ks := by rfl) (hdb : (x == ("__debug__" : Str)) = false := by decide)
    (he : starEach (e :: es) X.env = (false, eval e X.env) :: starEach es X.env := by rfl) (hpl : ((backTo pos (starEach (e :: es) X.env)).any (·.1) || (backToKw pos (keywordEach kws X.env)).any (·.1.isNone)) = false := by rfl) (hl2 : ks.length = l2 := by rfl) :
    PE X (.Call (.Name x p) (e :: es) kws pos) (tS X.K G W (mMakeA c n F arr (mArgs l1 l2 m mk dds))) := by
  subst hl2
  obtain ⟨its, hb⟩ := hb
  refine ⟨fun pins s σ H Q I h => ?_⟩
  have h2 := rs_args (Q1 := fun vs zs H2 => vs.length = l1 ∧ zs.length = ks.length ∧ ∀ x dx, H2 x = none → H2 dx = none → dx ≠ x → spS X.K G n F (pickA arr ((.ref x :: vs) ++ (zs ++ dvs))) (upd (upd H2 dx (.own x)) x (.ins (G c) dx [])) (fun v H3 => v = .non ∧ Q (.ref x) H3) (WE W σ)) (f := fun ds _ st1 => pur (dNewA c n F arr) ds st1) hdv h fun vs zs H1 Z env st ds h1 h2 R S r q => by
    obtain ⟨Z', st', R', r', q'⟩ := pur_post R r q
    exact ⟨h1, h2, fun x dx hx hdx hne => rs_newA R' r' q' hx hdx hne⟩
  refine wpAny_Call_Name_kw (ld_glob I hg hm ?_ hdb)
  refine PySem.W.callWith_KW (first := []) (h₀ := X.base) I.ok.mod.kin Mk'.kp hall (thn (ha.run pos pins s σ H _ I h2) fun us s1 ⟨vs, H1, I1, r, q⟩ => thn (hkw.run pos pins s1 σ H1 _ I1 q) fun ws s2 ⟨zs, H2, I2, rz, z1, z2, q2⟩ => ⟨I2.kIn, ?_⟩) hpl he
  rw [hks]
  have q2 := q2 (s2.heap.objs.size + 1) s2.heap.objs.size (I2.hok.fresh (Nat.le_succ _)) (I2.hok.fresh (Nat.le_refl _)) (Nat.ne_of_lt (Nat.lt_succ_self _))
  have r1 : Vals (V.ref (s2.heap.objs.size + 1) :: vs) (Value.ref (s2.heap.objs.size + 1) :: us) := .cons rfl r
  exact run_makeAt Mk' Fk hr (passAt tk σ) I2 (fun s3 k3 => hb.to s3 (Value.ref (s2.heap.objs.size + 1) :: us) ws k3 (by rw [List.length_cons, ← r.length, z1]) (rz.length.symm.trans z2)) (hb.rel r1 rz) q2
theorem pS_makeA0W {c : Nat} (Mk' : Mk X.K (G c) f) (Fk : FnOk X.prog X.w X.K X.mg X.base (L2.CX X.prog X.w) k f fd ps (spS X.K G n F)) (hr : Room (k + 1) X.A) (hg : Gl X x) (hm : X.mg x = some (.ref (G c))) (hb : KBa X.K fd ps 1 ks arr dvs) (hdv : ∀ Z, RepL X.K G Z dds dvs) (tk : Takes X W)
    (hkw : PK X kws (tSA X.K G W mk)) (hall : (backToKw pos (keywordEach kws X.env)).all (·.1.isSome) = true := by rfl) (hks : (backToKw pos (keywordEach kws X.env)).filterMap (·.1) = ks := by rfl) (hdb : (x == ("__debug__" : Str)) = false := by decide)
    (hpl : ((backTo pos (starEach [] X.env)).any (·.1) || (backToKw pos (keywordEach kws X.env)).any (·.1.isNone)) = false := by rfl) (hl2 : ks.length = l2 := by rfl) :
    PE X (.Call (.Name x p) [] kws pos) (tS X.K G W (mMakeA c n F arr (mArgs 0 l2 mNil mk dds))) := by
  subst hl2
  obtain ⟨its, hb⟩ := hb
  refine ⟨fun pins s σ H Q I h => ?_⟩
  have h2 := rs_nil (rs_args (Q1 := fun vs zs H2 => vs.length = 0 ∧ zs.length = ks.length ∧ ∀ x dx, H2 x = none → H2 dx = none → dx ≠ x → spS X.K G n F (pickA arr ((.ref x :: vs) ++ (zs ++ dvs))) (upd (upd H2 dx (.own x)) x (.ins (G c) dx [])) (fun v H3 => v = .non ∧ Q (.ref x) H3) (WE W σ)) (f := fun ds _ st1 => pur (dNewA c n F arr) ds st1) hdv h fun vs zs H1 Z env st ds h1 h2 R S r q => by
    obtain ⟨Z', st', R', r', q'⟩ := pur_post R r q
    exact ⟨h1, h2, fun x dx hx hdx hne => rs_newA R' r' q' hx hdx hne⟩)
  refine wpAny_Call_Name_kw (ld_glob I hg hm ?_ hdb)
  refine PySem.W.callWith_KW0 (first := []) (h₀ := X.base) I.ok.mod.kin Mk'.kp hall (thn (hkw.run pos pins s σ H _ I h2) fun ws s2 ⟨zs, H2, I2, rz, z1, z2, q2⟩ => ⟨I2.kIn, ?_⟩) hpl
  rw [hks]
  have q2 := q2 (s2.heap.objs.size + 1) s2.heap.objs.size (I2.hok.fresh (Nat.le_succ _)) (I2.hok.fresh (Nat.le_refl _)) (Nat.ne_of_lt (Nat.lt_succ_self _))
  have r1 : Vals [V.ref (s2.heap.objs.size + 1)] [Value.ref (s2.heap.objs.size + 1)] := .cons rfl .nil
  exact run_makeAt Mk' Fk hr (passAt tk σ) I2 (fun s3 k3 => hb.to s3 [Value.ref (s2.heap.objs.size + 1)] ws k3 rfl (rz.length.symm.trans z2)) (hb.rel r1 rz) q2
end
end S
/-! methods where exceptions may go anywhere (any W) -/
namespace S
open PySem L2
section
variable {G : Nat → Addr} {W : WX} {X : Cx} {k n l2 : Nat} {f : Addr} {fd : FuncData} {ps ks : List Str} {F : List D → Sto → R D} {dds : List D} {dvs : List V} {ds : List Value} {pos apos : Pos} {e o : Expr} {es : List Expr} {kws : List Keyword} {m mk : MA} {mo : M} {arr : List Nat} {c : Nat} {nm : Str} {pl : Sem Bool} {σ : St} {H : Hp} {Q : VK}
/-- the object is there, then the arguments -/
theorem rs_methW {P1 : List V → Hp → Prop} {g : D → List D → Sto → R D} (h : tS X.K G W (fun env st => (mo env st).bind fun o st1 => match rd st1 o with
      | .ins c' ns _ => if c' = c ∧ ns.contains nm = false then (m env st1).bind fun ds st2 => g o ds st2 else .stuck
      | _ => .stuck) σ H Q) :
    tS X.K G W mo σ H fun x H1 => ∃ a dx fs, x = .ref a ∧ H1 a = some (.ins (G c) dx fs) ∧ fs.lookup nm = none ∧ tSA X.K G W m σ H1 fun vs H2 => ∃ Z o ds st, RelH X.K G Z H2 st ∧ RepL X.K G Z (o :: ds) (x :: vs) ∧ Post X.K G (rD X.K G) (WE W σ) Z (g o ds st) Q :=
  rs_bind (f := fun o env st1 => match rd st1 o with
    | .ins c' ns _ => if c' = c ∧ ns.contains nm = false then (m env st1).bind fun ds st2 => g o ds st2 else .stuck
    | _ => .stuck) h fun o x H1 Z env st R S p q => by
    split at q
    · rename_i c' ns ds' e1
      split at q
      · rename_i hc
        obtain ⟨rfl, hc⟩ := hc
        obtain ⟨l, dx, vs', ex, h1, hn, r⟩ := R.ins p e1
        exact ⟨l, dx, _, ex, h1, look_none hc, Z, env, st, R, S, q.bind fun ds st2 Z2 vs H2 l2 R2 p2 q2 => ⟨Z2, o, ds, st2, R2, ⟨x, vs, rfl, Rep.up l2 o x p, p2⟩, q2⟩⟩
      · exact q.elim
    · exact q.elim
theorem pS_methW (ho : PE X o (tS X.K G W mo)) (hc : Cls X.K (G c)) (hm : Meth X.K (G c) nm f) (Fk : FnOk X.prog X.w X.K X.mg X.base (L2.CX X.prog X.w) k f fd ps (spS X.K G n F)) (hr : Room k X.A) (hb : Binds X.K fd ps ds) (hd : Vals dvs ds) (hdv : ∀ Z, RepL X.K G Z dds dvs) (tk : Takes X W) (ha : PA X (e :: es) (tSA X.K G W m))
    (hst : starEach (e :: es) X.env = (false, eval e X.env) :: starEach es X.env := by rfl) (hpl : (backTo pos (starEach es X.env)).any (·.1) = false := by rfl)
    (ht : eval (.Call (.Attribute o nm apos) (e :: es) [] pos) X.env = (do
      let ov ← eval o X.env
      standAt apos.atName
      let (f, first) ← holding [ov] (getMethod ov nm pl)
      callWith pos f first (backTo pos (starEach (e :: es) X.env)) (backToKw pos (keywordEach [] X.env))) := by rfl) :
    PE X (.Call (.Attribute o nm apos) (e :: es) [] pos) (tS X.K G W (mMeth c nm n F dds mo m)) :=
  ⟨fun pins s σ H Q I h => PySem.W.methodCall_KW (pl := pl) (thn (ho.run pins s σ H _ I (rs_methW (P1 := fun _ _ => True) (g := fun o ds st2 => if (o :: (ds ++ dds)).length = n then F (o :: (ds ++ dds)) st2 else .stuck) h)) fun u s1 ⟨x, H1, I1, rx, a, dx, fs, ex, ea, l, q⟩ => by
    subst ex
    cases (show u = Value.ref a from rx)
    refine getmeth_ok I1 ea hc hm l (PySem.W.callWith_K (first := [.ref a]) (h₀ := X.base) I.ok.mod.kin hm.kp (thn (ha.run pos pins s1 σ H1 _ I1 q) fun us s2 ⟨vs, H2, I2, r, Z, o', ds', st, R, r2, q2⟩ => ⟨I2.kIn, ?_⟩) hst hpl)
    split at q2
    · rename_i hl
      have r3 : RepL X.K G Z (o' :: (ds' ++ dds)) (.ref a :: (vs ++ dvs)) := RepL.append r2 (hdv Z)
      exact run_fnSD (E := WE W) Fk hr hb hd (passAt tk σ) I2 (vs := .ref a :: vs) (us := .ref a :: us) (.cons rfl r) ⟨r3.length ▸ hl, Z, _, st, R, r3, q2⟩
    · exact q2.elim) ht⟩
theorem pS_meth0W (ho : PE X o (tS X.K G W mo)) (hc : Cls X.K (G c)) (hm : Meth X.K (G c) nm f) (Fk : FnOk X.prog X.w X.K X.mg X.base (L2.CX X.prog X.w) k f fd ps (spS X.K G n F)) (hr : Room k X.A) (hb : Binds X.K fd ps ds) (hd : Vals dvs ds) (hdv : ∀ Z, RepL X.K G Z dds dvs) (tk : Takes X W)
    (ht : eval (.Call (.Attribute o nm apos) [] [] pos) X.env = (do
      let ov ← eval o X.env
      standAt apos.atName
      let (f, first) ← holding [ov] (getMethod ov nm pl)
      callWith pos f first (backTo pos (starEach [] X.env)) (backToKw pos (keywordEach [] X.env))) := by rfl) :
    PE X (.Call (.Attribute o nm apos) [] [] pos) (tS X.K G W (mMeth c nm n F dds mo mNil)) :=
  ⟨fun pins s σ H Q I h => PySem.W.methodCall_KW (pl := pl) (thn (ho.run pins s σ H _ I (rs_methW (P1 := fun _ _ => True) (g := fun o ds st2 => if (o :: (ds ++ dds)).length = n then F (o :: (ds ++ dds)) st2 else .stuck) h)) fun u s1 ⟨x, H1, I1, rx, a, dx, fs, ex, ea, l, q⟩ => by
    subst ex
    cases (show u = Value.ref a from rx)
    obtain ⟨Z, o', ds', st, R, r2, q2⟩ := rs_nil q
    split at q2
    · rename_i hl
      have r3 : RepL X.K G Z (o' :: (ds' ++ dds)) (.ref a :: ([] ++ dvs)) := RepL.append r2 (hdv Z)
      exact getmeth_ok I1 ea hc hm l (PySem.W.callWith_K0 (first := [.ref a]) I1.kIn hm.kp (run_fnSD (E := WE W) Fk hr hb hd (passAt tk σ) I1 (us := [.ref a]) (vs := [.ref a]) (.cons rfl .nil) ⟨r3.length ▸ hl, Z, _, st, R, r3, q2⟩))
    · exact q2.elim) ht⟩
end
end S
/-! try / except -/
namespace S
open PySem L2
/-- which of the raised classes the clause takes -/
abbrev Ki := Nat → Option Bool
def mTry (ki : Ki) (body hm : MS) : MS := fun env st => match body env st with
  | .exc env' c ns ds st' => (match ki c with
    | some true => hm env' st'
    | some false => .exc env' c ns ds st'
    | none => .stuck)
  | r => r
section
variable {G : Nat → Addr} {W : WX} {X : Cx} {x : Str} {cv : Value} {body suite : List Stmt} {b₀ : Stmt} {np pos pos' : Pos} {m hm : MS} {ki : Ki}
/-- try: .. except C: .. , the handler raises nothing -/
theorem pS_try1 (hs : X.stack = X.env :: X.outer) (hf : X.env.frame = some X.env.locals) (hc : Names X x cv) (hk : ∀ c b, ki c = some b → PySem.W.exmOne X.K (.ref (G c)) cv = some b) (tk : Takes X W)
    (hb : ∀ (W : WX) (pn : List (Addr × Obj)) (xe : Value → Shared → Prop), Takes (X.tr pn xe) W → PassesOwn (model X.prog X.w) X.A X.env xe → PSs (X.tr pn xe) body (tSS X.K G W m))
    (hsu : ∀ (a : Addr) (oe : Obj) (pn : List (Addr × Obj)), PSs (X.suite a ((a, oe) :: pn)) (b₀ :: suite) (tSS X.K G W0 hm)) :
    PS X (.Try body [.ExceptHandler (some (.Name x np)) none (b₀ :: suite) pos'] [] [] pos) (tSS X.K G W (mTry ki m (mThru hm))) :=
  ps_of (ps_try_only (tb := fun W => tSS X.K G W m) (ts := fun _ _ _ => tSS X.K G W0 hm) (Wout := W) hs hf hc tk hb fun a oe cls d pn _ _ => hsu a oe pn) fun Dn σ H ⟨Z, env, st, R, S, h⟩ => by
    refine ⟨Z, env, st, R, S, ?_⟩
    unfold mTry at h
    cases e : m env st with
    | exc env' c ns ds st' =>
      rw [e] at h
      dsimp only at h
      intro Z' σ' H' d l R' S' xo
      cases e2 : ki c with
      | none => rw [e2] at h; exact h.elim
      | some b =>
        rw [e2] at h
        refine ⟨b, hk c b e2, fun hb a ha => ?_, fun hb => ?_⟩
        · subst hb
          refine ⟨Z', env', st', R', S', ?_⟩
          have h := PostS.up l h
          unfold mThru at h
          cases e3 : hm env' st' with
          | exc _ _ _ _ _ => rw [e3] at h; exact h.elim
          | nx _ _ => rw [e3] at h; exact h
          | rt _ _ => rw [e3] at h; exact h
          | bk _ _ => rw [e3] at h; exact h
          | ct _ _ => rw [e3] at h; exact h
          | stuck => rw [e3] at h; exact h
        · subst hb
          exact h Z' σ' H' d l R' S' xo
    | nx _ _ => rw [e] at h; exact h
    | rt _ _ => rw [e] at h; exact h
    | bk _ _ => rw [e] at h; exact h
    | ct _ _ => rw [e] at h; exact h
    | stuck => rw [e] at h; exact h
end
end S
/-! while, list.pop() -/
namespace S
open PySem L2
def mWhileGo (c : MB) (body : MS) : Nat → MS
  | 0, _, _ => .stuck
  | n + 1, env, st => match c env st with
    | .ok b st1 => if b = true then (match body env st1 with
      | .nx env2 st2 => mWhileGo c body n env2 st2
      | .ct env2 st2 => mWhileGo c body n env2 st2
      | .bk env2 st2 => .nx env2 st2
      | r => r) else .nx env st1
    | .exc c ns ds st1 => .exc env c ns ds st1
    | .stuck => .stuck
theorem pS_while {K : PySem.W.Frag} {G : Nat → Addr} {W : WX} {X : Cx} {c : Expr} {body : List Stmt} {pos : Pos} {mc : MB} {mb : MS} (n : Nat) (hp : PassesOwn (model X.prog X.w) X.A X.env X.xe) (hc : PT X c (tSB K G W mc)) (hb : PSs X body (tSS K G W mb)) : PS X (.While c body [] pos) (tSS K G W (mWhileGo mc mb n)) :=
  ps_of (ps_while hp hc hb) fun Dn σ H ⟨Z, env, st, R, S, h⟩ => by
    refine ⟨fun m σ H => ∃ Z env st, RelH K G Z H st ∧ RepE K G Z env σ ∧ PostS K G W Z (mWhileGo mc mb m env st) Dn, ⟨n, Z, env, st, R, S, h⟩, fun m σ H ⟨Z, env, st, R, S, h⟩ => ?_⟩
    cases m with
    | zero => exact h.elim
    | succ m =>
      refine ⟨Z, env, st, R, S, ?_⟩
      unfold mWhileGo at h
      cases e : mc env st with
      | ok b st1 =>
        rw [e] at h
        intro Z1 b' H1 l R1 eb
        cases (show b = b' from eb)
        cases b with
        | false => exact iteF (h Z1 σ H1 l R1 (S.up l))
        | true =>
          refine iteT ⟨fun σ' H' => ∃ Z env st, RelH K G Z H' st ∧ RepE K G Z env σ' ∧ PostS K G W Z (mWhileGo mc mb m env st) Dn, fun σ' H' q => ⟨m, Nat.lt_succ_self m, q⟩, Z1, env, st1, R1, S.up l, ?_⟩
          replace h : PostS K G W Z (match mb env st1 with
            | .nx env2 st2 => mWhileGo mc mb m env2 st2
            | .ct env2 st2 => mWhileGo mc mb m env2 st2
            | .bk env2 st2 => .nx env2 st2
            | r => r) Dn := h
          have h := PostS.up l h
          cases e2 : mb env st1 with
          | nx env2 st2 => rw [e2] at h; exact fun Z2 σ2 H2 l2 R2 S2 => ⟨Z2, env2, st2, R2, S2, PostS.up l2 h⟩
          | ct env2 st2 => rw [e2] at h; exact fun Z2 σ2 H2 l2 R2 S2 => ⟨Z2, env2, st2, R2, S2, PostS.up l2 h⟩
          | bk env2 st2 => rw [e2] at h; exact h
          | rt d st2 => rw [e2] at h; exact h
          | exc env2 c' ns ds st2 => rw [e2] at h; exact h
          | stuck => rw [e2] at h; exact h
      | exc c' ns ds st1 => rw [e] at h; exact fun Z1 H1 x l R1 r => h Z1 σ H1 x l R1 (S.up l) r
      | stuck => rw [e] at h; exact h
/-- l.pop() -/
def dPop (a : D) (as : List D) (st : Sto) : R D := match a, as with
  | .ptr i, [] => (match st[i]? with
    | some (.lst xs) => (match xs[xs.length - 1]? with
      | some d => .ok d (st.set i (.lst xs.dropLast))
      | none => .stuck)
    | _ => .stuck)
  | _, _ => .stuck
section
variable {K : PySem.W.Frag} {G : Nat → Addr} {Z : Gh}
theorem RepL.at {d : D} : ∀ {ds : List D} {vs : List V}, RepL K G Z ds vs → ∀ {i : Nat}, ds[i]? = some d → ∃ v, vs[i]? = some v ∧ Rep K G Z d v
  | [], _, _, i, h => by simp at h
  | x :: ds, _, ⟨v, t, e, p, q⟩, 0, h => by subst e; cases h; exact ⟨v, rfl, p⟩
  | x :: ds, _, ⟨v, t, e, p, q⟩, i + 1, h => by
    subst e
    obtain ⟨u, h1, h2⟩ := RepL.at q (i := i) (by simpa using h)
    exact ⟨u, by simpa using h1, h2⟩
theorem RepL.dropLast : ∀ {ds : List D} {vs : List V}, RepL K G Z ds vs → RepL K G Z ds.dropLast vs.dropLast
  | [], _, h => by cases (show _ = _ from h); exact rfl
  | [x], _, ⟨v, t, e, p, q⟩ => by cases (show t = [] from q); subst e; exact rfl
  | x :: y :: ds, _, ⟨v, _, e, p, ⟨u, t, e2, p2, q⟩⟩ => by
    subst e; subst e2
    exact ⟨v, _, rfl, p, RepL.dropLast (ds := y :: ds) (vs := u :: t) ⟨u, t, rfl, p2, q⟩⟩
theorem ad_pop : AdM K G dPop rPop := by
  intro E Z H st a as x xs Q R p r h
  unfold dPop at h
  split at h
  · obtain ⟨l, hl, rfl⟩ := p
    cases (show xs = [] from r)
    split at h
    · rename_i ys e1
      split at h
      · rename_i d e2
        obtain ⟨vs, h1, h2⟩ := R.cell _ _ _ e1 hl
        obtain ⟨v, h3, h4⟩ := RepL.at h2 e2
        refine ⟨l, vs, v, rfl, rfl, h1, by rw [← h2.length]; exact h3, ?_⟩
        exact Post.now (P := rD K G) h (R.put e1 rfl hl ⟨_, upd_same, h2.dropLast⟩) h4
      · exact h.elim
    · exact h.elim
  · exact h.elim
end
theorem kitAny_nil {K : PySem.W.Frag} {t : Value} : PySem.W.kitAny K t [] = some false := rfl
theorem kitAny_t {K : PySem.W.Frag} {t c : Value} {r : List Value} (h : PySem.W.kitOne K t c = some true) : PySem.W.kitAny K t (c :: r) = some true := by
  unfold PySem.W.kitAny
  rw [h]
theorem kitAny_f {K : PySem.W.Frag} {t c : Value} {r : List Value} {b : Bool} (h : PySem.W.kitOne K t c = some false) (h' : PySem.W.kitAny K t r = some b) : PySem.W.kitAny K t (c :: r) = some b := by
  unfold PySem.W.kitAny
  rw [h]
  exact h'
end S
/-! l[::-1] -/
namespace S
open PySem L2
def dRev (a : D) (st : Sto) : R D := match rd st a with
  | .lst xs => .ok (.lst xs.reverse) st
  | _ => .stuck
def dRevC (a : D) (st : Sto) : R D := match rd st a with
  | .lst xs => .ok (.ptr st.length) (st ++ [.lst xs.reverse])
  | _ => .stuck
def mOn (f : D → Sto → R D) (m : M) : M := fun env st => (m env st).bind fun a st1 => f a st1
section
variable {G : Nat → Addr} {W : WX} {X : Cx} {e : Expr} {m : M} {k : Nat} {p1 p2 p3 pos : Pos} {K : PySem.W.Frag} {Z : Gh}
theorem RepL.rev : ∀ {ds : List D} {vs : List V}, RepL K G Z ds vs → RepL K G Z ds.reverse vs.reverse
  | [], _, h => by cases (show _ = _ from h); exact rfl
  | d :: ds, _, ⟨v, t, e, p, q⟩ => by
    subst e
    rw [List.reverse_cons, List.reverse_cons]
    exact RepL.append (RepL.rev q) ⟨v, [], rfl, p, rfl⟩
theorem pS_rev (h : PE X e (tS X.K G W m)) : PE X (.Subscript e (.Slice none none (some (.UnaryOp .USub (.Constant (.int 1) k p1) p2)) p3) pos) (tS X.K G W (mOn dRev m)) :=
  pe_of (pe_revL h) fun σ H Q h => rs_bind (f := fun a _ st1 => dRev a st1) h fun a v H1 Z env st R S p q => by
    unfold dRev at q
    split at q
    · rename_i xs e1
      obtain ⟨l, vs, rfl, h1, r⟩ := R.lst p e1
      exact ⟨l, vs, rfl, .inl (.inl h1), fun l' hl' => Post.newL q R r.rev hl'⟩
    · exact q.elim
theorem pS_revC (h : PE X e (tS X.K G W m)) : PE X (.Subscript e (.Slice none none (some (.UnaryOp .USub (.Constant (.int 1) k p1) p2)) p3) pos) (tS X.K G W (mOn dRevC m)) :=
  pe_of (pe_revL h) fun σ H Q h => rs_bind (f := fun a _ st1 => dRevC a st1) h fun a v H1 Z env st R S p q => by
    unfold dRevC at q
    split at q
    · rename_i xs e1
      obtain ⟨l, vs, rfl, h1, r⟩ := R.lst p e1
      exact ⟨l, vs, rfl, .inl (.inl h1), fun l' hl' => Post.newC q R r.rev hl'⟩
    · exact q.elim
end
end S
/-! try .. except C as e: y = (something of e) -/
namespace S
open PySem L2
/-- an expression of a handler, by the class and the fields of what was caught -/
abbrev MX := Nat → List Str → List D → M
abbrev MXB := Nat → List Str → List D → MB
def tXG {α β : Type} (K : PySem.W.Frag) (G : Nat → Addr) (P : Gh → α → β → Prop) (i : Nat) (a : Addr) (cls : Value) (d : Option Addr) (q : Nat → List Str → List D → Env → Sto → R α) : St → Hp → (β → Hp → Prop) → Prop := fun σ H Q =>
  σ[i]? = some (some (.ref a)) ∧ ∃ c ns ds Z env st, cls = .ref (G c) ∧ RelH K G Z H st ∧ XOk K G Z ns ds d ∧ RepE K G Z env σ ∧ Post K G P E0 Z (q c ns ds env st) Q
abbrev tX (K : PySem.W.Frag) (G : Nat → Addr) (i : Nat) (a : Addr) (cls : Value) (d : Option Addr) (q : MX) : TE := tXG K G (rD K G) i a cls d q
abbrev tXB (K : PySem.W.Frag) (G : Nat → Addr) (i : Nat) (a : Addr) (cls : Value) (d : Option Addr) (q : MXB) : TT := tXG K G rB i a cls d q
def mX (m : M) : MX := fun _ _ _ => m
def mXIf (c : MXB) (a b : MX) : MX := fun k ns ds env st => (c k ns ds env st).bind fun z st' => if z = true then a k ns ds env st' else b k ns ds env st'
def mXNot (m : MXB) : MXB := fun k ns ds env st => (m k ns ds env st).bind fun b st' => .ok (!b) st'
def mXAnd (m n : MXB) : MXB := fun k ns ds env st => (m k ns ds env st).bind fun b st' => if b = true then n k ns ds env st' else .ok false st'
def mXTru (m : MX) : MXB := fun k ns ds env st => (m k ns ds env st).bind fun d st' => match truthD st' d with
  | some b => .ok b st'
  | none => .stuck
/-- the value of a field -/
def fldD (f : Str) : List Str → List D → Option D
  | n :: ns, d :: ds => if (f == n) = true then some d else fldD f ns ds
  | _, _ => none
def mXFld (xa : Nat → Bool) (f : Str) : MX := fun c ns ds _ st => if xa c = true then (match fldD f ns ds with | some d => .ok d st | none => .stuck) else .stuck
def mXIsi (ki : Nat → Option Bool) : MX := fun c ns _ _ st => match ki c, ns with
  | some b, _ :: _ => .ok (.bl b) st
  | _, _ => .stuck
theorem XOk.up {K : PySem.W.Frag} {G : Nat → Addr} {Z Z' : Gh} {ns : List Str} {ds : List D} {d : Option Addr} (l : Z.le Z') (h : XOk K G Z ns ds d) : XOk K G Z' ns ds d := by
  rcases h with h | ⟨a, vs, h1, h2, h3, h4⟩
  · exact .inl h
  · exact .inr ⟨a, vs, h1, l.fz _ _ h2, h3, RepL.up l _ _ h4⟩
theorem fld_at {K : PySem.W.Frag} {G : Nat → Addr} {Z : Gh} {f : Str} {d : D} : ∀ {ns : List Str} {ds : List D} {vs : List V}, ns.length = vs.length → RepL K G Z ds vs → fldD f ns ds = some d → ∃ v, (ns.zip vs).lookup f = some v ∧ Rep K G Z d v
  | [], _, _, _, _, h => by unfold fldD at h; cases h
  | _ :: _, [], _, _, _, h => by unfold fldD at h; cases h
  | n :: ns, x :: ds, _, hl, ⟨v, t, e, p, q⟩, h => by
    subst e
    unfold fldD at h
    split at h
    · rename_i hn
      cases h
      exact ⟨v, by rw [List.zip_cons_cons, List.lookup_cons, hn], p⟩
    · rename_i hn
      obtain ⟨u, h1, h2⟩ := fld_at (Nat.succ.inj hl) q h
      refine ⟨u, ?_, h2⟩
      rw [List.zip_cons_cons, List.lookup_cons]
      cases hz : f == n with
      | true => exact absurd hz hn
      | false => exact h1
section
variable {G : Nat → Addr} {X : Cx} {a : Addr} {oe : Obj} {cls : Value} {d : Option Addr} {pn : List (Addr × Obj)} {i : Nat} {e : Expr}
/-- one thing behind another, in a handler -/
theorem xs_bind {α β γ δ : Type} {K : PySem.W.Frag} {P : Gh → α → β → Prop} {P' : Gh → γ → δ → Prop} {m : Nat → List Str → List D → Env → Sto → R α} {f : α → Nat → List Str → List D → Env → Sto → R γ} {σ : St} {H : Hp} {Q : δ → Hp → Prop} {Q1 : β → Hp → Prop}
    (h : tXG K G P' i a cls d (fun c ns ds env st => (m c ns ds env st).bind fun x st1 => f x c ns ds env st1) σ H Q)
    (k : ∀ x b H1 c ns ds Z env st, σ[i]? = some (some (.ref a)) → cls = .ref (G c) → RelH K G Z H1 st → XOk K G Z ns ds d → RepE K G Z env σ → P Z x b → Post K G P' E0 Z (f x c ns ds env st) Q → Q1 b H1) : tXG K G P i a cls d m σ H Q1 := by
  obtain ⟨hi, c, ns, ds, Z, env, st, hc, R, xo, S, h⟩ := h
  exact ⟨hi, c, ns, ds, Z, env, st, hc, R, xo, S, h.bind fun x st' Z' b H' l R' p q => k x b H' c ns ds Z' env st' hi hc R' (xo.up l) (S.up l) p q⟩
theorem xs_of {m : M} (h : PE (X.suite a ((a, oe) :: pn)) e (tS X.K G W0 m)) : PE (X.suite a ((a, oe) :: pn)) e (tX X.K G i a cls d (mX m)) :=
  pe_of h fun σ H Q ⟨hi, c, ns, ds, Z, env, st, hc, R, xo, S, h⟩ => ⟨Z, env, st, R, S, h⟩
theorem xs_if {t b : Expr} {mc : MXB} {m n : MX} {pos : Pos} (hc : PT (X.suite a ((a, oe) :: pn)) t (tXB X.K G i a cls d mc)) (h : PE (X.suite a ((a, oe) :: pn)) e (tX X.K G i a cls d m)) (h' : PE (X.suite a ((a, oe) :: pn)) b (tX X.K G i a cls d n)) : PE (X.suite a ((a, oe) :: pn)) (.IfExp t e b pos) (tX X.K G i a cls d (mXIf mc m n)) :=
  pe_of (pe_ifExp hc h h') fun σ H Q h => xs_bind (f := fun z c ns ds env st' => if z = true then m c ns ds env st' else n c ns ds env st') h fun z b' H1 c ns ds Z env st hi hc R xo S p q => by
    cases (show z = b' from p)
    cases z with
    | true => exact iteT ⟨hi, c, ns, ds, Z, env, st, hc, R, xo, S, q⟩
    | false => exact iteF ⟨hi, c, ns, ds, Z, env, st, hc, R, xo, S, q⟩
theorem xs_not {m : MXB} {pos : Pos} (h : PT (X.suite a ((a, oe) :: pn)) e (tXB X.K G i a cls d m)) : PT (X.suite a ((a, oe) :: pn)) (.UnaryOp .Not e pos) (tXB X.K G i a cls d (mXNot m)) :=
  pt_of (pt_not h) fun σ H Q h => xs_bind (f := fun b _ _ _ _ st' => .ok (!b) st') h fun b b' H1 c ns ds Z env st hi hc R xo S p q => by
    cases (show b = b' from p)
    exact Post.now (P := rB) q R rfl
theorem xs_and {b : Expr} {rest : List Expr} {m n : MXB} {pos : Pos} (h : PT (X.suite a ((a, oe) :: pn)) e (tXB X.K G i a cls d m)) (h' : PW (X.suite a ((a, oe) :: pn)) (.BoolOp .And (b :: rest) pos) (tXB X.K G i a cls d n)) : PW (X.suite a ((a, oe) :: pn)) (.BoolOp .And (e :: b :: rest) pos) (tXB X.K G i a cls d (mXAnd m n)) :=
  pw_of (pw_and h h') fun σ H Q h => xs_bind (f := fun b c ns ds env st' => if b = true then n c ns ds env st' else .ok false st') h fun b b' H1 c ns ds Z env st hi hc R xo S p q => by
    cases (show b = b' from p)
    cases b with
    | true => exact iteT ⟨hi, c, ns, ds, Z, env, st, hc, R, xo, S, q⟩
    | false => exact iteF (Post.now (P := rB) q R rfl)
theorem xs_and1 {m : MXB} {pos : Pos} (h : PT (X.suite a ((a, oe) :: pn)) e (tXB X.K G i a cls d m)) : PW (X.suite a ((a, oe) :: pn)) (.BoolOp .And [e] pos) (tXB X.K G i a cls d m) := pw_and1 h
theorem xs_tru {m : MX} (h : PE (X.suite a ((a, oe) :: pn)) e (tX X.K G i a cls d m)) (hw : ∀ whole : Sem Value, PySem.isTrue e X.env whole = (do
      let z ← whole
      standAt e.pos
      holding [z] (truthy z)) := by intro _; rfl) : PT (X.suite a ((a, oe) :: pn)) e (tXB X.K G i a cls d (mXTru m)) :=
  pt_of (pt_truth h hw) fun σ H Q h => xs_bind (f := fun d _ _ _ _ st' => match truthD st' d with | some b => .ok b st' | none => .stuck) h fun x v H1 c ns ds Z env st hi hc R xo S p q => by
    cases t : truthD st x with
    | none => rw [t] at q; exact q.elim
    | some b => rw [t] at q; exact ⟨b, tru_of R p t, Post.now (P := rB) q R rfl⟩
/-- e.f -/
theorem xs_fld {y : Str} {np pos : Pos} {xa : Nat → Bool} {f : Str} (hn : PE (X.suite a ((a, oe) :: pn)) (.Name y np) (tVar i)) (hxa : ∀ c, xa c = true → XfC X.K (G c) ∧ PySem.W.findIn X.K (.ref (G c)) f = some none) (hz : Zc cls d oe) (hf : ∃ vs, oe.data = .fields vs)
    (hb : attributeBase (.Name y np) f X.env (eval (.Name y np) X.env) = eval (.Name y np) X.env := by rfl) : PE (X.suite a ((a, oe) :: pn)) (.Attribute (.Name y np) f pos) (tX X.K G i a cls d (mXFld xa f)) :=
  ⟨fun pins s σ H Q I h => by
    obtain ⟨hi, c, ns, ds, Z, env, st, hc, R, xo, S, h⟩ := h
    unfold mXFld at h
    split at h
    · rename_i hx
      cases hd : fldD f ns ds with
      | none => rw [hd] at h; exact h.elim
      | some r =>
        rw [hd] at h
        rcases xo with ⟨rfl, rfl, _⟩ | ⟨dd, vs, e1, e2, e3, e4⟩
        · unfold fldD at hd; cases hd
        · obtain ⟨v, e5, e6⟩ := fld_at e3 e4 hd
          exact (pe_xf (hxa c hx).1 (hxa c hx).2 hz hf hn hb).run pins s σ H Q I ⟨.ref a, hi, rfl, hc, dd, _, v, e1, R.fz _ _ e2, e5, Post.now (P := rD X.K G) h R e6⟩
    · exact h.elim⟩
/-- isinstance(e, C) -/
theorem xs_isi {y : Str} {np p pos : Pos} {ce : Expr} {cl : V} {u : Value} {ki : Nat → Option Bool} (hn : PE (X.suite a ((a, oe) :: pn)) (.Name y np) (tVar i)) (hc : PE (X.suite a ((a, oe) :: pn)) ce (tC cl)) (hcl : ClsV cl u) (hk : ∀ c b, ki c = some b → ExcC X.K (G c) ∧ PySem.W.kitOne X.K (.ref (G c)) u = some b) (hz : Zc cls d oe) (hf : ∃ vs, oe.data = .fields vs)
    (hg : Gl X "isinstance") (hm : X.mg "isinstance" = none)
    (he : starEach [.Name y np, ce] X.env = (false, eval (.Name y np) X.env) :: starEach [ce] X.env := by rfl) (he1 : starEach [ce] X.env = [(false, eval ce X.env)] := by rfl) (hpl : (backTo pos (starEach [ce] X.env)).any (·.1) = false := by rfl) :
    PE (X.suite a ((a, oe) :: pn)) (.Call (.Name "isinstance" p) [.Name y np, ce] [] pos) (tX X.K G i a cls d (mXIsi ki)) :=
  ⟨fun pins s σ H Q I h => by
    obtain ⟨hi, c, ns, ds, Z, env, st, ec, R, xo, S, h⟩ := h
    unfold mXIsi at h
    split at h
    · rename_i b n1 nr e1
      obtain ⟨x1, x2⟩ := hk c b e1
      rcases xo with ⟨q, _, _⟩ | ⟨dd, vs, e1, e2, e3, e4⟩
      · cases q
      · exact (pe_callB (call_isX x1 hz hf) hg hm (by decide +kernel) (pa_cons hn (pa_cons hc pa_nil he1) he) (by decide) (by decide) he hpl).run pins s σ H Q I ⟨.ref a, hi, cl, u, b, dd, _, rfl, ec, e1, R.fz _ _ e2, hcl, x2, Post.now (P := rD X.K G) h R rfl⟩
    · exact h.elim⟩
/-- isinstance(e, (C, ..)) -/
def rIsXT (K : PySem.W.Frag) (a : Addr) (cls : Value) (d : Option Addr) (D : Addr) : List V → Hp → VK → Prop := fun xs H Q => ∃ (tp : Addr) (cs : List V) (us : List Value) (b : Bool) (dd : Addr) (fs : List (Str × V)), xs = [.ref a, .ref tp] ∧ H tp = some (.tup cs) ∧ cls = .ref D ∧ d = some dd ∧ H dd = some (.xd fs) ∧ Paired ClsV cs us ∧ PySem.W.kitAny K (.ref D) us = some b ∧ Q (.bl b) H
theorem call_isXT {D : Addr} (C : ExcC X.K D) (hz : Zc cls d oe) (hf : ∃ vs, oe.data = .fields vs) : CallR (X.suite a ((a, oe) :: pn)) (.builtin "isinstance") (rIsXT X.K a cls d D) := by
  intro pins s σ H xs us Q I r h
  obtain ⟨tp, cs, ws, b, dd, fs, rfl, hT, ec, ed, ea, kc, e, q⟩ := h
  subst ec ed
  obtain ⟨u1, u2, rfl, r1, r2⟩ := vals2 r
  cases (show u2 = Value.ref tp from r2)
  cases (show u1 = Value.ref a from r1)
  obtain ⟨hget, _⟩ := I.pin (a, oe) (List.mem_append.mpr (.inl List.mem_cons_self))
  obtain ⟨vs, hv⟩ := hf
  obtain ⟨mA, hns, hr⟩ := (show ObjOk X.prog X.w H s.heap dd (.xd fs) from I.hok dd _ ea)
  obtain ⟨od, ho, hl⟩ := lookIn_ns hns
  have J : PySem.W.InstAt s.heap a oe D (some od) := ⟨hget, hz.1, by unfold PySem.W.notCls; rw [hv] <;> rfl, by rw [hz.2]; exact ho⟩
  have hcl : (PySem.W.clsIn X.K D).isSome = true := by
    have := C.hd
    unfold PySem.W.hasDictIn at this
    cases z : PySem.W.clsIn X.K D with
    | none => rw [z] at this; cases this
    | some _ => rfl
  obtain ⟨_, its, rv, o, h1, h2, n, h3⟩ := (show ObjOk X.prog X.w H s.heap tp (.tup cs) from I.hok tp _ hT)
  have e3 := ClsV.all kc rv
  subst e3
  obtain ⟨oc, od', dt, sl⟩ := o
  simp only at h2 h3
  subst h2 h3
  exact PySem.W.kia_tup (PySem.W.kitx_exc hcl C.hg C.hk C.hs C.ha C.hn C.ht C.hm) I.kIn J h1 e (fun z => nomatch z) fun tk => ⟨.bl b, H, I.tok tk, rfl, q⟩
theorem xs_isiT {y : Str} {np p pos tpos : Pos} {k : Nat} {ces : List Expr} {cl : List V} {us : List Value} {tc : TA} {ki : Nat → Option Bool} (hn : PE (X.suite a ((a, oe) :: pn)) (.Name y np) (tVar i)) (hc : PA (X.suite a ((a, oe) :: pn)) ces tc) (htc : ∀ σ H Q, Q cl H → tc σ H Q) (hcl : Paired ClsV cl us) (hl : cl.length ≤ sizeLine) (hk : ∀ c b, ki c = some b → ExcC X.K (G c) ∧ PySem.W.kitAny X.K (.ref (G c)) us = some b) (hz : Zc cls d oe) (hf : ∃ vs, oe.data = .fields vs)
    (hg : Gl X "isinstance") (hm : X.mg "isinstance" = none)
    (he : starEach [.Name y np, .Tuple ces k tpos] X.env = (false, eval (.Name y np) X.env) :: starEach [.Tuple ces k tpos] X.env := by rfl) (he1 : starEach [.Tuple ces k tpos] X.env = [(false, eval (.Tuple ces k tpos) X.env)] := by rfl) (hpl : (backTo pos (starEach [.Tuple ces k tpos] X.env)).any (·.1) = false := by rfl) :
    PE (X.suite a ((a, oe) :: pn)) (.Call (.Name "isinstance" p) [.Name y np, .Tuple ces k tpos] [] pos) (tX X.K G i a cls d (mXIsi ki)) :=
  ⟨fun pins s σ H Q I h => by
    obtain ⟨hi, c, ns, ds, Z, env, st, ec, R, xo, S, h⟩ := h
    unfold mXIsi at h
    split at h
    · rename_i b n1 nr e1
      obtain ⟨x1, x2⟩ := hk c b e1
      rcases xo with ⟨q, _, _⟩ | ⟨dd, vs, e1, e2, e3, e4⟩
      · cases q
      · refine (pe_callB (call_isXT x1 hz hf) hg hm (by decide +kernel) (pa_cons hn (pa_cons (pe_tup hc) pa_nil he1) he) (by decide) (by decide) he hpl).run pins s σ H Q I ⟨.ref a, hi, htc σ H _ ⟨hl, fun tp htp => ?_⟩⟩
        obtain ⟨l, R'⟩ := R.lay (o := .tup cl) htp
        exact ⟨tp, cl, us, b, dd, _, rfl, upd_same, ec, e1, R'.fz _ _ (l.fz _ _ e2), hcl, x2, Post.now (P := rD X.K G) (Post.up l h) R' rfl⟩
    · exact h.elim⟩
end
/-- try: .. except C as e: y = .. -/
def mTryAs (ki : Ki) (body : MS) (i j : Nat) (q : MX) : MS := fun env st => match body env st with
  | .exc env' c ns ds st' => (match ki c with
    | some true => if i < env'.length then (match q c ns ds (env'.set i none) st' with
      | .ok r st2 => .nx (((env'.set i none).set j (some r)).set i none) st2
      | _ => .stuck) else .stuck
    | some false => .exc env' c ns ds st'
    | none => .stuck)
  | r => r
section
variable {G : Nat → Addr} {W : WX} {X : Cx} {x n y : Str} {cv : Value} {i j : Nat} {body : List Stmt} {np pos pos' py ps : Pos} {m : MS} {q : MX} {ki : Ki} {e : Expr}
theorem pS_tryAs (hs : X.stack = X.env :: X.outer) (hf : X.env.frame = some X.env.locals) (hN : X.N.Nodup) (hi : X.N[i]? = some n) (hln : X.env.kindOf n = some .local) (hc : Names X x cv) (hk : ∀ c b, ki c = some b → PySem.W.exmOne X.K (.ref (G c)) cv = some b) (tk : Takes X W)
    (hb : ∀ (W : WX) (pn : List (Addr × Obj)) (xe : Value → Shared → Prop), Takes (X.tr pn xe) W → PassesOwn (model X.prog X.w) X.A X.env xe → PSs (X.tr pn xe) body (tSS X.K G W m))
    (hj : X.N[j]? = some y) (hy : Loc X.env.scope y) (hfy : X.fn y = true ∨ X.env.scope.names.lookup y = some .local)
    (hq : ∀ (a : Addr) (oe : Obj) (cls : Value) (d : Option Addr) (pn : List (Addr × Obj)), Zc cls d oe → (∃ vs, oe.data = .fields vs) → PE (X.suite a ((a, oe) :: pn)) e (tX X.K G i a cls d q))
    (hsw : swapsWith e (some (.Name y py)) ps.line X.env = pure false := by rfl) :
    PS X (.Try body [.ExceptHandler (some (.Name x np)) (some n) [.Assign [.Name y py] e ps] pos'] [] [] pos) (tSS X.K G W (mTryAs ki m i j q)) :=
  ps_of (ps_try_as (i := i) (tb := fun W => tSS X.K G W m) (ts := fun a cls d Dn σ H => tX X.K G i a cls d q σ H fun v H1 => Dn.nx (σ.set j (some v)) H1) (Wout := W) hs hf hN hi hln hc tk hb fun a oe cls d pn hz hf => pss_one (ps_set (X := X.suite a ((a, oe) :: pn)) (i := j) hN hj hy (hq a oe cls d pn hz hf) hsw hfy)) fun Dn σ H ⟨Z, env, st, R, S, h⟩ => by
    refine ⟨Z, env, st, R, S, ?_⟩
    unfold mTryAs at h
    cases e : m env st with
    | exc env' c ns ds st' =>
      rw [e] at h
      dsimp only at h
      intro Z' σ' H' d l R' S' xo
      cases e2 : ki c with
      | none => rw [e2] at h; exact h.elim
      | some b =>
        rw [e2] at h
        refine ⟨b, hk c b e2, fun hb a ha => ?_, fun hb => ?_⟩
        · subst hb
          dsimp only at h
          split at h
          case isFalse => exact h.elim
          rename_i hl
          rw [S'.length] at hl
          refine ⟨by rw [List.getElem?_set_self hl], c, ns, ds, Z', env'.set i none, st', rfl, R', xo, RepE.setN i _ S', ?_⟩
          cases e3 : q c ns ds (env'.set i none) st' with
          | ok r st2 =>
            rw [e3] at h
            have h := PostS.up l h
            intro Z2 v H2 l2 R2 p
            exact h Z2 _ H2 l2 R2 (RepE.setN i none (RepE.set p j (RepE.setN i _ (S'.up l2))))
          | exc _ _ _ _ => rw [e3] at h; exact h.elim
          | stuck => rw [e3] at h; exact h.elim
        · subst hb
          exact h Z' σ' H' d l R' S' xo
    | nx _ _ => rw [e] at h; exact h
    | rt _ _ => rw [e] at h; exact h
    | bk _ _ => rw [e] at h; exact h
    | ct _ _ => rw [e] at h; exact h
    | stuck => rw [e] at h; exact h
end
end S
/-! a tuple beside the empty one; which class a clause takes -/
namespace S
open PySem L2
def dEqT0 (a b : D) (st : Sto) : R D := match rd st a, rd st b with
  | .tup xs, .tup [] => .ok (.bl xs.isEmpty) st
  | _, _ => dEq a b st
def dNeT0 (a b : D) (st : Sto) : R D := match rd st a, rd st b with
  | .tup xs, .tup [] => .ok (.bl (!xs.isEmpty)) st
  | _, _ => dNe a b st
section
variable {K : PySem.W.Frag} {G : Nat → Addr} {X : Cx}
def rTup0 (K : PySem.W.Frag) (f : Bool → Bool) : R2 := fun x y H Q => ∃ p q xs, x = .ref p ∧ y = .ref q ∧ SqT K H p xs ∧ SqT K H q [] ∧ Q (.bl (f xs.isEmpty)) H
theorem size0 {xs : List V} {its : List Value} (rv : Vals xs its) : (its.toArray.size == 0) = xs.isEmpty := by
  cases rv with
  | nil => rfl
  | cons _ _ => simp
theorem op_eqTup0 (hu : X.A.units + 64 < cLine) : OpR X (compareOp .Eq) (rTup0 X.K id) := fun pins s σ H x y v u Q I rx ry ⟨p, q, xs, e1, e2, h1, h2, hq⟩ => by
  subst e1; subst e2
  cases (show v = Value.ref p from rx)
  cases (show u = Value.ref q from ry)
  obtain ⟨i1, r1, l1, z1⟩ := I.tuple h1
  obtain ⟨i2, r2, l2, z2⟩ := I.tuple h2
  cases r2
  refine SeqAt.rcIn_tuples (e := fun _ => true) l1 l2 (by omega) (fun j h1 h2 => absurd (show j < 0 from h2) (Nat.not_lt_zero j)) ?_
  refine ⟨.bl xs.isEmpty, H, I, ?_, hq⟩
  rw [← size0 r1]
  simp
  rfl
theorem op_neTup0 (hu : X.A.units + 64 < cLine) : OpR X (compareOp .NotEq) (rTup0 X.K not) := fun pins s σ H x y v u Q I rx ry ⟨p, q, xs, e1, e2, h1, h2, hq⟩ => by
  subst e1; subst e2
  cases (show v = Value.ref p from rx)
  cases (show u = Value.ref q from ry)
  obtain ⟨i1, r1, l1, z1⟩ := I.tuple h1
  obtain ⟨i2, r2, l2, z2⟩ := I.tuple h2
  cases r2
  refine SeqAt.RcNeAt.tuples (e := fun _ => true) l1 l2 (by omega) (fun j h1 h2 => absurd (show j < 0 from h2) (Nat.not_lt_zero j)) _ _ _ _ ?_
  refine ⟨.bl (!xs.isEmpty), H, I, ?_, hq⟩
  rw [← size0 r1]
  simp
  rfl
theorem ad_eqT0 : Ad2 K G dEqT0 (fun x y H Q => rEqS K x y H Q ∨ rTup0 K id x y H Q) := fun E Z H st a b x y Q R p q h => by
  unfold dEqT0 at h
  split at h
  · rename_i xs e1 e2
    obtain ⟨p1, vs, rfl, h1, r1⟩ := R.tup p e1
    obtain ⟨p2, us, rfl, h2, r2⟩ := R.tup q e2
    cases (show us = [] from r2)
    exact .inr ⟨p1, p2, vs, rfl, rfl, h1, h2, by rw [← r1.emp]; exact Post.now (P := rD K G) h R rfl⟩
  · exact .inl (ad_eq E Z H st a b x y Q R p q h)
theorem ad_neT0 : Ad2 K G dNeT0 (fun x y H Q => rNeS K x y H Q ∨ rTup0 K not x y H Q) := fun E Z H st a b x y Q R p q h => by
  unfold dNeT0 at h
  split at h
  · rename_i xs e1 e2
    obtain ⟨p1, vs, rfl, h1, r1⟩ := R.tup p e1
    obtain ⟨p2, us, rfl, h2, r2⟩ := R.tup q e2
    cases (show us = [] from r2)
    exact .inr ⟨p1, p2, vs, rfl, rfl, h1, h2, by rw [← r1.emp]; exact Post.now (P := rD K G) h R rfl⟩
  · exact .inl (ad_ne E Z H st a b x y Q R p q h)
theorem op_eqT0 (hu : X.A.units + 64 < cLine) : OpR X (compareOp .Eq) (fun x y H Q => rEqS X.K x y H Q ∨ rTup0 X.K id x y H Q) := S.OpR.or (op_eqS hu) (op_eqTup0 hu)
theorem op_neT0 (hu : X.A.units + 64 < cLine) : OpR X (compareOp .NotEq) (fun x y H Q => rNeS X.K x y H Q ∨ rTup0 X.K not x y H Q) := S.OpR.or (op_neS hu) (op_neTup0 hu)
theorem kit_bltF {C : Addr} {T : String} (hm : PySem.W.kitMeta T = true) (hs : PySem.W.subIn K (.ref C) (.type T) = some false) : PySem.W.kitOne K (.ref C) (.type T) = some false := by
  show (if PySem.W.kitMeta T = true then PySem.W.subIn K (.ref C) (.type T) else none) = some false
  rw [if_pos hm]
  exact hs
theorem exm_own {t : Value} {C : Addr} {cd : ClassData} {b : Bool} (he : PySem.W.subIn K (.ref C) (.type "BaseException") = some true) (h : PySem.W.clsIn K C = some cd) (ht : PySem.W.typeIn K (.ref C) = some (.type "type")) (hs : PySem.W.subIn K t (.ref C) = some b) : PySem.W.exmOne K t (.ref C) = some b := by
  unfold PySem.W.exmOne
  rw [he, if_pos (by decide)]
  show (if ((PySem.W.clsIn K C).isSome && PySem.W.typeIn K (.ref C) == some (.type "type")) = true then PySem.W.subIn K t (.ref C) else none) = some b
  rw [h, ht]
  exact (if_pos rfl).trans hs
end
end S
/-! a, b = x, y -/
namespace S
open PySem L2
def putAll : List Nat → List D → Env → Env
  | i :: is, d :: ds, env => putAll is ds (env.set i (some d))
  | _, _, env => env
def mPar (is : List Nat) (m : MA) : MS := fun env st => match m env st with
  | .ok ds st' => if ds.length = is.length then .nx (putAll is ds env) st' else .stuck
  | .exc c ns ds st' => .exc env c ns ds st'
  | .stuck => .stuck
section
variable {K : PySem.W.Frag} {G : Nat → Addr} {W : WX} {X : Cx} {m : MA} {a b c : Expr} {pos : Pos}
/-- from arguments to what follows them -/
theorem post_args {σ : St} {Dn : Ends} {Q : List V → Hp → Prop} {f : List D → Sto → RS} {env : Env} {st : Sto} {Z : Gh} (S : RepE K G Z env σ) (h : PostS K G W Z (match m env st with
  | .ok ds st' => f ds st'
  | .exc c ns ds st' => .exc env c ns ds st'
  | .stuck => .stuck) Dn) (k : ∀ ds st' Z' vs H', Z.le Z' → RelH K G Z' H' st' → RepL K G Z' ds vs → PostS K G W Z' (f ds st') Dn → Q vs H') : Post K G (rL K G) (WE W σ) Z (m env st) Q := by
  cases q : m env st with
  | ok d st' => rw [q] at h; exact fun Z' v H' l R' r => k d st' Z' v H' l R' r (PostS.up l h)
  | exc c ns ds st' => rw [q] at h; exact fun Z' H' x l R' r => h Z' σ H' x l R' (S.up l) r
  | stuck => rw [q] at h; exact h
theorem pS_par {i j : Nat} {x y : Str} {px py pt : Pos} {kt k2 pt2} (hc : X.calm = true) (hN : X.N.Nodup) (hi : X.N[i]? = some x) (hj : X.N[j]? = some y) (hij : i ≠ j)
    (hx : X.env.scope.names.lookup x = some .local) (hy : X.env.scope.names.lookup y = some .local) (ha : PA X [a, b] (tSA K G W m))
    (hw : swappedStores [.Tuple [.Name x px, .Name y py] kt pt] (.Tuple [a, b] k2 pt2) X.env = pure (some [x, y]))
    (hs : swapsWithSole [.Tuple [.Name x px, .Name y py] kt pt] (.Tuple [a, b] k2 pt2) pos.line X.env = pure false := by rfl) :
    PS X (.Assign [.Tuple [.Name x px, .Name y py] kt pt] (.Tuple [a, b] k2 pt2) pos) (tSS K G W (mPar [i, j] m)) :=
  ps_of (ps_par (pos := pos) hc hN hi hj hij hx hy ha hw hs) fun Dn σ H ⟨Z, env, st, R, S, h⟩ => ⟨Z, env, st, R, S, post_args (f := fun ds st' => if ds.length = [i, j].length then .nx (putAll [i, j] ds env) st' else .stuck) S h fun ds st' Z' vs H' l R' r q => by
    split at q
    · rename_i hl
      match ds, hl, r with
      | [d, e], _, ⟨v, _, e1, p1, ⟨u, _, e2, p2, e3⟩⟩ =>
        subst e1; subst e2; cases (show _ = [] from e3)
        exact ⟨v, u, rfl, q Z' _ H' (Gh.le.refl _) R' (RepE.set p2 j (RepE.set p1 i (S.up l)))⟩
    · exact q.elim⟩
theorem pS_par3 {i j l : Nat} {x y z : Str} {px py pz pt : Pos} {kt k2 pt2} (hc : X.calm = true) (hN : X.N.Nodup) (hi : X.N[i]? = some x) (hj : X.N[j]? = some y) (hl : X.N[l]? = some z) (hij : i ≠ j) (hil : i ≠ l) (hjl : j ≠ l)
    (hx : X.env.scope.names.lookup x = some .local) (hy : X.env.scope.names.lookup y = some .local) (hz : X.env.scope.names.lookup z = some .local) (ha : PA X [a, b, c] (tSA K G W m))
    (hw : swappedStores [.Tuple [.Name x px, .Name y py, .Name z pz] kt pt] (.Tuple [a, b, c] k2 pt2) X.env = pure (some [x, y, z]))
    (hs : swapsWithSole [.Tuple [.Name x px, .Name y py, .Name z pz] kt pt] (.Tuple [a, b, c] k2 pt2) pos.line X.env = pure false := by rfl) :
    PS X (.Assign [.Tuple [.Name x px, .Name y py, .Name z pz] kt pt] (.Tuple [a, b, c] k2 pt2) pos) (tSS K G W (mPar [i, j, l] m)) :=
  ps_of (ps_par3 (pos := pos) hc hN hi hj hl hij hil hjl hx hy hz ha hw hs) fun Dn σ H ⟨Z, env, st, R, S, h⟩ => ⟨Z, env, st, R, S, post_args (f := fun ds st' => if ds.length = [i, j, l].length then .nx (putAll [i, j, l] ds env) st' else .stuck) S h fun ds st' Z' vs H' l' R' r q => by
    split at q
    · rename_i hl
      match ds, hl, r with
      | [d, e, f], _, ⟨v, _, e1, p1, ⟨u, _, e2, p2, ⟨w, _, e3, p3, e4⟩⟩⟩ =>
        subst e1; subst e2; subst e3; cases (show _ = [] from e4)
        exact ⟨v, u, w, rfl, q Z' _ H' (Gh.le.refl _) R' (RepE.set p3 l (RepE.set p2 j (RepE.set p1 i (S.up l'))))⟩
    · exact q.elim⟩
end
end S
/-! plain laws of comprehensions -/
namespace S
open PySem L2
inductive All2 {α β : Type} (P : α → β → Prop) : List α → List β → Prop
  | nil : All2 P [] []
  | cons {a b as bs} : P a b → All2 P as bs → All2 P (a :: as) (b :: bs)
theorem All2.length {α β : Type} {P : α → β → Prop} {as : List α} {bs : List β} (h : All2 P as bs) : as.length = bs.length := by
  induction h with
  | nil => rfl
  | cons _ _ ih => simp [ih]
/-- nothing changes -/
theorem lc_pure {t : Tg} {vs : List Nat} {mt : MB} {me : M} (g : D → Option D) {env : Env} {st : Sto} : ∀ {ds acc : List D}, acc.length + ds.length ≤ sizeLine →
    (∀ d ∈ ds, ∃ env1 b, t.at d (wipeE env vs) st = some env1 ∧ mt env1 st = .ok b st ∧ (b = true → ∃ y, me env1 st = .ok y st ∧ g d = some y) ∧ (b = false → g d = none)) →
    mLcGo t vs mt me ds env st acc = .ok (acc ++ ds.filterMap g) st
  | [], acc, _, _ => by simp [mLcGo]
  | d :: ds, acc, hl, h => by
    obtain ⟨env1, b, e1, e2, h1, h2⟩ := h d (.head _)
    have hl' : acc.length < sizeLine := by simp at hl; omega
    cases b with
    | true =>
      obtain ⟨y, e3, e4⟩ := h1 rfl
      have ih := lc_pure (t := t) (vs := vs) (mt := mt) (me := me) g (env := env) (st := st) (ds := ds) (acc := acc ++ [y]) (by simp at hl ⊢; omega) fun d' m => h d' (.tail _ m)
      unfold mLcGo
      simp [e1, e2, R.only, e3, hl', ih, e4]
    | false =>
      have ih := lc_pure (t := t) (vs := vs) (mt := mt) (me := me) g (env := env) (st := st) (ds := ds) (acc := acc) (by simp at hl ⊢; omega) fun d' m => h d' (.tail _ m)
      unfold mLcGo
      simp [e1, e2, R.only, ih, h2 rfl]
/-- one thing for each, with an invariant of the store -/
theorem lc_inv {t : Tg} {vs : List Nat} {mt : MB} {me : M} (I : Sto → Prop) (P : D → D → Prop) {env : Env} : ∀ {ds acc : List D} {st : Sto}, acc.length + ds.length ≤ sizeLine → I st →
    (∀ d ∈ ds, ∀ st, I st → ∃ env1 y st2, t.at d (wipeE env vs) st = some env1 ∧ mt env1 st = .ok true st ∧ me env1 st = .ok y st2 ∧ I st2 ∧ P d y) →
    ∃ ys st', mLcGo t vs mt me ds env st acc = .ok (acc ++ ys) st' ∧ I st' ∧ All2 P ds ys
  | [], acc, st, _, h0, _ => ⟨[], st, by simp [mLcGo], h0, .nil⟩
  | d :: ds, acc, st, hl, h0, h => by
    obtain ⟨env1, y, st2, e1, e2, e3, h2, p⟩ := h d (.head _) st h0
    have hl' : acc.length < sizeLine := by simp at hl; omega
    obtain ⟨ys, st', e4, h4, q⟩ := lc_inv (t := t) (vs := vs) (mt := mt) (me := me) I P (env := env) (ds := ds) (acc := acc ++ [y]) (st := st2) (by simp at hl ⊢; omega) h2 fun d' m => h d' (.tail _ m)
    refine ⟨y :: ys, st', ?_, h4, .cons p q⟩
    unfold mLcGo
    simp [e1, e2, R.only, e3, hl', e4]
/-- nothing changes; of what is found only a property is wanted -/
theorem lc_ex {t : Tg} {vs : List Nat} {mt : MB} {me : M} (P : D → Prop) {env : Env} {st : Sto} : ∀ {ds acc : List D}, acc.length + ds.length ≤ sizeLine →
    (∀ d ∈ ds, ∃ env1 b, t.at d (wipeE env vs) st = some env1 ∧ mt env1 st = .ok b st ∧ (b = true → ∃ y, me env1 st = .ok y st ∧ P y)) →
    ∃ ys, mLcGo t vs mt me ds env st acc = .ok (acc ++ ys) st ∧ ys.length ≤ ds.length ∧ ∀ y ∈ ys, P y
  | [], acc, _, _ => ⟨[], by simp [mLcGo], by simp, by simp⟩
  | d :: ds, acc, hl, h => by
    obtain ⟨env1, b, e1, e2, h1⟩ := h d (.head _)
    have hl' : acc.length < sizeLine := by simp at hl; omega
    cases b with
    | true =>
      obtain ⟨y, e3, p⟩ := h1 rfl
      obtain ⟨ys, e4, l4, q⟩ := lc_ex (t := t) (vs := vs) (mt := mt) (me := me) P (env := env) (st := st) (ds := ds) (acc := acc ++ [y]) (by simp at hl ⊢; omega) fun d' m => h d' (.tail _ m)
      refine ⟨y :: ys, ?_, by simp; omega, fun z hz => ?_⟩
      · unfold mLcGo
        simp [e1, e2, R.only, e3, hl', e4]
      · rcases List.mem_cons.mp hz with rfl | hz
        · exact p
        · exact q z hz
    | false =>
      obtain ⟨ys, e4, l4, q⟩ := lc_ex (t := t) (vs := vs) (mt := mt) (me := me) P (env := env) (st := st) (ds := ds) (acc := acc) (by simp at hl ⊢; omega) fun d' m => h d' (.tail _ m)
      refine ⟨ys, ?_, by simp; omega, q⟩
      unfold mLcGo
      simp [e1, e2, R.only, e4]
theorem ints_of : ∀ {ys : List D}, (∀ y ∈ ys, ∃ i : Int, y = .int i) → ∃ cs : List Int, ys = cs.map D.int
  | [], _ => ⟨[], rfl⟩
  | y :: ys, h => by
    obtain ⟨i, rfl⟩ := h y (.head _)
    obtain ⟨cs, rfl⟩ := ints_of fun z hz => h z (.tail _ hz)
    exact ⟨i :: cs, rfl⟩
/-- texts that are written out -/
theorem str_eq (a b : String) : (Str.ofString a = Str.ofString b) = (a = b) := by
  apply propext
  constructor
  · intro h
    rw [Str.ofString_eq_toList, Str.ofString_eq_toList] at h
    have h1 : a.toList.map Char.toNat = b.toList.map Char.toNat := by
      injection h with h
      exact congrArg Array.toList h
    have inj : ∀ (xs ys : List Char), xs.map Char.toNat = ys.map Char.toNat → xs = ys := by
      intro xs
      induction xs with
      | nil => intro ys h; cases ys with
        | nil => rfl
        | cons _ _ => cases h
      | cons x xs ih => intro ys h; cases ys with
        | nil => cases h
        | cons y ys =>
          rw [List.map_cons, List.map_cons] at h
          injection h with h1 h2
          rw [ih ys h2, Char.toNat_inj.mp h1]
    exact String.toList_inj.mp (inj _ _ h1)
  · intro h; rw [h]
end S
/-! plain laws of calls -/
namespace S
open PySem L2
theorem below_np {n : Nat} {d : D} (h : below 0 d = true) : ∀ i, d ≠ .ptr i := fun i e => by
  subst e
  unfold below at h
  simp at h
theorem frz_np {d : D} {st : Sto} (h : ∀ i, d ≠ .ptr i) : dFrz d st = .ok d st := by
  cases d with
  | ptr i => exact absurd rfl (h i)
  | _ => rfl
/-- a call in which nothing takes part that may change -/
theorem call_rt {n : Nat} {ms : MS} {ds : List D} {st st' : Sto} {d : D} (hb : belowL 0 ds = true) (h : ms (ds.map some ++ List.replicate (n - ds.length) none) [] = .rt d st') (hd : below 0 d = true) : pur (mFun true n ms) ds st = .ok d st := by
  have e : mFun true n ms ds [] = .ok d [] := by
    unfold mFun
    rw [h]
    dsimp only
    rw [if_pos rfl, frz_np (below_np (n := 0) hd)]
    show gc 0 d st' = _
    unfold gc
    rw [hd]
    rfl
  unfold pur
  rw [if_pos hb, e]
  dsimp only
  rw [if_pos hd]
theorem call_nx {n : Nat} {ms : MS} {ds : List D} {st st' : Sto} {env : Env} (hb : belowL 0 ds = true) (h : ms (ds.map some ++ List.replicate (n - ds.length) none) [] = .nx env st') : pur (mFun true n ms) ds st = .ok .non st := by
  have e : mFun true n ms ds [] = .ok .non [] := by
    unfold mFun
    rw [h]
    rfl
  unfold pur
  rw [if_pos hb, e]
  rfl
theorem call_exc {n c : Nat} {ns : List Str} {es : List D} {ms : MS} {ds : List D} {st st' : Sto} {env : Env} (hb : belowL 0 ds = true) (h : ms (ds.map some ++ List.replicate (n - ds.length) none) [] = .exc env c ns es st') (he : belowL 0 es = true) : pur (mFun true n ms) ds st = .exc c ns es st := by
  have e : mFun true n ms ds [] = .exc c ns es [] := by
    unfold mFun
    rw [h]
    show gcX 0 c ns es st' = _
    unfold gcX
    rw [he]
    rfl
  unfold pur
  rw [if_pos hb, e]
  dsimp only
  rw [if_pos he]
/-- a call in which something takes part that may change -/
theorem call_at {n : Nat} {ms : MS} {ds : List D} {st st' : Sto} {d : D} (hb : belowL 0 ds = false) (h : ms (ds.map some ++ List.replicate (n - ds.length) none) st = .rt d st') (hd : ∀ i, d ≠ .ptr i) : pur (mFun true n ms) ds st = gc st.length d st' := by
  unfold pur
  rw [hb, if_neg (by decide)]
  unfold mFun
  rw [h]
  dsimp only
  rw [if_pos rfl, frz_np hd]
  rfl
theorem pur_ok {f : List D → Sto → R D} {ds : List D} {st st' : Sto} {d : D} (hb : belowL 0 ds = true) (h : f ds [] = .ok d st') (hd : below 0 d = true) : pur f ds st = .ok d st := by
  unfold pur
  rw [if_pos hb, h]
  dsimp only
  rw [if_pos hd]
theorem pur_exc {f : List D → Sto → R D} {ds : List D} {st st' : Sto} {c : Nat} {ns : List Str} {es : List D} (hb : belowL 0 ds = true) (h : f ds [] = .exc c ns es st') (hd : belowL 0 es = true) : pur f ds st = .exc c ns es st := by
  unfold pur
  rw [if_pos hb, h]
  dsimp only
  rw [if_pos hd]
/-- nothing is promised -/
theorem fn_stuck {P : Program} {w : World} {K : PySem.W.Frag} {mg : Str → Option Value} {base : Heap} {CX : CXT} {k n : Nat} {f : Addr} {fd : FuncData} {ps : List Str} {G : Nat → Addr} : FnOk P w K mg base CX k f fd ps (spS K G n fun _ _ => .stuck) :=
  ⟨fun _ _ _ _ ⟨_, _, _, _, _, _, h⟩ => h.elim, fun _ _ _ _ _ _ _ _ _ _ _ _ _ ⟨_, _, _, _, _, _, h⟩ => h.elim⟩
end S
namespace L2
open PySem PySem.Spec PyProof.Rows
/-! ### texts: repetition -/
def repS (z : Str) (n : Nat) : Str := ⟨(List.replicate n z.cps).foldl (· ++ ·) #[]⟩
def rRepS : R2 := fun x y H Q => ∃ (z : Str) (k : Int), x = .str z ∧ y = .int k ∧ 0 ≤ k ∧ k ≤ 1000 ∧ 1 ≤ z.length ∧ z.length ≤ 1000 ∧ Q (.str (repS z k.toNat)) H
theorem rd_repS {z : Str} {k : Int} {H : Hp} {Q : VK} (h0 : 0 ≤ k) (h1 : k ≤ 1000) (h2 : 1 ≤ z.length) (h3 : z.length ≤ 1000) (h : Q (.str (repS z k.toNat)) H) : rRepS (.str z) (.int k) H Q := ⟨z, k, rfl, rfl, h0, h1, h2, h3, h⟩
section
variable {X : Cx}
theorem op_repS : OpR X (binaryOp .Mult) rRepS := by
  intro pins s σ H x y v u Q I rx ry h
  obtain ⟨z, k, rfl, rfl, h0, h1, h2, h3, q⟩ := h
  obtain ⟨t, rfl⟩ := rx
  obtain ⟨t2, rfl⟩ := ry
  have hm : z.length * k.toNat ≤ 1000 * 1000 := Nat.mul_le_mul h3 (by omega)
  refine P.mul_str ?_ (fun a b => ?_) (fun a b => ?_) ?_
  · rw [decide_eq_false (by omega), decide_eq_false (by omega)]
    rfl
  · intro c
    have : (1000 : Int) ≤ (2 ^ 63 - 1) / k := by
      rw [Int.le_ediv_iff_mul_le (by omega)]
      omega
    omega
  · unfold Builtin.Str.tooLong
    have e : (1000 * 1000 : Nat) ≤ sizeLine := by decide
    first | exact decide_eq_false (by omega) | (simp; omega)
  · by_cases c : k < 1
    · have e : k = 0 := by omega
      subst e
      rw [if_pos (by decide)]
      exact ⟨by decide, .str _, H, I.tok _, ⟨_, rfl⟩, q⟩
    · rw [if_neg c]
      by_cases c2 : (k == 1 || z.length == 0) = true
      · have e : k = 1 := by
          simp only [Bool.or_eq_true, beq_iff_eq] at c2
          omega
        subst e
        rw [if_pos c2]
        have ez : repS z (1 : Int).toNat = z := by
          show (⟨#[] ++ z.cps⟩ : Str) = z
          rw [Array.empty_append]
        rw [ez] at q
        exact ⟨.str z, H, I, ⟨t, rfl⟩, q⟩
      · rw [if_neg c2]
        refine ⟨?_, .str _, H, I.tok _, ⟨_, rfl⟩, q⟩
        have len : ∀ (n : Nat) (acc : Array Nat), ((List.replicate n z.cps).foldl (· ++ ·) acc).size = acc.size + n * z.cps.size := by
          intro n
          induction n with
          | zero => intro acc; simp
          | succ n ih =>
            intro acc
            rw [List.replicate_succ, List.foldl_cons, ih, Array.size_append, Nat.add_mul]
            omega
        show ((List.replicate k.toNat z.cps).foldl (· ++ ·) #[]).size ≤ sizeLine
        rw [len]
        have e : (1000 * 1000 : Nat) ≤ sizeLine := by decide
        have e2 : k.toNat * z.cps.size = z.length * k.toNat := Nat.mul_comm ..
        simp
        omega
end
/-! ### data of texts -/
end L2
/-! list.pop(i), texts repeated, dict(pairs) -/
namespace S
open PySem L2
/-- l.pop(i) -/
def dPopAt (a : D) (as : List D) (st : Sto) : R D := match a, as with
  | .ptr i, [.int k] => (match st[i]? with
    | some (.lst xs) => if 0 ≤ k ∧ k < 1000000 then (match xs[k.toNat]? with
      | some d => .ok d (st.set i (.lst (xs.eraseIdx k.toNat)))
      | none => .stuck) else .stuck
    | _ => .stuck)
  | _, _ => .stuck
/-- texts are repeated, numbers multiplied -/
def dMulX (a b : D) (st : Sto) : R D := match a, b with
  | .str z, .int k => if 0 ≤ k ∧ k ≤ 1000 ∧ 1 ≤ z.length ∧ z.length ≤ 1000 then .ok (.str (repS z k.toNat)) st else .stuck
  | a, b => dMul a b st
def pairsD : List D → Option (List (Key × D))
  | [] => some []
  | .tup [k, v] :: r => (match kOf k, pairsD r with
    | some k, some ps => some ((k, v) :: ps)
    | _, _ => none)
  | _ => none
def foldK : List (Key × D) → List Key → List D → List Key × List D
  | [], ks, ds => (ks, ds)
  | (k, v) :: r, ks, ds => foldK r (putKs k ks) (putKd k v ks ds)
/-- dict([(k, v), ..]) -/
def dDictP (as : List D) (st : Sto) : R D := match as with
  | [.lst xs] => (match pairsD xs with
    | some ps => .ok (.dct (foldK ps [] []).1 (foldK ps [] []).2) st
    | none => .stuck)
  | _ => .stuck
section
variable {K : PySem.W.Frag} {G : Nat → Addr} {Z : Gh} {X : Cx}
theorem RepL.erase : ∀ {ds : List D} {vs : List V} (k : Nat), RepL K G Z ds vs → RepL K G Z (ds.eraseIdx k) (vs.eraseIdx k)
  | [], _, _, h => by cases (show _ = _ from h); exact rfl
  | d :: ds, _, 0, ⟨v, t, e, p, q⟩ => by subst e; exact q
  | d :: ds, _, k + 1, ⟨v, t, e, p, q⟩ => by subst e; exact ⟨v, _, rfl, p, RepL.erase k q⟩
theorem ad_popAt : AdM K G dPopAt rPopAt := by
  intro E Z H st a as x xs Q R p r h
  unfold dPopAt at h
  split at h
  · rename_i i k
    obtain ⟨l, hl, rfl⟩ := p
    obtain ⟨y, rfl, ry⟩ := RepL.one r
    cases (show y = .int k from ry)
    split at h
    · rename_i ys e1
      split at h
      · rename_i hk
        split at h
        · rename_i d e2
          obtain ⟨vs, h1, h2⟩ := R.cell _ _ _ e1 hl
          obtain ⟨v, h3, h4⟩ := RepL.at h2 e2
          have lt : k.toNat < vs.length := (List.getElem?_eq_some_iff.mp h3).1
          refine ⟨l, vs, k, k.toNat, v, rfl, rfl, h1, by omega, by omega, ?_, h3, ?_⟩
          · have e : ixN vs.length k = some k.toNat := by
              unfold ixN
              rw [if_pos hk.1, if_pos (by omega)]
            exact (ixN_seq e).1
          · exact Post.now (P := rD K G) h (R.put e1 rfl hl ⟨_, upd_same, h2.erase _⟩) h4
        · exact h.elim
      · exact h.elim
    · exact h.elim
  · exact h.elim
theorem op_mulX : OpR X (binaryOp .Mult) (fun x y H Q => L2.rI CMul (fun i j => V.int (i * j)) x y H Q ∨ rRepS x y H Q) := S.OpR.or op_mul op_repS
theorem ad_mulX : Ad2 K G dMulX (fun x y H Q => L2.rI CMul (fun i j => V.int (i * j)) x y H Q ∨ rRepS x y H Q) := fun E Z H st a b x y Q R p q h => by
  unfold dMulX at h
  split at h
  · rename_i z k
    split at h
    · rename_i hk
      cases (show x = .str z from p)
      cases (show y = .int k from q)
      exact .inr ⟨z, k, rfl, rfl, hk.1, hk.2.1, hk.2.2.1, hk.2.2.2, Post.now (P := rD K G) h R rfl⟩
    · exact h.elim
  · exact .inl (ad_mul E Z H st _ _ x y Q R p q h)
theorem pairs_rep {H : Hp} {st : Sto} (R : RelH K G Z H st) : ∀ {xs : List D} {vs : List V} {ps : List (Key × D)}, RepL K G Z xs vs → pairsD xs = some ps → ∃ (as : List Addr) (kvs : List (Key × V)), vs = as.map V.ref ∧ Paired (fun p kv => SqT K H p [kV kv.1, kv.2]) as kvs ∧ All2 (fun (a : Key × D) (b : Key × V) => a.1 = b.1 ∧ Rep K G Z a.2 b.2) ps kvs
  | [], _, _, h, e => by
    cases (show _ = _ from h)
    cases (show some [] = some _ from e)
    exact ⟨[], [], rfl, .nil, .nil⟩
  | d :: xs, _, ps, ⟨v, t, e1, p, q⟩, e => by
    subst e1
    unfold pairsD at e
    split at e
    · rename_i heq; cases heq
    · rename_i k u r heq
      cases heq
      split at e
      · rename_i k' ps' hk hp
        cases e
        obtain ⟨as, kvs, rfl, h1, h2⟩ := pairs_rep R q hp
        obtain ⟨a, vs', rfl, hs, r2⟩ := p
        obtain ⟨x, y, rfl, rx, ry⟩ := RepL.two r2
        have ex := kOf_rep hk rx
        subst ex
        exact ⟨a :: as, (k', y) :: kvs, rfl, .cons (Same.sqt' R.fz hs) h1, .cons ⟨rfl, ry⟩ h2⟩
      · cases e
    · cases e
theorem fold_rep : ∀ {ps : List (Key × D)} {kvs : List (Key × V)} {ks : List Key} {ds : List D} {vs : List V}, All2 (fun (a : Key × D) (b : Key × V) => a.1 = b.1 ∧ Rep K G Z a.2 b.2) ps kvs → ks.length = vs.length → RepL K G Z ds vs →
    ∃ us, mergeK (ks.zip vs) kvs = (foldK ps ks ds).1.zip us ∧ (foldK ps ks ds).1.length = us.length ∧ RepL K G Z (foldK ps ks ds).2 us
  | _, _, ks, ds, vs, .nil, hl, r => ⟨vs, rfl, hl, r⟩
  | (k, d) :: ps, (k', v) :: kvs, ks, ds, vs, .cons ⟨e, p⟩ q, hl, r => by
    cases (show k = k' from e)
    obtain ⟨z1, z2⟩ := putK_zip (k := k) (v := v) hl
    obtain ⟨us, h1, h2, h3⟩ := fold_rep q z2 (RepL.putKd (k := k) p (ks := ks) r)
    refine ⟨us, Eq.trans ?_ h1, h2, h3⟩
    unfold mergeK
    rw [List.foldl_cons, z1]
theorem ad_dictP : AdL K G dDictP (fun xs H Q => ∃ (a : Addr) (ps : List Addr) (kvs : List (Key × V)), xs = [.ref a] ∧ SqL K H a (ps.map V.ref) ∧ Paired (fun p kv => SqT K H p [kV kv.1, kv.2]) ps kvs ∧ ∀ p, H p = none → Q (.ref p) (upd H p (.dK (mergeK [] kvs)))) := by
  intro E Z H st as xs Q R r h
  unfold dDictP at h
  split at h
  · rename_i ys
    obtain ⟨x, rfl, p⟩ := RepL.one r
    split at h
    · rename_i ps e1
      obtain ⟨a, vs, rfl, hs, rl⟩ := p
      obtain ⟨as, kvs, rfl, h1, h2⟩ := pairs_rep R rl e1
      refine ⟨a, as, kvs, rfl, SqL.of (R.fz _ _ hs), h1, fun q hq => ?_⟩
      obtain ⟨us, z1, z2, z3⟩ := fold_rep (ks := []) (ds := []) (vs := []) h2 rfl rfl
      rw [List.zip_nil_left] at z1
      rw [z1]
      obtain ⟨l, R2⟩ := R.lay (o := .dK ((foldK ps [] []).1.zip us)) hq
      exact h _ _ _ l R2 ⟨q, us, rfl, upd_same, z2, RepL.up l _ _ z3⟩
    · exact h.elim
  · exact h.elim
end
end S
/-! plain laws of instances that are made -/
namespace S
open PySem L2
theorem belowL_at {n : Nat} {i : Nat} : ∀ {ds : List D}, D.ptr i ∈ ds → ¬ i < n → belowL n ds = false
  | [], h, _ => by simp at h
  | d :: ds, h, hn => by
    unfold belowL
    rcases List.mem_cons.mp h with e | h
    · subst e; simp [below, hn]
    · rw [belowL_at h hn, Bool.and_false]
section
variable {c n N : Nat} {ms : MS} {ds es : List D} {ns : List Str} {st : Sto} {env : Env}
theorem new_at (hn : (D.ptr 0 :: ds).length = n) (h : ms ((D.ptr 0 :: ds).map some ++ List.replicate (N - (D.ptr 0 :: ds).length) none) [.ins c [] []] = .nx env [.ins c ns es]) (he : belowL 0 es = true) : dNewF c n (pur (mFun true N ms)) ds [] = .ok (.ins c ns es) [] := by
  have hb : belowL 0 (D.ptr 0 :: ds) = false := belowL_at (.head _) (by omega)
  have f : pur (mFun true N ms) (D.ptr 0 :: ds) [.ins c [] []] = .ok .non [.ins c ns es] := by
    unfold pur
    rw [hb, if_neg (by decide)]
    unfold mFun
    rw [h]
    show gc 1 .non [.ins c ns es] = _
    unfold gc
    split <;> rfl
  unfold dNewF dNew
  show R.bind (if (D.ptr 0 :: ds).length = n then (pur (mFun true N ms) (D.ptr 0 :: ds) [.ins c [] []]).bind _ else .stuck) _ = _
  rw [if_pos hn, f]
  show gc 0 (.ins c ns es) [.dead] = _
  unfold gc
  rw [show below 0 (.ins c ns es) = true from he]
  rfl
theorem new_nx (hb : belowL 0 ds = true) (hn : (D.ptr 0 :: ds).length = n) (h : ms ((D.ptr 0 :: ds).map some ++ List.replicate (N - (D.ptr 0 :: ds).length) none) [.ins c [] []] = .nx env [.ins c ns es]) (he : belowL 0 es = true) : pur (dNewF c n (pur (mFun true N ms))) ds st = .ok (.ins c ns es) st :=
  pur_ok hb (new_at hn h he) he
theorem new_exc {c' : Nat} {xs : List Str} {ys : List D} {cs : Sto} (hb : belowL 0 ds = true) (hn : (D.ptr 0 :: ds).length = n) (h : ms ((D.ptr 0 :: ds).map some ++ List.replicate (N - (D.ptr 0 :: ds).length) none) [.ins c [] []] = .exc env c' xs ys cs) (he : belowL 0 ys = true) (hy : belowL 1 ys = true) : pur (dNewF c n (pur (mFun true N ms))) ds st = .exc c' xs ys st := by
  have hb' : belowL 0 (D.ptr 0 :: ds) = false := belowL_at (.head _) (by omega)
  have f : ∃ cs', pur (mFun true N ms) (D.ptr 0 :: ds) [.ins c [] []] = .exc c' xs ys cs' := by
    unfold pur
    rw [hb', if_neg (by decide)]
    unfold mFun
    rw [h]
    show ∃ cs', gcX 1 c' xs ys cs = _
    unfold gcX
    split
    · exact ⟨_, rfl⟩
    · exact ⟨_, rfl⟩
  obtain ⟨cs', f⟩ := f
  refine pur_exc (st' := cs') hb ?_ he
  unfold dNewF dNew
  show R.bind (if (D.ptr 0 :: ds).length = n then (pur (mFun true N ms) (D.ptr 0 :: ds) [.ins c [] []]).bind _ else .stuck) _ = _
  rw [if_pos hn, f]
  rfl
end
theorem str_len (a b : Str) : (a ++ b).length = a.length + b.length := by
  show (a.cps ++ b.cps).size = a.cps.size + b.cps.size
  rw [Array.size_append]
/-- an f-string of texts -/
theorem js_ok {env : Env} {st : Sto} : ∀ {ms : List M} {ys : List Str} {acc : Str}, All2 (fun m y => m env st = .ok (.str y) st) ms ys → acc.length + (ys.map (·.length)).sum ≤ sizeLine → mJs ms acc env st = .ok (.str (ys.foldl (· ++ ·) acc)) st
  | _, _, acc, .nil, _ => rfl
  | _, _, acc, .cons (a := m) (b := y) (as := ms) (bs := ys) h q, hl => by
    simp only [List.map_cons, List.sum_cons] at hl
    have ih := js_ok (acc := acc ++ y) q (by rw [str_len]; omega)
    unfold mJs
    rw [h]
    show (if (acc ++ y).length ≤ sizeLine then mJs ms (acc ++ y) env st else .stuck) = _
    rw [if_pos (by rw [str_len]; omega), ih]
    rfl
/-- one thing for each of range(n), nothing changes -/
theorem lc_range {t : Tg} {vs : List Nat} {mt : MB} {me : M} (f : Nat → D) {env : Env} {st : Sto} {n : Nat} (hn : n ≤ 100000) (h : ∀ k, k < n → ∃ env1, t.at (.int (k : Nat)) (wipeE env vs) st = some env1 ∧ mt env1 st = .ok true st ∧ me env1 st = .ok (f k) st) :
    mLcGo t vs mt me (rangeD 0 n) env st [] = .ok ((List.range n).map f) st := by
  have e := lc_pure (t := t) (vs := vs) (mt := mt) (me := me) (fun d => match d with | .int k => some (f k.toNat) | _ => none) (env := env) (st := st) (ds := rangeD 0 n) (acc := []) (by rw [sizeLine_eq]; simp [rangeD]; omega) fun d hd => by
    obtain ⟨k, hk, rfl⟩ := List.mem_map.mp hd
    obtain ⟨env1, h1, h2, h3⟩ := h k (List.mem_range.mp hk)
    refine ⟨env1, true, by simpa using h1, h2, fun _ => ⟨f k, h3, by simp⟩, fun h => by cases h⟩
  rw [e, List.nil_append]
  unfold rangeD
  rw [List.filterMap_map]
  congr 1
  have : ∀ l : List Nat, l.filterMap ((fun d => match d with | D.int k => some (f k.toNat) | _ => none) ∘ fun (i : Nat) => D.int (0 + i)) = l.map f := fun l => by
    induction l with
    | nil => rfl
    | cons k l ih => simp at ih ⊢; exact ih
  exact this _
theorem toPyL_of : ∀ {ys : List D} {n : Nat}, (∀ y ∈ ys, ∃ p, toPy y = some p ∧ p.canLay0 = true ∧ p.depth ≤ n) → ∃ ps, toPyL ys = some ps ∧ PyData.canLayAll0 ps = true ∧ PyData.depthAll ps ≤ n
  | [], n, _ => ⟨[], rfl, rfl, Nat.zero_le _⟩
  | y :: ys, n, h => by
    obtain ⟨p, h1, h2, h3⟩ := h y (.head _)
    obtain ⟨ps, h4, h5, h6⟩ := toPyL_of (n := n) fun z hz => h z (.tail _ hz)
    refine ⟨p :: ps, by unfold toPyL; rw [h1, h4]; rfl, by unfold PyData.canLayAll0; rw [h2, h5]; rfl, ?_⟩
    unfold PyData.depthAll
    exact Nat.max_le.mpr ⟨h3, h6⟩
/-! statements, step by step -/
section
variable {c : MB} {a b r : MS} {m : M} {d : D} {env env' : Env} {st st' : Sto} {i : Nat}
theorem if_t (h : c env st = .ok true st') : mIfS c a b env st = a env st' := by unfold mIfS; rw [h]; rfl
theorem if_f (h : c env st = .ok false st') : mIfS c a b env st = b env st' := by unfold mIfS; rw [h]; rfl
theorem seq_nx (h : a env st = .nx env' st') : mSeq a r env st = r env' st' := by unfold mSeq; rw [h]
theorem seq_rt (h : a env st = .rt d st') : mSeq a r env st = .rt d st' := by unfold mSeq; rw [h]
theorem ret_ok (h : m env st = .ok d st') : mRet m env st = .rt d st' := by unfold mRet; rw [h]
theorem set_ok (h : m env st = .ok d st') : mSet i m env st = .nx (env.set i (some d)) st' := by unfold mSet; rw [h]
theorem do_ok (h : m env st = .ok d st') : mDo m env st = .nx env st' := by unfold mDo; rw [h]
theorem seq_if_rt {st2 : Sto} (h : c env st = .ok true st') (h' : a env st' = .rt d st2) : mSeq (mIfS c a b) r env st = .rt d st2 := seq_rt (by rw [if_t h, h'])
theorem seq_if_f (h : c env st = .ok false st') : mSeq (mIfS c a mNext) r env st = r env st' := seq_nx (by rw [if_f h]; rfl)
end
section
variable {m n : M} {ma mb : MA} {d e : D} {ds : List D} {env : Env} {st st1 st2 : Sto} {k : Nat} {F f2 : List D → Sto → R D} {f : D → D → Sto → R D} {r : R D}
theorem cons_ok (h : m env st = .ok d st1) (h' : ma env st1 = .ok ds st2) : mCons m ma env st = .ok (d :: ds) st2 := by
  unfold mCons; rw [h]; show R.bind (ma env st1) _ = _; rw [h']; rfl
theorem nil_ok : mNil env st = .ok [] st := rfl
theorem call_ok (h : ma env st = .ok ds st1) (hl : ds.length = k) (hf : F ds st1 = r) : mCall k F [] ma env st = r := by
  unfold mCall; rw [h]; show (if (ds ++ []).length = k then F (ds ++ []) st1 else .stuck) = r
  rw [List.append_nil, if_pos hl, hf]
theorem bin_ok (h : m env st = .ok d st1) (h' : n env st1 = .ok e st2) : mBin f m n env st = f d e st2 := by
  unfold mBin; rw [h]; show R.bind (n env st1) _ = _; rw [h']; rfl
theorem app_ok (h : ma env st = .ok ds st1) : mApp F ma env st = F ds st1 := by
  unfold mApp; rw [h]; rfl
end
end S
/-! o[i], y = e (a pair) -/
namespace S
open PySem L2
def mAsgIx (mo mi : M) (j : Nat) (m : M) : MS := fun env st => match m env st with
  | .ok d st1 => (match d with
    | .tup [x, y] => (match (mo env st1).bind fun o st2 => (mi env st2).bind fun i st3 => dSetIx x o i st3 with
      | .ok _ st4 => .nx (env.set j (some y)) st4
      | .exc c ns ds st' => .exc env c ns ds st'
      | .stuck => .stuck)
    | _ => .stuck)
  | .exc c ns ds st' => .exc env c ns ds st'
  | .stuck => .stuck
theorem pS_asgIx {G : Nat → Addr} {W : WX} {X : Cx} {o i e : Expr} {p1 p2 pt pos : Pos} {kt j : Nat} {y : Str} {mo mi m : M} (hc : X.calm = true) (ho : PE X o (tS X.K G W mo)) (hi : PE X i (tS X.K G W mi)) (hN : X.N.Nodup) (hj : X.N[j]? = some y) (hy : Loc X.env.scope y) (hv : PE X e (tS X.K G W m))
    (hf : X.fn y = true ∨ X.env.scope.names.lookup y = some .local := by first | exact .inl rfl | exact .inr rfl | assumption)
    (hp : ∀ v : Value, assign (o.Subscript i p1) X.env v = (do
                let ov ← holding [v] (eval o X.env)
                let iv ← holding [v, ov] (eval i X.env)
                standAt p1
                holding [v, ov, iv] (setItem ov iv v)
                release [v, ov, iv] []) := by intro _; rfl)
    (hn : (assignEach [o.Subscript i p1, .Name y p2] X.env).length = 2 := by rfl) (hst : (assignEach [o.Subscript i p1, .Name y p2] X.env).findIdx? (·.1) = none := by rfl)
    (hs1 : (assignEach [o.Subscript i p1, .Name y p2] X.env).map (·.2) = assign (o.Subscript i p1) X.env :: (assignEach [.Name y p2] X.env).map (·.2) := by rfl) (hs2 : (assignEach [.Name y p2] X.env).map (·.2) = assign (.Name y p2) X.env :: (assignEach [] X.env).map (·.2) := by rfl)
    (h1 : swapsWithSole [.Tuple [o.Subscript i p1, .Name y p2] kt pt] e pos.line X.env = pure false := by rfl) (h2 : swappedStores [.Tuple [o.Subscript i p1, .Name y p2] kt pt] e X.env = pure none := by rfl)
    (h3 : List.map (fun x => x.snd) (assignEach [.Tuple [o.Subscript i p1, .Name y p2] kt pt] X.env) = [assign (.Tuple [o.Subscript i p1, .Name y p2] kt pt) X.env] := by rfl) :
    PS X (.Assign [.Tuple [o.Subscript i p1, .Name y p2] kt pt] e pos) (tSS X.K G W (mAsgIx mo mi j m)) :=
  ps_of (ps_asg hv (pg_tup hc (pgs_cons (pg_sub ho hi set_list hp) (pgs_cons (pg_name (i := j) hN hj hy hf) pgs_nil hs2) hs1) hn hst) h1 h2 h3) fun Dn σ H ⟨Z, env, st, R, S, h⟩ => by
    refine ⟨Z, env, st, R, S, ?_⟩
    unfold mAsgIx at h
    cases e1 : m env st with
    | ok d st1 =>
      rw [e1] at h
      intro Z1 v H1 l1 R1 p1
      dsimp only at h
      split at h
      · rename_i x y'
        obtain ⟨a, vs, rfl, hs, r⟩ := p1
        obtain ⟨u1, u2, rfl, r1, r2⟩ := RepL.two r
        refine ⟨a, [u1, u2], rfl, Same.sqt' R1.fz hs, rfl, ?_⟩
        have h' : Post X.K G (rD X.K G) (WE W σ) Z1 ((mo env st1).bind fun o st2 => (mi env st2).bind fun i st3 => dSetIx x o i st3) fun _ H' => Dn.nx (σ.set j (some u2)) H' := by
          have h := PostS.up l1 h
          cases e2 : (mo env st1).bind fun o st2 => (mi env st2).bind fun i st3 => dSetIx x o i st3 with
          | ok d' st4 => rw [e2] at h; exact fun Z' b H' l R' _ => h Z' _ H' l R' (RepE.set (Rep.up l y' u2 r2) j (S.up (l1.trans l)))
          | exc c ns ds st' => rw [e2] at h; exact fun Z' H' x l R' r => h Z' σ H' x l R' (S.up (l1.trans l)) r
          | stuck => rw [e2] at h; exact h
        refine ⟨u1, [u2], rfl, Z1, env, st1, R1, S.up l1, h'.bind fun a st2 Z2 z H2 l2 R2 p2 q2 => ?_⟩
        refine ⟨Z2, env, st2, R2, S.up (l1.trans l2), q2.bind fun b st3 Z3 w H3 l3 R3 p3 q3 => ?_⟩
        unfold dSetIx at q3
        split at q3
        · obtain ⟨l, hl, rfl⟩ := p2
          cases (show w = _ from p3)
          split at q3
          · rename_i xs e3
            split at q3
            · rename_i k e4
              obtain ⟨us, h1, h2⟩ := R3.cell _ _ _ e3 (l3.at hl)
              refine ⟨l, us, _, k, rfl, rfl, h1, by rw [← h2.length]; exact e4, u2, [], rfl, ?_⟩
              refine ⟨rfl, ?_⟩
              exact Post.now (P := rD X.K G) (b := .non) q3 (R3.put e3 rfl (l3.at hl) ⟨_, upd_same, h2.set (Rep.up (l2.trans l3) x u1 r1) k⟩) rfl
            · exact q3.elim
          · exact q3.elim
        · exact q3.elim
      · exact h.elim
    | exc c ns ds st' => rw [e1] at h; exact fun Z' H' x l R' r => h Z' σ H' x l R' (S.up l) r
    | stuck => rw [e1] at h; exact h
end S
/-! d.update(e), two dicts -/
namespace S
open PySem L2
def rUpd : V → List V → Hp → VK → Prop := fun x vs H Q => ∃ a b kvs more, x = .ref a ∧ vs = [.ref b] ∧ H a = some (.dK kvs) ∧ H b = some (.dK more) ∧ a ≠ b ∧ kvs.length + more.length ≤ sizeLine ∧ Q .non (upd H a (.dK (mergeK kvs more)))
section
variable {X : Cx}
theorem mt_upd : MtR X "dict.update" rUpd := by
  intro pins s σ H x vs v us Q I rx rv h
  obtain ⟨a, b, kvs, more, rfl, rfl, ha, hb, ne, hz, q⟩ := h
  cases (show v = Value.ref a from rx)
  obtain ⟨u, rfl, ru⟩ := rv.one
  cases (show u = Value.ref b from ru)
  obtain ⟨z1, y1, vs1, r1, d1⟩ := dk_of I.hok ha
  obtain ⟨z2, y2, vs2, r2, d2⟩ := dk_of I.hok hb
  have l1 : vs1.length = kvs.length := r1.length.symm
  have l2 : vs2.length = more.length := r2.length.symm
  refine call_meetsIn F.slot_dict_update d1.typeIs F.entry_dict_update (F.args_dict_update_2 _ _) (meets_dict_update (mixKind X.prog X.w) a b ne y2) ⟨vs1, vs2, d1, d2, by omega, fun h' n1 n2 sb => ?_⟩
  obtain ⟨oa, _, _, ga, _⟩ := id n1
  have J := I.write (t' := s.toks) (x := a) (e := a) (o := .dK (mergeK kvs more)) (h' := h') (by rw [ha]; exact True.intro) (.inl rfl) (fun c o hc e => (sb.2 c hc).trans e) ⟨_, ga⟩ (dk_new (Nat.le_trans (length_mergeK more kvs) hz) y1 (KV.merge r2 r1) n1)
  exact ⟨.non, _, J, rfl, q⟩
end
def isDct (st : Sto) (d : D) : Bool := match rd st d with
  | .dct _ _ => true
  | _ => false
def mDm (f : D → List D → Sto → R D) (m : M) (n : MA) : M := fun env st => (m env st).bind fun a st1 => if isDct st1 a = true then (n env st1).bind fun as st2 => f a as st2 else .stuck
def zipK : List Key → List D → List (Key × D)
  | k :: ks, d :: ds => (k, d) :: zipK ks ds
  | _, _ => []
def dUpd (a : D) (as : List D) (st : Sto) : R D := match a, as with
  | .ptr i, [.dct js es] => (match st[i]? with
    | some (.dct ks ds) => if ks.length + js.length ≤ sizeLine then .ok .non (st.set i (.dct (foldK (zipK js es) ks ds).1 (foldK (zipK js es) ks ds).2)) else .stuck
    | _ => .stuck)
  | _, _ => .stuck
section
variable {K : PySem.W.Frag} {G : Nat → Addr} {W : WX} {X : Cx} {Z : Gh} {e : Expr} {m : M}
theorem zip_rep : ∀ {js : List Key} {es : List D} {us : List V}, js.length = us.length → RepL K G Z es us → All2 (fun (a : Key × D) (b : Key × V) => a.1 = b.1 ∧ Rep K G Z a.2 b.2) (zipK js es) (js.zip us)
  | [], _, us, h, _ => by cases us with
    | nil => exact .nil
    | cons _ _ => cases h
  | j :: js, [], us, h, r => by cases (show us = [] from r); cases h
  | j :: js, d :: es, _, h, ⟨v, t, e, p, q⟩ => by
    subst e
    exact .cons ⟨rfl, p⟩ (zip_rep (Nat.succ.inj h) q)
theorem ad_upd : AdM K G dUpd rUpd := by
  intro E Z H st a as x xs Q R p r h
  unfold dUpd at h
  split at h
  · rename_i i js es
    obtain ⟨l, hl, rfl⟩ := p
    obtain ⟨y, rfl, q⟩ := RepL.one r
    split at h
    · rename_i ks ds e1
      split at h
      · rename_i hz
        obtain ⟨vs, h1, h2, h3⟩ := R.cell _ _ _ e1 hl
        obtain ⟨b, us, rfl, h4, h5, h6⟩ := q
        have hb : Z.fz l = none := R.off _ _ _ e1 rfl hl
        have ne : l ≠ b := fun z => by rw [← z, hb] at h4; cases h4
        obtain ⟨ws, w1, w2, w3⟩ := fold_rep (zip_rep h5 h6) h2 h3
        refine ⟨l, b, ks.zip vs, js.zip us, rfl, rfl, h1, R.fz _ _ h4, ne, by rw [List.length_zip, List.length_zip]; omega, ?_⟩
        rw [w1]
        exact Post.now (P := rD K G) (b := .non) h (R.put e1 rfl hl ⟨ws, upd_same, w2, w3⟩) rfl
      · exact h.elim
    · exact h.elim
  · exact h.elim
theorem RelH.isDct {st : Sto} {H : Hp} {d : D} {v : V} (R : RelH K G Z H st) (r : Rep K G Z d v) (e : S.isDct st d = true) : tyV K "dict" v H := by
  unfold S.isDct at e
  split at e
  · rename_i q; obtain ⟨p, vs, rfl, h2, h3⟩ := R.dct r q; exact .inr (.inr (.inl ⟨rfl, .inl ⟨_, h2⟩⟩))
  · cases e
theorem rs_dm {f : D → List D → Sto → R D} {r : V → List V → Hp → VK → Prop} {n : MA} {σ : St} {H : Hp} {Q : VK} (hf : AdM K G f r) (h : tS K G W (mDm f m n) σ H Q) : tBM K "dict" r (tS K G W m) (tSA K G W n) σ H Q :=
  rs_bind (f := fun a env st1 => if isDct st1 a = true then (n env st1).bind fun as st2 => f a as st2 else .stuck) h fun a x H1 Z env st R S p q => by
    split at q
    · rename_i hc
      exact ⟨RelH.isDct R p hc, Z, env, st, R, S, q.bind fun as st' Z' xs H' l R' p' q' => hf _ Z' H' st' a as x xs Q R' (Rep.up l a x p) p' q'⟩
    · exact q.elim
theorem pS_dm {f : D → List D → Sto → R D} {r : V → List V → Hp → VK → Prop} {n : MA} (hf : AdM X.K G f r) (h : PE X e (tBM X.K "dict" r (tS X.K G W m) (tSA X.K G W n))) : PE X e (tS X.K G W (mDm f m n)) := pe_of h fun _ _ _ => rs_dm hf
end
end S
/-! len(obj) by a class's own __len__ -/
namespace S
open PySem L2
def rLenOwn (K : PySem.W.Frag) (g : Addr) (sp : Sp) (E : XK) : List V → Hp → VK → Prop := fun xs H Q => ∃ (a C dx : Addr) (fs : List (Str × V)), xs = [V.ref a] ∧ H a = some (.ins C dx fs) ∧ PySem.W.findIn K (.ref C) "__len__" = some (some (.ref g)) ∧ sp [.ref a] H (fun z H' => ∃ i : Int, z = .int i ∧ 0 ≤ i ∧ i < 2 ^ 63 ∧ Q (.int i) H') E
theorem call_lenOwn {X : Cx} {CX : CXT} {n : Nat} {g : Addr} {sp : Sp} {E : XK} (hf : PySem.W.isFn X.K (.ref g) = true) (F : FnR X.prog X.w X.K X.mg X.base CX n g sp) (hr : Room (n + 1) X.A) (hx : Passes CX X E) : CallR X (.builtin "len") (rLenOwn X.K g sp E) := by
  intro pins s σ H xs us Q I r h
  obtain ⟨a, C, dx, fs, rfl, ha, hs, q⟩ := h
  obtain ⟨u, rfl, ru⟩ := r.one
  cases (show u = Value.ref a from ru)
  obtain ⟨mA, O, _⟩ := ins_get I.hok ha
  obtain ⟨od, J, _⟩ := O.look
  have go := wpAny_call (SlX.run_at (us := [.ref a]) (ws := [.ref a]) F (Room.in1 hr) I.env0.in1 hx I (.cons rfl .nil) q)
  refine Calls.call_function_entry kind_len plain_len entry_len (args_len1 _) ?_
  unfold Builtin.«len»
  refine wpAny_bind (m := oneArg "len" _) (wpAny_pure (wpAny_bind (m := callSpecial? (.ref a) (Str.ofString "__len__")) (PySem.W.special_fn I.kIn J hs (beq_iff_eq.mp hf) (wpAny_mono go (fun w s' z => ?_) fun _ _ x => x))))
  obtain ⟨z', H', I', rz, i, e1, i0, i1, qz⟩ := z
  subst e1
  obtain ⟨tk, e2⟩ := (show ∃ tk, w = Value.int i tk from rz)
  subst e2
  refine wpAny_bind (wpAny_holding (wpAny_pure (wpAny_bind (wpAny_letGo ?_))))
  have c1 : ¬ i < 0 := by omega
  have c2 : ¬ i ≥ 2 ^ 63 := by omega
  show wpAny _ _ (if i < 0 then _ else if i ≥ 2 ^ 63 then _ else _) _ _ _
  rw [if_neg c1, if_neg c2]
  exact wpAny_bind (wpAny_mkInt (wpAny_pure ⟨_, rfl, .int i, H', I'.tok _, ⟨_, rfl⟩, qz⟩))
def dLenX (cs : List Nat) (F : List D → Sto → R D) (f : List D → Sto → R D) (as : List D) (st : Sto) : R D := match as with
  | [a] => (match rd st a with
    | .ins c _ _ => if cs.contains c = true then (F [a] st).bind fun d st1 => (match d with
      | .int i => if 0 ≤ i ∧ i < 2 ^ 63 then .ok d st1 else .stuck
      | _ => .stuck) else f as st
    | _ => f as st)
  | _ => f as st
section
variable {K : PySem.W.Frag} {G : Nat → Addr} {E : XK} {X : Cx} {cs : List Nat} {F : List D → Sto → R D} {g : Addr}
theorem ad_lenX {f : List D → Sto → R D} {r : List V → Hp → VK → Prop} (hc : ∀ c, cs.contains c = true → PySem.W.findIn K (.ref (G c)) "__len__" = some (some (.ref g))) (hf : AdLE K G E f r) : AdLE K G E (dLenX cs F f) (fun xs H Q => r xs H Q ∨ rLenOwn K g (spS K G 1 F) E xs H Q) := by
  intro Z H st as xs Q R p h
  unfold dLenX at h
  split at h
  · rename_i a
    split at h
    · rename_i c ns ds e1
      split at h
      · rename_i hcc
        obtain ⟨x, rfl, pa⟩ := RepL.one p
        obtain ⟨l, dx, vs, rfl, h1, hl, rl⟩ := R.ins pa e1
        refine .inr ⟨l, _, dx, _, rfl, h1, hc c hcc, rfl, Z, [a], st, R, ⟨_, _, rfl, pa, rfl⟩, h.bind fun d st' Z' z H' l' R' p' q' => ?_⟩
        cases d with
        | int i =>
          dsimp only at q'
          split at q'
          · rename_i hi
            exact ⟨i, p', hi.1, hi.2, Post.now (P := rD K G) q' R' rfl⟩
          · exact q'.elim
        | _ => exact q'.elim
      · exact .inl (hf Z H st _ xs Q R p h)
    · exact .inl (hf Z H st _ xs Q R p h)
  · exact .inl (hf Z H st _ xs Q R p h)
theorem pS_callBE {id : String} {x : Str} {p pos : Pos} {e : Expr} {es : List Expr} {f : List D → Sto → R D} {r : List V → Hp → VK → Prop} {m : MA} (hc : CallR X (.builtin id) r) (hf : AdLE X.K G E f r) (hg : Gl X x) (hm : X.mg x = none) (hv : bootBuiltins x = some (.builtin id)) (ha : PA X (e :: es) (tSA X.K G (wE E) m)) (hn : x ≠ "__name__" := by decide) (hdb : (x == ("__debug__" : Str)) = false := by decide)
    (he : starEach (e :: es) X.env = (false, eval e X.env) :: starEach es X.env := by rfl) (hpl : (backTo pos (starEach es X.env)).any (·.1) = false := by rfl) : PE X (.Call (.Name x p) (e :: es) [] pos) (tS X.K G (wE E) (mApp f m)) :=
  pe_of (pe_callB hc hg hm hv ha hn hdb he hpl) fun σ H Q h => rs_bind (f := fun as _ st1 => f as st1) h fun as xs H1 Z env st R S p q => hf Z H1 st as xs Q R p q
end
end S
/-! plain laws: comprehensions over lists of anything, instances by keywords, texts -/
namespace S
open PySem L2
section
variable {α : Type} {t : Tg} {vs : List Nat} {mt : MB} {me : M} {env : Env} {st : Sto}
theorem lc_map (h f : α → D) : ∀ {xs : List α} {acc : List D}, acc.length + xs.length ≤ sizeLine → (∀ a ∈ xs, ∃ env1, t.at (h a) (wipeE env vs) st = some env1 ∧ mt env1 st = .ok true st ∧ me env1 st = .ok (f a) st) → mLcGo t vs mt me (xs.map h) env st acc = .ok (acc ++ xs.map f) st
  | [], acc, _, _ => by simp [mLcGo]
  | a :: xs, acc, hl, H => by
    obtain ⟨env1, e1, e2, e3⟩ := H a (.head _)
    have hl' : acc.length < sizeLine := by simp at hl; omega
    have ih := lc_map h f (xs := xs) (acc := acc ++ [f a]) (by simp at hl ⊢; omega) fun b hb => H b (.tail _ hb)
    rw [List.map_cons]
    unfold mLcGo
    simp [e1, e2, R.only, e3, hl', ih]
theorem lc_filter (h f : α → D) (p : α → Bool) : ∀ {xs : List α} {acc : List D}, acc.length + xs.length ≤ sizeLine → (∀ a ∈ xs, ∃ env1, t.at (h a) (wipeE env vs) st = some env1 ∧ mt env1 st = .ok (p a) st ∧ (p a = true → me env1 st = .ok (f a) st)) → mLcGo t vs mt me (xs.map h) env st acc = .ok (acc ++ (xs.filter p).map f) st
  | [], acc, _, _ => by simp [mLcGo]
  | a :: xs, acc, hl, H => by
    obtain ⟨env1, e1, e2, e3⟩ := H a (.head _)
    have hl' : acc.length < sizeLine := by simp at hl; omega
    rw [List.map_cons]
    cases q : p a with
    | true =>
      have ih := lc_filter h f p (xs := xs) (acc := acc ++ [f a]) (by simp at hl ⊢; omega) fun b hb => H b (.tail _ hb)
      unfold mLcGo
      simp [e1, e2, R.only, e3 q, hl', ih, q]
    | false =>
      have ih := lc_filter h f p (xs := xs) (acc := acc) (by simp at hl ⊢; omega) fun b hb => H b (.tail _ hb)
      unfold mLcGo
      simp [e1, e2, R.only, ih, q]
variable {β : Type} {t1 : Tg} {vs1 : List Nat} {mi1 : MA} {mt1 : MB}
theorem lc2_map (h : α → D) (g : α → List β) (h1 f : β → D) : ∀ {xs : List α} {acc : List D}, acc.length + (xs.flatMap g).length ≤ sizeLine → (∀ a ∈ xs, ∃ env1, t.at (h a) (wipeE env vs) st = some env1 ∧ mt env1 st = .ok true st ∧ mi1 env1 st = .ok ((g a).map h1) st ∧
      ∀ b ∈ g a, ∃ env2, t1.at (h1 b) (wipeE env1 vs1) st = some env2 ∧ mt1 env2 st = .ok true st ∧ me env2 st = .ok (f b) st) →
    mLc2Go t vs mt t1 vs1 mi1 mt1 me (xs.map h) env st acc = .ok (acc ++ (xs.flatMap g).map f) st
  | [], acc, _, _ => by simp [mLc2Go]
  | a :: xs, acc, hl, H => by
    obtain ⟨env1, e1, e2, e3, e4⟩ := H a (.head _)
    rw [List.flatMap_cons, List.length_append] at hl
    have i1 := lc_map (t := t1) (vs := vs1) (mt := mt1) (me := me) (env := env1) (st := st) h1 f (xs := g a) (acc := acc) (by omega) e4
    have ih := lc2_map h g h1 f (xs := xs) (acc := acc ++ (g a).map f) (by rw [List.length_append, List.length_map]; omega) fun b hb => H b (.tail _ hb)
    rw [List.map_cons]
    unfold mLc2Go
    simp only [e1, e2, R.only, if_true, e3, i1, ih]
    simp
end
/-! instances, arguments picked -/
section
variable {c n N : Nat} {ms : MS} {ds es fs : List D} {ns : List Str} {arr : List Nat} {st : Sto} {env : Env}
theorem newA_nx (hb : belowL 0 ds = true) (hp : pickA arr (.ptr 0 :: ds) = .ptr 0 :: es) (hn : (D.ptr 0 :: es).length = n) (h : ms ((D.ptr 0 :: es).map some ++ List.replicate (N - (D.ptr 0 :: es).length) none) [.ins c [] []] = .nx env [.ins c ns fs]) (hf : belowL 0 fs = true) : pur (dNewA c n (pur (mFun true N ms)) arr) ds st = .ok (.ins c ns fs) st := by
  refine pur_ok hb (st' := []) ?_ hf
  have hb' : belowL 0 (D.ptr 0 :: es) = false := belowL_at (.head _) (by omega)
  have f : pur (mFun true N ms) (D.ptr 0 :: es) [.ins c [] []] = .ok .non [.ins c ns fs] := by
    unfold pur
    rw [hb', if_neg (by decide)]
    unfold mFun
    rw [h]
    show gc 1 .non [.ins c ns fs] = _
    unfold gc
    split <;> rfl
  unfold dNewA
  show (if (pickA arr (.ptr 0 :: ds)).length = n then (pur (mFun true N ms) (pickA arr (.ptr 0 :: ds)) [.ins c [] []]).bind _ else .stuck) = _
  rw [hp, if_pos hn, f]
  show gc 0 (.ins c ns fs) [.dead] = _
  unfold gc
  rw [show below 0 (.ins c ns fs) = true from hf]
  rfl
end
/-! texts -/
theorem str_assoc (a b c : Str) : a ++ b ++ c = a ++ (b ++ c) := by
  show (⟨a.cps ++ b.cps ++ c.cps⟩ : Str) = ⟨a.cps ++ (b.cps ++ c.cps)⟩
  rw [Array.append_assoc]
theorem str_emp (a : Str) : Str.empty ++ a = a := by
  show (⟨#[] ++ a.cps⟩ : Str) = a
  rw [Array.empty_append]
/-- words, each once, in the order in which they come first -/
def addU (acc : List Str) : List Str → List Str
  | [] => acc
  | x :: xs => addU (if x ∈ acc then acc else acc ++ [x]) xs
theorem addU_len : ∀ (xs acc : List Str), (addU acc xs).length ≤ acc.length + xs.length
  | [], acc => by simp [addU]
  | x :: xs, acc => by
    have := addU_len xs (if x ∈ acc then acc else acc ++ [x])
    unfold addU
    split at this
    · rename_i h; rw [if_pos h]; simp; omega
    · rename_i h; rw [if_neg h]; simp at this ⊢; omega
theorem addU_nodup : ∀ (xs acc : List Str), (acc ++ xs).Nodup → addU acc xs = acc ++ xs
  | [], acc, _ => by simp [addU]
  | x :: xs, acc, h => by
    have hx : x ∉ acc := fun m => by
      rw [List.nodup_append] at h
      exact h.2.2 x m x (.head _) rfl
    unfold addU
    rw [if_neg hx, addU_nodup xs (acc ++ [x]) (by simpa using h)]
    simp
theorem any_inr {x : Str} : ∀ acc : List Str, ((acc.map fun a => (Sum.inr a : Key)).any fun y => decide (y = (Sum.inr x : Key))) = decide (x ∈ acc)
  | [] => by simp
  | a :: acc => by
    rw [List.map_cons, List.any_cons, any_inr acc]
    by_cases h : a = x
    · simp [h]
    · simp [h, Ne.symm h]
theorem repl_same {k : Key} : ∀ ks : List Str, repl k (D.bl true) (ks.map fun a => (Sum.inr a : Key)) (ks.map fun _ => D.bl true) = ks.map fun _ => D.bl true
  | [] => rfl
  | a :: ks => by
    show (if _ then _ else _) :: repl k (D.bl true) (ks.map fun a => (Sum.inr a : Key)) (ks.map fun _ => D.bl true) = _
    rw [repl_same ks]
    split <;> rfl
/-- {x: True for x in xs}, xs texts -/
theorem dc_strs {t : Tg} {vs : List Nat} {mt : MB} {mk mv : M} {env : Env} {st : Sto} : ∀ {xs acc : List Str}, acc.length + xs.length ≤ 100000 → (∀ x ∈ xs, ∃ env1, t.at (.str x) (wipeE env vs) st = some env1 ∧ mt env1 st = .ok true st ∧ mk env1 st = .ok (.str x) st ∧ mv env1 st = .ok (.bl true) st) →
    mDcGo t vs mt mk mv (xs.map D.str) env st (acc.map fun a => (Sum.inr a : Key)) (acc.map fun _ => D.bl true) = .ok ((addU acc xs).map fun a => (Sum.inr a : Key), (addU acc xs).map fun _ => D.bl true) st
  | [], acc, _, _ => by simp [mDcGo, addU]
  | x :: xs, acc, hl, H => by
    obtain ⟨env1, e1, e2, e3, e4⟩ := H x (.head _)
    have hz : acc.length < sizeLine := by rw [sizeLine_eq]; simp at hl; omega
    rw [List.map_cons]
    unfold mDcGo addU
    by_cases h : x ∈ acc
    · have ih := dc_strs (t := t) (vs := vs) (mt := mt) (mk := mk) (mv := mv) (env := env) (st := st) (xs := xs) (acc := acc) (by simp at hl; omega) fun b hb => H b (.tail _ hb)
      simp only [e1, e2, R.only, if_true, e3, e4, kOf, List.length_map, hz, putKs, putKd, any_inr, h, decide_true, repl_same, ih]
    · have ih := dc_strs (t := t) (vs := vs) (mt := mt) (mk := mk) (mv := mv) (env := env) (st := st) (xs := xs) (acc := acc ++ [x]) (by simp at hl ⊢; omega) fun b hb => H b (.tail _ hb)
      simp only [List.map_append, List.map_cons, List.map_nil] at ih
      simp only [e1, e2, R.only, if_true, e3, e4, kOf, List.length_map, hz, putKs, putKd, any_inr, h, decide_false, Bool.false_eq_true, if_false, ih]
end S
/-! try .. except (A, B): .. -/
namespace S
open PySem L2 PySem.Spec PyProof.Rows
section
variable {X : Cx} {pins : List (Addr × Obj)} {D : Ends}
theorem fly_grow {B h h' : Heap} {l : List PySem.Env} {a : Addr} {Z : Obj → Prop} (k : ∀ b o, h.get? b = some o → h'.get? b = some o) (x : HandSPX.FlyingZ B l a Z h) : HandSPX.FlyingZ B l a Z h' := by
  rcases x with ⟨st, nw, fr, o, ws, T, oT, ts, m1, m2, m3, m4, m5, m6, m7, m8⟩
  exact ⟨fun b o q => k b o (st b o q), nw, fr.of_keeps fun b o q _ => ⟨o, k b o q, rfl⟩, o, ws, T, oT, ts, k _ _ m1, m2, m3, m4, m5, m6, k _ _ m7, m8⟩
theorem sp_try {xe : Value → Shared → Prop} {f : Flow} {t : Shared} (ok : X.Ok) (h : SP (X.tr (X.pn ++ pins) xe) [] D f t) : SP X pins D f t := by
  cases f <;> first
    | (obtain ⟨z, G1, J, q⟩ := h; exact ⟨z, G1, J.ofTry ok, q⟩)
    | (obtain ⟨v, z, G1, J, r, q⟩ := h; exact ⟨v, z, G1, J.ofTry ok, r, q⟩)
theorem sp_suite {a : Addr} {o : Addr × Obj} {f : Flow} {t : Shared} (ok : X.Ok) (h : SP (X.suite a (o :: (X.pn ++ pins))) [] D f t) : SP X pins D f t := by
  cases f <;> first
    | (obtain ⟨z, G1, J, q⟩ := h; exact ⟨z, G1, J.unsuite ok, q⟩)
    | (obtain ⟨v, z, G1, J, r, q⟩ := h; exact ⟨v, z, G1, J.unsuite ok, r, q⟩)
/-- a name that stands for a class, loaded -/
theorem ld_names {E : Value → Shared → Prop} {s : Shared} {σ : L2.St} {H : Hp} {x : Str} {c : Value} {p : Pos} {Q : Value → Shared → Prop} (n : Names X x c) (I : Inv X pins σ H s) (q : Q c s) : wpAny (model X.prog X.w) X.A (eval (.Name x p) X.env) Q E s := by
  rcases n with ⟨g, nd, hm | ⟨hm, hb, hn⟩⟩
  · exact ld_glob I g hm q nd
  · exact ld_blt I g hm hb q hn nd
/-- what the clause wishes of an exception of the body -/
def wTup (K : PySem.W.Frag) (cs : List Value) (ts : Addr → Value → Option Addr → TS) (Wout : WX) (D : Ends) : WX := fun cls d σ H =>
  ∃ b, PySem.W.exmAny K cls cs = some b ∧ (b = true → ∀ a, H a = none → ts a cls d D σ H) ∧ (b = false → Wout cls d σ H)
theorem ps_tryT {x1 x2 : Str} {c1 c2 : Value} {body suite : List Stmt} {b0 : Stmt} {p1 p2 p3 p4 pos : Pos} {kk : Nat} {tb : WX → TS} {ts : Addr → Value → Option Addr → TS} {Wout : WX}
    (hs : X.stack = X.env :: X.outer) (hf : X.env.frame = some X.env.locals) (n1 : Names X x1 c1) (n2 : Names X x2 c2) (tk : Takes X Wout)
    (hb : ∀ (W : WX) (pn : List (Addr × Obj)) (xe : Value → Shared → Prop), Takes (X.tr pn xe) W → PassesOwn (model X.prog X.w) X.A X.env xe → PSs (X.tr pn xe) body (tb W))
    (hsu : ∀ (a : Addr) (oe : Obj) (cls : Value) (d : Option Addr) (pn : List (Addr × Obj)), Zc cls d oe → (∃ vs, oe.data = .fields vs) → PSs (X.suite a ((a, oe) :: pn)) (b0 :: suite) (ts a cls d)) :
    PS X (.Try body [.ExceptHandler (some (.Tuple [.Name x1 p1, .Name x2 p2] kk p3)) none (b0 :: suite) p4] [] [] pos) (fun D σ H => tb (wTup X.K [c1, c2] ts Wout D) D σ H) := by
  refine ⟨fun pins s σ H D I h => wpAny_Try_except ?_⟩
  have ok := I.ok
  have hfr : X.A.frames = some (X.env :: X.outer) := by rw [← hs, ok.frames]
  refine wpAny_mono ((hb (wTup X.K [c1, c2] ts Wout D) _ _ (fun u t xx => ?_) PassesOwn.looking).run [] s σ H D (I.toTry _) h) (fun f t hsp => ?_) (fun _ _ he => he)
  case refine_2 =>
    have hsp := sp_try ok hsp
    cases f with
    | next => exact wpAny_execs_nil hsp
    | brk => exact hsp
    | cont => exact hsp
    | ret u => exact hsp
  obtain ⟨a, B, s0, pins', σ1, H1, cls, d, rfl, J', nb, up, sky, na, os, ag, b, eb, hyes, hno⟩ := xx
  have J : Inv X pins σ1 H1 s0 := J'.ofTry ok
  rw [hs] at sky
  refine Sky.land Zc.steady hfr hf sky fun h3 fl up3 => ?_
  have up := up.trans up3
  -- at any later heap
  have lnd : ∀ {h : Heap}, HandSPX.FlyingZ B (X.env :: X.outer) a (Zc cls d) h → s0.heap.UpToSlots h → Inv X pins σ1 H1 { t with heap := h } := fun g v => J.landed nb g.1 v os ag
  have sut : ∀ {h : Heap}, HandSPX.FlyingZ B (X.env :: X.outer) a (Zc cls d) h → s0.heap.UpToSlots h → ∃ oe, Zc cls d oe ∧ (∃ vs, oe.data = .fields vs) ∧ h.get? a = some oe ∧ Inv (X.suite a ((a, oe) :: (X.pn ++ pins))) [] σ1 H1 { t with heap := h } := fun {h} g v => by
    obtain ⟨oe, vs, q1, q2, q3⟩ := g.there
    have off : a ∉ frs (X.env :: X.outer) := fun hm => by
      obtain ⟨_, o', q4, q5⟩ := g.2.2.1.mem hm
      rw [q1] at q4; cases q4
      exact q5 _ q3
    refine ⟨oe, q2, ⟨vs, q3⟩, q1, (lnd g v).suite q1 q3 na (fun z => off (List.mem_filterMap.mpr ⟨X.env, List.mem_cons_self, by rw [hf, z]⟩)) fun hm => off ?_⟩
    obtain ⟨e, me, q⟩ := List.mem_filterMap.mp hm
    exact List.mem_filterMap.mpr ⟨e, List.mem_cons_of_mem _ me, q⟩
  obtain ⟨oe, z1, _, z3, S3⟩ := sut fl up
  refine PySem.W.exc_clause ?_
  refine wpAny_Tuple (wpAny_items_cons (ld_names (X := X.suite a ((a, oe) :: (X.pn ++ pins))) n1 S3 (wpAny_items_cons (ld_names (X := X.suite a ((a, oe) :: (X.pn ++ pins))) n2 S3 (wpAny_items_nil ⟨by size_fits, ?_⟩)))))
  have kp : ∀ q o, h3.get? q = some o → (h3.push { cls := .type "tuple", data := .seq [c1, c2].toArray }).get? q = some o := fun _ _ z => Heap.get?_push_of_some _ z
  have LT : PySem.W.Looks (model X.prog X.w) (h3.push { cls := .type "tuple", data := .seq [c1, c2].toArray }) (typeOf (.ref a)) cls := fun A Q E s k q => wpAny_typeOf_ref (k _ _ (kp _ _ z3)) (by rw [z1.1]; exact q)
  have fl5 := fly_grow kp fl
  have up5 := up.trans (Heap.UpToSlots.of_keeps kp)
  refine ⟨b, PySem.W.exm_tup2 (lnd fl5 up5).kIn LT (Heap.get?_push_size h3 rfl) eb, ?_⟩
  cases b with
  | true =>
    refine HandSPX.lands_againZ fl5 fun h4 fl4 up4 => ?_
    obtain ⟨oe4, y1, y2, y3, S4⟩ := sut fl4 (up5.trans up4)
    exact wpAny_mono ((hsu a oe4 cls d _ y1 y2).run [] _ _ H1 D S4 (hyes rfl a na)) (fun f s6 q => sp_suite ok q) (fun _ _ z => False.elim z)
  | false =>
    refine wpAny_handleBy_nil ?_
    obtain ⟨o, ws, T, oT, us, m1, m2, m3, m4, m5⟩ := fl5.2.2.2
    unfold PySem.passOn
    refine wpAny_bind (wpAny_field m1 m3 m4 ?_)
    rw [if_neg (show ¬ ((Value.ref T == Value.none) = true) from by simp)]
    have fin : wpAny (model X.prog X.w) X.A (setFlight (.ref a) X.env.frame) (fun _ s4 => wpAny (model X.prog X.w) X.A (throw (.ref a) : Sem Flow) (SP X pins D) X.xe s4) X.xe { t with heap := h3.push { cls := .type "tuple", data := .seq [c1, c2].toArray } } := by
      rw [hf]
      refine HandSPX.setFlight_upZ fl5 fun h4 hh4 up4 => wpAny_throw (tk _ _ ?_)
      exact ⟨a, B, s0, pins, σ1, H1, cls, d, rfl, J, nb, up5.trans up4, .inr (.inr (by rw [hs]; exact hh4)), na, os, ag, hno rfl⟩
    first
      | exact wpAny_bind (wpAny_pure (wpAny_bind fin))
      | exact wpAny_bind fin
end
section
variable {G : Nat → Addr} {W : WX} {X : Cx} {m hm : MS} {ki : Ki}
theorem pS_tryT {x1 x2 : Str} {c1 c2 : Value} {body suite : List Stmt} {b0 : Stmt} {p1 p2 p3 p4 pos : Pos} {kk : Nat} (hs : X.stack = X.env :: X.outer) (hf : X.env.frame = some X.env.locals) (n1 : Names X x1 c1) (n2 : Names X x2 c2)
    (hk : ∀ c b, ki c = some b → PySem.W.exmAny X.K (.ref (G c)) [c1, c2] = some b) (tk : Takes X W)
    (hb : ∀ (W : WX) (pn : List (Addr × Obj)) (xe : Value → Shared → Prop), Takes (X.tr pn xe) W → PassesOwn (model X.prog X.w) X.A X.env xe → PSs (X.tr pn xe) body (tSS X.K G W m))
    (hsu : ∀ (a : Addr) (oe : Obj) (pn : List (Addr × Obj)), PSs (X.suite a ((a, oe) :: pn)) (b0 :: suite) (tSS X.K G W0 hm)) :
    PS X (.Try body [.ExceptHandler (some (.Tuple [.Name x1 p1, .Name x2 p2] kk p3)) none (b0 :: suite) p4] [] [] pos) (tSS X.K G W (mTry ki m (mThru hm))) :=
  ps_of (ps_tryT (tb := fun W => tSS X.K G W m) (ts := fun _ _ _ => tSS X.K G W0 hm) (Wout := W) hs hf n1 n2 tk hb fun a oe _ _ pn _ _ => hsu a oe pn) fun Dn σ H ⟨Z, env, st, R, S, h⟩ => by
    refine ⟨Z, env, st, R, S, ?_⟩
    unfold mTry at h
    cases e : m env st with
    | exc env' c ns ds st' =>
      rw [e] at h
      dsimp only at h
      intro Z' σ' H' d l R' S' xo
      cases e2 : ki c with
      | none => rw [e2] at h; exact h.elim
      | some b =>
        rw [e2] at h
        refine ⟨b, hk c b e2, fun hb a ha => ?_, fun hb => ?_⟩
        · subst hb
          refine ⟨Z', env', st', R', S', ?_⟩
          have h := PostS.up l h
          unfold mThru at h
          cases e3 : hm env' st' with
          | exc _ _ _ _ _ => rw [e3] at h; exact h.elim
          | nx _ _ => rw [e3] at h; exact h
          | rt _ _ => rw [e3] at h; exact h
          | bk _ _ => rw [e3] at h; exact h
          | ct _ _ => rw [e3] at h; exact h
          | stuck => rw [e3] at h; exact h
        · subst hb
          exact h Z' σ' H' d l R' S' xo
    | nx _ _ => rw [e] at h; exact h
    | rt _ _ => rw [e] at h; exact h
    | bk _ _ => rw [e] at h; exact h
    | ct _ _ => rw [e] at h; exact h
    | stuck => rw [e] at h; exact h
theorem exmAny2 {K : PySem.W.Frag} {cls c1 c2 : Value} {a b : Bool} (h1 : PySem.W.exmOne K cls c1 = some a) (h2 : PySem.W.exmOne K cls c2 = some b) : PySem.W.exmAny K cls [c1, c2] = some (a || b) := by
  simp [PySem.W.exmAny, h1, h2]
end
end S
/-! a list times an int -/
namespace S
open PySem L2
def dMulY (a b : D) (st : Sto) : R D := match rd st a, b with
  | .lst xs, .int k => if 0 ≤ k ∧ k ≤ 1000 ∧ xs.length ≤ 1000 then .ok (.lst (List.replicate k.toNat xs).flatten) st else .stuck
  | _, _ => dMulX a b st
section
variable {K : PySem.W.Frag} {G : Nat → Addr} {Z : Gh} {X : Cx}
theorem RepL.times {xs : List D} {vs : List V} (h : RepL K G Z xs vs) : ∀ n : Nat, RepL K G Z (List.replicate n xs).flatten (List.replicate n vs).flatten
  | 0 => rfl
  | n + 1 => by
    rw [List.replicate_succ, List.replicate_succ, List.flatten_cons, List.flatten_cons]
    exact h.append (RepL.times h n)
theorem op_mulY : OpR X (binaryOp .Mult) (fun x y H Q => (L2.rI CMul (fun i j => V.int (i * j)) x y H Q ∨ rRepS x y H Q) ∨ rRep x y H Q) := S.OpR.or op_mulX op_rep
theorem ad_mulY : Ad2 K G dMulY (fun x y H Q => (L2.rI CMul (fun i j => V.int (i * j)) x y H Q ∨ rRepS x y H Q) ∨ rRep x y H Q) := fun E Z H st a b x y Q R p q h => by
  unfold dMulY at h
  split at h
  · rename_i xs k e
    split at h
    · rename_i hk
      obtain ⟨l, vs, rfl, h1, r1⟩ := R.lst p e
      cases (show y = .int k from q)
      refine .inr ⟨l, k, vs, rfl, rfl, h1, by omega, by omega, ?_, fun p hp => h.newL R (r1.times _) hp⟩
      rw [← r1.length, sizeLine_eq]
      have : xs.length * k.toNat ≤ 1000 * 1000 := Nat.mul_le_mul hk.2.2 (by omega)
      omega
    · exact h.elim
  · exact .inl (ad_mulX E Z H st _ _ x y Q R p q h)
end
end S
/-! list(text) -/
namespace S
open PySem L2
def dListS (as : List D) (st : Sto) : R D := match as with
  | [.str z] => if z.length ≤ 1000 then .ok (.lst (signs z)) st else .stuck
  | as => dList as st
def chV (z : Str) : List V := z.cps.toList.map fun c => V.str ⟨#[c]⟩
def rListT : List V → Hp → VK → Prop := fun xs H Q => ∃ z : Str, xs = [.str z] ∧ z.length ≤ 1000 ∧ ∀ l, H l = none → Q (.ref l) (upd H l (.lst (chV z)))
section
variable {K : PySem.W.Frag} {G : Nat → Addr} {Z : Gh} {X : Cx}
theorem call_listT (hc : X.calm = true) : CallR X (.type "list") rListT := fun pins s σ H xs us Q I rs h => by
  obtain ⟨z, rfl, hz, q⟩ := h
  obtain ⟨u, rfl, ru⟩ := vals1 rs
  obtain ⟨t, rfl⟩ := ru
  have hz' : z.cps.size ≤ sizeLine := by rw [sizeLine_eq]; have : z.cps.size = z.length := rfl; omega
  have hl : (chV z).length = z.cps.size := by simp [chV]
  refine call_list_str (I.ok.hd hc) z t (hn := hz') fun h' tk acc c' kp e hi => ?_
  refine ⟨.ref s.heap.objs.size, _, I.laid kp (Nat.le_refl _) (show ObjOk X.prog X.w _ _ _ (.lst (chV z)) from ⟨by rw [hl]; exact hz', acc.toList, c', ?_, by rw [Array.toArray_toList]; exact e⟩), rfl, q _ (I.hok.fresh (Nat.le_refl _))⟩
  refine vals_of_idx _ _ (by rw [hl, Array.length_toList]; exact hi.1) fun j v hj => ?_
  obtain ⟨c, t', hc, rfl⟩ := hi.2 j v (by rw [← Array.getElem?_toList]; exact hj)
  exact ⟨.str ⟨#[c]⟩, by simp [chV, hc], ⟨_, rfl⟩⟩
theorem call_listS (hc : X.calm = true) : CallR X (.type "list") (fun xs H Q => rList X.K xs H Q ∨ rListT xs H Q) := L2.CallR.or call_list_of (call_listT hc)
theorem rep_signs (cs : List Nat) : RepL K G Z (cs.map fun c => D.str ⟨#[c]⟩) (cs.map fun c => V.str ⟨#[c]⟩) := by
  induction cs with
  | nil => rfl
  | cons c cs ih => exact ⟨_, _, rfl, rfl, ih⟩
theorem ad_listS : AdL K G dListS (fun xs H Q => rList K xs H Q ∨ rListT xs H Q) := fun E Z H st as xs Q R r h => by
  unfold dListS at h
  split at h
  · rename_i z
    split at h
    · rename_i hz
      obtain ⟨x, rfl, p⟩ := RepL.one r
      cases (show x = .str z from p)
      exact .inr ⟨z, rfl, hz, fun l hl => h.newL R (rep_signs z.cps.toList) hl⟩
    · exact h.elim
  · exact .inl (ad_list E Z H st _ xs Q R r h)
end
end S
/-! enumerate of a list or a tuple -/
namespace S
open PySem L2
def enumO (it : Addr) : Obj := { cls := .type "enumerate", data := .fields #[.none, .bool false, .ref it, rawInt 0, .none, .none] }
theorem meets_enumA {v : Value} {o : Obj} {P : Heap → Prop} (B : Begins v o P) : Meets (Builtin.«enumerate.__new__» ⟨[.type "enumerate", v], []⟩) (fun _ R s => P s.heap ∧ R (.ok (.ret (.ref (s.heap.push o).objs.size))) { s with heap := (s.heap.push o).push (enumO s.heap.objs.size) }) :=
  .of_wp fun prog w A R s q => by
    obtain ⟨hp, g, d, tk, os⟩ := s
    obtain ⟨q0, q⟩ := q
    have sb := sub_enumerate
    have begun : ∀ {A' : Around} {E : Value → Shared → Prop} {Q : Value → Shared → Prop}, Q (.ref hp.objs.size) ⟨hp.push o, g, d, tk, os⟩ → wpAny (model prog w) A' (pyIter v) Q E ⟨hp, g, d, tk, os⟩ := fun z => B.iter prog w _ _ ⟨hp, g, d, tk, os⟩ _ q0 z
    wp_walk using begun
    refine wpAny_stack_any fun st => wpAny_pure ?_
    split
    · rename_i c _ _ _ _ _
      cases (c == Value.type "enumerate") <;> (wp_walk using begun; exact ⟨_, rfl, q⟩)
    · wp_walk using begun
      exact ⟨_, rfl, q⟩
theorem call_enumA {prog : Program} {w : World} {A : Around} {E : Value → Shared → Prop} {s : Shared} {v : Value} {o : Obj} {P : Heap → Prop} {Q : Value → Shared → Prop} (B : Begins v o P) (q0 : P s.heap)
    (k : ∀ h', IsEnum h' (s.heap.objs.size + 1) s.heap.objs.size 0 .none → h'.get? s.heap.objs.size = some o → (∀ c oc, s.heap.get? c = some oc → h'.get? c = some oc) → Q (.ref (s.heap.objs.size + 1)) { s with heap := h' }) :
    wpAny (model prog w) A (call (.type "enumerate") [v]) Q E s := by
  refine callType_new F.called_enumerate (by decide) (F.typeCall_enumerate_1 v) (F.newCall_enumerate_1 v) (fun x => F.args_object_init_2 x v) F.entry_enumerate_new (meets_enumA B) ⟨q0, ?_⟩
  have z : (s.heap.push o).objs.size = s.heap.objs.size + 1 := Heap.size_push ..
  have e : ((s.heap.push o).push (enumO s.heap.objs.size)).get? (s.heap.push o).objs.size = some (enumO s.heap.objs.size) := Heap.get?_push_size _ rfl
  show _ ∧ _
  rw [z] at e ⊢
  exact ⟨⟨_, e, rfl⟩, k _ e (Heap.get?_push_of_some _ (Heap.get?_push_size _ B.free)) fun c oc x => Heap.get?_push_of_some _ (Heap.get?_push_of_some _ x)⟩
/-- the thing at a as it stands at each turn, each item in a new pair behind its number -/
def IteA (p : Bool) (K : PySem.W.Frag) (a : Addr) : It where
  go := fun i H => ∃ xs : List V, SqA p K H a xs ∧ i < xs.length
  yld := fun i H v H' => ∃ T x, v = .ref T ∧ H T = none ∧ H' = upd H T (.tup [.int (i : Nat), x]) ∧ ∀ xs, SqA p K H a xs → xs[i]? = some x
  stop := fun i H => ∃ xs : List V, SqA p K H a xs ∧ i = xs.length
theorem turn_enumA {P : Program} {w : World} {K : PySem.W.Frag} {elts : List Expr} {kk : Nat} {tpos : Pos} {p : Bool} {a e it : Addr} (hei : e ≠ it) (hea : e ≠ a) (hai : a ≠ it) :
    Turn P w K (.Tuple elts kk tpos) (IteA p K a) [e, it] e (fun i h => (∃ old, IsEnum h e it ((i : Nat) : Int) old) ∧ ItA p h it a i) where
  mem := List.mem_cons_self
  obj := fun i h ⟨⟨old, he⟩, h1⟩ c hc => by
    simp only [List.mem_cons, List.not_mem_nil, or_false] at hc
    rcases hc with rfl | rfl
    · exact ⟨_, he, fun _ z => by cases z⟩
    · exact h1.some_
  keep := fun i h h' ⟨⟨old, he⟩, h1⟩ k => ⟨⟨old, k _ (by simp) _ he⟩, h1.at_ (k _ (by simp))⟩
  item := fun X hP hw hK hc i pins s σ H E I hf ⟨⟨old, he⟩, h1⟩ ⟨xs, qx, lx⟩ => by
    subst hP hw hK
    obtain ⟨its, rv, se, _⟩ := sqa_read I qx
    have n1 : i < its.toArray.size := by rw [List.size_toArray, ← rv.length]; exact lx
    have hef : e ∉ [it, a] := fun z => by
      simp only [List.mem_cons, List.not_mem_nil, or_false] at z
      exact z.elim hei hea
    refine wpAny_pyNext_enum_itemD (draws_a (A := X.A.in1) (b := p) (I.ok.hd hc) it a hai its.toArray) he ⟨h1, se⟩ n1 hei hef fun u h' tk y1 ho s1' hT hsz hk => ?_
    refine ⟨_, rfl, wpAny_letOwnedTupleGo_enum (s := { s with heap := h', toks := tk + 1 }) ho fun h2' z2 sb => ?_⟩
    obtain ⟨x, hx⟩ : ∃ x, xs[i]? = some x := ⟨_, List.getElem?_eq_getElem lx⟩
    obtain ⟨u', hu, ru⟩ := rv.get hx
    have eu : u' = u := by
      have q : its[i]? = some u := by simpa using y1
      rw [hu] at q; exact Option.some.inj q
    subst eu
    have le : e < s.heap.objs.size := Heap.lt_size he
    have li : it < s.heap.objs.size := by obtain ⟨_, q, _⟩ := h1.some_; exact Heap.lt_size q
    have far : ∀ c ∈ [e, it], c < s.heap.objs.size := fun c hcm => by
      simp only [List.mem_cons, List.not_mem_nil, or_false] at hcm
      rcases hcm with rfl | rfl
      · exact le
      · exact li
    have kept : ∀ c o, c ∉ [e, it] → s.heap.get? c = some o → h2'.get? c = some o := fun c o hcm q => by
      simp only [List.mem_cons, List.not_mem_nil, or_false, not_or] at hcm
      exact (sb.2 c hcm.1).trans (hk c o hcm.1 hcm.2 q)
    have I1 : Inv X pins σ (upd H s.heap.objs.size (.tup [.int (i : Nat), x])) { s with heap := h2', toks := tk + 1 } := I.turnedNew kept hf (Nat.le_refl _)
      ⟨by show 2 ≤ sizeLine; decide, [.int i tk, u'], .cons ⟨_, rfl⟩ (.cons ru .nil), ⟨_, (sb.2 _ (Nat.ne_of_gt le)).trans hT, rfl, _, rfl⟩⟩
    refine ⟨.ref s.heap.objs.size, _, I1, rfl, ⟨_, x, rfl, I.hok.fresh (Nat.le_refl _), rfl, fun l hl => by rw [sqa_inj I hl qx]; exact hx⟩, ⟨⟨u', ?_⟩, s1'.1.at_ fun o q => (sb.2 _ (Ne.symm hei)).trans q⟩, fun c hcm => ?_⟩
    · have q : ((i + 1 : Nat) : Int) = (i : Int) + 1 := by omega
      rw [q]; exact z2
    · rw [upd_ne (Nat.ne_of_lt (far c hcm))]; exact (hf c hcm).1
  done := fun X hP hw hK hc i pins s σ H E I hf ⟨⟨old, he⟩, h1⟩ ⟨xs, qx, lx⟩ => by
    subst hP hw hK
    obtain ⟨its, rv, se, _⟩ := sqa_read I qx
    have e1 : its.toArray.size = xs.length := by rw [List.size_toArray, rv.length]
    have ei : i = its.toArray.size := by omega
    subst ei
    refine wpAny_pyNext_enum_endD (draws_a (A := X.A.in1) (b := p) (I.ok.hd hc) it a hai its.toArray) he ⟨h1, se⟩ fun h' hk => ⟨rfl, I.turnedL (ch := [e, it]) (t' := s.toks) (fun c o hcm q => ?_) hf⟩
    simp only [List.mem_cons, List.not_mem_nil, or_false, not_or] at hcm
    exact hk c o hcm.2 q
  self := fun A i s Q E st h => wpAny_pyIter_enum st.1.choose_spec h
def iEnumS (K : PySem.W.Frag) (ta : TA) : TI := fun σ H R => ta σ H fun vs H1 => ∃ (p : Bool) (a : Addr) (xs : List V), vs = [.ref a] ∧ SqA p K H1 a xs ∧ R (IteA p K a) H1
theorem pi_enumS {X : Cx} {e : Expr} {ta : TA} {p pos tpos : Pos} {elts : List Expr} {kk : Nat} (hg : Gl X "enumerate") (hm : X.mg "enumerate" = none) (ha : PA X [e] ta) (hs : starEach [e] X.env = [(false, eval e X.env)] := by rfl) :
    PI X (.Tuple elts kk tpos) (.Call (.Name "enumerate" p) [e] [] pos) (iEnumS X.K ta) := by
  refine ⟨fun pins s σ H R I h => ?_⟩
  refine PyProof.Rows.Call_ (ld_blt I hg hm PyProof.Rows.boot_enumerate (PyProof.Rows.callWith_type1 (thn (ha.run pos pins s σ H _ I h) fun us s1 ⟨vs, H1, I1, rv, q1⟩ => ?_) hs rfl))
  obtain ⟨b, a, xs, ev, qx, hr⟩ := q1
  subst ev
  cases rv with
  | cons r rn =>
    cases rn
    cases (show _ = Value.ref a from r)
    obtain ⟨its, _, se, la⟩ := sqa_read I1 qx
    refine call_enumA (begins_a (b := b) a its.toArray) se fun h' he g1 hk => wpAny_pyIter_enum he ?_
    have I2 : Inv X pins σ H1 { s1 with heap := h' } := I1.kept (t' := s1.toks) hk
    refine ⟨s1.heap.objs.size + 1, [s1.heap.objs.size + 1, s1.heap.objs.size], _, _, H1, rfl, I2, turn_enumA (Nat.succ_ne_self _) (Nat.ne_of_gt (Nat.lt_succ_of_lt la)) (Nat.ne_of_lt la), ⟨⟨.none, he⟩, ItA.new g1⟩, fun c hcm => ?_, hr⟩
    have hle : s1.heap.objs.size ≤ c := by
      simp only [List.mem_cons, List.not_mem_nil, or_false] at hcm
      rcases hcm with rfl | rfl
      · exact Nat.le_add_right _ _
      · exact Nat.le_refl _
    exact I1.fpOk hle (I1.hok.fresh hle)
theorem walk_enumA {p : Bool} {K : PySem.W.Frag} {a : Addr} {xs : List V} : Walk (IteA p K a) xs.length (fun H => SqA p K H a xs) (YPair (fun i => some (V.int (i : Nat))) (fun i => xs[i]?)) where
  goes := fun i H hi h => ⟨xs, h, hi⟩
  stops := fun H h => ⟨xs, h, rfl⟩
  yields := fun i H x H' hi h ⟨T, v, e1, e2, e3, e4⟩ => ⟨T, _, v, e1, e2, e3, rfl, e4 xs h⟩
def mItEnumA (m : MA) : MA := fun env st => (m env st).bind fun ds st1 => match ds with
  | [d] => (match itemsF d with
    | some xs => .ok (enumD xs) st1
    | none => .stuck)
  | _ => .stuck
section
variable {K : PySem.W.Frag} {G : Nat → Addr} {W : WX} {X : Cx} {Z : Gh}
theorem walkEA {p : Bool} {a : Addr} {vs : List V} {ds : List D} (hs : SqA p K Z.fz a vs) (r : RepL K G Z ds vs) : rI K G Z (enumD ds) (IteA p K a) := by
  have hl : (enumD ds).length = vs.length := by simp [enumD, r.length]
  refine ⟨_, _, hl ▸ walk_enumA (xs := vs), fun Z' H st l R => (hs.same l.fz).same R.fz, fun i x H H' Z' st l R hi y => ?_⟩
  obtain ⟨T, x1, x2, rfl, hT, rfl, e1, e2⟩ := y
  have hi' : i < ds.length := by simpa [enumD] using hi
  obtain ⟨d, hd⟩ : ∃ d, ds[i]? = some d := ⟨_, List.getElem?_eq_getElem hi'⟩
  obtain ⟨v, h1, h2⟩ := (RepL.ux l _ _ r).get hd
  have e2 : vs[i]? = some x2 := e2
  have e1 : some (V.int (i : Nat)) = some x1 := e1
  rw [e2] at h1; cases h1; cases e1
  obtain ⟨l', R'⟩ := R.lay (o := .tup [.int (i : Nat), x2]) hT
  refine ⟨_, .tup [.int (i : Nat), d], l', R', ?_, T, _, rfl, .inl (.inl upd_same), _, _, rfl, rfl, _, _, rfl, Rep.up l' _ _ h2, rfl⟩
  unfold enumD
  rw [List.getElem?_map, List.getElem?_zipIdx, hd]
  simp
theorem pI_enumA {a : Expr} {m : MA} {p pos tpos : Pos} {elts : List Expr} {kk : Nat} (hg : Gl X "enumerate") (hm : X.mg "enumerate" = none) (ha : PA X [a] (tSA X.K G W m)) (hs : starEach [a] X.env = [(false, eval a X.env)] := by rfl) : PI X (.Tuple elts kk tpos) (.Call (.Name "enumerate" p) [a] [] pos) (tSI X.K G W (mItEnumA m)) :=
  pi_of (pi_enumS hg hm ha hs) fun σ H Q h => rs_bind (f := fun ds _ st1 => match ds with
    | [d] => (match itemsF d with
      | some xs => .ok (enumD xs) st1
      | none => .stuck)
    | _ => .stuck) h fun ds vs H1 Z env st R S r q => by
    split at q
    · obtain ⟨x, rfl, p1⟩ := RepL.one r
      split at q
      · rename_i e1
        obtain ⟨b1, a1, us, rfl, q1, r1⟩ := itemsF_sq p1 e1
        exact ⟨b1, a1, us, rfl, q1.same R.fz, Post.now (P := rI X.K G) q R (walkEA q1 r1)⟩
      · exact q.elim
    · exact q.elim
end
end S
namespace L2
open PySem PySem.Spec PyProof.Rows
/-! ### promises under no repr -/
/-- as FnOk, at a frame that is under no repr -/
structure FnG (P : Program) (w : World) (K : PySem.W.Frag) (mg : Str → Option Value) (base : Heap) (CX : CXT) (k : Nat) (f : Addr) (fd : FuncData) (ps : List Str) (sp : Sp) : Prop where
  len : ∀ vs H Q E, sp vs H Q E → vs.length = ps.length
  run : ∀ (A : Around) (outer : List Env) (s : Shared) (H : Hp) (args : Args) (us : List Value) (vs : List V) (Q : VK) (E : XK), A.guards = some [] → Room k A → Env0 P w K mg base A outer s H → BindsTo s fd args (ps.zip us) → Vals vs us → sp vs H Q E →
    codeAny (model P w) A (.call (.ref f) args) (CR CX outer P w H s Q E) s
section
variable {P : Program} {w : World} {K : PySem.W.Frag} {mg : Str → Option Value} {base : Heap}
/-- one body, at a frame that is given -/
theorem run_at {CX : CXT} {A : Around} {outer : List Env} {k : Nat} {f : Addr} {name qual : Str} {params : Arguments} {body : List Stmt} {scope : Scope} {dV kV doc pm cdv ct oc : Value} {an od : Option Addr} {osl : Array (Option Value)} {N ps : List Str} {s : Shared} {H : Hp} {args : Args} {us : List Value} {vs : List V} {Q : VK} {E : XK} {t : TS}
    (lk : K.lookup f = some ⟨oc, od, .func (PySem.W.fnOf name qual params body scope dV kV doc pm an cdv ct), osl⟩) (hcd : PySem.W.codeIn K cdv qual = true) (S : FnScope N ps scope) (hl : vs.length = ps.length) (hr : Room (k + 1) A)
    (e0 : Env0 P w K mg base A outer s H) (hb : BindsTo s (PySem.W.fnOf name qual params body scope dV kV doc pm an cdv ct) args (ps.zip us)) (r : Vals vs us)
    (ht : PSs (cxOf CX P w K mg base N qual scope f cdv A outer s H E) body t) (hq : t { nx := fun _ H' => Q .non H', rt := Q } (start N vs) H) : codeAny (model P w) A (.call (.ref f) args) (CR CX outer P w H s Q E) s := by
  have kx : K.In s.heap := e0.mod.kin.keeps fun b o e => (e0.bs b o e).1
  have nl : s.heap.NoLimit := e0.mod.nolimit.keeps fun b o e => (e0.bs b o e).1
  refine codeAny_call_function hr.depth (kx _ _ lk) rfl S.co S.gen rfl (PySem.W.codeRec_of kx hcd) (hb _ _ _ _ ?_)
  refine wpAny_newFunctionEnv_cells S.kind ?_ fun env he s1 x => ?_
  · rintro ⟨n, v⟩ hy
    exact (S.par n (List.of_mem_zip hy).1).imp _root_.id fun q => ⟨q, PySem.W.cellsFrom_some _ _ _ (.inl q)⟩
  · subst he
    refine ⟨nl.keeps x.toInCall.keep, codeAny_func (wpAny_mono (ht.run [] s1 (start N vs) H _ (inv_start S hr.hd e0 hl r x) hq) ?_ fun _ _ z => z)⟩
    rintro (_ | _ | _ | u) s' hs
    · obtain ⟨σ', H', J, q⟩ := hs
      exact ⟨V.non, H', J.os, J.bare, J.base, J.hok, rfl, q⟩
    · exact hs.elim fun _ z => z.elim fun _ z => (show False from z.2).elim
    · exact hs.elim fun _ z => z.elim fun _ z => (show False from z.2).elim
    · obtain ⟨v, σ', H', J, rv, q⟩ := hs
      exact ⟨v, H', J.os, J.bare, J.base, J.hok, rv, q⟩
/-! ### the head, at the caller's own frame -/
section
variable {mb : Str → Option Value} {CX : CXT} {fa a : Addr} {s₁ : Shared} {vs : List Value} {ns : List Int}
/-- from a heap in which nothing but the script is tracked -/
theorem head_core (KX : K.In s₁.heap) (hns : s₁.heap.Ns mainGlobals mg) (hb : s₁.heap.Ns builtinsNs mb) (hbb : ∀ x : Str, x ≠ "__name__" → mb x = bootBuiltins x) (hlim : s₁.heap.NoLimit) (hg : s₁.gens = #[])
    (ha : s₁.heap.get? a = some { cls := .type "list", data := .seq vs.toArray }) {H : Hp} (hO : Only H) (hok : HOk P w H s₁.heap) (hA : ∀ b, H b ≠ none → b = a) (hK : H a ≠ none → K.lookup a = none)
    (run : ∀ base : Heap, Env0 P w K mg base callerA [] s₁ H → codeAny (model P w) callerA (.call (.ref fa) ⟨[.ref a], []⟩) (CR CX [] P w H s₁ (fun v _ => v = .bl true) fun _ _ _ => False) s₁)
    (hCX : ∀ e s', CX [] H s₁ (fun _ _ _ => False) e s' → False) :
    codeAny (model P w) callerA (.call (.ref fa) ⟨[.ref a], []⟩) (fun r s' => r = .ok (.ret (.bool true)) ∧ OldK s₁.heap s'.heap ∧ s'.os = s₁.os ∧ AllBare s'.gens) s₁ := by
  have free : ∀ {b : Addr}, b ≠ a → H b = none := fun {b} n => Classical.byContradiction fun q => n (hA b q)
  have dict : ∀ {b : Addr} {m : Str → Option Value}, s₁.heap.Ns b m → (hidT s₁.heap H).Ns b m := fun {b m} ⟨o, es, ep, e, d, r⟩ => ⟨o, es, ep, hidT_get e (free fun q => by
    rw [q, ha] at e
    cases e
    cases (show Data.seq vs.toArray _ = Data.dict es ep from d)), d, r⟩
  have kin : K.In (hidT s₁.heap H) := fun b o e => hidT_get (KX b o e) (by
    by_cases q : b = a
    · subst q
      exact Classical.byContradiction fun z => by rw [hK z] at e; cases e
    · exact free q)
  refine codeAny_mono (run (hidT s₁.heap H) ⟨rfl, ⟨kin, dict hns, ⟨mb, dict hb, hbb⟩, hlim.elim fun mc z => ⟨mc, dict z.1, z.2⟩⟩, fun b o e => of_hidT e, Nat.le_of_eq (hidT_size _ _), trivial, fun b z => absurd (show b ∈ ([] : List Addr) from z) (by simp), hok, .of_eq hg⟩) ?_
  rintro (e | _ | _ | _ | u) s' h
  · exact (hCX e s' h).elim
  · exact False.elim h
  · exact False.elim h
  · exact False.elim h
  · obtain ⟨v, H', os, bare, un, hok', r', q⟩ := h
    cases (show v = V.bl true from q)
    cases (show u = Value.bool true from r')
    refine ⟨rfl, OldK.of_keep fun b o e => ?_, os, bare⟩
    rcases hO b with z | ⟨ob, xs, z⟩
    · exact un.keep b o e z (fun y => absurd (show b ∈ ([] : List Addr) from y) (by simp)) (by simp)
    · have e1 := (hok b _ z).1
      rw [e] at e1
      cases e1
      exact (hok' b _ (un.frzs b _ _ z)).1
theorem head_call (KX : K.In s₁.heap) (hns : s₁.heap.Ns mainGlobals mg) (hb : s₁.heap.Ns builtinsNs mb) (hbb : ∀ x : Str, x ≠ "__name__" → mb x = bootBuiltins x) (hlim : s₁.heap.NoLimit) (hg : s₁.gens = #[])
    (ha : s₁.heap.get? a = some { cls := .type "list", data := .seq vs.toArray }) (hi : IntsAre vs ns) (hl : ns.length ≤ sizeLine)
    (run : ∀ (H : Hp) (base : Heap), Only H → SqL K H a (ns.map V.int) → Env0 P w K mg base callerA [] s₁ H → codeAny (model P w) callerA (.call (.ref fa) ⟨[.ref a], []⟩) (CR CX [] P w H s₁ (fun v _ => v = .bl true) fun _ _ _ => False) s₁)
    (hCX : ∀ H e s', CX [] H s₁ (fun _ _ _ => False) e s' → False) :
    codeAny (model P w) callerA (.call (.ref fa) ⟨[.ref a], []⟩) (fun r s' => r = .ok (.ret (.bool true)) ∧ OldK s₁.heap s'.heap ∧ s'.os = s₁.os ∧ AllBare s'.gens) s₁ := by
  have rv := vals_ints hi
  cases hk : K.lookup a with
  | some o =>
    have e := KX a o hk
    rw [ha] at e
    cases e
    have hO : Only (fun _ => none) := fun _ => .inl rfl
    exact head_core KX hns hb hbb hlim hg ha hO (fun _ _ z => by cases z) (fun _ z => absurd rfl z) (fun z => absurd rfl z)
      (fun base e0 => run _ base hO (.inr ⟨_, vs.toArray, _, hk, rfl, rfl, rfl, by rw [List.size_toArray, hi.length]; exact hl, by simpa using rv⟩) e0) fun e s' => hCX _ e s'
  | none =>
    have hO : Only (fun b => if b = a then some (.frz { cls := .type "list", data := .seq vs.toArray } (.lst (ns.map V.int))) else none) := fun b => by
      by_cases q : b = a
      · exact .inr ⟨_, _, if_pos q⟩
      · exact .inl (if_neg q)
    refine head_core KX hns hb hbb hlim hg ha hO (fun b u z => ?_) (fun b z => ?_) (fun _ => hk) (fun base e0 => run _ base hO (.inl (.inr ⟨_, if_pos rfl⟩)) e0) fun e s' => hCX _ e s'
    · by_cases q : b = a
      · cases (if_pos q).symm.trans z
        subst q
        exact ⟨ha, by rw [List.length_map]; exact hl, vs, _, rv, ha⟩
      · cases (if_neg q).symm.trans z
    · exact Classical.byContradiction fun q => z (if_neg q)
end
/-- the goal that k_head leaves, from a promise under no repr -/
theorem walk_ofG {l : PySem.W.OpenLaw} {n k : Nat} {q : Program} {loose : List Str} {XP : (Str → Option Value) → Heap → Prop} {YP : World → Heap → Prop} {d : DefRec} {K : Params → PySem.W.Frag} {CX : World → CXT} {sp : PySem.W.Frag → Sp} {x : Str}
    (hn : l.most = some n) (hn2 : n ≤ sizeLine) (hdf : d.params.defaults = []) (hr : Room k callerA) (hY : ∀ (w : World) (h : Heap), YP w h → (K w.params).In h)
    (F : ∀ (w : World) (mg : Str → Option Value) (fa : Addr) (h : Heap), (K w.params).In h → h.Ns mainGlobals mg → mg d.name = some (.ref fa) →
      ∃ fd : FuncData, (∀ (s : Shared) (u : Value), BindsTo s fd ⟨[u], []⟩ [(x, u)]) ∧ ∀ base : Heap, FnG l.prog w (K w.params) mg base (CX w) k fa fd [x] (sp (K w.params)))
    (hsp : ∀ (K : PySem.W.Frag) (H : Hp) (a : Addr) (ns : List Int), ns.length ≤ n → Only H → SqL K H a (ns.map V.int) → sp K [.ref a] H (fun v _ => v = .bl true) fun _ _ _ => False)
    (hCX : ∀ (w : World) (H : Hp) (s : Shared) (e : Value) (s' : Shared), CX w [] H s (fun _ _ _ => False) e s' → False) :
    PySem.W.WalkO q loose XP YP l.row.toRowW d [] (fun f vs => PySem.call f vs) := by
  refine Att.attach_call hn hdf fun w s₀ s₁ mg mb fa o pm cd doc a vs ns G Y ho hd hcd hmg hobj hints hlen hg => ?_
  obtain ⟨fd, hb, hF⟩ := F w mg fa _ (hY w _ Y) G.T.g hmg
  refine head_call (hY w _ Y) G.T.g G.T.b G.T.builtins G.T.nolimit hg hobj hints (Nat.le_trans hlen hn2) (fun H base hO hS e0 => ?_) fun H e s' => hCX w H s₁ e s'
  exact (hF base).run callerA [] s₁ H ⟨[.ref a], []⟩ [.ref a] [.ref a] _ _ rfl hr e0 (hb s₁ (.ref a)) (.cons rfl .nil) (hsp _ H a ns hlen hO hS)
end
end L2
namespace S
open PySem L2
section
variable {P : Program} {w : World} {K : PySem.W.Frag} {mg : Str → Option Value} {base : Heap} {G : Nat → Addr}
theorem okPurG {CX : CXT} {k n : Nat} {f : Addr} {fd : FuncData} {ps : List Str} {F : List D → Sto → R D} (h : FnG P w K mg base CX k f fd ps (spS K G n F)) : FnG P w K mg base CX k f fd ps (spS K G n (pur F)) :=
  ⟨fun vs H Q E z => h.len vs H Q E (spS_pur z), fun A outer s H args us vs Q E hg hr e0 hb r z => h.run A outer s H args us vs Q E hg hr e0 hb r (spS_pur z)⟩
theorem fnSDG {fz : Bool} {x qual : Str} {params : Arguments} {body : List Stmt} {scope : Scope} {dvs : List V} {f : Addr} {fd : FuncData} {N ps : List Str} {k n : Nat} {ms : MS} (F : FunD K x qual params body scope dvs [] f fd) (S : FnScope N ps scope) (hn : n = ps.length)
    (hb : ∀ (cdv : Value) (A : Around) (outer : List PySem.Env) (s : Shared) (H : Hp) (E : XK), Room k (A.deeper (PyProof.Rows.envOfC qual scope s.heap.objs.size f cdv)) → (A.deeper (PyProof.Rows.envOfC qual scope s.heap.objs.size f cdv)).guards = some [] → PSs (cxOf (L2.CX P w) P w K mg base N qual scope f cdv A outer s H E) body (tSS K G (wE E) ms)) :
    FnG P w K mg base (L2.CX P w) (k + 1) f fd ps (spS K G n (mFun fz N.length ms)) := by
  obtain ⟨oc, od, dV, kV, doc, pm, an, cdv, ct, osl, rfl, lk, hcd, hD, hK⟩ := F.ex
  refine ⟨fun vs H Q E h => by rw [h.1, hn], fun A outer s H args us vs Q E hg hr e0 hb' r h => ?_⟩
  exact L2.run_at lk hcd S (by rw [h.1, hn]) hr e0 hb' r (hb cdv A outer s H E (hr.deeper _) hg) (sp_body h)
end
def dRepr (ds : List D) (st : Sto) : R D := match ds with
  | [.lst xs] => (match toPyL xs with
    | some ps => if (PyData.list ps).showable = true ∧ (PyData.list ps).hasDict = false ∧ (PyData.list ps).depth ≤ 50 ∧ (PyData.list ps).shown.length ≤ sizeLine then .ok (.str (PyData.list ps).shown) st else .stuck
    | none => .stuck)
  | [.tup xs] => (match toPyL xs with
    | some ps => if (PyData.tuple ps).showable = true ∧ (PyData.tuple ps).hasDict = false ∧ (PyData.tuple ps).depth ≤ 50 ∧ (PyData.tuple ps).shown.length ≤ sizeLine then .ok (.str (PyData.tuple ps).shown) st else .stuck
    | none => .stuck)
  | _ => .stuck
theorem ad_repr {K : PySem.W.Frag} {G : Nat → Addr} : AdL K G dRepr (rRepr K) := by
  intro E Z H st as xs Q R r h
  have fin : ∀ {d : D} {p : PyData} {a : Addr}, Rep K G Z d (.ref a) → toPy d = some p → p.showable = true → p.hasDict = false → p.depth ≤ 50 → p.shown.length ≤ sizeLine → Post K G (rD K G) E Z (.ok (.str p.shown) st) Q → rRepr K [.ref a] H Q := fun {d p a} rp e h1 h2 h3 h4 q =>
    ⟨a, p, rfl, dp_of R.fz d _ p rp e, h1, h2, h3, h4, Post.now (P := rD K G) q R rfl⟩
  unfold dRepr at h
  split at h
  · rename_i ys
    obtain ⟨x, rfl, p⟩ := RepL.one r
    obtain ⟨a, vs, rfl, hs, rl⟩ := id p
    split at h
    · rename_i ps e
      split at h
      · rename_i c
        exact fin p (show toPy (.lst ys) = some (.list ps) by unfold toPy; rw [e]; rfl) c.1 c.2.1 c.2.2.1 c.2.2.2 h
      · exact h.elim
    · exact h.elim
  · rename_i ys
    obtain ⟨x, rfl, p⟩ := RepL.one r
    obtain ⟨a, vs, rfl, hs, rl⟩ := id p
    split at h
    · rename_i ps e
      split at h
      · rename_i c
        exact fin p (show toPy (.tup ys) = some (.tuple ps) by unfold toPy; rw [e]; rfl) c.1 c.2.1 c.2.2.1 c.2.2.2 h
      · exact h.elim
    · exact h.elim
  · exact h.elim
theorem lawSG {l : PySem.W.OpenLaw} {n k : Nat} {q : Program} {loose : List Str} {XP : (Str → Option Value) → Heap → Prop} {YP : World → Heap → Prop} {d : DefRec} {K : Params → PySem.W.Frag} {x : Str} {P : Program} {F : List D → Sto → R D}
    (hp : l.prog = P) (hn : l.most = some n) (hn2 : n ≤ sizeLine) (hdf : d.params.defaults = []) (hr : Room k callerA) (hY : ∀ (w : World) (h : Heap), YP w h → (K w.params).In h)
    (Fk : ∀ (w : World) (mg : Str → Option Value) (fa : Addr) (h : Heap), (K w.params).In h → h.Ns mainGlobals mg → mg d.name = some (.ref fa) →
      ∃ (fd : FuncData) (G : Nat → Addr), (∀ (s : Shared) (u : Value), BindsTo s fd ⟨[u], []⟩ [(x, u)]) ∧ ∀ base : Heap, FnG P w (K w.params) mg base (L2.CX P w) k fa fd [x] (spS (K w.params) G 1 F))
    (hF : ∀ ns : List Int, ns.length ≤ n → ∃ st, F [.rls (ns.map D.int)] [] = .ok (.bl true) st) : PySem.W.WalkO q loose XP YP l.row.toRowW d [] (fun f vs => PySem.call f vs) := by
  subst hp
  refine L2.walk_ofG (n := n) (k := k) (x := x) (CX := fun w => L2.CX l.prog w) (sp := fun K => spAll K 1 F) (K := K) hn hn2 hdf hr hY (fun w mg fa h KX G hmg => ?_) (fun K H a ns hl hO hS => ?_) fun w H s e s' z => ?_
  · obtain ⟨fd, G', hb, hk⟩ := Fk w mg fa h KX G hmg
    exact ⟨fd, hb, fun base => ⟨fun vs H Q E z => (hk base).len vs H Q E (z G'), fun A outer s H args us vs Q E hg hr e0 hb r z => (hk base).run A outer s H args us vs Q E hg hr e0 hb r (z G')⟩⟩
  · obtain ⟨st, e⟩ := hF ns hl
    exact sp_script hS e
  · obtain ⟨_, _, _, _, _, _, _, _, _, _, _, _, h⟩ := z
    exact h
end S
namespace K
open PySem L2 S
abbrev PG : Program := PySem.Challenge.pw_wholetraces_k11_what_rows_tell
def topS (i : Nat) : Stmt := PG.main.body.getD i (.Pass ⟨0, 0, 0, 0⟩)
abbrev s_is_name : Stmt := topS 8
theorem sc_is_name : FnScope ["value", "letter"] ["value"] (defScope s_is_name) := ⟨rfl, rfl, rfl, by decide +kernel, rfl, by decide +kernel, by decide +kernel⟩
abbrev s_is_word : Stmt := topS 9
theorem sc_is_word : FnScope ["value", "others"] ["value", "others"] (defScope s_is_word) := ⟨rfl, rfl, rfl, by decide +kernel, rfl, by decide +kernel, by decide +kernel⟩
abbrev s_is_mark : Stmt := topS 10
theorem sc_is_mark : FnScope ["value"] ["value"] (defScope s_is_mark) := ⟨rfl, rfl, rfl, by decide +kernel, rfl, by decide +kernel, by decide +kernel⟩
abbrev s_is_sign : Stmt := topS 11
theorem sc_is_sign : FnScope ["value"] ["value"] (defScope s_is_sign) := ⟨rfl, rfl, rfl, by decide +kernel, rfl, by decide +kernel, by decide +kernel⟩
abbrev s_is_sequence : Stmt := topS 12
theorem sc_is_sequence : FnScope ["value"] ["value"] (defScope s_is_sequence) := ⟨rfl, rfl, rfl, by decide +kernel, rfl, by decide +kernel, by decide +kernel⟩
abbrev s_are_names : Stmt := topS 13
theorem sc_are_names : FnScope ["value", "name"] ["value"] (defScope s_are_names) := ⟨rfl, rfl, rfl, by decide +kernel, rfl, by decide +kernel, by decide +kernel⟩
abbrev s_Row_init : Stmt := inClass (topS 15) 0
theorem sc_Row_init : FnScope ["self", "text"] ["self", "text"] (defScope s_Row_init) := ⟨rfl, rfl, rfl, by decide +kernel, rfl, by decide +kernel, by decide +kernel⟩
abbrev s_Row_str : Stmt := inClass (topS 15) 1
theorem sc_Row_str : FnScope ["self"] ["self"] (defScope s_Row_str) := ⟨rfl, rfl, rfl, by decide +kernel, rfl, by decide +kernel, by decide +kernel⟩
abbrev s_need : Stmt := topS 16
theorem sc_need : FnScope ["is_right", "word"] ["is_right", "word"] (defScope s_need) := ⟨rfl, rfl, rfl, by decide +kernel, rfl, by decide +kernel, by decide +kernel⟩
abbrev s_Begin_init : Stmt := inClass (topS 18) 0
theorem sc_Begin_init : FnScopeS ["self", "mark", "kind", "mood"] ["self", "mark", "kind", "mood"] (defScope s_Begin_init) := ⟨rfl, rfl, rfl, by decide +kernel, rfl, by decide +kernel, by decide +kernel, by decide +kernel, rfl, rfl⟩
abbrev s_Send_init : Stmt := inClass (topS 19) 0
theorem sc_Send_init : FnScopeS ["self", "mood", "service", "mark"] ["self", "mood", "service", "mark"] (defScope s_Send_init) := ⟨rfl, rfl, rfl, by decide +kernel, rfl, by decide +kernel, by decide +kernel, by decide +kernel, rfl, rfl⟩
abbrev s_Back_init : Stmt := inClass (topS 20) 0
theorem sc_Back_init : FnScopeS ["self", "mood", "service", "sign", "then"] ["self", "mood", "service", "sign", "then"] (defScope s_Back_init) := ⟨rfl, rfl, rfl, by decide +kernel, rfl, by decide +kernel, by decide +kernel, by decide +kernel, rfl, rfl⟩
abbrev s_End_init : Stmt := inClass (topS 21) 0
theorem sc_End_init : FnScopeS ["self", "mood", "outcome", "sign", "part"] ["self", "mood", "outcome", "sign", "part"] (defScope s_End_init) := ⟨rfl, rfl, rfl, by decide +kernel, rfl, by decide +kernel, by decide +kernel, by decide +kernel, rfl, rfl⟩
abbrev s_need_24 : Stmt := topS 24
theorem sc_need_24 : FnScope ["is_right", "word"] ["is_right", "word"] (defScope s_need_24) := ⟨rfl, rfl, rfl, by decide +kernel, rfl, by decide +kernel, by decide +kernel⟩
abbrev s_moods_of : Stmt := topS 28
theorem sc_moods_of : FnScope ["words", "some", "mood"] ["words"] (defScope s_moods_of) := ⟨rfl, rfl, rfl, by decide +kernel, rfl, by decide +kernel, by decide +kernel⟩
abbrev s_ascending : Stmt := topS 26
theorem sc_ascending : FnScope ["words", "word"] ["words"] (defScope s_ascending) := ⟨rfl, rfl, rfl, by decide +kernel, rfl, by decide +kernel, by decide +kernel⟩
abbrev s_Service_init : Stmt := inClass (topS 27) 0
theorem sc_Service_init : FnScope ["self", "name", "kinds", "waits", "leaves", "rows", "lines", "row", "words", "mood"] ["self", "name", "kinds", "waits", "leaves", "rows"] (defScope s_Service_init) := ⟨rfl, rfl, rfl, by decide +kernel, rfl, by decide +kernel, by decide +kernel⟩
abbrev s_Service_first : Stmt := inClass (topS 27) 1
theorem sc_Service_first : FnScope ["self", "sort", "asked", "words", "word", "one"] ["self", "sort", "asked"] (defScope s_Service_first) := ⟨rfl, rfl, rfl, by decide +kernel, rfl, by decide +kernel, by decide +kernel⟩
abbrev s_Service_begin : Stmt := inClass (topS 27) 2
theorem sc_Service_begin : FnScope ["self", "mark", "kind", "words"] ["self", "mark", "kind"] (defScope s_Service_begin) := ⟨rfl, rfl, rfl, by decide +kernel, rfl, by decide +kernel, by decide +kernel⟩
abbrev s_Service_send : Stmt := inClass (topS 27) 3
theorem sc_Service_send : FnScope ["self", "mood", "other", "mark", "words"] ["self", "mood", "other", "mark"] (defScope s_Service_send) := ⟨rfl, rfl, rfl, by decide +kernel, rfl, by decide +kernel, by decide +kernel⟩
abbrev s_Service_back : Stmt := inClass (topS 27) 4
theorem sc_Service_back : FnScope ["self", "mood", "other", "sign", "words"] ["self", "mood", "other", "sign"] (defScope s_Service_back) := ⟨rfl, rfl, rfl, by decide +kernel, rfl, by decide +kernel, by decide +kernel⟩
abbrev s_Service_end : Stmt := inClass (topS 27) 5
theorem sc_Service_end : FnScope ["self", "mood", "bad", "words"] ["self", "mood", "bad"] (defScope s_Service_end) := ⟨rfl, rfl, rfl, by decide +kernel, rfl, by decide +kernel, by decide +kernel⟩
abbrev s__law_box : Stmt := topS 30
theorem sc__law_box : FnScope ["_law_script", "_law_k", "_law_cell", "_law_seed", "_law_wide"] ["_law_script", "_law_k"] (defScope s__law_box) := ⟨rfl, rfl, rfl, by decide +kernel, rfl, by decide +kernel, by decide +kernel⟩
abbrev s__law_take : Stmt := topS 31
theorem sc__law_take : FnScope ["_law_box_here", "_law_many", "_law_digit", "_law_near"] ["_law_box_here", "_law_many"] (defScope s__law_take) := ⟨rfl, rfl, rfl, by decide +kernel, rfl, by decide +kernel, by decide +kernel⟩
abbrev s__law_pick : Stmt := topS 32
theorem sc__law_pick : FnScope ["_law_box_here", "_law_some_here"] ["_law_box_here", "_law_some_here"] (defScope s__law_pick) := ⟨rfl, rfl, rfl, by decide +kernel, rfl, by decide +kernel, by decide +kernel⟩
abbrev s__law_mixed : Stmt := topS 33
theorem sc__law_mixed : FnScope ["_law_box_here", "_law_some_here", "_law_left", "_law_found"] ["_law_box_here", "_law_some_here"] (defScope s__law_mixed) := ⟨rfl, rfl, rfl, by decide +kernel, rfl, by decide +kernel, by decide +kernel⟩
abbrev s__law_names : Stmt := topS 34
theorem sc__law_names : FnScope ["_law_box_here", "_law_many", "_law_words_here", "_law_letters", "_law_form", "_law_spot", "_law_k"] ["_law_box_here", "_law_many"] (defScope s__law_names) := ⟨rfl, rfl, rfl, by decide +kernel, rfl, by decide +kernel, by decide +kernel⟩
abbrev s__law_row : Stmt := topS 36
theorem sc__law_row : FnScope ["_law_row_here"] ["_law_row_here"] (defScope s__law_row) := ⟨rfl, rfl, rfl, by decide +kernel, rfl, by decide +kernel, by decide +kernel⟩
abbrev s__law_words : Stmt := topS 37
theorem sc__law_words : FnScope ["_law_row_here"] ["_law_row_here"] (defScope s__law_words) := ⟨rfl, rfl, rfl, by decide +kernel, rfl, by decide +kernel, by decide +kernel⟩
abbrev s__law_drawn_row : Stmt := topS 38
theorem sc__law_drawn_row : FnScope ["_law_box_here", "_law_sort", "_law_pools", "_law_found", "_law_word", "_law_others", "_law_names_here", "_law_near"] ["_law_box_here", "_law_sort", "_law_pools"] (defScope s__law_drawn_row) := ⟨rfl, rfl, rfl, by decide +kernel, rfl, by decide +kernel, by decide +kernel⟩
abbrev s__law_service_of : Stmt := topS 39
theorem sc__law_service_of : FnScope ["_law_one", "_law_rows", "_law_row_here"] ["_law_one"] (defScope s__law_service_of) := ⟨rfl, rfl, rfl, by decide +kernel, rfl, by decide +kernel, by decide +kernel⟩
abbrev s__law_some : Stmt := topS 41
theorem sc__law_some : FnScope ["_law_box_here", "_law_names_here", "_law_fewest"] ["_law_box_here", "_law_names_here", "_law_fewest"] (defScope s__law_some) := ⟨rfl, rfl, rfl, by decide +kernel, rfl, by decide +kernel, by decide +kernel⟩
abbrev s__law_any_service : Stmt := topS 42
theorem sc__law_any_service : FnScope ["_law_box_here", "_law_name", "_law_names_here", "_law_words_here", "_law_kinds", "_law_moods", "_law_pools", "_law_some_here", "_law_rows", "_law_found", "_law_turn", "_law_sort"] ["_law_box_here", "_law_name", "_law_names_here", "_law_words_here"] (defScope s__law_any_service) := ⟨rfl, rfl, rfl, by decide +kernel, rfl, by decide +kernel, by decide +kernel⟩
abbrev s__law_first : Stmt := topS 43
theorem sc__law_first : FnScope ["_law_one", "_law_sort", "_law_asked", "_law_row_here", "_law_unlike", "_law_word", "_law_near"] ["_law_one", "_law_sort", "_law_asked"] (defScope s__law_first) := ⟨rfl, rfl, rfl, by decide +kernel, rfl, by decide +kernel, by decide +kernel⟩
abbrev s__law_begun : Stmt := topS 44
theorem sc__law_begun : FnScope ["_law_one", "_law_mark", "_law_kind", "_law_row_here"] ["_law_one", "_law_mark", "_law_kind"] (defScope s__law_begun) := ⟨rfl, rfl, rfl, by decide +kernel, rfl, by decide +kernel, by decide +kernel⟩
abbrev s__law_sent : Stmt := topS 45
theorem sc__law_sent : FnScope ["_law_one", "_law_mood", "_law_other", "_law_mark", "_law_row_here"] ["_law_one", "_law_mood", "_law_other", "_law_mark"] (defScope s__law_sent) := ⟨rfl, rfl, rfl, by decide +kernel, rfl, by decide +kernel, by decide +kernel⟩
abbrev s__law_after : Stmt := topS 46
theorem sc__law_after : FnScope ["_law_one", "_law_mood", "_law_other", "_law_sign", "_law_row_here"] ["_law_one", "_law_mood", "_law_other", "_law_sign"] (defScope s__law_after) := ⟨rfl, rfl, rfl, by decide +kernel, rfl, by decide +kernel, by decide +kernel⟩
abbrev s__law_ended : Stmt := topS 47
theorem sc__law_ended : FnScope ["_law_one", "_law_mood", "_law_bad", "_law_row_here"] ["_law_one", "_law_mood", "_law_bad"] (defScope s__law_ended) := ⟨rfl, rfl, rfl, by decide +kernel, rfl, by decide +kernel, by decide +kernel⟩
abbrev s_law : Stmt := topS 48
theorem sc_law : FnScope ["_law_script", "_law_k", "_law_box_here", "_law_turn", "_law_names_here", "_law_words_here", "_law_one", "_law_ahead", "_law_made", "_law_marks", "_law_moods", "_law_more", "_law_mark", "_law_kind", "_law_mood", "_law_near", "_law_sign", "_law_bad"] ["_law_script"] (defScope s_law) := ⟨rfl, rfl, rfl, by decide +kernel, rfl, by decide +kernel, by decide +kernel⟩
structure Ad where
  is_name : Addr
  is_name_d : FuncData
  is_word : Addr
  is_word_d : FuncData
  is_mark : Addr
  is_mark_d : FuncData
  is_sign : Addr
  is_sign_d : FuncData
  is_sequence : Addr
  is_sequence_d : FuncData
  are_names : Addr
  are_names_d : FuncData
  Row_init : Addr
  Row_init_d : FuncData
  Row_str : Addr
  Row_str_d : FuncData
  need : Addr
  need_d : FuncData
  Begin_init : Addr
  Begin_init_d : FuncData
  Send_init : Addr
  Send_init_d : FuncData
  Back_init : Addr
  Back_init_d : FuncData
  End_init : Addr
  End_init_d : FuncData
  need_24 : Addr
  need_24_d : FuncData
  moods_of : Addr
  moods_of_d : FuncData
  ascending : Addr
  ascending_d : FuncData
  Service_init : Addr
  Service_init_d : FuncData
  Service_first : Addr
  Service_first_d : FuncData
  Service_begin : Addr
  Service_begin_d : FuncData
  Service_send : Addr
  Service_send_d : FuncData
  Service_back : Addr
  Service_back_d : FuncData
  Service_end : Addr
  Service_end_d : FuncData
  _law_box : Addr
  _law_box_d : FuncData
  _law_take : Addr
  _law_take_d : FuncData
  _law_pick : Addr
  _law_pick_d : FuncData
  _law_mixed : Addr
  _law_mixed_d : FuncData
  _law_names : Addr
  _law_names_d : FuncData
  _law_row : Addr
  _law_row_d : FuncData
  _law_words : Addr
  _law_words_d : FuncData
  _law_drawn_row : Addr
  _law_drawn_row_d : FuncData
  _law_service_of : Addr
  _law_service_of_d : FuncData
  _law_some : Addr
  _law_some_d : FuncData
  _law_any_service : Addr
  _law_any_service_d : FuncData
  _law_first : Addr
  _law_first_d : FuncData
  _law_begun : Addr
  _law_begun_d : FuncData
  _law_sent : Addr
  _law_sent_d : FuncData
  _law_after : Addr
  _law_after_d : FuncData
  _law_ended : Addr
  _law_ended_d : FuncData
  law : Addr
  law_d : FuncData
  C_Row : Addr
  C_Begin : Addr
  C_Send : Addr
  C_Back : Addr
  C_End : Addr
  C_Service : Addr
  k_LETTERS : Tok
  k_BARRED : Addr
  k_MOST_LETTERS : Tok
  k_CALM : Tok
  e_Service_init_0 : Addr
  e_Service_init_1 : Addr
  e_Service_init_2 : Addr
def Ad.G (A : Ad) : Nat → Addr
  | 0 => A.C_Row
  | 1 => A.C_Begin
  | 2 => A.C_Send
  | 3 => A.C_Back
  | 4 => A.C_End
  | 5 => A.C_Service
  | _ => 0
structure Tx (K : PySem.W.Frag) (mg : Str → Option Value) (A : Ad) : Prop where
  is_name : Dv K mg "is_name" "is_name" "is_name" s_is_name ["value"] [] A.is_name A.is_name_d
  is_word : Dv K mg "is_word" "is_word" "is_word" s_is_word ["value", "others"] [] A.is_word A.is_word_d
  is_mark : Dv K mg "is_mark" "is_mark" "is_mark" s_is_mark ["value"] [] A.is_mark A.is_mark_d
  is_sign : Dv K mg "is_sign" "is_sign" "is_sign" s_is_sign ["value"] [] A.is_sign A.is_sign_d
  is_sequence : Dv K mg "is_sequence" "is_sequence" "is_sequence" s_is_sequence ["value"] [] A.is_sequence A.is_sequence_d
  are_names : Dv K mg "are_names" "are_names" "are_names" s_are_names ["value"] [] A.are_names A.are_names_d
  Row_init : Mv K "__init__" "Row.__init__" s_Row_init ["self", "text"] [] A.Row_init A.Row_init_d
  Row_str : Mv K "__str__" "Row.__str__" s_Row_str ["self"] [] A.Row_str A.Row_str_d
  need : Dv K mg "need_rows" "need" "need" s_need ["is_right", "word"] [] A.need A.need_d
  Begin_init : Sn PG K "__init__" "Begin.__init__" s_Begin_init ["self", "mark", "kind", "mood"] A.Begin_init A.Begin_init_d A.C_Begin
  Send_init : Sn PG K "__init__" "Send.__init__" s_Send_init ["self", "mood", "service", "mark"] A.Send_init A.Send_init_d A.C_Send
  Back_init : Sn PG K "__init__" "Back.__init__" s_Back_init ["self", "mood", "service", "sign", "then"] A.Back_init A.Back_init_d A.C_Back
  End_init : Sn PG K "__init__" "End.__init__" s_End_init ["self", "mood", "outcome", "sign", "part"] A.End_init A.End_init_d A.C_End
  need_24 : Dv K mg "need_books" "need" "need" s_need_24 ["is_right", "word"] [] A.need_24 A.need_24_d
  moods_of : Dv K mg "moods_of" "moods_of" "moods_of" s_moods_of ["words"] [] A.moods_of A.moods_of_d
  ascending : Dv K mg "ascending" "ascending" "ascending" s_ascending ["words"] [] A.ascending A.ascending_d
  Service_init : Mv K "__init__" "Service.__init__" s_Service_init ["self", "name", "kinds", "waits", "leaves", "rows"] [.ref A.e_Service_init_0, .ref A.e_Service_init_1, .ref A.e_Service_init_2] A.Service_init A.Service_init_d
  e_Service_init_0 : ∀ H : Hp, SqT K H A.e_Service_init_0 []
  e_Service_init_1 : ∀ H : Hp, SqT K H A.e_Service_init_1 []
  e_Service_init_2 : ∀ H : Hp, SqT K H A.e_Service_init_2 []
  Service_first : Mv K "first" "Service.first" s_Service_first ["self", "sort", "asked"] [] A.Service_first A.Service_first_d
  Service_begin : Mv K "begin" "Service.begin" s_Service_begin ["self", "mark", "kind"] [] A.Service_begin A.Service_begin_d
  Service_send : Mv K "send" "Service.send" s_Service_send ["self", "mood", "other", "mark"] [] A.Service_send A.Service_send_d
  Service_back : Mv K "back" "Service.back" s_Service_back ["self", "mood", "other", "sign"] [] A.Service_back A.Service_back_d
  Service_end : Mv K "end" "Service.end" s_Service_end ["self", "mood", "bad"] [] A.Service_end A.Service_end_d
  _law_box : Dv K mg "_law_box" "_law_box" "_law_box" s__law_box ["_law_script", "_law_k"] [] A._law_box A._law_box_d
  _law_take : Dv K mg "_law_take" "_law_take" "_law_take" s__law_take ["_law_box_here", "_law_many"] [] A._law_take A._law_take_d
  _law_pick : Dv K mg "_law_pick" "_law_pick" "_law_pick" s__law_pick ["_law_box_here", "_law_some_here"] [] A._law_pick A._law_pick_d
  _law_mixed : Dv K mg "_law_mixed" "_law_mixed" "_law_mixed" s__law_mixed ["_law_box_here", "_law_some_here"] [] A._law_mixed A._law_mixed_d
  _law_names : Dv K mg "_law_names" "_law_names" "_law_names" s__law_names ["_law_box_here", "_law_many"] [] A._law_names A._law_names_d
  _law_row : Dv K mg "_law_row" "_law_row" "_law_row" s__law_row ["_law_row_here"] [] A._law_row A._law_row_d
  _law_words : Dv K mg "_law_words" "_law_words" "_law_words" s__law_words ["_law_row_here"] [] A._law_words A._law_words_d
  _law_drawn_row : Dv K mg "_law_drawn_row" "_law_drawn_row" "_law_drawn_row" s__law_drawn_row ["_law_box_here", "_law_sort", "_law_pools"] [] A._law_drawn_row A._law_drawn_row_d
  _law_service_of : Dv K mg "_law_service_of" "_law_service_of" "_law_service_of" s__law_service_of ["_law_one"] [] A._law_service_of A._law_service_of_d
  _law_some : Dv K mg "_law_some" "_law_some" "_law_some" s__law_some ["_law_box_here", "_law_names_here", "_law_fewest"] [] A._law_some A._law_some_d
  _law_any_service : Dv K mg "_law_any_service" "_law_any_service" "_law_any_service" s__law_any_service ["_law_box_here", "_law_name", "_law_names_here", "_law_words_here"] [] A._law_any_service A._law_any_service_d
  _law_first : Dv K mg "_law_first" "_law_first" "_law_first" s__law_first ["_law_one", "_law_sort", "_law_asked"] [] A._law_first A._law_first_d
  _law_begun : Dv K mg "_law_begun" "_law_begun" "_law_begun" s__law_begun ["_law_one", "_law_mark", "_law_kind"] [] A._law_begun A._law_begun_d
  _law_sent : Dv K mg "_law_sent" "_law_sent" "_law_sent" s__law_sent ["_law_one", "_law_mood", "_law_other", "_law_mark"] [] A._law_sent A._law_sent_d
  _law_after : Dv K mg "_law_after" "_law_after" "_law_after" s__law_after ["_law_one", "_law_mood", "_law_other", "_law_sign"] [] A._law_after A._law_after_d
  _law_ended : Dv K mg "_law_ended" "_law_ended" "_law_ended" s__law_ended ["_law_one", "_law_mood", "_law_bad"] [] A._law_ended A._law_ended_d
  law : Dv K mg "law" "law" "law" s_law ["_law_script"] [] A.law A.law_d
  b_len : mg "len" = none
  b_abs : mg "abs" = none
  b_max : mg "max" = none
  b_min : mg "min" = none
  b_int : mg "int" = none
  b_str : mg "str" = none
  b_isinstance : mg "isinstance" = none
  b_all : mg "all" = none
  b_range : mg "range" = none
  b_list : mg "list" = none
  b_tuple : mg "tuple" = none
  b_sorted : mg "sorted" = none
  b_zip : mg "zip" = none
  b_repr : mg "repr" = none
  c_LETTERS : mg "LETTERS" = some (.str "abcdefghijklmnopqrstuvwxyz" A.k_LETTERS)
  c_BARRED : mg "BARRED" = some (.ref A.k_BARRED)
  t_BARRED : ∀ H : Hp, SqT K H A.k_BARRED [.str "none", .str "any", .str "same", .str "keep", .str "drop", .str "good", .str "bad", .str "old", .str "new", .str "both"]
  c_MOST_LETTERS : mg "MOST_LETTERS" = some (.int 4 A.k_MOST_LETTERS)
  c_CALM : mg "CALM" = some (.str "calm" A.k_CALM)
  sup : SupT PG K mg
  C_Row : Cn K mg "Row" A.C_Row A.Row_init
  na_Row_text : NoAttr K A.C_Row "text"
  C_Begin : Cn K mg "Begin" A.C_Begin A.Begin_init
  na_Begin_text : NoAttr K A.C_Begin "text"
  na_Begin_mark : NoAttr K A.C_Begin "mark"
  na_Begin_kind : NoAttr K A.C_Begin "kind"
  na_Begin_mood : NoAttr K A.C_Begin "mood"
  st_Begin : PySem.W.findIn K (.ref A.C_Begin) "__str__" = some (some (.ref A.Row_str))
  su_Begin : SupM K A.C_Begin A.C_Begin "__init__" A.Row_init
  cd_Begin : ∃ cd, PySem.W.clsIn K A.C_Begin = some cd
  C_Send : Cn K mg "Send" A.C_Send A.Send_init
  na_Send_text : NoAttr K A.C_Send "text"
  na_Send_mark : NoAttr K A.C_Send "mark"
  na_Send_mood : NoAttr K A.C_Send "mood"
  na_Send_service : NoAttr K A.C_Send "service"
  st_Send : PySem.W.findIn K (.ref A.C_Send) "__str__" = some (some (.ref A.Row_str))
  su_Send : SupM K A.C_Send A.C_Send "__init__" A.Row_init
  cd_Send : ∃ cd, PySem.W.clsIn K A.C_Send = some cd
  C_Back : Cn K mg "Back" A.C_Back A.Back_init
  na_Back_text : NoAttr K A.C_Back "text"
  na_Back_mood : NoAttr K A.C_Back "mood"
  na_Back_service : NoAttr K A.C_Back "service"
  na_Back_sign : NoAttr K A.C_Back "sign"
  na_Back_then : NoAttr K A.C_Back "then"
  st_Back : PySem.W.findIn K (.ref A.C_Back) "__str__" = some (some (.ref A.Row_str))
  su_Back : SupM K A.C_Back A.C_Back "__init__" A.Row_init
  cd_Back : ∃ cd, PySem.W.clsIn K A.C_Back = some cd
  C_End : Cn K mg "End" A.C_End A.End_init
  na_End_text : NoAttr K A.C_End "text"
  na_End_mood : NoAttr K A.C_End "mood"
  na_End_sign : NoAttr K A.C_End "sign"
  na_End_outcome : NoAttr K A.C_End "outcome"
  na_End_part : NoAttr K A.C_End "part"
  st_End : PySem.W.findIn K (.ref A.C_End) "__str__" = some (some (.ref A.Row_str))
  su_End : SupM K A.C_End A.C_End "__init__" A.Row_init
  cd_End : ∃ cd, PySem.W.clsIn K A.C_End = some cd
  C_Service : Cn K mg "Service" A.C_Service A.Service_init
  na_Service_text : NoAttr K A.C_Service "text"
  na_Service_name : NoAttr K A.C_Service "name"
  na_Service_kinds : NoAttr K A.C_Service "kinds"
  na_Service_waits : NoAttr K A.C_Service "waits"
  na_Service_leaves : NoAttr K A.C_Service "leaves"
  na_Service_rows : NoAttr K A.C_Service "rows"
  na_Service_told : NoAttr K A.C_Service "told"
  na_Service_moods : NoAttr K A.C_Service "moods"
  me_Service_first : Meth K A.C_Service "first" A.Service_first
  me_Service_begin : Meth K A.C_Service "begin" A.Service_begin
  me_Service_send : Meth K A.C_Service "send" A.Service_send
  me_Service_back : Meth K A.C_Service "back" A.Service_back
  me_Service_end : Meth K A.C_Service "end" A.Service_end
  ki_Begin_Row : PySem.W.kitOne K (.ref A.C_Begin) (.ref A.C_Row) = some true
  ki_Send_Row : PySem.W.kitOne K (.ref A.C_Send) (.ref A.C_Row) = some true
  ki_Back_Row : PySem.W.kitOne K (.ref A.C_Back) (.ref A.C_Row) = some true
  ki_End_Row : PySem.W.kitOne K (.ref A.C_End) (.ref A.C_Row) = some true
def at_text : Nat → Bool
  | 0 => true
  | 1 => true
  | 2 => true
  | 3 => true
  | 4 => true
  | 5 => true
  | _ => false
theorem hat_text {K : PySem.W.Frag} {mg : Str → Option Value} {A : Ad} (T : Tx K mg A) : ∀ c, at_text c = true → Cls K (A.G c) ∧ NoAttr K (A.G c) "text"
  | 0, h => ⟨T.C_Row.t.cl, T.na_Row_text⟩
  | 1, h => ⟨T.C_Begin.t.cl, T.na_Begin_text⟩
  | 2, h => ⟨T.C_Send.t.cl, T.na_Send_text⟩
  | 3, h => ⟨T.C_Back.t.cl, T.na_Back_text⟩
  | 4, h => ⟨T.C_End.t.cl, T.na_End_text⟩
  | 5, h => ⟨T.C_Service.t.cl, T.na_Service_text⟩
  | _ + 6, h => by cases h
def at_mark : Nat → Bool
  | 0 => false
  | 1 => true
  | 2 => true
  | 3 => false
  | 4 => false
  | 5 => false
  | _ => false
theorem hat_mark {K : PySem.W.Frag} {mg : Str → Option Value} {A : Ad} (T : Tx K mg A) : ∀ c, at_mark c = true → Cls K (A.G c) ∧ NoAttr K (A.G c) "mark"
  | 0, h => by cases h
  | 1, h => ⟨T.C_Begin.t.cl, T.na_Begin_mark⟩
  | 2, h => ⟨T.C_Send.t.cl, T.na_Send_mark⟩
  | 3, h => by cases h
  | 4, h => by cases h
  | 5, h => by cases h
  | _ + 6, h => by cases h
def at_kind : Nat → Bool
  | 0 => false
  | 1 => true
  | 2 => false
  | 3 => false
  | 4 => false
  | 5 => false
  | _ => false
theorem hat_kind {K : PySem.W.Frag} {mg : Str → Option Value} {A : Ad} (T : Tx K mg A) : ∀ c, at_kind c = true → Cls K (A.G c) ∧ NoAttr K (A.G c) "kind"
  | 0, h => by cases h
  | 1, h => ⟨T.C_Begin.t.cl, T.na_Begin_kind⟩
  | 2, h => by cases h
  | 3, h => by cases h
  | 4, h => by cases h
  | 5, h => by cases h
  | _ + 6, h => by cases h
def at_mood : Nat → Bool
  | 0 => false
  | 1 => true
  | 2 => true
  | 3 => true
  | 4 => true
  | 5 => false
  | _ => false
theorem hat_mood {K : PySem.W.Frag} {mg : Str → Option Value} {A : Ad} (T : Tx K mg A) : ∀ c, at_mood c = true → Cls K (A.G c) ∧ NoAttr K (A.G c) "mood"
  | 0, h => by cases h
  | 1, h => ⟨T.C_Begin.t.cl, T.na_Begin_mood⟩
  | 2, h => ⟨T.C_Send.t.cl, T.na_Send_mood⟩
  | 3, h => ⟨T.C_Back.t.cl, T.na_Back_mood⟩
  | 4, h => ⟨T.C_End.t.cl, T.na_End_mood⟩
  | 5, h => by cases h
  | _ + 6, h => by cases h
def at_service : Nat → Bool
  | 0 => false
  | 1 => false
  | 2 => true
  | 3 => true
  | 4 => false
  | 5 => false
  | _ => false
theorem hat_service {K : PySem.W.Frag} {mg : Str → Option Value} {A : Ad} (T : Tx K mg A) : ∀ c, at_service c = true → Cls K (A.G c) ∧ NoAttr K (A.G c) "service"
  | 0, h => by cases h
  | 1, h => by cases h
  | 2, h => ⟨T.C_Send.t.cl, T.na_Send_service⟩
  | 3, h => ⟨T.C_Back.t.cl, T.na_Back_service⟩
  | 4, h => by cases h
  | 5, h => by cases h
  | _ + 6, h => by cases h
def at_sign : Nat → Bool
  | 0 => false
  | 1 => false
  | 2 => false
  | 3 => true
  | 4 => true
  | 5 => false
  | _ => false
theorem hat_sign {K : PySem.W.Frag} {mg : Str → Option Value} {A : Ad} (T : Tx K mg A) : ∀ c, at_sign c = true → Cls K (A.G c) ∧ NoAttr K (A.G c) "sign"
  | 0, h => by cases h
  | 1, h => by cases h
  | 2, h => by cases h
  | 3, h => ⟨T.C_Back.t.cl, T.na_Back_sign⟩
  | 4, h => ⟨T.C_End.t.cl, T.na_End_sign⟩
  | 5, h => by cases h
  | _ + 6, h => by cases h
def at_then : Nat → Bool
  | 0 => false
  | 1 => false
  | 2 => false
  | 3 => true
  | 4 => false
  | 5 => false
  | _ => false
theorem hat_then {K : PySem.W.Frag} {mg : Str → Option Value} {A : Ad} (T : Tx K mg A) : ∀ c, at_then c = true → Cls K (A.G c) ∧ NoAttr K (A.G c) "then"
  | 0, h => by cases h
  | 1, h => by cases h
  | 2, h => by cases h
  | 3, h => ⟨T.C_Back.t.cl, T.na_Back_then⟩
  | 4, h => by cases h
  | 5, h => by cases h
  | _ + 6, h => by cases h
def at_outcome : Nat → Bool
  | 0 => false
  | 1 => false
  | 2 => false
  | 3 => false
  | 4 => true
  | 5 => false
  | _ => false
theorem hat_outcome {K : PySem.W.Frag} {mg : Str → Option Value} {A : Ad} (T : Tx K mg A) : ∀ c, at_outcome c = true → Cls K (A.G c) ∧ NoAttr K (A.G c) "outcome"
  | 0, h => by cases h
  | 1, h => by cases h
  | 2, h => by cases h
  | 3, h => by cases h
  | 4, h => ⟨T.C_End.t.cl, T.na_End_outcome⟩
  | 5, h => by cases h
  | _ + 6, h => by cases h
def at_part : Nat → Bool
  | 0 => false
  | 1 => false
  | 2 => false
  | 3 => false
  | 4 => true
  | 5 => false
  | _ => false
theorem hat_part {K : PySem.W.Frag} {mg : Str → Option Value} {A : Ad} (T : Tx K mg A) : ∀ c, at_part c = true → Cls K (A.G c) ∧ NoAttr K (A.G c) "part"
  | 0, h => by cases h
  | 1, h => by cases h
  | 2, h => by cases h
  | 3, h => by cases h
  | 4, h => ⟨T.C_End.t.cl, T.na_End_part⟩
  | 5, h => by cases h
  | _ + 6, h => by cases h
def at_name : Nat → Bool
  | 0 => false
  | 1 => false
  | 2 => false
  | 3 => false
  | 4 => false
  | 5 => true
  | _ => false
theorem hat_name {K : PySem.W.Frag} {mg : Str → Option Value} {A : Ad} (T : Tx K mg A) : ∀ c, at_name c = true → Cls K (A.G c) ∧ NoAttr K (A.G c) "name"
  | 0, h => by cases h
  | 1, h => by cases h
  | 2, h => by cases h
  | 3, h => by cases h
  | 4, h => by cases h
  | 5, h => ⟨T.C_Service.t.cl, T.na_Service_name⟩
  | _ + 6, h => by cases h
def at_kinds : Nat → Bool
  | 0 => false
  | 1 => false
  | 2 => false
  | 3 => false
  | 4 => false
  | 5 => true
  | _ => false
theorem hat_kinds {K : PySem.W.Frag} {mg : Str → Option Value} {A : Ad} (T : Tx K mg A) : ∀ c, at_kinds c = true → Cls K (A.G c) ∧ NoAttr K (A.G c) "kinds"
  | 0, h => by cases h
  | 1, h => by cases h
  | 2, h => by cases h
  | 3, h => by cases h
  | 4, h => by cases h
  | 5, h => ⟨T.C_Service.t.cl, T.na_Service_kinds⟩
  | _ + 6, h => by cases h
def at_waits : Nat → Bool
  | 0 => false
  | 1 => false
  | 2 => false
  | 3 => false
  | 4 => false
  | 5 => true
  | _ => false
theorem hat_waits {K : PySem.W.Frag} {mg : Str → Option Value} {A : Ad} (T : Tx K mg A) : ∀ c, at_waits c = true → Cls K (A.G c) ∧ NoAttr K (A.G c) "waits"
  | 0, h => by cases h
  | 1, h => by cases h
  | 2, h => by cases h
  | 3, h => by cases h
  | 4, h => by cases h
  | 5, h => ⟨T.C_Service.t.cl, T.na_Service_waits⟩
  | _ + 6, h => by cases h
def at_leaves : Nat → Bool
  | 0 => false
  | 1 => false
  | 2 => false
  | 3 => false
  | 4 => false
  | 5 => true
  | _ => false
theorem hat_leaves {K : PySem.W.Frag} {mg : Str → Option Value} {A : Ad} (T : Tx K mg A) : ∀ c, at_leaves c = true → Cls K (A.G c) ∧ NoAttr K (A.G c) "leaves"
  | 0, h => by cases h
  | 1, h => by cases h
  | 2, h => by cases h
  | 3, h => by cases h
  | 4, h => by cases h
  | 5, h => ⟨T.C_Service.t.cl, T.na_Service_leaves⟩
  | _ + 6, h => by cases h
def at_rows : Nat → Bool
  | 0 => false
  | 1 => false
  | 2 => false
  | 3 => false
  | 4 => false
  | 5 => true
  | _ => false
theorem hat_rows {K : PySem.W.Frag} {mg : Str → Option Value} {A : Ad} (T : Tx K mg A) : ∀ c, at_rows c = true → Cls K (A.G c) ∧ NoAttr K (A.G c) "rows"
  | 0, h => by cases h
  | 1, h => by cases h
  | 2, h => by cases h
  | 3, h => by cases h
  | 4, h => by cases h
  | 5, h => ⟨T.C_Service.t.cl, T.na_Service_rows⟩
  | _ + 6, h => by cases h
def at_told : Nat → Bool
  | 0 => false
  | 1 => false
  | 2 => false
  | 3 => false
  | 4 => false
  | 5 => true
  | _ => false
theorem hat_told {K : PySem.W.Frag} {mg : Str → Option Value} {A : Ad} (T : Tx K mg A) : ∀ c, at_told c = true → Cls K (A.G c) ∧ NoAttr K (A.G c) "told"
  | 0, h => by cases h
  | 1, h => by cases h
  | 2, h => by cases h
  | 3, h => by cases h
  | 4, h => by cases h
  | 5, h => ⟨T.C_Service.t.cl, T.na_Service_told⟩
  | _ + 6, h => by cases h
def at_moods : Nat → Bool
  | 0 => false
  | 1 => false
  | 2 => false
  | 3 => false
  | 4 => false
  | 5 => true
  | _ => false
theorem hat_moods {K : PySem.W.Frag} {mg : Str → Option Value} {A : Ad} (T : Tx K mg A) : ∀ c, at_moods c = true → Cls K (A.G c) ∧ NoAttr K (A.G c) "moods"
  | 0, h => by cases h
  | 1, h => by cases h
  | 2, h => by cases h
  | 3, h => by cases h
  | 4, h => by cases h
  | 5, h => ⟨T.C_Service.t.cl, T.na_Service_moods⟩
  | _ + 6, h => by cases h
def ki_str : Ty → Option Bool
  | .non => some false
  | .bl => some false
  | .int => some false
  | .str => some true
  | .lst => some false
  | .tup => some false
  | .dct => some false
  | _ => none
theorem hki_str {K : PySem.W.Frag} {mg : Str → Option Value} {A : Ad} (T : Tx K mg A) : ∀ t b, ki_str t = some b → TyOk K A.G t ∧ PySem.W.kitOne K (tyW A.G t) (.type "str") = some b := by
  intro t b h
  unfold ki_str at h
  split at h
  · cases h; exact ⟨trivial, kit_ty (by decide +kernel)⟩
  · cases h; exact ⟨trivial, kit_ty (by decide +kernel)⟩
  · cases h; exact ⟨trivial, kit_ty (by decide +kernel)⟩
  · cases h; exact ⟨trivial, kit_ty (by decide +kernel)⟩
  · cases h; exact ⟨trivial, kit_ty (by decide +kernel)⟩
  · cases h; exact ⟨trivial, kit_ty (by decide +kernel)⟩
  · cases h; exact ⟨trivial, kit_ty (by decide +kernel)⟩
  · cases h
def ki_list_tuple : Ty → Option Bool
  | .non => some false
  | .bl => some false
  | .int => some false
  | .str => some false
  | .lst => some true
  | .tup => some true
  | .dct => some false
  | _ => none
theorem hki_list_tuple {K : PySem.W.Frag} {mg : Str → Option Value} {A : Ad} (T : Tx K mg A) : ∀ t b, ki_list_tuple t = some b → TyOk K A.G t ∧ PySem.W.kitAny K (tyW A.G t) [.type "list", .type "tuple"] = some b := by
  intro t b h
  unfold ki_list_tuple at h
  split at h
  · cases h; exact ⟨trivial, kitAny2 (a := false) (b := false) (kit_ty (by decide +kernel)) (kit_ty (by decide +kernel))⟩
  · cases h; exact ⟨trivial, kitAny2 (a := false) (b := false) (kit_ty (by decide +kernel)) (kit_ty (by decide +kernel))⟩
  · cases h; exact ⟨trivial, kitAny2 (a := false) (b := false) (kit_ty (by decide +kernel)) (kit_ty (by decide +kernel))⟩
  · cases h; exact ⟨trivial, kitAny2 (a := false) (b := false) (kit_ty (by decide +kernel)) (kit_ty (by decide +kernel))⟩
  · cases h; exact ⟨trivial, kitAny2 (a := true) (b := false) (kit_ty (by decide +kernel)) (kit_ty (by decide +kernel))⟩
  · cases h; exact ⟨trivial, kitAny2 (a := false) (b := true) (kit_ty (by decide +kernel)) (kit_ty (by decide +kernel))⟩
  · cases h; exact ⟨trivial, kitAny2 (a := false) (b := false) (kit_ty (by decide +kernel)) (kit_ty (by decide +kernel))⟩
  · cases h
def ki_Row : Ty → Option Bool
  | .cls 1 => some true
  | .cls 2 => some true
  | .cls 3 => some true
  | .cls 4 => some true
  | _ => none
theorem hki_Row {K : PySem.W.Frag} {mg : Str → Option Value} {A : Ad} (T : Tx K mg A) : ∀ t b, ki_Row t = some b → TyOk K A.G t ∧ PySem.W.kitOne K (tyW A.G t) (.ref A.C_Row) = some b := by
  intro t b h
  unfold ki_Row at h
  split at h
  · cases h; exact ⟨T.C_Begin.t, T.ki_Begin_Row⟩
  · cases h; exact ⟨T.C_Send.t, T.ki_Send_Row⟩
  · cases h; exact ⟨T.C_Back.t, T.ki_Back_Row⟩
  · cases h; exact ⟨T.C_End.t, T.ki_End_Row⟩
  · cases h
def stc_0 : List Nat := [1, 2, 3, 4]
theorem hstc_0 {K : PySem.W.Frag} {mg : Str → Option Value} {A : Ad} (T : Tx K mg A) : ∀ c, stc_0.contains c = true → PySem.W.findIn K (.ref (A.G c)) "__str__" = some (some (.ref A.Row_str)) := by
  intro c h
  have h : c ∈ stc_0 := by simpa using h
  simp only [stc_0, List.mem_cons, List.not_mem_nil, or_false] at h
  rcases h with rfl | rfl | rfl | rfl
  · exact T.st_Begin
  · exact T.st_Send
  · exact T.st_Back
  · exact T.st_End
theorem hsu_Begin {K : PySem.W.Frag} {mg : Str → Option Value} {A : Ad} (T : Tx K mg A) : ∀ c, ([1] : List Nat).contains c = true → SupM K (A.G c) A.C_Begin "__init__" A.Row_init := by
  intro c h
  have h : c = 1 := by simpa using h
  subst h
  exact T.su_Begin
theorem hsu_Send {K : PySem.W.Frag} {mg : Str → Option Value} {A : Ad} (T : Tx K mg A) : ∀ c, ([2] : List Nat).contains c = true → SupM K (A.G c) A.C_Send "__init__" A.Row_init := by
  intro c h
  have h : c = 2 := by simpa using h
  subst h
  exact T.su_Send
theorem hsu_Back {K : PySem.W.Frag} {mg : Str → Option Value} {A : Ad} (T : Tx K mg A) : ∀ c, ([3] : List Nat).contains c = true → SupM K (A.G c) A.C_Back "__init__" A.Row_init := by
  intro c h
  have h : c = 3 := by simpa using h
  subst h
  exact T.su_Back
theorem hsu_End {K : PySem.W.Frag} {mg : Str → Option Value} {A : Ad} (T : Tx K mg A) : ∀ c, ([4] : List Nat).contains c = true → SupM K (A.G c) A.C_End "__init__" A.Row_init := by
  intro c h
  have h : c = 4 := by simpa using h
  subst h
  exact T.su_End
end K
namespace K
open PySem L2 S
def p_is_name_1 : MS := mRet (mApp dAll (mCons (mLc (.nm 1) [1] (mItAny (mVar 0)) (mYes) (mBin dIn (mVar 1) (mC (.str "abcdefghijklmnopqrstuvwxyz")))) (mNil)))
def m_is_name : MS := mSeq (mIfS (mOrB (mNotB (mTru (mIsi ki_str (mVar 0)))) (mOrB (mNotB (mTest (mChain dLe dLe (mC (.int 1)) (mApp dLen (mCons (mVar 0) (mNil))) (mC (.int 4))))) (mTest (mBin dIn (mVar 0) (mC (.tup [.str "none", .str "any", .str "same", .str "keep", .str "drop", .str "good", .str "bad", .str "old", .str "new", .str "both"])))))) (mRet (mC (.bl false))) (mNext)) (p_is_name_1)
def f_is_name : List D → Sto → R D := pur (mFun true 2 m_is_name)
theorem ok_is_name {K : PySem.W.Frag} {mg : Str → Option Value} {A : Ad} (T : Tx K mg A) {w : World} {base : Heap} : FnOk PG w K mg base (L2.CX PG w) 1 A.is_name A.is_name_d ["value"] (spS K A.G 1 f_is_name) :=
  okPur <|
  fnSD (N := ["value", "letter"]) (k := 0) T.is_name.F sc_is_name rfl fun cdv AA outer s H E hr =>
    have tk := takes_of (X := cxOf (L2.CX PG w) PG w K mg base ["value", "letter"] "is_name" (defScope s_is_name) A.is_name cdv AA outer s H E) rfl rfl rfl rfl
    have hx := passes_call tk (fun _ _ _ _ h => h)
    (pSs_cons (pS_if (PW.pt (pS_or (pS_not (pS_tru (pS_isi (pe_bltn (v := .ty "str") (u := .type "str") (by rfl) T.b_str (by decide +kernel) rfl) (.ty _) (hki_str T) (by rfl) T.b_isinstance (pS_var 0 (pv 0))))) (pS_or (pS_not (pS_chainT op_le op_le ad_le ad_le pS_int (pS_callB cr_lenS ad_len (by rfl) T.b_len (by decide +kernel) (pSA_cons (pS_var 0 (pv 0)) pSA_nil)) (pS_glob (v := .int 4) rfl T.c_MOST_LETTERS ⟨_, rfl⟩ (fun _ => rfl)))) (pS_or1 (pS_cmpT op_inS ad_in (pS_var 0 (pv 0)) (pS_glob (v := .ref A.k_BARRED) rfl T.c_BARRED rfl (fun Z => ⟨_, _, rfl, T.t_BARRED Z.fz, reps_str ["none", "any", "same", "keep", "drop", "good", "bad", "old", "new", "both"]⟩)) (by rfl)))))) (pSs_one (pS_ret pS_bl)) pSs_nil) (pSs_one (pS_ret (pS_callB (cr_all rfl) ad_all (by rfl) T.b_all (by decide +kernel) (pSA_cons (pS_lc rfl sc_is_name.nd (pI_any (pS_var 0 (pv 0))) (blkOk_by (own := [("letter", 1)]) (N := ["value", "letter"]) (sc := defScope s_is_name) (by decide +kernel)) (fun _ _ _ _ _ => (pG_nm (i := 1) sc_is_name.nd rfl (Or.inl rfl))) (fun _ _ _ _ _ => pTs_nil) (fun _ _ _ _ _ => (pS_cmp op_inS ad_in (pS_var 1 (pv 1)) (pS_glob (v := .str "abcdefghijklmnopqrstuvwxyz") rfl T.c_LETTERS ⟨_, rfl⟩ (fun _ => rfl)) (by rfl)))) pSA_nil)))))
def m_is_word : MS := mRet (mOr (mCall 1 f_is_name [] (mCons (mVar 0) (mNil))) (mAnd (mIsi ki_str (mVar 0)) (mBin dIn (mVar 0) (mVar 1))))
def f_is_word : List D → Sto → R D := pur (mFun true 2 m_is_word)
theorem ok_is_word {K : PySem.W.Frag} {mg : Str → Option Value} {A : Ad} (T : Tx K mg A) {w : World} {base : Heap} : FnOk PG w K mg base (L2.CX PG w) 2 A.is_word A.is_word_d ["value", "others"] (spS K A.G 2 f_is_word) :=
  okPur <|
  fnSD (N := ["value", "others"]) (k := 1) T.is_word.F sc_is_word rfl fun cdv AA outer s H E hr =>
    have tk := takes_of (X := cxOf (L2.CX PG w) PG w K mg base ["value", "others"] "is_word" (defScope s_is_word) A.is_word cdv AA outer s H E) rfl rfl rfl rfl
    have hx := passes_call tk (fun _ _ _ _ h => h)
    (pSs_one (pS_ret (pS_orV (pS_call (ok_is_name T) (hr.mono (by decide)) rfl T.is_name.g T.is_name.F.kp (T.is_name.F.bindsN fun _ _ _ _ _ _ us hl => match us, hl with | [_], _ => rfl) .nil (fun _ => rfl) tk (pSA_cons (pS_var 0 (pv 0)) pSA_nil)) (pe_one (pS_andV (pS_isi (pe_bltn (v := .ty "str") (u := .type "str") (by rfl) T.b_str (by decide +kernel) rfl) (.ty _) (hki_str T) (by rfl) T.b_isinstance (pS_var 0 (pv 0))) (pe_one (pS_cmp op_inS ad_in (pS_var 0 (pv 0)) (pS_var 1 (pv 1)) (by rfl))))))))
def m_is_mark : MS := mRet (mCall 2 f_is_word [] (mCons (mVar 0) (mCons (mTup (mCons (mC (.str "none")) (mNil))) (mNil))))
def f_is_mark : List D → Sto → R D := pur (mFun true 1 m_is_mark)
theorem ok_is_mark {K : PySem.W.Frag} {mg : Str → Option Value} {A : Ad} (T : Tx K mg A) {w : World} {base : Heap} : FnOk PG w K mg base (L2.CX PG w) 3 A.is_mark A.is_mark_d ["value"] (spS K A.G 1 f_is_mark) :=
  okPur <|
  fnSD (N := ["value"]) (k := 2) T.is_mark.F sc_is_mark rfl fun cdv AA outer s H E hr =>
    have tk := takes_of (X := cxOf (L2.CX PG w) PG w K mg base ["value"] "is_mark" (defScope s_is_mark) A.is_mark cdv AA outer s H E) rfl rfl rfl rfl
    have hx := passes_call tk (fun _ _ _ _ h => h)
    (pSs_one (pS_ret (pS_call (ok_is_word T) (hr.mono (by decide)) rfl T.is_word.g T.is_word.F.kp (T.is_word.F.bindsN fun _ _ _ _ _ _ us hl => match us, hl with | [_, _], _ => rfl) .nil (fun _ => rfl) tk (pSA_cons (pS_var 0 (pv 0)) (pSA_cons (pS_tup (pSA_cons pS_str pSA_nil)) pSA_nil)))))
def m_is_sign : MS := mRet (mCall 2 f_is_word [] (mCons (mVar 0) (mCons (mTup (mCons (mC (.str "none")) (mNil))) (mNil))))
def f_is_sign : List D → Sto → R D := pur (mFun true 1 m_is_sign)
theorem ok_is_sign {K : PySem.W.Frag} {mg : Str → Option Value} {A : Ad} (T : Tx K mg A) {w : World} {base : Heap} : FnOk PG w K mg base (L2.CX PG w) 3 A.is_sign A.is_sign_d ["value"] (spS K A.G 1 f_is_sign) :=
  okPur <|
  fnSD (N := ["value"]) (k := 2) T.is_sign.F sc_is_sign rfl fun cdv AA outer s H E hr =>
    have tk := takes_of (X := cxOf (L2.CX PG w) PG w K mg base ["value"] "is_sign" (defScope s_is_sign) A.is_sign cdv AA outer s H E) rfl rfl rfl rfl
    have hx := passes_call tk (fun _ _ _ _ h => h)
    (pSs_one (pS_ret (pS_call (ok_is_word T) (hr.mono (by decide)) rfl T.is_word.g T.is_word.F.kp (T.is_word.F.bindsN fun _ _ _ _ _ _ us hl => match us, hl with | [_, _], _ => rfl) .nil (fun _ => rfl) tk (pSA_cons (pS_var 0 (pv 0)) (pSA_cons (pS_tup (pSA_cons pS_str pSA_nil)) pSA_nil)))))
def m_is_sequence : MS := mRet (mIsi ki_list_tuple (mVar 0))
def f_is_sequence : List D → Sto → R D := pur (mFun true 1 m_is_sequence)
theorem ok_is_sequence {K : PySem.W.Frag} {mg : Str → Option Value} {A : Ad} (T : Tx K mg A) {w : World} {base : Heap} : FnOk PG w K mg base (L2.CX PG w) 1 A.is_sequence A.is_sequence_d ["value"] (spS K A.G 1 f_is_sequence) :=
  okPur <|
  fnSD (N := ["value"]) (k := 0) T.is_sequence.F sc_is_sequence rfl fun cdv AA outer s H E hr =>
    have tk := takes_of (X := cxOf (L2.CX PG w) PG w K mg base ["value"] "is_sequence" (defScope s_is_sequence) A.is_sequence cdv AA outer s H E) rfl rfl rfl rfl
    have hx := passes_call tk (fun _ _ _ _ h => h)
    (pSs_one (pS_ret (pS_isiT (cls := [.ty "list", .ty "tuple"]) (us := [.type "list", .type "tuple"]) (pa_cons (pe_bltn (v := .ty "list") (u := .type "list") (by rfl) T.b_list (by decide +kernel) rfl) (pa_cons (pe_bltn (v := .ty "tuple") (u := .type "tuple") (by rfl) T.b_tuple (by decide +kernel) rfl) pa_nil)) (fun _ _ _ h => h) (.cons (.ty _) (.cons (.ty _) .nil)) (by show 2 ≤ sizeLine; decide) (hki_list_tuple T) (by rfl) T.b_isinstance (pS_var 0 (pv 0)))))
def p_are_names_1 : MS := mRet (mBin dEq (mApp dLen (mCons (mDc (.nm 1) [1] (mItAny (mVar 0)) (mYes) (mVar 1) (mC (.bl true))) (mNil))) (mApp dLen (mCons (mVar 0) (mNil))))
def m_are_names : MS := mSeq (mIfS (mOrB (mNotB (mTru (mCall 1 f_is_sequence [] (mCons (mVar 0) (mNil))))) (mNotB (mTru (mApp dAll (mCons (mLc (.nm 1) [1] (mItAny (mVar 0)) (mYes) (mCall 1 f_is_name [] (mCons (mVar 1) (mNil)))) (mNil)))))) (mRet (mC (.bl false))) (mNext)) (p_are_names_1)
def f_are_names : List D → Sto → R D := pur (mFun true 2 m_are_names)
theorem ok_are_names {K : PySem.W.Frag} {mg : Str → Option Value} {A : Ad} (T : Tx K mg A) {w : World} {base : Heap} : FnOk PG w K mg base (L2.CX PG w) 2 A.are_names A.are_names_d ["value"] (spS K A.G 1 f_are_names) :=
  okPur <|
  fnSD (N := ["value", "name"]) (k := 1) T.are_names.F sc_are_names rfl fun cdv AA outer s H E hr =>
    have tk := takes_of (X := cxOf (L2.CX PG w) PG w K mg base ["value", "name"] "are_names" (defScope s_are_names) A.are_names cdv AA outer s H E) rfl rfl rfl rfl
    have hx := passes_call tk (fun _ _ _ _ h => h)
    (pSs_cons (pS_if (PW.pt (pS_or (pS_not (pS_tru (pS_call (ok_is_sequence T) (hr.mono (by decide)) rfl T.is_sequence.g T.is_sequence.F.kp (T.is_sequence.F.bindsN fun _ _ _ _ _ _ us hl => match us, hl with | [_], _ => rfl) .nil (fun _ => rfl) tk (pSA_cons (pS_var 0 (pv 0)) pSA_nil)))) (pS_or1 (pS_not (pS_tru (pS_callB (cr_all rfl) ad_all (by rfl) T.b_all (by decide +kernel) (pSA_cons (pS_lc rfl sc_are_names.nd (pI_any (pS_var 0 (pv 0))) (blkOk_by (own := [("name", 1)]) (N := ["value", "name"]) (sc := defScope s_are_names) (by decide +kernel)) (fun _ _ _ _ _ => (pG_nm (i := 1) sc_are_names.nd rfl (Or.inl rfl))) (fun _ _ _ _ _ => pTs_nil) (fun _ _ _ _ _ => (pS_call (ok_is_name T) (hr.mono (by decide)) rfl T.is_name.g T.is_name.F.kp (T.is_name.F.bindsN fun _ _ _ _ _ _ us hl => match us, hl with | [_], _ => rfl) .nil (fun _ => rfl) takes0 (pSA_cons (pS_var 1 (pv 1)) pSA_nil)))) pSA_nil))))))) (pSs_one (pS_ret pS_bl)) pSs_nil) (pSs_one (pS_ret (pS_cmp (op_eqS hr.units) ad_eq (pS_callB cr_lenS ad_len (by rfl) T.b_len (by decide +kernel) (pSA_cons (pS_dc rfl sc_are_names.nd (pI_any (pS_var 0 (pv 0))) (blkOk_by (own := [("name", 1)]) (N := ["value", "name"]) (sc := defScope s_are_names) (by decide +kernel)) (fun _ _ _ _ _ => (pG_nm (i := 1) sc_are_names.nd rfl (Or.inl rfl))) (fun _ _ _ _ _ => pTs_nil) (fun _ _ _ _ _ => (pS_var 1 (pv 1))) (fun _ _ _ _ _ => pS_bl)) pSA_nil)) (pS_callB cr_lenS ad_len (by rfl) T.b_len (by decide +kernel) (pSA_cons (pS_var 0 (pv 0)) pSA_nil)) (nomark _)))))
def m_Row_init : MS := mSetF at_text "text" (mVar 0) (mVar 1)
def f_Row_init : List D → Sto → R D := pur (mFun true 2 m_Row_init)
theorem ok_Row_init {K : PySem.W.Frag} {mg : Str → Option Value} {A : Ad} (T : Tx K mg A) {w : World} {base : Heap} : FnOk PG w K mg base (L2.CX PG w) 1 A.Row_init A.Row_init_d ["self", "text"] (spS K A.G 2 f_Row_init) :=
  okPur <|
  fnSD (N := ["self", "text"]) (k := 0) T.Row_init.F sc_Row_init rfl fun cdv AA outer s H E hr =>
    have tk := takes_of (X := cxOf (L2.CX PG w) PG w K mg base ["self", "text"] "Row.__init__" (defScope s_Row_init) A.Row_init cdv AA outer s H E) rfl rfl rfl rfl
    have hx := passes_call tk (fun _ _ _ _ h => h)
    (pSs_one (pS_setF (hat_text T) (pS_var 0 (pv 0)) (pS_var 1 (pv 1))))
def m_Row_str : MS := mRet (mFmt (mFld at_text "text" (mVar 0)))
def f_Row_str : List D → Sto → R D := pur (mFun true 1 m_Row_str)
theorem ok_Row_str {K : PySem.W.Frag} {mg : Str → Option Value} {A : Ad} (T : Tx K mg A) {w : World} {base : Heap} : FnOk PG w K mg base (L2.CX PG w) 1 A.Row_str A.Row_str_d ["self"] (spS K A.G 1 f_Row_str) :=
  okPur <|
  fnSD (N := ["self"]) (k := 0) T.Row_str.F sc_Row_str rfl fun cdv AA outer s H E hr =>
    have tk := takes_of (X := cxOf (L2.CX PG w) PG w K mg base ["self"] "Row.__str__" (defScope s_Row_str) A.Row_str cdv AA outer s H E) rfl rfl rfl rfl
    have hx := passes_call tk (fun _ _ _ _ h => h)
    (pSs_one (pS_ret (pS_js1 (pS_fmt (pS_fld (hat_text T) (pS_var 0 (pv 0)))))))
def m_need : MS := mIfS (mNotB (mTru (mVar 0))) (mNever) (mNext)
def f_need : List D → Sto → R D := pur (mFun true 2 m_need)
theorem ok_need {K : PySem.W.Frag} {mg : Str → Option Value} {A : Ad} (T : Tx K mg A) {w : World} {base : Heap} : FnOk PG w K mg base (L2.CX PG w) 1 A.need A.need_d ["is_right", "word"] (spS K A.G 2 f_need) :=
  okPur <|
  fnSD (N := ["is_right", "word"]) (k := 0) T.need.F sc_need rfl fun cdv AA outer s H E hr =>
    have tk := takes_of (X := cxOf (L2.CX PG w) PG w K mg base ["is_right", "word"] "need" (defScope s_need) A.need cdv AA outer s H E) rfl rfl rfl rfl
    have hx := passes_call tk (fun _ _ _ _ h => h)
    (pSs_one (pS_if (pS_not (pS_tru (pS_var 0 (pv 0)))) (pSs_one pS_never) pSs_nil))
def p_Begin_init_1 : MS := mSup [1] 0 2 f_Row_init (mCons (mJs [mC (.str "begin "), mFmt (mVar 1), mC (.str " "), mFmt (mVar 2), mC (.str " "), mFmt (mVar 3)] Str.empty) (mNil))
def p_Begin_init_2 : MS := mSeq (mSetF at_mark "mark" (mVar 0) (mVar 1)) (mSeq (mSetF at_kind "kind" (mVar 0) (mVar 2)) (mSeq (mSetF at_mood "mood" (mVar 0) (mVar 3)) (p_Begin_init_1)))
def m_Begin_init : MS := mSeq (mDo (mCall 2 f_need [] (mCons (mOr (mCall 1 f_is_mark [] (mCons (mVar 1) (mNil))) (mBin dEq (mVar 1) (mC (.str "any")))) (mCons (mC (.str "mark")) (mNil))))) (mSeq (mDo (mCall 2 f_need [] (mCons (mCall 2 f_is_word [] (mCons (mVar 2) (mCons (mTup (mCons (mC (.str "any")) (mNil))) (mNil)))) (mCons (mC (.str "kind")) (mNil))))) (mSeq (mDo (mCall 2 f_need [] (mCons (mCall 1 f_is_name [] (mCons (mVar 3) (mNil))) (mCons (mC (.str "mood")) (mNil))))) (p_Begin_init_2)))
def f_Begin_init : List D → Sto → R D := pur (mFun true 4 m_Begin_init)
theorem ok_Begin_init {K : PySem.W.Frag} {mg : Str → Option Value} {A : Ad} (T : Tx K mg A) {w : World} {base : Heap} : FnOk PG w K mg base (L2.CX PG w) 4 A.Begin_init A.Begin_init_d ["self", "mark", "kind", "mood"] (spS K A.G 4 f_Begin_init) := by
  obtain ⟨cdD, hD⟩ := T.cd_Begin
  exact okPur <| fnSS (N := ["self", "mark", "kind", "mood"]) (k := 3) T.Begin_init T.sup sc_Begin_init hD rfl rfl rfl rfl fun cdv cc AA outer s H E hr Sx =>
    have tk := takes_of (X := cxS (L2.CX PG w) PG w K mg base ["self", "mark", "kind", "mood"] "Begin.__init__" (defScope s_Begin_init) A.Begin_init cdv cc AA outer s H E) rfl rfl rfl rfl
    have hx := passes_call tk (fun _ _ _ _ h => h)
    (pSsA_cons (pSA_st (pS_do (pS_call (ok_need T) (hr.mono (by decide)) rfl T.need.g T.need.F.kp (T.need.F.bindsN fun _ _ _ _ _ _ us hl => match us, hl with | [_, _], _ => rfl) .nil (fun _ => rfl) tk (pSA_cons (pS_orV (pS_call (ok_is_mark T) (hr.mono (by decide)) rfl T.is_mark.g T.is_mark.F.kp (T.is_mark.F.bindsN fun _ _ _ _ _ _ us hl => match us, hl with | [_], _ => rfl) .nil (fun _ => rfl) tk (pSA_cons (pS_var 1 (pv 1)) pSA_nil)) (pe_one (pS_cmp (op_eqS hr.units) ad_eq (pS_var 1 (pv 1)) pS_str (nomark _)))) (pSA_cons pS_str pSA_nil))))) (pSsA_cons (pSA_st (pS_do (pS_call (ok_need T) (hr.mono (by decide)) rfl T.need.g T.need.F.kp (T.need.F.bindsN fun _ _ _ _ _ _ us hl => match us, hl with | [_, _], _ => rfl) .nil (fun _ => rfl) tk (pSA_cons (pS_call (ok_is_word T) (hr.mono (by decide)) rfl T.is_word.g T.is_word.F.kp (T.is_word.F.bindsN fun _ _ _ _ _ _ us hl => match us, hl with | [_, _], _ => rfl) .nil (fun _ => rfl) tk (pSA_cons (pS_var 2 (pv 2)) (pSA_cons (pS_tup (pSA_cons pS_str pSA_nil)) pSA_nil))) (pSA_cons pS_str pSA_nil))))) (pSsA_cons (pSA_st (pS_do (pS_call (ok_need T) (hr.mono (by decide)) rfl T.need.g T.need.F.kp (T.need.F.bindsN fun _ _ _ _ _ _ us hl => match us, hl with | [_, _], _ => rfl) .nil (fun _ => rfl) tk (pSA_cons (pS_call (ok_is_name T) (hr.mono (by decide)) rfl T.is_name.g T.is_name.F.kp (T.is_name.F.bindsN fun _ _ _ _ _ _ us hl => match us, hl with | [_], _ => rfl) .nil (fun _ => rfl) tk (pSA_cons (pS_var 3 (pv 3)) pSA_nil)) (pSA_cons pS_str pSA_nil))))) (pSsA_cons (pSA_st (pS_setF (hat_mark T) (pS_var 0 (pv 0)) (pS_var 1 (pv 1)))) (pSsA_cons (pSA_st (pS_setF (hat_kind T) (pS_var 0 (pv 0)) (pS_var 2 (pv 2)))) (pSsA_cons (pSA_st (pS_setF (hat_mood T) (pS_var 0 (pv 0)) (pS_var 3 (pv 3)))) (pSsA_one (pSA_super (i := 0) Sx (ok_Row_init T) (hsu_Begin T) (hr.mono (by decide)) (T.Row_init.F.bindsN fun _ _ _ _ _ _ us hl => match us, hl with | [_, _], _ => rfl) hx (pSA_cons (pS_js (pj_cons pS_str (pj_cons (pS_fmt (pS_var 1 (pv 1))) (pj_cons pS_str (pj_cons (pS_fmt (pS_var 2 (pv 2))) (pj_cons pS_str (pj_cons (pS_fmt (pS_var 3 (pv 3))) pj_nil))))))) pSA_nil)))))))))
def p_Send_init_1 : MS := mSup [2] 0 2 f_Row_init (mCons (mJs [mC (.str "send "), mFmt (mVar 1), mC (.str " "), mFmt (mVar 2), mC (.str " "), mFmt (mVar 3)] Str.empty) (mNil))
def p_Send_init_2 : MS := mSeq (mSetF at_mood "mood" (mVar 0) (mVar 1)) (mSeq (mSetF at_service "service" (mVar 0) (mVar 2)) (mSeq (mSetF at_mark "mark" (mVar 0) (mVar 3)) (p_Send_init_1)))
def m_Send_init : MS := mSeq (mDo (mCall 2 f_need [] (mCons (mCall 2 f_is_word [] (mCons (mVar 1) (mCons (mTup (mCons (mC (.str "any")) (mNil))) (mNil)))) (mCons (mC (.str "mood")) (mNil))))) (mSeq (mDo (mCall 2 f_need [] (mCons (mCall 2 f_is_word [] (mCons (mVar 2) (mCons (mTup (mCons (mC (.str "any")) (mNil))) (mNil)))) (mCons (mC (.str "service")) (mNil))))) (mSeq (mDo (mCall 2 f_need [] (mCons (mCall 2 f_is_word [] (mCons (mVar 3) (mCons (mTup (mCons (mC (.str "none")) (mCons (mC (.str "same")) (mNil)))) (mNil)))) (mCons (mC (.str "mark")) (mNil))))) (p_Send_init_2)))
def f_Send_init : List D → Sto → R D := pur (mFun true 4 m_Send_init)
theorem ok_Send_init {K : PySem.W.Frag} {mg : Str → Option Value} {A : Ad} (T : Tx K mg A) {w : World} {base : Heap} : FnOk PG w K mg base (L2.CX PG w) 3 A.Send_init A.Send_init_d ["self", "mood", "service", "mark"] (spS K A.G 4 f_Send_init) := by
  obtain ⟨cdD, hD⟩ := T.cd_Send
  exact okPur <| fnSS (N := ["self", "mood", "service", "mark"]) (k := 2) T.Send_init T.sup sc_Send_init hD rfl rfl rfl rfl fun cdv cc AA outer s H E hr Sx =>
    have tk := takes_of (X := cxS (L2.CX PG w) PG w K mg base ["self", "mood", "service", "mark"] "Send.__init__" (defScope s_Send_init) A.Send_init cdv cc AA outer s H E) rfl rfl rfl rfl
    have hx := passes_call tk (fun _ _ _ _ h => h)
    (pSsA_cons (pSA_st (pS_do (pS_call (ok_need T) (hr.mono (by decide)) rfl T.need.g T.need.F.kp (T.need.F.bindsN fun _ _ _ _ _ _ us hl => match us, hl with | [_, _], _ => rfl) .nil (fun _ => rfl) tk (pSA_cons (pS_call (ok_is_word T) (hr.mono (by decide)) rfl T.is_word.g T.is_word.F.kp (T.is_word.F.bindsN fun _ _ _ _ _ _ us hl => match us, hl with | [_, _], _ => rfl) .nil (fun _ => rfl) tk (pSA_cons (pS_var 1 (pv 1)) (pSA_cons (pS_tup (pSA_cons pS_str pSA_nil)) pSA_nil))) (pSA_cons pS_str pSA_nil))))) (pSsA_cons (pSA_st (pS_do (pS_call (ok_need T) (hr.mono (by decide)) rfl T.need.g T.need.F.kp (T.need.F.bindsN fun _ _ _ _ _ _ us hl => match us, hl with | [_, _], _ => rfl) .nil (fun _ => rfl) tk (pSA_cons (pS_call (ok_is_word T) (hr.mono (by decide)) rfl T.is_word.g T.is_word.F.kp (T.is_word.F.bindsN fun _ _ _ _ _ _ us hl => match us, hl with | [_, _], _ => rfl) .nil (fun _ => rfl) tk (pSA_cons (pS_var 2 (pv 2)) (pSA_cons (pS_tup (pSA_cons pS_str pSA_nil)) pSA_nil))) (pSA_cons pS_str pSA_nil))))) (pSsA_cons (pSA_st (pS_do (pS_call (ok_need T) (hr.mono (by decide)) rfl T.need.g T.need.F.kp (T.need.F.bindsN fun _ _ _ _ _ _ us hl => match us, hl with | [_, _], _ => rfl) .nil (fun _ => rfl) tk (pSA_cons (pS_call (ok_is_word T) (hr.mono (by decide)) rfl T.is_word.g T.is_word.F.kp (T.is_word.F.bindsN fun _ _ _ _ _ _ us hl => match us, hl with | [_, _], _ => rfl) .nil (fun _ => rfl) tk (pSA_cons (pS_var 3 (pv 3)) (pSA_cons (pS_tup (pSA_cons pS_str (pSA_cons pS_str pSA_nil))) pSA_nil))) (pSA_cons pS_str pSA_nil))))) (pSsA_cons (pSA_st (pS_setF (hat_mood T) (pS_var 0 (pv 0)) (pS_var 1 (pv 1)))) (pSsA_cons (pSA_st (pS_setF (hat_service T) (pS_var 0 (pv 0)) (pS_var 2 (pv 2)))) (pSsA_cons (pSA_st (pS_setF (hat_mark T) (pS_var 0 (pv 0)) (pS_var 3 (pv 3)))) (pSsA_one (pSA_super (i := 0) Sx (ok_Row_init T) (hsu_Send T) (hr.mono (by decide)) (T.Row_init.F.bindsN fun _ _ _ _ _ _ us hl => match us, hl with | [_, _], _ => rfl) hx (pSA_cons (pS_js (pj_cons pS_str (pj_cons (pS_fmt (pS_var 1 (pv 1))) (pj_cons pS_str (pj_cons (pS_fmt (pS_var 2 (pv 2))) (pj_cons pS_str (pj_cons (pS_fmt (pS_var 3 (pv 3))) pj_nil))))))) pSA_nil)))))))))
def p_Back_init_1 : MS := mSup [3] 0 2 f_Row_init (mCons (mJs [mC (.str "back "), mFmt (mVar 1), mC (.str " "), mFmt (mVar 2), mC (.str " "), mFmt (mVar 3), mC (.str " "), mFmt (mVar 4)] Str.empty) (mNil))
def p_Back_init_2 : MS := mSeq (mSetF at_mood "mood" (mVar 0) (mVar 1)) (mSeq (mSetF at_service "service" (mVar 0) (mVar 2)) (mSeq (mSetF at_sign "sign" (mVar 0) (mVar 3)) (mSeq (mSetF at_then "then" (mVar 0) (mVar 4)) (p_Back_init_1))))
def m_Back_init : MS := mSeq (mDo (mCall 2 f_need [] (mCons (mCall 2 f_is_word [] (mCons (mVar 1) (mCons (mTup (mCons (mC (.str "any")) (mNil))) (mNil)))) (mCons (mC (.str "mood")) (mNil))))) (mSeq (mDo (mCall 2 f_need [] (mCons (mCall 2 f_is_word [] (mCons (mVar 2) (mCons (mTup (mCons (mC (.str "any")) (mNil))) (mNil)))) (mCons (mC (.str "service")) (mNil))))) (mSeq (mDo (mCall 2 f_need [] (mCons (mCall 2 f_is_word [] (mCons (mVar 3) (mCons (mTup (mCons (mC (.str "none")) (mCons (mC (.str "any")) (mNil)))) (mNil)))) (mCons (mC (.str "sign")) (mNil))))) (mSeq (mDo (mCall 2 f_need [] (mCons (mCall 2 f_is_word [] (mCons (mVar 4) (mCons (mTup (mCons (mC (.str "same")) (mNil))) (mNil)))) (mCons (mC (.str "then")) (mNil))))) (p_Back_init_2))))
def f_Back_init : List D → Sto → R D := pur (mFun true 5 m_Back_init)
theorem ok_Back_init {K : PySem.W.Frag} {mg : Str → Option Value} {A : Ad} (T : Tx K mg A) {w : World} {base : Heap} : FnOk PG w K mg base (L2.CX PG w) 3 A.Back_init A.Back_init_d ["self", "mood", "service", "sign", "then"] (spS K A.G 5 f_Back_init) := by
  obtain ⟨cdD, hD⟩ := T.cd_Back
  exact okPur <| fnSS (N := ["self", "mood", "service", "sign", "then"]) (k := 2) T.Back_init T.sup sc_Back_init hD rfl rfl rfl rfl fun cdv cc AA outer s H E hr Sx =>
    have tk := takes_of (X := cxS (L2.CX PG w) PG w K mg base ["self", "mood", "service", "sign", "then"] "Back.__init__" (defScope s_Back_init) A.Back_init cdv cc AA outer s H E) rfl rfl rfl rfl
    have hx := passes_call tk (fun _ _ _ _ h => h)
    (pSsA_cons (pSA_st (pS_do (pS_call (ok_need T) (hr.mono (by decide)) rfl T.need.g T.need.F.kp (T.need.F.bindsN fun _ _ _ _ _ _ us hl => match us, hl with | [_, _], _ => rfl) .nil (fun _ => rfl) tk (pSA_cons (pS_call (ok_is_word T) (hr.mono (by decide)) rfl T.is_word.g T.is_word.F.kp (T.is_word.F.bindsN fun _ _ _ _ _ _ us hl => match us, hl with | [_, _], _ => rfl) .nil (fun _ => rfl) tk (pSA_cons (pS_var 1 (pv 1)) (pSA_cons (pS_tup (pSA_cons pS_str pSA_nil)) pSA_nil))) (pSA_cons pS_str pSA_nil))))) (pSsA_cons (pSA_st (pS_do (pS_call (ok_need T) (hr.mono (by decide)) rfl T.need.g T.need.F.kp (T.need.F.bindsN fun _ _ _ _ _ _ us hl => match us, hl with | [_, _], _ => rfl) .nil (fun _ => rfl) tk (pSA_cons (pS_call (ok_is_word T) (hr.mono (by decide)) rfl T.is_word.g T.is_word.F.kp (T.is_word.F.bindsN fun _ _ _ _ _ _ us hl => match us, hl with | [_, _], _ => rfl) .nil (fun _ => rfl) tk (pSA_cons (pS_var 2 (pv 2)) (pSA_cons (pS_tup (pSA_cons pS_str pSA_nil)) pSA_nil))) (pSA_cons pS_str pSA_nil))))) (pSsA_cons (pSA_st (pS_do (pS_call (ok_need T) (hr.mono (by decide)) rfl T.need.g T.need.F.kp (T.need.F.bindsN fun _ _ _ _ _ _ us hl => match us, hl with | [_, _], _ => rfl) .nil (fun _ => rfl) tk (pSA_cons (pS_call (ok_is_word T) (hr.mono (by decide)) rfl T.is_word.g T.is_word.F.kp (T.is_word.F.bindsN fun _ _ _ _ _ _ us hl => match us, hl with | [_, _], _ => rfl) .nil (fun _ => rfl) tk (pSA_cons (pS_var 3 (pv 3)) (pSA_cons (pS_tup (pSA_cons pS_str (pSA_cons pS_str pSA_nil))) pSA_nil))) (pSA_cons pS_str pSA_nil))))) (pSsA_cons (pSA_st (pS_do (pS_call (ok_need T) (hr.mono (by decide)) rfl T.need.g T.need.F.kp (T.need.F.bindsN fun _ _ _ _ _ _ us hl => match us, hl with | [_, _], _ => rfl) .nil (fun _ => rfl) tk (pSA_cons (pS_call (ok_is_word T) (hr.mono (by decide)) rfl T.is_word.g T.is_word.F.kp (T.is_word.F.bindsN fun _ _ _ _ _ _ us hl => match us, hl with | [_, _], _ => rfl) .nil (fun _ => rfl) tk (pSA_cons (pS_var 4 (pv 4)) (pSA_cons (pS_tup (pSA_cons pS_str pSA_nil)) pSA_nil))) (pSA_cons pS_str pSA_nil))))) (pSsA_cons (pSA_st (pS_setF (hat_mood T) (pS_var 0 (pv 0)) (pS_var 1 (pv 1)))) (pSsA_cons (pSA_st (pS_setF (hat_service T) (pS_var 0 (pv 0)) (pS_var 2 (pv 2)))) (pSsA_cons (pSA_st (pS_setF (hat_sign T) (pS_var 0 (pv 0)) (pS_var 3 (pv 3)))) (pSsA_cons (pSA_st (pS_setF (hat_then T) (pS_var 0 (pv 0)) (pS_var 4 (pv 4)))) (pSsA_one (pSA_super (i := 0) Sx (ok_Row_init T) (hsu_Back T) (hr.mono (by decide)) (T.Row_init.F.bindsN fun _ _ _ _ _ _ us hl => match us, hl with | [_, _], _ => rfl) hx (pSA_cons (pS_js (pj_cons pS_str (pj_cons (pS_fmt (pS_var 1 (pv 1))) (pj_cons pS_str (pj_cons (pS_fmt (pS_var 2 (pv 2))) (pj_cons pS_str (pj_cons (pS_fmt (pS_var 3 (pv 3))) (pj_cons pS_str (pj_cons (pS_fmt (pS_var 4 (pv 4))) pj_nil))))))))) pSA_nil)))))))))))
def p_End_init_1 : MS := mSup [4] 0 2 f_Row_init (mCons (mJs [mC (.str "end "), mFmt (mVar 1), mC (.str " "), mFmt (mVar 2), mC (.str " "), mFmt (mVar 3), mC (.str " "), mFmt (mVar 4)] Str.empty) (mNil))
def p_End_init_2 : MS := mSeq (mSetF at_mood "mood" (mVar 0) (mVar 1)) (mSeq (mSetF at_outcome "outcome" (mVar 0) (mVar 2)) (mSeq (mSetF at_sign "sign" (mVar 0) (mVar 3)) (mSeq (mSetF at_part "part" (mVar 0) (mVar 4)) (p_End_init_1))))
def m_End_init : MS := mSeq (mDo (mCall 2 f_need [] (mCons (mCall 2 f_is_word [] (mCons (mVar 1) (mCons (mTup (mCons (mC (.str "any")) (mNil))) (mNil)))) (mCons (mC (.str "mood")) (mNil))))) (mSeq (mDo (mCall 2 f_need [] (mCons (mAnd (mIsi ki_str (mVar 2)) (mBin dIn (mVar 2) (mTup (mCons (mC (.str "good")) (mCons (mC (.str "bad")) (mCons (mC (.str "any")) (mNil))))))) (mCons (mC (.str "outcome")) (mNil))))) (mSeq (mDo (mCall 2 f_need [] (mCons (mCall 1 f_is_sign [] (mCons (mVar 3) (mNil))) (mCons (mC (.str "sign")) (mNil))))) (mSeq (mDo (mCall 2 f_need [] (mCons (mAnd (mIsi ki_str (mVar 4)) (mBin dIn (mVar 4) (mTup (mCons (mC (.str "keep")) (mCons (mC (.str "drop")) (mNil)))))) (mCons (mC (.str "part")) (mNil))))) (p_End_init_2))))
def f_End_init : List D → Sto → R D := pur (mFun true 5 m_End_init)
theorem ok_End_init {K : PySem.W.Frag} {mg : Str → Option Value} {A : Ad} (T : Tx K mg A) {w : World} {base : Heap} : FnOk PG w K mg base (L2.CX PG w) 4 A.End_init A.End_init_d ["self", "mood", "outcome", "sign", "part"] (spS K A.G 5 f_End_init) := by
  obtain ⟨cdD, hD⟩ := T.cd_End
  exact okPur <| fnSS (N := ["self", "mood", "outcome", "sign", "part"]) (k := 3) T.End_init T.sup sc_End_init hD rfl rfl rfl rfl fun cdv cc AA outer s H E hr Sx =>
    have tk := takes_of (X := cxS (L2.CX PG w) PG w K mg base ["self", "mood", "outcome", "sign", "part"] "End.__init__" (defScope s_End_init) A.End_init cdv cc AA outer s H E) rfl rfl rfl rfl
    have hx := passes_call tk (fun _ _ _ _ h => h)
    (pSsA_cons (pSA_st (pS_do (pS_call (ok_need T) (hr.mono (by decide)) rfl T.need.g T.need.F.kp (T.need.F.bindsN fun _ _ _ _ _ _ us hl => match us, hl with | [_, _], _ => rfl) .nil (fun _ => rfl) tk (pSA_cons (pS_call (ok_is_word T) (hr.mono (by decide)) rfl T.is_word.g T.is_word.F.kp (T.is_word.F.bindsN fun _ _ _ _ _ _ us hl => match us, hl with | [_, _], _ => rfl) .nil (fun _ => rfl) tk (pSA_cons (pS_var 1 (pv 1)) (pSA_cons (pS_tup (pSA_cons pS_str pSA_nil)) pSA_nil))) (pSA_cons pS_str pSA_nil))))) (pSsA_cons (pSA_st (pS_do (pS_call (ok_need T) (hr.mono (by decide)) rfl T.need.g T.need.F.kp (T.need.F.bindsN fun _ _ _ _ _ _ us hl => match us, hl with | [_, _], _ => rfl) .nil (fun _ => rfl) tk (pSA_cons (pS_andV (pS_isi (pe_bltn (v := .ty "str") (u := .type "str") (by rfl) T.b_str (by decide +kernel) rfl) (.ty _) (hki_str T) (by rfl) T.b_isinstance (pS_var 2 (pv 2))) (pe_one (pS_cmp op_inS ad_in (pS_var 2 (pv 2)) (pS_tup (pSA_cons pS_str (pSA_cons pS_str (pSA_cons pS_str pSA_nil)))) (by rfl)))) (pSA_cons pS_str pSA_nil))))) (pSsA_cons (pSA_st (pS_do (pS_call (ok_need T) (hr.mono (by decide)) rfl T.need.g T.need.F.kp (T.need.F.bindsN fun _ _ _ _ _ _ us hl => match us, hl with | [_, _], _ => rfl) .nil (fun _ => rfl) tk (pSA_cons (pS_call (ok_is_sign T) (hr.mono (by decide)) rfl T.is_sign.g T.is_sign.F.kp (T.is_sign.F.bindsN fun _ _ _ _ _ _ us hl => match us, hl with | [_], _ => rfl) .nil (fun _ => rfl) tk (pSA_cons (pS_var 3 (pv 3)) pSA_nil)) (pSA_cons pS_str pSA_nil))))) (pSsA_cons (pSA_st (pS_do (pS_call (ok_need T) (hr.mono (by decide)) rfl T.need.g T.need.F.kp (T.need.F.bindsN fun _ _ _ _ _ _ us hl => match us, hl with | [_, _], _ => rfl) .nil (fun _ => rfl) tk (pSA_cons (pS_andV (pS_isi (pe_bltn (v := .ty "str") (u := .type "str") (by rfl) T.b_str (by decide +kernel) rfl) (.ty _) (hki_str T) (by rfl) T.b_isinstance (pS_var 4 (pv 4))) (pe_one (pS_cmp op_inS ad_in (pS_var 4 (pv 4)) (pS_tup (pSA_cons pS_str (pSA_cons pS_str pSA_nil))) (by rfl)))) (pSA_cons pS_str pSA_nil))))) (pSsA_cons (pSA_st (pS_setF (hat_mood T) (pS_var 0 (pv 0)) (pS_var 1 (pv 1)))) (pSsA_cons (pSA_st (pS_setF (hat_outcome T) (pS_var 0 (pv 0)) (pS_var 2 (pv 2)))) (pSsA_cons (pSA_st (pS_setF (hat_sign T) (pS_var 0 (pv 0)) (pS_var 3 (pv 3)))) (pSsA_cons (pSA_st (pS_setF (hat_part T) (pS_var 0 (pv 0)) (pS_var 4 (pv 4)))) (pSsA_one (pSA_super (i := 0) Sx (ok_Row_init T) (hsu_End T) (hr.mono (by decide)) (T.Row_init.F.bindsN fun _ _ _ _ _ _ us hl => match us, hl with | [_, _], _ => rfl) hx (pSA_cons (pS_js (pj_cons pS_str (pj_cons (pS_fmt (pS_var 1 (pv 1))) (pj_cons pS_str (pj_cons (pS_fmt (pS_var 2 (pv 2))) (pj_cons pS_str (pj_cons (pS_fmt (pS_var 3 (pv 3))) (pj_cons pS_str (pj_cons (pS_fmt (pS_var 4 (pv 4))) pj_nil))))))))) pSA_nil)))))))))))
end K
namespace K
open PySem L2 S
def m_need_24 : MS := mIfS (mNotB (mTru (mVar 0))) (mNever) (mNext)
def f_need_24 : List D → Sto → R D := pur (mFun true 2 m_need_24)
theorem ok_need_24 {K : PySem.W.Frag} {mg : Str → Option Value} {A : Ad} (T : Tx K mg A) {w : World} {base : Heap} : FnOk PG w K mg base (L2.CX PG w) 1 A.need_24 A.need_24_d ["is_right", "word"] (spS K A.G 2 f_need_24) :=
  okPur <|
  fnSD (N := ["is_right", "word"]) (k := 0) T.need_24.F sc_need_24 rfl fun cdv AA outer s H E hr =>
    have tk := takes_of (X := cxOf (L2.CX PG w) PG w K mg base ["is_right", "word"] "need" (defScope s_need_24) A.need_24 cdv AA outer s H E) rfl rfl rfl rfl
    have hx := passes_call tk (fun _ _ _ _ h => h)
    (pSs_one (pS_if (pS_not (pS_tru (pS_var 0 (pv 0)))) (pSs_one pS_never) pSs_nil))
def m_moods_of : MS := mSeq (mSet 1 (mIf (mTest (mBin dEq (mBin dIx (mVar 0) (mC (.int 0))) (mC (.str "begin")))) (mLst (mCons (mBin dIx (mVar 0) (mC (.int 3))) (mNil))) (mLst (mCons (mBin dIx (mVar 0) (mC (.int 1))) (mNil))))) (mSeq (mSet 1 (mIf (mTest (mBin dEq (mBin dIx (mVar 0) (mC (.int 0))) (mC (.str "back")))) (mLst (mStar (mVar 1) (mCons (mBin dIx (mVar 0) (mC (.int 4))) (mNil)))) (mVar 1))) (mRet (mLc (.nm 2) [2] (mItAny (mVar 1)) (mTest (mBin dNotIn (mVar 2) (mTup (mCons (mC (.str "any")) (mCons (mC (.str "same")) (mNil)))))) (mVar 2))))
def f_moods_of : List D → Sto → R D := pur (mFun true 3 m_moods_of)
theorem ok_moods_of {K : PySem.W.Frag} {mg : Str → Option Value} {A : Ad} (T : Tx K mg A) {w : World} {base : Heap} : FnOk PG w K mg base (L2.CX PG w) 1 A.moods_of A.moods_of_d ["words"] (spS K A.G 1 f_moods_of) :=
  okPur <|
  fnSD (N := ["words", "some", "mood"]) (k := 0) T.moods_of.F sc_moods_of rfl fun cdv AA outer s H E hr =>
    have tk := takes_of (X := cxOf (L2.CX PG w) PG w K mg base ["words", "some", "mood"] "moods_of" (defScope s_moods_of) A.moods_of cdv AA outer s H E) rfl rfl rfl rfl
    have hx := passes_call tk (fun _ _ _ _ h => h)
    (pSs_cons (pS_set (i := 1) sc_moods_of.nd rfl (Or.inl rfl) (pS_ifE (pS_cmpT (op_eqS hr.units) ad_eq (pS_ix ix_S ad_ix (pS_var 0 (pv 0)) pS_int (fun _ _ => rfl)) pS_str (nomark _)) (pS_lst (pSA_cons (pS_ix ix_S ad_ix (pS_var 0 (pv 0)) pS_int (fun _ _ => rfl)) pSA_nil)) (pS_lst (pSA_cons (pS_ix ix_S ad_ix (pS_var 0 (pv 0)) pS_int (fun _ _ => rfl)) pSA_nil)))) (pSs_cons (pS_set (i := 1) sc_moods_of.nd rfl (Or.inl rfl) (pS_ifE (pS_cmpT (op_eqS hr.units) ad_eq (pS_ix ix_S ad_ix (pS_var 0 (pv 0)) pS_int (fun _ _ => rfl)) pS_str (nomark _)) (pS_lst (pSA_star (pS_var 1 (pv 1)) (pSA_cons (pS_ix ix_S ad_ix (pS_var 0 (pv 0)) pS_int (fun _ _ => rfl)) pSA_nil))) (pS_var 1 (pv 1)))) (pSs_one (pS_ret (pS_lc rfl sc_moods_of.nd (pI_any (pS_var 1 (pv 1))) (blkOk_by (own := [("mood", 2)]) (N := ["words", "some", "mood"]) (sc := defScope s_moods_of) (by decide +kernel)) (fun _ _ _ _ _ => (pG_nm (i := 2) sc_moods_of.nd rfl (Or.inl rfl))) (fun _ _ _ _ _ => (pTs_one (pS_cmpT op_notInS ad_notIn (pS_var 2 (pv 2)) (pS_tup (pSA_cons pS_str (pSA_cons pS_str pSA_nil))) (by rfl)))) (fun _ _ _ _ _ => (pS_var 2 (pv 2))))))))
def m_ascending : MS := mRet (mApp dTuple (mCons (mApp dSorted (mCons (mLc (.nm 1) [1] (mItDc (.nm 1) [1] (mItAny (mVar 0)) (mYes) (mVar 1) (mC (.bl true))) (mYes) (mApp dStr (mCons (mVar 1) (mNil)))) (mNil))) (mNil)))
def f_ascending : List D → Sto → R D := pur (mFun true 2 m_ascending)
theorem ok_ascending {K : PySem.W.Frag} {mg : Str → Option Value} {A : Ad} (T : Tx K mg A) {w : World} {base : Heap} : FnOk PG w K mg base (L2.CX PG w) 1 A.ascending A.ascending_d ["words"] (spS K A.G 1 f_ascending) :=
  okPur <|
  fnSD (N := ["words", "word"]) (k := 0) T.ascending.F sc_ascending rfl fun cdv AA outer s H E hr =>
    have tk := takes_of (X := cxOf (L2.CX PG w) PG w K mg base ["words", "word"] "ascending" (defScope s_ascending) A.ascending cdv AA outer s H E) rfl rfl rfl rfl
    have hx := passes_call tk (fun _ _ _ _ h => h)
    (pSs_one (pS_ret (pS_callTy call_tuple_of ad_tuple (by rfl) T.b_tuple (by decide +kernel) (pSA_cons (pS_callB cr_sortedS ad_sorted (by rfl) T.b_sorted (by decide +kernel) (pSA_cons (pS_lc rfl sc_ascending.nd (pI_dc rfl sc_ascending.nd (pI_any (pS_var 0 (pv 0))) (blkOk_by (own := [("word", 1)]) (N := ["words", "word"]) (sc := defScope s_ascending) (by decide +kernel)) (fun _ _ _ _ _ => (pG_nm (i := 1) sc_ascending.nd rfl (Or.inl rfl))) (fun _ _ _ _ _ => pTs_nil) (fun _ _ _ _ _ => (pS_var 1 (pv 1))) (fun _ _ _ _ _ => pS_bl)) (blkOk_by (own := [("word", 1)]) (N := ["words", "word"]) (sc := defScope s_ascending) (by decide +kernel)) (fun _ _ _ _ _ => (pG_nm (i := 1) sc_ascending.nd rfl (Or.inl rfl))) (fun _ _ _ _ _ => pTs_nil) (fun _ _ _ _ _ => (pS_callTy cr_str ad_str (by rfl) T.b_str (by decide +kernel) (pSA_cons (pS_var 1 (pv 1)) pSA_nil)))) pSA_nil)) pSA_nil))))
def p_Service_init_1 : MS := mSetF at_text "text" (mVar 0) (mTxt dJoin (mC (.str "\n")) (mLst (mStar (mVar 6) (mStar (mLc (.nm 8) [8] (mItAny (mFld at_told "told" (mVar 0))) (mYes) (mTxt dJoin (mC (.str " ")) (mVar 8))) (mNil)))))
def p_Service_init_2 : MS := mSeq (mSet 6 (mIf (mTest (mBin dGt (mApp dLen (mCons (mVar 4) (mNil))) (mC (.int 0)))) (mLst (mStar (mVar 6) (mCons (mTxt dJoin (mC (.str " ")) (mLst (mCons (mC (.str "leaves")) (mStar (mVar 4) (mNil))))) (mNil)))) (mVar 6))) (p_Service_init_1)
def p_Service_init_3 : MS := mSeq (mSet 6 (mIf (mTest (mBin dGt (mApp dLen (mCons (mVar 3) (mNil))) (mC (.int 0)))) (mLst (mStar (mVar 6) (mCons (mTxt dJoin (mC (.str " ")) (mLst (mCons (mC (.str "waits")) (mStar (mVar 3) (mNil))))) (mNil)))) (mVar 6))) (p_Service_init_2)
def p_Service_init_4 : MS := mSeq (mSet 6 (mLst (mCons (mTxt dJoin (mC (.str " ")) (mLst (mCons (mC (.str "service")) (mCons (mVar 1) (mStar (mVar 2) (mNil)))))) (mNil)))) (p_Service_init_3)
def p_Service_init_5 : MS := mSeq (mSetF at_moods "moods" (mVar 0) (mCall 1 f_ascending [] (mCons (mLst (mCons (mC (.str "calm")) (mStar (mLc2 (.nm 8) [8, 9] (mItAny (mFld at_told "told" (mVar 0))) (mYes) (.nm 9) [9] (mItAny (mCall 1 f_moods_of [] (mCons (mVar 8) (mNil)))) (mYes) (mVar 9)) (mNil)))) (mNil)))) (p_Service_init_4)
def p_Service_init_6 : MS := mSeq (mSetF at_told "told" (mVar 0) (mLc (.nm 7) [7] (mItAny (mFld at_rows "rows" (mVar 0))) (mYes) (mTxt dSplit (mApp (dStrX stc_0 f_Row_str dStr) (mCons (mVar 7) (mNil))) (mC (.str " "))))) (p_Service_init_5)
def p_Service_init_7 : MS := mSeq (mSetF at_name "name" (mVar 0) (mVar 1)) (mSeq (mSetF at_kinds "kinds" (mVar 0) (mApp dTuple (mCons (mVar 2) (mNil)))) (mSeq (mSetF at_waits "waits" (mVar 0) (mApp dTuple (mCons (mVar 3) (mNil)))) (mSeq (mSetF at_leaves "leaves" (mVar 0) (mApp dTuple (mCons (mVar 4) (mNil)))) (mSeq (mSetF at_rows "rows" (mVar 0) (mApp dTuple (mCons (mVar 5) (mNil)))) (p_Service_init_6)))))
def m_Service_init : MS := mSeq (mDo (mCall 2 f_need_24 [] (mCons (mCall 1 f_is_name [] (mCons (mVar 1) (mNil))) (mCons (mC (.str "name")) (mNil))))) (mSeq (mDo (mCall 2 f_need_24 [] (mCons (mAnd (mCall 1 f_are_names [] (mCons (mVar 2) (mNil))) (mBin dGt (mApp dLen (mCons (mVar 2) (mNil))) (mC (.int 0)))) (mCons (mC (.str "kinds")) (mNil))))) (mSeq (mDo (mCall 2 f_need_24 [] (mCons (mCall 1 f_are_names [] (mCons (mVar 3) (mNil))) (mCons (mC (.str "waits")) (mNil))))) (mSeq (mDo (mCall 2 f_need_24 [] (mCons (mCall 1 f_are_names [] (mCons (mVar 4) (mNil))) (mCons (mC (.str "leaves")) (mNil))))) (mSeq (mDo (mCall 2 f_need_24 [] (mCons (mAnd (mCall 1 f_is_sequence [] (mCons (mVar 5) (mNil))) (mApp dAll (mCons (mLc (.nm 7) [7] (mItAny (mVar 5)) (mYes) (mIsi ki_Row (mVar 7))) (mNil)))) (mCons (mC (.str "rows")) (mNil))))) (p_Service_init_7)))))
def f_Service_init : List D → Sto → R D := pur (mFun true 10 m_Service_init)
theorem ok_Service_init {K : PySem.W.Frag} {mg : Str → Option Value} {A : Ad} (T : Tx K mg A) {w : World} {base : Heap} : FnOk PG w K mg base (L2.CX PG w) 4 A.Service_init A.Service_init_d ["self", "name", "kinds", "waits", "leaves", "rows"] (spS K A.G 6 f_Service_init) :=
  okPur <|
  fnSD (N := ["self", "name", "kinds", "waits", "leaves", "rows", "lines", "row", "words", "mood"]) (k := 3) T.Service_init.F sc_Service_init rfl fun cdv AA outer s H E hr =>
    have tk := takes_of (X := cxOf (L2.CX PG w) PG w K mg base ["self", "name", "kinds", "waits", "leaves", "rows", "lines", "row", "words", "mood"] "Service.__init__" (defScope s_Service_init) A.Service_init cdv AA outer s H E) rfl rfl rfl rfl
    have hx := passes_call tk (fun _ _ _ _ h => h)
    (pSs_cons (pS_do (pS_call (ok_need_24 T) (hr.mono (by decide)) rfl T.need_24.g T.need_24.F.kp (T.need_24.F.bindsN fun _ _ _ _ _ _ us hl => match us, hl with | [_, _], _ => rfl) .nil (fun _ => rfl) tk (pSA_cons (pS_call (ok_is_name T) (hr.mono (by decide)) rfl T.is_name.g T.is_name.F.kp (T.is_name.F.bindsN fun _ _ _ _ _ _ us hl => match us, hl with | [_], _ => rfl) .nil (fun _ => rfl) tk (pSA_cons (pS_var 1 (pv 1)) pSA_nil)) (pSA_cons pS_str pSA_nil)))) (pSs_cons (pS_do (pS_call (ok_need_24 T) (hr.mono (by decide)) rfl T.need_24.g T.need_24.F.kp (T.need_24.F.bindsN fun _ _ _ _ _ _ us hl => match us, hl with | [_, _], _ => rfl) .nil (fun _ => rfl) tk (pSA_cons (pS_andV (pS_call (ok_are_names T) (hr.mono (by decide)) rfl T.are_names.g T.are_names.F.kp (T.are_names.F.bindsN fun _ _ _ _ _ _ us hl => match us, hl with | [_], _ => rfl) .nil (fun _ => rfl) tk (pSA_cons (pS_var 2 (pv 2)) pSA_nil)) (pe_one (pS_cmp op_gt ad_gt (pS_callB cr_lenS ad_len (by rfl) T.b_len (by decide +kernel) (pSA_cons (pS_var 2 (pv 2)) pSA_nil)) pS_int (nomark _)))) (pSA_cons pS_str pSA_nil)))) (pSs_cons (pS_do (pS_call (ok_need_24 T) (hr.mono (by decide)) rfl T.need_24.g T.need_24.F.kp (T.need_24.F.bindsN fun _ _ _ _ _ _ us hl => match us, hl with | [_, _], _ => rfl) .nil (fun _ => rfl) tk (pSA_cons (pS_call (ok_are_names T) (hr.mono (by decide)) rfl T.are_names.g T.are_names.F.kp (T.are_names.F.bindsN fun _ _ _ _ _ _ us hl => match us, hl with | [_], _ => rfl) .nil (fun _ => rfl) tk (pSA_cons (pS_var 3 (pv 3)) pSA_nil)) (pSA_cons pS_str pSA_nil)))) (pSs_cons (pS_do (pS_call (ok_need_24 T) (hr.mono (by decide)) rfl T.need_24.g T.need_24.F.kp (T.need_24.F.bindsN fun _ _ _ _ _ _ us hl => match us, hl with | [_, _], _ => rfl) .nil (fun _ => rfl) tk (pSA_cons (pS_call (ok_are_names T) (hr.mono (by decide)) rfl T.are_names.g T.are_names.F.kp (T.are_names.F.bindsN fun _ _ _ _ _ _ us hl => match us, hl with | [_], _ => rfl) .nil (fun _ => rfl) tk (pSA_cons (pS_var 4 (pv 4)) pSA_nil)) (pSA_cons pS_str pSA_nil)))) (pSs_cons (pS_do (pS_call (ok_need_24 T) (hr.mono (by decide)) rfl T.need_24.g T.need_24.F.kp (T.need_24.F.bindsN fun _ _ _ _ _ _ us hl => match us, hl with | [_, _], _ => rfl) .nil (fun _ => rfl) tk (pSA_cons (pS_andV (pS_call (ok_is_sequence T) (hr.mono (by decide)) rfl T.is_sequence.g T.is_sequence.F.kp (T.is_sequence.F.bindsN fun _ _ _ _ _ _ us hl => match us, hl with | [_], _ => rfl) .nil (fun _ => rfl) tk (pSA_cons (pS_var 5 (pv 5)) pSA_nil)) (pe_one (pS_callB (cr_all rfl) ad_all (by rfl) T.b_all (by decide +kernel) (pSA_cons (pS_lc rfl sc_Service_init.nd (pI_any (pS_var 5 (pv 5))) (blkOk_by (own := [("row", 7)]) (N := ["self", "name", "kinds", "waits", "leaves", "rows", "lines", "row", "words", "mood"]) (sc := defScope s_Service_init) (by decide +kernel)) (fun _ _ _ _ _ => (pG_nm (i := 7) sc_Service_init.nd rfl (Or.inl rfl))) (fun _ _ _ _ _ => pTs_nil) (fun _ _ _ _ _ => (pS_isi (pe_glob (v := .ref A.C_Row) rfl T.C_Row.g rfl) (.own _) (hki_Row T) (by rfl) T.b_isinstance (pS_var 7 (pv 7))))) pSA_nil)))) (pSA_cons pS_str pSA_nil)))) (pSs_cons (pS_setF (hat_name T) (pS_var 0 (pv 0)) (pS_var 1 (pv 1))) (pSs_cons (pS_setF (hat_kinds T) (pS_var 0 (pv 0)) (pS_callTy call_tuple_of ad_tuple (by rfl) T.b_tuple (by decide +kernel) (pSA_cons (pS_var 2 (pv 2)) pSA_nil))) (pSs_cons (pS_setF (hat_waits T) (pS_var 0 (pv 0)) (pS_callTy call_tuple_of ad_tuple (by rfl) T.b_tuple (by decide +kernel) (pSA_cons (pS_var 3 (pv 3)) pSA_nil))) (pSs_cons (pS_setF (hat_leaves T) (pS_var 0 (pv 0)) (pS_callTy call_tuple_of ad_tuple (by rfl) T.b_tuple (by decide +kernel) (pSA_cons (pS_var 4 (pv 4)) pSA_nil))) (pSs_cons (pS_setF (hat_rows T) (pS_var 0 (pv 0)) (pS_callTy call_tuple_of ad_tuple (by rfl) T.b_tuple (by decide +kernel) (pSA_cons (pS_var 5 (pv 5)) pSA_nil))) (pSs_cons (pS_setF (hat_told T) (pS_var 0 (pv 0)) (pS_lc rfl sc_Service_init.nd (pI_any (pS_fld (hat_rows T) (pS_var 0 (pv 0)))) (blkOk_by (own := [("row", 7)]) (N := ["self", "name", "kinds", "waits", "leaves", "rows", "lines", "row", "words", "mood"]) (sc := defScope s_Service_init) (by decide +kernel)) (fun _ _ _ _ _ => (pG_nm (i := 7) sc_Service_init.nd rfl (Or.inl rfl))) (fun _ _ _ _ _ => pTs_nil) (fun _ _ _ _ _ => (pS_split (pS_callTyE (S.CallR.or cr_str (call_strOwn T.Row_str.fn (fR (ok_Row_str T) (T.Row_str.F.bindsN fun _ _ _ _ _ _ us hl => match us, hl with | [_], _ => rfl)) (hr.mono (by decide)) passL)) (ad_strX (hstc_0 T) ad_str.e) (by rfl) T.b_str (by decide +kernel) (pSA_cons (pS_var 7 (pv 7)) pSA_nil)) pS_str)))) (pSs_cons (pS_setF (hat_moods T) (pS_var 0 (pv 0)) (pS_call (ok_ascending T) (hr.mono (by decide)) rfl T.ascending.g T.ascending.F.kp (T.ascending.F.bindsN fun _ _ _ _ _ _ us hl => match us, hl with | [_], _ => rfl) .nil (fun _ => rfl) tk (pSA_cons (pS_lst (pSA_cons (pS_glob (v := .str "calm") rfl T.c_CALM ⟨_, rfl⟩ (fun _ => rfl)) (pSA_star (pS_lc2 (vs1 := [9]) rfl sc_Service_init.nd (pI_any (pS_fld (hat_told T) (pS_var 0 (pv 0)))) (blkOk_by (own := [("words", 8), ("mood", 9)]) (N := ["self", "name", "kinds", "waits", "leaves", "rows", "lines", "row", "words", "mood"]) (sc := defScope s_Service_init) (by decide +kernel)) (by decide) (fun _ _ _ _ _ => (pG_nm (i := 8) sc_Service_init.nd rfl (Or.inl rfl))) (fun _ _ _ _ _ => pTs_nil) (fun _ _ _ _ _ => (pI_any (pS_call (ok_moods_of T) (hr.mono (by decide)) rfl T.moods_of.g T.moods_of.F.kp (T.moods_of.F.bindsN fun _ _ _ _ _ _ us hl => match us, hl with | [_], _ => rfl) .nil (fun _ => rfl) takes0 (pSA_cons (pS_var 8 (pv 8)) pSA_nil)))) (fun _ _ _ _ _ => (pG_nm (i := 9) sc_Service_init.nd rfl (Or.inl rfl))) (fun _ _ _ _ _ => pTs_nil) (fun _ _ _ _ _ => (pS_var 9 (pv 9)))) pSA_nil))) pSA_nil))) (pSs_cons (pS_set (i := 6) sc_Service_init.nd rfl (Or.inl rfl) (pS_lst (pSA_cons (pS_join pS_str (pS_lst (pSA_cons pS_str (pSA_cons (pS_var 1 (pv 1)) (pSA_star (pS_var 2 (pv 2)) pSA_nil))))) pSA_nil))) (pSs_cons (pS_set (i := 6) sc_Service_init.nd rfl (Or.inl rfl) (pS_ifE (pS_cmpT op_gt ad_gt (pS_callB cr_lenS ad_len (by rfl) T.b_len (by decide +kernel) (pSA_cons (pS_var 3 (pv 3)) pSA_nil)) pS_int (nomark _)) (pS_lst (pSA_star (pS_var 6 (pv 6)) (pSA_cons (pS_join pS_str (pS_lst (pSA_cons pS_str (pSA_star (pS_var 3 (pv 3)) pSA_nil)))) pSA_nil))) (pS_var 6 (pv 6)))) (pSs_cons (pS_set (i := 6) sc_Service_init.nd rfl (Or.inl rfl) (pS_ifE (pS_cmpT op_gt ad_gt (pS_callB cr_lenS ad_len (by rfl) T.b_len (by decide +kernel) (pSA_cons (pS_var 4 (pv 4)) pSA_nil)) pS_int (nomark _)) (pS_lst (pSA_star (pS_var 6 (pv 6)) (pSA_cons (pS_join pS_str (pS_lst (pSA_cons pS_str (pSA_star (pS_var 4 (pv 4)) pSA_nil)))) pSA_nil))) (pS_var 6 (pv 6)))) (pSs_one (pS_setF (hat_text T) (pS_var 0 (pv 0)) (pS_join pS_str (pS_lst (pSA_star (pS_var 6 (pv 6)) (pSA_star (pS_lc rfl sc_Service_init.nd (pI_any (pS_fld (hat_told T) (pS_var 0 (pv 0)))) (blkOk_by (own := [("words", 8)]) (N := ["self", "name", "kinds", "waits", "leaves", "rows", "lines", "row", "words", "mood"]) (sc := defScope s_Service_init) (by decide +kernel)) (fun _ _ _ _ _ => (pG_nm (i := 8) sc_Service_init.nd rfl (Or.inl rfl))) (fun _ _ _ _ _ => pTs_nil) (fun _ _ _ _ _ => (pS_join pS_str (pS_var 8 (pv 8))))) pSA_nil)))))))))))))))))))))
def p_Service_first_1 : MS := mIfS (mAndB (mTest (mBin dEq (mBin dIx (mVar 3) (mC (.int 0))) (mVar 1))) (mTru (mApp dAll (mCons (mLc (.tp [.nm 4, .nm 5]) [4, 5] (mItZip (mCons (mSl (mVar 3) (mPart (mC (.int 1))) (mNoPart)) (mCons (mVar 2) (mNil)))) (mYes) (mBin dIn (mVar 4) (mTup (mCons (mC (.str "any")) (mCons (mVar 5) (mNil)))))) (mNil))))) (mRet (mVar 3)) (mNext)
def m_Service_first : MS := mSeq (mFor (.nm 3) (mItAny (mFld at_told "told" (mVar 0))) (p_Service_first_1)) (mRet (mC .non))
def f_Service_first : List D → Sto → R D := pur (mFun true 6 m_Service_first)
theorem ok_Service_first {K : PySem.W.Frag} {mg : Str → Option Value} {A : Ad} (T : Tx K mg A) {w : World} {base : Heap} : FnOk PG w K mg base (L2.CX PG w) 1 A.Service_first A.Service_first_d ["self", "sort", "asked"] (spS K A.G 3 f_Service_first) :=
  okPur <|
  fnSD (N := ["self", "sort", "asked", "words", "word", "one"]) (k := 0) T.Service_first.F sc_Service_first rfl fun cdv AA outer s H E hr =>
    have tk := takes_of (X := cxOf (L2.CX PG w) PG w K mg base ["self", "sort", "asked", "words", "word", "one"] "Service.first" (defScope s_Service_first) A.Service_first cdv AA outer s H E) rfl rfl rfl rfl
    have hx := passes_call tk (fun _ _ _ _ h => h)
    (pSs_cons (pS_for (passes_of rfl) rfl (pI_any (pS_fld (hat_told T) (pS_var 0 (pv 0)))) (pG_nm (i := 3) sc_Service_first.nd rfl (Or.inl rfl)) (pSs_one (pS_if (PW.pt (pS_and (pS_cmpT (op_eqS hr.units) ad_eq (pS_ix ix_S ad_ix (pS_var 3 (pv 3)) pS_int (fun _ _ => rfl)) (pS_var 1 (pv 1)) (nomark _)) (pS_and1 (pS_tru (pS_callB (cr_all rfl) ad_all (by rfl) T.b_all (by decide +kernel) (pSA_cons (pS_lc rfl sc_Service_first.nd (pI_zip rfl T.b_zip (pSA_cons (pS_sl (pS_var 3 (pv 3)) (pSO_some pS_int) pSO_none) (pSA_cons (pS_var 2 (pv 2)) pSA_nil))) (blkOk_by (own := [("word", 4), ("one", 5)]) (N := ["self", "sort", "asked", "words", "word", "one"]) (sc := defScope s_Service_first) (by decide +kernel)) (fun _ _ _ _ _ => (pG_tp rfl (pGs_cons (pG_nm (i := 4) sc_Service_first.nd rfl (Or.inl rfl)) (pGs_cons (pG_nm (i := 5) sc_Service_first.nd rfl (Or.inl rfl)) pGs_nil)))) (fun _ _ _ _ _ => pTs_nil) (fun _ _ _ _ _ => (pS_cmp op_inS ad_in (pS_var 4 (pv 4)) (pS_tup (pSA_cons pS_str (pSA_cons (pS_var 5 (pv 5)) pSA_nil))) (by rfl)))) pSA_nil)))))) (pSs_one (pS_ret (pS_var 3 (pv 3)))) pSs_nil))) (pSs_one (pS_ret pS_non)))
def m_Service_begin : MS := mSeq (mSet 3 (mMeth 5 "first" 3 f_Service_first [] (mVar 0) (mCons (mC (.str "begin")) (mCons (mTup (mCons (mVar 1) (mCons (mVar 2) (mNil)))) (mNil))))) (mRet (mIf (mTest (mBin dIsN (mVar 3) (mC .non))) (mC (.str "calm")) (mBin dIx (mVar 3) (mC (.int 3)))))
def f_Service_begin : List D → Sto → R D := pur (mFun true 4 m_Service_begin)
theorem ok_Service_begin {K : PySem.W.Frag} {mg : Str → Option Value} {A : Ad} (T : Tx K mg A) {w : World} {base : Heap} : FnOk PG w K mg base (L2.CX PG w) 2 A.Service_begin A.Service_begin_d ["self", "mark", "kind"] (spS K A.G 3 f_Service_begin) :=
  okPur <|
  fnSD (N := ["self", "mark", "kind", "words"]) (k := 1) T.Service_begin.F sc_Service_begin rfl fun cdv AA outer s H E hr =>
    have tk := takes_of (X := cxOf (L2.CX PG w) PG w K mg base ["self", "mark", "kind", "words"] "Service.begin" (defScope s_Service_begin) A.Service_begin cdv AA outer s H E) rfl rfl rfl rfl
    have hx := passes_call tk (fun _ _ _ _ h => h)
    (pSs_cons (pS_set (i := 3) sc_Service_begin.nd rfl (Or.inl rfl) (pS_meth (c := 5) (pS_var 0 (pv 0)) T.C_Service.t.cl T.me_Service_first (ok_Service_first T) (hr.mono (by decide)) (T.Service_first.F.bindsN fun _ _ _ _ _ _ us hl => match us, hl with | [_, _, _], _ => rfl) .nil (fun _ => rfl) hx (pSA_cons pS_str (pSA_cons (pS_tup (pSA_cons (pS_var 1 (pv 1)) (pSA_cons (pS_var 2 (pv 2)) pSA_nil))) pSA_nil)))) (pSs_one (pS_ret (pS_ifE (pS_cmpT op_isN ad_isN (pS_var 3 (pv 3)) pS_non (nomark _)) (pS_glob (v := .str "calm") rfl T.c_CALM ⟨_, rfl⟩ (fun _ => rfl)) (pS_ix ix_S ad_ix (pS_var 3 (pv 3)) pS_int (fun _ _ => rfl))))))
def m_Service_send : MS := mSeq (mSet 4 (mMeth 5 "first" 3 f_Service_first [] (mVar 0) (mCons (mC (.str "send")) (mCons (mTup (mCons (mVar 1) (mCons (mVar 2) (mNil)))) (mNil))))) (mSeq (mIfS (mTest (mBin dIsN (mVar 4) (mC .non))) (mRet (mC (.str "none"))) (mNext)) (mRet (mIf (mTest (mBin dEq (mBin dIx (mVar 4) (mC (.int 3))) (mC (.str "same")))) (mVar 3) (mBin dIx (mVar 4) (mC (.int 3))))))
def f_Service_send : List D → Sto → R D := pur (mFun true 5 m_Service_send)
theorem ok_Service_send {K : PySem.W.Frag} {mg : Str → Option Value} {A : Ad} (T : Tx K mg A) {w : World} {base : Heap} : FnOk PG w K mg base (L2.CX PG w) 2 A.Service_send A.Service_send_d ["self", "mood", "other", "mark"] (spS K A.G 4 f_Service_send) :=
  okPur <|
  fnSD (N := ["self", "mood", "other", "mark", "words"]) (k := 1) T.Service_send.F sc_Service_send rfl fun cdv AA outer s H E hr =>
    have tk := takes_of (X := cxOf (L2.CX PG w) PG w K mg base ["self", "mood", "other", "mark", "words"] "Service.send" (defScope s_Service_send) A.Service_send cdv AA outer s H E) rfl rfl rfl rfl
    have hx := passes_call tk (fun _ _ _ _ h => h)
    (pSs_cons (pS_set (i := 4) sc_Service_send.nd rfl (Or.inl rfl) (pS_meth (c := 5) (pS_var 0 (pv 0)) T.C_Service.t.cl T.me_Service_first (ok_Service_first T) (hr.mono (by decide)) (T.Service_first.F.bindsN fun _ _ _ _ _ _ us hl => match us, hl with | [_, _, _], _ => rfl) .nil (fun _ => rfl) hx (pSA_cons pS_str (pSA_cons (pS_tup (pSA_cons (pS_var 1 (pv 1)) (pSA_cons (pS_var 2 (pv 2)) pSA_nil))) pSA_nil)))) (pSs_cons (pS_if (pS_cmpT op_isN ad_isN (pS_var 4 (pv 4)) pS_non (nomark _)) (pSs_one (pS_ret pS_str)) pSs_nil) (pSs_one (pS_ret (pS_ifE (pS_cmpT (op_eqS hr.units) ad_eq (pS_ix ix_S ad_ix (pS_var 4 (pv 4)) pS_int (fun _ _ => rfl)) pS_str (nomark _)) (pS_var 3 (pv 3)) (pS_ix ix_S ad_ix (pS_var 4 (pv 4)) pS_int (fun _ _ => rfl)))))))
def m_Service_back : MS := mSeq (mSet 4 (mMeth 5 "first" 3 f_Service_first [] (mVar 0) (mCons (mC (.str "back")) (mCons (mTup (mCons (mVar 1) (mCons (mVar 2) (mCons (mVar 3) (mNil))))) (mNil))))) (mRet (mIf (mOrB (mTest (mBin dIsN (mVar 4) (mC .non))) (mTest (mBin dEq (mBin dIx (mVar 4) (mC (.int 4))) (mC (.str "same"))))) (mVar 1) (mBin dIx (mVar 4) (mC (.int 4)))))
def f_Service_back : List D → Sto → R D := pur (mFun true 5 m_Service_back)
theorem ok_Service_back {K : PySem.W.Frag} {mg : Str → Option Value} {A : Ad} (T : Tx K mg A) {w : World} {base : Heap} : FnOk PG w K mg base (L2.CX PG w) 2 A.Service_back A.Service_back_d ["self", "mood", "other", "sign"] (spS K A.G 4 f_Service_back) :=
  okPur <|
  fnSD (N := ["self", "mood", "other", "sign", "words"]) (k := 1) T.Service_back.F sc_Service_back rfl fun cdv AA outer s H E hr =>
    have tk := takes_of (X := cxOf (L2.CX PG w) PG w K mg base ["self", "mood", "other", "sign", "words"] "Service.back" (defScope s_Service_back) A.Service_back cdv AA outer s H E) rfl rfl rfl rfl
    have hx := passes_call tk (fun _ _ _ _ h => h)
    (pSs_cons (pS_set (i := 4) sc_Service_back.nd rfl (Or.inl rfl) (pS_meth (c := 5) (pS_var 0 (pv 0)) T.C_Service.t.cl T.me_Service_first (ok_Service_first T) (hr.mono (by decide)) (T.Service_first.F.bindsN fun _ _ _ _ _ _ us hl => match us, hl with | [_, _, _], _ => rfl) .nil (fun _ => rfl) hx (pSA_cons pS_str (pSA_cons (pS_tup (pSA_cons (pS_var 1 (pv 1)) (pSA_cons (pS_var 2 (pv 2)) (pSA_cons (pS_var 3 (pv 3)) pSA_nil)))) pSA_nil)))) (pSs_one (pS_ret (pS_ifE (PW.pt (pS_or (pS_cmpT op_isN ad_isN (pS_var 4 (pv 4)) pS_non (nomark _)) (pS_or1 (pS_cmpT (op_eqS hr.units) ad_eq (pS_ix ix_S ad_ix (pS_var 4 (pv 4)) pS_int (fun _ _ => rfl)) pS_str (nomark _))))) (pS_var 1 (pv 1)) (pS_ix ix_S ad_ix (pS_var 4 (pv 4)) pS_int (fun _ _ => rfl))))))
def m_Service_end : MS := mSeq (mSet 3 (mMeth 5 "first" 3 f_Service_first [] (mVar 0) (mCons (mC (.str "end")) (mCons (mTup (mCons (mVar 1) (mCons (mIf (mTru (mVar 2)) (mC (.str "bad")) (mC (.str "good"))) (mNil)))) (mNil))))) (mRet (mIf (mTest (mBin dIsN (mVar 3) (mC .non))) (mTup (mCons (mC (.str "none")) (mCons (mC (.bl false)) (mNil)))) (mTup (mCons (mBin dIx (mVar 3) (mC (.int 3))) (mCons (mBin dEq (mBin dIx (mVar 3) (mC (.int 4))) (mC (.str "keep"))) (mNil))))))
def f_Service_end : List D → Sto → R D := pur (mFun true 4 m_Service_end)
theorem ok_Service_end {K : PySem.W.Frag} {mg : Str → Option Value} {A : Ad} (T : Tx K mg A) {w : World} {base : Heap} : FnOk PG w K mg base (L2.CX PG w) 2 A.Service_end A.Service_end_d ["self", "mood", "bad"] (spS K A.G 3 f_Service_end) :=
  okPur <|
  fnSD (N := ["self", "mood", "bad", "words"]) (k := 1) T.Service_end.F sc_Service_end rfl fun cdv AA outer s H E hr =>
    have tk := takes_of (X := cxOf (L2.CX PG w) PG w K mg base ["self", "mood", "bad", "words"] "Service.end" (defScope s_Service_end) A.Service_end cdv AA outer s H E) rfl rfl rfl rfl
    have hx := passes_call tk (fun _ _ _ _ h => h)
    (pSs_cons (pS_set (i := 3) sc_Service_end.nd rfl (Or.inl rfl) (pS_meth (c := 5) (pS_var 0 (pv 0)) T.C_Service.t.cl T.me_Service_first (ok_Service_first T) (hr.mono (by decide)) (T.Service_first.F.bindsN fun _ _ _ _ _ _ us hl => match us, hl with | [_, _, _], _ => rfl) .nil (fun _ => rfl) hx (pSA_cons pS_str (pSA_cons (pS_tup (pSA_cons (pS_var 1 (pv 1)) (pSA_cons (pS_ifE (pS_tru (pS_var 2 (pv 2))) pS_str pS_str) pSA_nil))) pSA_nil)))) (pSs_one (pS_ret (pS_ifE (pS_cmpT op_isN ad_isN (pS_var 3 (pv 3)) pS_non (nomark _)) (pS_tup (pSA_cons pS_str (pSA_cons pS_bl pSA_nil))) (pS_tup (pSA_cons (pS_ix ix_S ad_ix (pS_var 3 (pv 3)) pS_int (fun _ _ => rfl)) (pSA_cons (pS_cmp (op_eqS hr.units) ad_eq (pS_ix ix_S ad_ix (pS_var 3 (pv 3)) pS_int (fun _ _ => rfl)) pS_str (nomark _)) pSA_nil)))))))
end K
namespace K
open PySem L2 S
def p__law_box_1 : MS := mSeq (mSet 3 (mBin dAdd (mBin dMod (mApp dInt (mCons (mBin dAdd (mBin dAdd (mBin dMulX (mBin dMod (mApp dInt (mCons (mVar 2) (mNil))) (mC (.int 2147483629))) (mC (.int 69621))) (mBin dMulX (mC (.int 40591)) (mVar 1))) (mC (.int 3))) (mNil))) (mC (.int 2147483629))) (mC (.int 1)))) (mSeq (mSet 4 (mIf (mTest (mBin dGe (mVar 2) (mBin dPow (mC (.int 10)) (mC (.int 18))))) (mVar 2) (mC (.int 0)))) (mRet (mLstC (mCons (mVar 4) (mCons (mVar 3) (mCons (mC (.int 0)) (mNil)))))))
def m__law_box : MS := mSeq (mSet 2 (mBin dAdd (mBin dMulX (mC (.int 6563)) (mVar 1)) (mC (.int 71)))) (mSeq (mIfS (mTest (mBin dLt (mVar 1) (mApp dLen (mCons (mVar 0) (mNil))))) (mSet 2 (mApp dAbs (mCons (mApp dInt (mCons (mBin dIx (mVar 0) (mVar 1)) (mNil))) (mNil)))) (mIfS (mTest (mBin dGt (mApp dLen (mCons (mVar 0) (mNil))) (mC (.int 0)))) (mSet 2 (mBin dAdd (mVar 2) (mBin dMulX (mBin dMod (mApp dInt (mCons (mBin dIx (mVar 0) (mBin dMod (mApp dInt (mCons (mVar 1) (mNil))) (mApp dLen (mCons (mVar 0) (mNil))))) (mNil))) (mC (.int 2147483629))) (mC (.int 50329))))) (mNext))) (p__law_box_1))
def f__law_box : List D → Sto → R D := mFun false 5 m__law_box
theorem ok__law_box {K : PySem.W.Frag} {mg : Str → Option Value} {A : Ad} (T : Tx K mg A) {w : World} {base : Heap} : FnOk PG w K mg base (L2.CX PG w) 1 A._law_box A._law_box_d ["_law_script", "_law_k"] (spS K A.G 2 f__law_box) :=
  fnSD (N := ["_law_script", "_law_k", "_law_cell", "_law_seed", "_law_wide"]) (k := 0) T._law_box.F sc__law_box rfl fun cdv AA outer s H E hr =>
    have tk := takes_of (X := cxOf (L2.CX PG w) PG w K mg base ["_law_script", "_law_k", "_law_cell", "_law_seed", "_law_wide"] "_law_box" (defScope s__law_box) A._law_box cdv AA outer s H E) rfl rfl rfl rfl
    have hx := passes_call tk (fun _ _ _ _ h => h)
    (pSs_cons (pS_set (i := 2) sc__law_box.nd rfl (Or.inl rfl) (pS_op op_addS ad_add (pS_op op_mulX ad_mulX pS_int (pS_var 1 (pv 1))) pS_int)) (pSs_cons (pS_if (pS_cmpT op_ltS ad_lt (pS_var 1 (pv 1)) (pS_callB cr_lenS ad_len (by rfl) T.b_len (by decide +kernel) (pSA_cons (pS_var 0 (pv 0)) pSA_nil)) (nomark _)) (pSs_one (pS_set (i := 2) sc__law_box.nd rfl (Or.inl rfl) (pS_callB call_abs ad_abs (by rfl) T.b_abs (by decide +kernel) (pSA_cons (pS_callTy call_int1 ad_int (by rfl) T.b_int (by decide +kernel) (pSA_cons (pS_ix ix_S ad_ix (pS_var 0 (pv 0)) (pS_var 1 (pv 1)) (fun _ _ => rfl)) pSA_nil)) pSA_nil)))) (pSs_one (pS_if (pS_cmpT op_gt ad_gt (pS_callB cr_lenS ad_len (by rfl) T.b_len (by decide +kernel) (pSA_cons (pS_var 0 (pv 0)) pSA_nil)) pS_int (nomark _)) (pSs_one (pS_set (i := 2) sc__law_box.nd rfl (Or.inl rfl) (pS_op op_addS ad_add (pS_var 2 (pv 2)) (pS_op op_mulX ad_mulX (pS_op op_modN ad_mod (pS_callTy call_int1 ad_int (by rfl) T.b_int (by decide +kernel) (pSA_cons (pS_ix ix_S ad_ix (pS_var 0 (pv 0)) (pS_op op_modN ad_mod (pS_callTy call_int1 ad_int (by rfl) T.b_int (by decide +kernel) (pSA_cons (pS_var 1 (pv 1)) pSA_nil)) (pS_callB cr_lenS ad_len (by rfl) T.b_len (by decide +kernel) (pSA_cons (pS_var 0 (pv 0)) pSA_nil))) (fun _ _ => rfl)) pSA_nil)) pS_int) pS_int)))) pSs_nil))) (pSs_cons (pS_set (i := 3) sc__law_box.nd rfl (Or.inl rfl) (pS_op op_addS ad_add (pS_op op_modN ad_mod (pS_callTy call_int1 ad_int (by rfl) T.b_int (by decide +kernel) (pSA_cons (pS_op op_addS ad_add (pS_op op_addS ad_add (pS_op op_mulX ad_mulX (pS_op op_modN ad_mod (pS_callTy call_int1 ad_int (by rfl) T.b_int (by decide +kernel) (pSA_cons (pS_var 2 (pv 2)) pSA_nil)) pS_int) pS_int) (pS_op op_mulX ad_mulX pS_int (pS_var 1 (pv 1)))) pS_int) pSA_nil)) pS_int) pS_int)) (pSs_cons (pS_set (i := 4) sc__law_box.nd rfl (Or.inl rfl) (pS_ifE (pS_cmpT op_ge ad_ge (pS_var 2 (pv 2)) (pS_op op_pow ad_pow pS_int pS_int) (nomark _)) (pS_var 2 (pv 2)) pS_int)) (pSs_one (pS_ret (pS_lstC (pSA_cons (pS_var 4 (pv 4)) (pSA_cons (pS_var 3 (pv 3)) (pSA_cons pS_int pSA_nil))))))))))
def m__law_take : MS := mSeq (mIfS (mTest (mBin dGt (mBin dIx (mVar 0) (mC (.int 0))) (mC (.int 0)))) (mSeq (mSet 2 (mBin dMod (mApp dInt (mCons (mBin dIx (mVar 0) (mC (.int 0))) (mNil))) (mVar 1))) (mSeq (mSetIx (mVar 0) (mC (.int 0)) (mBin dDiv (mBin dIx (mVar 0) (mC (.int 0))) (mVar 1))) (mRet (mVar 2)))) (mNext)) (mSeq (mSetIx (mVar 0) (mC (.int 2)) (mBin dAdd (mBin dIx (mVar 0) (mC (.int 2))) (mC (.int 1)))) (mSeq (mSet 3 (mBin dMod (mApp dInt (mCons (mBin dMulX (mBin dAdd (mBin dIx (mVar 0) (mC (.int 1))) (mBin dMulX (mC (.int 104801)) (mBin dIx (mVar 0) (mC (.int 2))))) (mC (.int 48271))) (mNil))) (mC (.int 2147483647)))) (mSeq (mSetIx (mVar 0) (mC (.int 1)) (mBin dAdd (mBin dMod (mApp dInt (mCons (mBin dAdd (mBin dMulX (mVar 3) (mC (.int 69697))) (mC (.int 30161))) (mNil))) (mC (.int 2147483629))) (mC (.int 1)))) (mRet (mBin dMod (mApp dInt (mCons (mBin dDiv (mBin dAdd (mBin dMulX (mVar 3) (mC (.int 2147483647))) (mBin dIx (mVar 0) (mC (.int 1)))) (mC (.int 8191))) (mNil))) (mVar 1))))))
def f__law_take : List D → Sto → R D := pur (mFun true 4 m__law_take)
theorem ok__law_take {K : PySem.W.Frag} {mg : Str → Option Value} {A : Ad} (T : Tx K mg A) {w : World} {base : Heap} : FnOk PG w K mg base (L2.CX PG w) 1 A._law_take A._law_take_d ["_law_box_here", "_law_many"] (spS K A.G 2 f__law_take) :=
  okPur <|
  fnSD (N := ["_law_box_here", "_law_many", "_law_digit", "_law_near"]) (k := 0) T._law_take.F sc__law_take rfl fun cdv AA outer s H E hr =>
    have tk := takes_of (X := cxOf (L2.CX PG w) PG w K mg base ["_law_box_here", "_law_many", "_law_digit", "_law_near"] "_law_take" (defScope s__law_take) A._law_take cdv AA outer s H E) rfl rfl rfl rfl
    have hx := passes_call tk (fun _ _ _ _ h => h)
    (pSs_cons (pS_if (pS_cmpT op_gt ad_gt (pS_ix ix_S ad_ix (pS_var 0 (pv 0)) pS_int (fun _ _ => rfl)) pS_int (nomark _)) (pSs_cons (pS_set (i := 2) sc__law_take.nd rfl (Or.inl rfl) (pS_op op_modN ad_mod (pS_callTy call_int1 ad_int (by rfl) T.b_int (by decide +kernel) (pSA_cons (pS_ix ix_S ad_ix (pS_var 0 (pv 0)) pS_int (fun _ _ => rfl)) pSA_nil)) (pS_var 1 (pv 1)))) (pSs_cons (pS_setIx (pS_var 0 (pv 0)) pS_int (pS_op op_fdivN ad_div (pS_ix ix_S ad_ix (pS_var 0 (pv 0)) pS_int (fun _ _ => rfl)) (pS_var 1 (pv 1)))) (pSs_one (pS_ret (pS_var 2 (pv 2)))))) pSs_nil) (pSs_cons (pS_setIx (pS_var 0 (pv 0)) pS_int (pS_op op_addS ad_add (pS_ix ix_S ad_ix (pS_var 0 (pv 0)) pS_int (fun _ _ => rfl)) pS_int)) (pSs_cons (pS_set (i := 3) sc__law_take.nd rfl (Or.inl rfl) (pS_op op_modN ad_mod (pS_callTy call_int1 ad_int (by rfl) T.b_int (by decide +kernel) (pSA_cons (pS_op op_mulX ad_mulX (pS_op op_addS ad_add (pS_ix ix_S ad_ix (pS_var 0 (pv 0)) pS_int (fun _ _ => rfl)) (pS_op op_mulX ad_mulX pS_int (pS_ix ix_S ad_ix (pS_var 0 (pv 0)) pS_int (fun _ _ => rfl)))) pS_int) pSA_nil)) pS_int)) (pSs_cons (pS_setIx (pS_var 0 (pv 0)) pS_int (pS_op op_addS ad_add (pS_op op_modN ad_mod (pS_callTy call_int1 ad_int (by rfl) T.b_int (by decide +kernel) (pSA_cons (pS_op op_addS ad_add (pS_op op_mulX ad_mulX (pS_var 3 (pv 3)) pS_int) pS_int) pSA_nil)) pS_int) pS_int)) (pSs_one (pS_ret (pS_op op_modN ad_mod (pS_callTy call_int1 ad_int (by rfl) T.b_int (by decide +kernel) (pSA_cons (pS_op op_fdivN ad_div (pS_op op_addS ad_add (pS_op op_mulX ad_mulX (pS_var 3 (pv 3)) pS_int) (pS_ix ix_S ad_ix (pS_var 0 (pv 0)) pS_int (fun _ _ => rfl))) pS_int) pSA_nil)) (pS_var 1 (pv 1)))))))))
def m__law_pick : MS := mRet (mBin dIx (mVar 1) (mCall 2 f__law_take [] (mCons (mVar 0) (mCons (mApp dLen (mCons (mVar 1) (mNil))) (mNil)))))
def f__law_pick : List D → Sto → R D := pur (mFun true 2 m__law_pick)
theorem ok__law_pick {K : PySem.W.Frag} {mg : Str → Option Value} {A : Ad} (T : Tx K mg A) {w : World} {base : Heap} : FnOk PG w K mg base (L2.CX PG w) 2 A._law_pick A._law_pick_d ["_law_box_here", "_law_some_here"] (spS K A.G 2 f__law_pick) :=
  okPur <|
  fnSD (N := ["_law_box_here", "_law_some_here"]) (k := 1) T._law_pick.F sc__law_pick rfl fun cdv AA outer s H E hr =>
    have tk := takes_of (X := cxOf (L2.CX PG w) PG w K mg base ["_law_box_here", "_law_some_here"] "_law_pick" (defScope s__law_pick) A._law_pick cdv AA outer s H E) rfl rfl rfl rfl
    have hx := passes_call tk (fun _ _ _ _ h => h)
    (pSs_one (pS_ret (pS_ix ix_S ad_ix (pS_var 1 (pv 1)) (pS_call (ok__law_take T) (hr.mono (by decide)) rfl T._law_take.g T._law_take.F.kp (T._law_take.F.bindsN fun _ _ _ _ _ _ us hl => match us, hl with | [_, _], _ => rfl) .nil (fun _ => rfl) tk (pSA_cons (pS_var 0 (pv 0)) (pSA_cons (pS_callB cr_lenS ad_len (by rfl) T.b_len (by decide +kernel) (pSA_cons (pS_var 1 (pv 1)) pSA_nil)) pSA_nil))) (fun _ _ => rfl))))
def p__law_mixed_1 : MS := mDo (mLm dAppend (mVar 3) (mCons (mLm dPopAt (mVar 2) (mCons (mCall 2 f__law_take [] (mCons (mVar 0) (mCons (mApp dLen (mCons (mVar 2) (mNil))) (mNil)))) (mNil))) (mNil)))
def m__law_mixed : MS := mSeq (mPar [2, 3] (mCons (mApp dListC (mCons (mVar 1) (mNil))) (mCons (mLstC (mNil)) (mNil)))) (mSeq (mWhileGo (mTest (mBin dNeL (mVar 2) (mLst (mNil)))) (p__law_mixed_1) 20) (mRet (mVar 3)))
def f__law_mixed : List D → Sto → R D := pur (mFun true 4 m__law_mixed)
theorem ok__law_mixed {K : PySem.W.Frag} {mg : Str → Option Value} {A : Ad} (T : Tx K mg A) {w : World} {base : Heap} : FnOk PG w K mg base (L2.CX PG w) 2 A._law_mixed A._law_mixed_d ["_law_box_here", "_law_some_here"] (spS K A.G 2 f__law_mixed) :=
  okPur <|
  fnSD (N := ["_law_box_here", "_law_some_here", "_law_left", "_law_found"]) (k := 1) T._law_mixed.F sc__law_mixed rfl fun cdv AA outer s H E hr =>
    have tk := takes_of (X := cxOf (L2.CX PG w) PG w K mg base ["_law_box_here", "_law_some_here", "_law_left", "_law_found"] "_law_mixed" (defScope s__law_mixed) A._law_mixed cdv AA outer s H E) rfl rfl rfl rfl
    have hx := passes_call tk (fun _ _ _ _ h => h)
    (pSs_cons (pS_par rfl sc__law_mixed.nd (i := 2) (j := 3) rfl rfl (by decide) rfl rfl (pSA_cons (pS_callTy call_list_of ad_listC (by rfl) T.b_list (by decide +kernel) (pSA_cons (pS_var 1 (pv 1)) pSA_nil)) (pSA_cons (pS_lstC pSA_nil) pSA_nil)) (by rfl)) (pSs_cons (pS_while 20 (passes_of rfl) (pS_cmpT (op_neSL hr.units) ad_neL (pS_var 2 (pv 2)) (pS_lst pSA_nil) (nomark _)) (pSs_one (pS_do (pS_lm (t := fun _ _ _ => False) ad_append (pe_bm PySem.F.plainAttrs_list PySem.F.slot_list_append PySem.F.type_list_append mt_append (pS_var 3 (pv 3)) (pSA_cons (pS_lm (t := fun _ _ _ => False) ad_popAt (pe_bm PySem.F.plainAttrs_list PySem.F.slot_list_pop PySem.F.type_list_pop mt_popAt (pS_var 2 (pv 2)) (pSA_cons (pS_call (ok__law_take T) (hr.mono (by decide)) rfl T._law_take.g T._law_take.F.kp (T._law_take.F.bindsN fun _ _ _ _ _ _ us hl => match us, hl with | [_, _], _ => rfl) .nil (fun _ => rfl) tk (pSA_cons (pS_var 0 (pv 0)) (pSA_cons (pS_callB cr_lenS ad_len (by rfl) T.b_len (by decide +kernel) (pSA_cons (pS_var 2 (pv 2)) pSA_nil)) pSA_nil))) pSA_nil))) pSA_nil)))))) (pSs_one (pS_ret (pS_var 3 (pv 3))))))
def p__law_names_1 : MS := mRet (mLc (.nm 6) [6] (mItRange (mCons (mVar 1) (mNil))) (mYes) (mBin dAdd (mBin dIx (mVar 3) (mBin dMod (mApp dInt (mCons (mBin dAdd (mVar 5) (mBin dMulX (mC (.int 7)) (mVar 6))) (mNil))) (mC (.int 26)))) (mBin dMulX (mC (.str "v")) (mBin dMod (mApp dInt (mCons (mVar 5) (mNil))) (mC (.int 4))))))
def p__law_names_2 : MS := mSeq (mIfS (mAndB (mTest (mBin dEq (mVar 4) (mC (.int 1)))) (mTest (mBin dLt (mVar 1) (mC (.int 5))))) (mRet (mCall 2 f__law_mixed [] (mCons (mVar 0) (mCons (mLc (.nm 6) [6] (mItRange (mCons (mVar 1) (mNil))) (mYes) (mSl (mC (.str "tttt")) (mNoPart) (mPart (mBin dAdd (mVar 6) (mC (.int 1)))))) (mNil))))) (mNext)) (p__law_names_1)
def p__law_names_3 : MS := mSeq (mIfS (mTest (mBin dEq (mVar 4) (mC (.int 0)))) (mRet (mLc (.nm 6) [6] (mItRange (mCons (mVar 1) (mNil))) (mYes) (mBin dIx (mVar 2) (mBin dMod (mApp dInt (mCons (mBin dAdd (mVar 5) (mBin dMulX (mC (.int 5)) (mVar 6))) (mNil))) (mC (.int 12)))))) (mNext)) (p__law_names_2)
def m__law_names : MS := mSeq (mSet 2 (mLst (mCons (mC (.str "send")) (mCons (mC (.str "back")) (mCons (mC (.str "end")) (mCons (mC (.str "root")) (mCons (mC (.str "wait")) (mCons (mC (.str "a")) (mCons (mC (.str "ab")) (mCons (mC (.str "abc")) (mCons (mC (.str "zzzz")) (mCons (mC (.str "row")) (mCons (mC (.str "hear")) (mCons (mC (.str "x")) (mNil))))))))))))))) (mSeq (mAsg (.tp [.nm 3, .nm 4, .nm 5]) (mTup (mCons (mC (.str "abcdefghijklmnopqrstuvwxyz")) (mCons (mCall 2 f__law_take [] (mCons (mVar 0) (mCons (mC (.int 3)) (mNil)))) (mCons (mCall 2 f__law_take [] (mCons (mVar 0) (mCons (mC (.int 26)) (mNil)))) (mNil)))))) (p__law_names_3))
def f__law_names : List D → Sto → R D := pur (mFun true 7 m__law_names)
theorem ok__law_names {K : PySem.W.Frag} {mg : Str → Option Value} {A : Ad} (T : Tx K mg A) {w : World} {base : Heap} : FnOk PG w K mg base (L2.CX PG w) 3 A._law_names A._law_names_d ["_law_box_here", "_law_many"] (spS K A.G 2 f__law_names) :=
  okPur <|
  fnSD (N := ["_law_box_here", "_law_many", "_law_words_here", "_law_letters", "_law_form", "_law_spot", "_law_k"]) (k := 2) T._law_names.F sc__law_names rfl fun cdv AA outer s H E hr =>
    have tk := takes_of (X := cxOf (L2.CX PG w) PG w K mg base ["_law_box_here", "_law_many", "_law_words_here", "_law_letters", "_law_form", "_law_spot", "_law_k"] "_law_names" (defScope s__law_names) A._law_names cdv AA outer s H E) rfl rfl rfl rfl
    have hx := passes_call tk (fun _ _ _ _ h => h)
    (pSs_cons (pS_set (i := 2) sc__law_names.nd rfl (Or.inr rfl) (pS_lst (pSA_cons pS_str (pSA_cons pS_str (pSA_cons pS_str (pSA_cons pS_str (pSA_cons pS_str (pSA_cons pS_str (pSA_cons pS_str (pSA_cons pS_str (pSA_cons pS_str (pSA_cons pS_str (pSA_cons pS_str (pSA_cons pS_str pSA_nil)))))))))))))) (pSs_cons (pS_asg (pS_tup (pSA_cons pS_str (pSA_cons (pS_call (ok__law_take T) (hr.mono (by decide)) rfl T._law_take.g T._law_take.F.kp (T._law_take.F.bindsN fun _ _ _ _ _ _ us hl => match us, hl with | [_, _], _ => rfl) .nil (fun _ => rfl) tk (pSA_cons (pS_var 0 (pv 0)) (pSA_cons pS_int pSA_nil))) (pSA_cons (pS_call (ok__law_take T) (hr.mono (by decide)) rfl T._law_take.g T._law_take.F.kp (T._law_take.F.bindsN fun _ _ _ _ _ _ us hl => match us, hl with | [_, _], _ => rfl) .nil (fun _ => rfl) tk (pSA_cons (pS_var 0 (pv 0)) (pSA_cons pS_int pSA_nil))) pSA_nil)))) (pG_tp rfl (pGs_cons (pG_nm (i := 3) sc__law_names.nd rfl (Or.inr rfl)) (pGs_cons (pG_nm (i := 4) sc__law_names.nd rfl (Or.inl rfl)) (pGs_cons (pG_nm (i := 5) sc__law_names.nd rfl (Or.inr rfl)) pGs_nil))))) (pSs_cons (pS_if (pS_cmpT (op_eqS hr.units) ad_eq (pS_var 4 (pv 4)) pS_int (nomark _)) (pSs_one (pS_ret (pS_lc rfl sc__law_names.nd (pI_range1 rfl T.b_range (pSA_cons (pS_var 1 (pv 1)) pSA_nil)) (blkOk_by (own := [("_law_k", 6)]) (N := ["_law_box_here", "_law_many", "_law_words_here", "_law_letters", "_law_form", "_law_spot", "_law_k"]) (sc := defScope s__law_names) (by decide +kernel)) (fun _ _ _ _ _ => (pG_nm (i := 6) sc__law_names.nd rfl (Or.inl rfl))) (fun _ _ _ _ _ => pTs_nil) (fun _ _ _ _ _ => (pS_ix ix_S ad_ix (pS_var 2 (pv 2)) (pS_op op_modN ad_mod (pS_callTy call_int1 ad_int (by rfl) T.b_int (by decide +kernel) (pSA_cons (pS_op op_addS ad_add (pS_var 5 (pv 5)) (pS_op op_mulX ad_mulX pS_int (pS_var 6 (pv 6)))) pSA_nil)) pS_int) (fun _ _ => rfl)))))) pSs_nil) (pSs_cons (pS_if (PW.pt (pS_and (pS_cmpT (op_eqS hr.units) ad_eq (pS_var 4 (pv 4)) pS_int (nomark _)) (pS_and1 (pS_cmpT op_ltS ad_lt (pS_var 1 (pv 1)) pS_int (nomark _))))) (pSs_one (pS_ret (pS_call (ok__law_mixed T) (hr.mono (by decide)) rfl T._law_mixed.g T._law_mixed.F.kp (T._law_mixed.F.bindsN fun _ _ _ _ _ _ us hl => match us, hl with | [_, _], _ => rfl) .nil (fun _ => rfl) tk (pSA_cons (pS_var 0 (pv 0)) (pSA_cons (pS_lc rfl sc__law_names.nd (pI_range1 rfl T.b_range (pSA_cons (pS_var 1 (pv 1)) pSA_nil)) (blkOk_by (own := [("_law_k", 6)]) (N := ["_law_box_here", "_law_many", "_law_words_here", "_law_letters", "_law_form", "_law_spot", "_law_k"]) (sc := defScope s__law_names) (by decide +kernel)) (fun _ _ _ _ _ => (pG_nm (i := 6) sc__law_names.nd rfl (Or.inl rfl))) (fun _ _ _ _ _ => pTs_nil) (fun _ _ _ _ _ => (pS_sl pS_str pSO_none (pSO_some (pS_op op_addS ad_add (pS_var 6 (pv 6)) pS_int))))) pSA_nil))))) pSs_nil) (pSs_one (pS_ret (pS_lc rfl sc__law_names.nd (pI_range1 rfl T.b_range (pSA_cons (pS_var 1 (pv 1)) pSA_nil)) (blkOk_by (own := [("_law_k", 6)]) (N := ["_law_box_here", "_law_many", "_law_words_here", "_law_letters", "_law_form", "_law_spot", "_law_k"]) (sc := defScope s__law_names) (by decide +kernel)) (fun _ _ _ _ _ => (pG_nm (i := 6) sc__law_names.nd rfl (Or.inl rfl))) (fun _ _ _ _ _ => pTs_nil) (fun _ _ _ _ _ => (pS_op op_addS ad_add (pS_ix ix_S ad_ix (pS_var 3 (pv 3)) (pS_op op_modN ad_mod (pS_callTy call_int1 ad_int (by rfl) T.b_int (by decide +kernel) (pSA_cons (pS_op op_addS ad_add (pS_var 5 (pv 5)) (pS_op op_mulX ad_mulX pS_int (pS_var 6 (pv 6)))) pSA_nil)) pS_int) (fun _ _ => rfl)) (pS_op op_mulX ad_mulX pS_str (pS_op op_modN ad_mod (pS_callTy call_int1 ad_int (by rfl) T.b_int (by decide +kernel) (pSA_cons (pS_var 5 (pv 5)) pSA_nil)) pS_int)))))))))))
def m__law_row : MS := mSeq (mIfS (mTest (mBin dEq (mBin dIx (mVar 0) (mC (.int 0))) (mC (.str "begin")))) (mRet (mMakeF 1 4 f_Begin_init [] (mCons (mBin dIx (mVar 0) (mC (.int 1))) (mCons (mBin dIx (mVar 0) (mC (.int 2))) (mCons (mBin dIx (mVar 0) (mC (.int 3))) (mNil)))))) (mNext)) (mSeq (mIfS (mTest (mBin dEq (mBin dIx (mVar 0) (mC (.int 0))) (mC (.str "send")))) (mRet (mMakeF 2 4 f_Send_init [] (mCons (mBin dIx (mVar 0) (mC (.int 1))) (mCons (mBin dIx (mVar 0) (mC (.int 2))) (mCons (mBin dIx (mVar 0) (mC (.int 3))) (mNil)))))) (mNext)) (mSeq (mIfS (mTest (mBin dEq (mBin dIx (mVar 0) (mC (.int 0))) (mC (.str "back")))) (mRet (mMakeF 3 5 f_Back_init [] (mCons (mBin dIx (mVar 0) (mC (.int 1))) (mCons (mBin dIx (mVar 0) (mC (.int 2))) (mCons (mBin dIx (mVar 0) (mC (.int 3))) (mCons (mBin dIx (mVar 0) (mC (.int 4))) (mNil))))))) (mNext)) (mRet (mMakeF 4 5 f_End_init [] (mCons (mBin dIx (mVar 0) (mC (.int 1))) (mCons (mBin dIx (mVar 0) (mC (.int 2))) (mCons (mBin dIx (mVar 0) (mC (.int 3))) (mCons (mBin dIx (mVar 0) (mC (.int 4))) (mNil)))))))))
def f__law_row : List D → Sto → R D := pur (mFun true 1 m__law_row)
theorem ok__law_row {K : PySem.W.Frag} {mg : Str → Option Value} {A : Ad} (T : Tx K mg A) {w : World} {base : Heap} : FnOk PG w K mg base (L2.CX PG w) 6 A._law_row A._law_row_d ["_law_row_here"] (spS K A.G 1 f__law_row) :=
  okPur <|
  fnSD (N := ["_law_row_here"]) (k := 5) T._law_row.F sc__law_row rfl fun cdv AA outer s H E hr =>
    have tk := takes_of (X := cxOf (L2.CX PG w) PG w K mg base ["_law_row_here"] "_law_row" (defScope s__law_row) A._law_row cdv AA outer s H E) rfl rfl rfl rfl
    have hx := passes_call tk (fun _ _ _ _ h => h)
    (pSs_cons (pS_if (pS_cmpT (op_eqS hr.units) ad_eq (pS_ix ix_S ad_ix (pS_var 0 (pv 0)) pS_int (fun _ _ => rfl)) pS_str (nomark _)) (pSs_one (pS_ret (pS_makeF (c := 1) T.C_Begin.m (ok_Begin_init T) (hr.mono (by decide)) rfl T.C_Begin.g T.Begin_init.b .nil (fun _ => rfl) hx (pSA_cons (pS_ix ix_S ad_ix (pS_var 0 (pv 0)) pS_int (fun _ _ => rfl)) (pSA_cons (pS_ix ix_S ad_ix (pS_var 0 (pv 0)) pS_int (fun _ _ => rfl)) (pSA_cons (pS_ix ix_S ad_ix (pS_var 0 (pv 0)) pS_int (fun _ _ => rfl)) pSA_nil)))))) pSs_nil) (pSs_cons (pS_if (pS_cmpT (op_eqS hr.units) ad_eq (pS_ix ix_S ad_ix (pS_var 0 (pv 0)) pS_int (fun _ _ => rfl)) pS_str (nomark _)) (pSs_one (pS_ret (pS_makeF (c := 2) T.C_Send.m (ok_Send_init T) (hr.mono (by decide)) rfl T.C_Send.g T.Send_init.b .nil (fun _ => rfl) hx (pSA_cons (pS_ix ix_S ad_ix (pS_var 0 (pv 0)) pS_int (fun _ _ => rfl)) (pSA_cons (pS_ix ix_S ad_ix (pS_var 0 (pv 0)) pS_int (fun _ _ => rfl)) (pSA_cons (pS_ix ix_S ad_ix (pS_var 0 (pv 0)) pS_int (fun _ _ => rfl)) pSA_nil)))))) pSs_nil) (pSs_cons (pS_if (pS_cmpT (op_eqS hr.units) ad_eq (pS_ix ix_S ad_ix (pS_var 0 (pv 0)) pS_int (fun _ _ => rfl)) pS_str (nomark _)) (pSs_one (pS_ret (pS_makeF (c := 3) T.C_Back.m (ok_Back_init T) (hr.mono (by decide)) rfl T.C_Back.g T.Back_init.b .nil (fun _ => rfl) hx (pSA_cons (pS_ix ix_S ad_ix (pS_var 0 (pv 0)) pS_int (fun _ _ => rfl)) (pSA_cons (pS_ix ix_S ad_ix (pS_var 0 (pv 0)) pS_int (fun _ _ => rfl)) (pSA_cons (pS_ix ix_S ad_ix (pS_var 0 (pv 0)) pS_int (fun _ _ => rfl)) (pSA_cons (pS_ix ix_S ad_ix (pS_var 0 (pv 0)) pS_int (fun _ _ => rfl)) pSA_nil))))))) pSs_nil) (pSs_one (pS_ret (pS_makeF (c := 4) T.C_End.m (ok_End_init T) (hr.mono (by decide)) rfl T.C_End.g T.End_init.b .nil (fun _ => rfl) hx (pSA_cons (pS_ix ix_S ad_ix (pS_var 0 (pv 0)) pS_int (fun _ _ => rfl)) (pSA_cons (pS_ix ix_S ad_ix (pS_var 0 (pv 0)) pS_int (fun _ _ => rfl)) (pSA_cons (pS_ix ix_S ad_ix (pS_var 0 (pv 0)) pS_int (fun _ _ => rfl)) (pSA_cons (pS_ix ix_S ad_ix (pS_var 0 (pv 0)) pS_int (fun _ _ => rfl)) pSA_nil))))))))))
def m__law_words : MS := mSeq (mIfS (mTest (mBin dEq (mBin dIx (mVar 0) (mC (.int 0))) (mC (.str "begin")))) (mRet (mLst (mCons (mTup (mCons (mC (.str "mark")) (mCons (mLst (mCons (mC (.str "none")) (mCons (mC (.str "any")) (mNil)))) (mNil)))) (mCons (mTup (mCons (mC (.str "kind")) (mCons (mLst (mCons (mC (.str "any")) (mNil))) (mNil)))) (mCons (mTup (mCons (mC (.str "mood")) (mCons (mLst (mNil)) (mNil)))) (mNil)))))) (mNext)) (mSeq (mIfS (mTest (mBin dEq (mBin dIx (mVar 0) (mC (.int 0))) (mC (.str "send")))) (mRet (mLst (mCons (mTup (mCons (mC (.str "mood")) (mCons (mLst (mCons (mC (.str "any")) (mNil))) (mNil)))) (mCons (mTup (mCons (mC (.str "service")) (mCons (mLst (mCons (mC (.str "any")) (mNil))) (mNil)))) (mCons (mTup (mCons (mC (.str "mark")) (mCons (mLst (mCons (mC (.str "none")) (mCons (mC (.str "same")) (mNil)))) (mNil)))) (mNil)))))) (mNext)) (mSeq (mIfS (mTest (mBin dEq (mBin dIx (mVar 0) (mC (.int 0))) (mC (.str "back")))) (mRet (mLst (mCons (mTup (mCons (mC (.str "mood")) (mCons (mLst (mCons (mC (.str "any")) (mNil))) (mNil)))) (mCons (mTup (mCons (mC (.str "service")) (mCons (mLst (mCons (mC (.str "any")) (mNil))) (mNil)))) (mCons (mTup (mCons (mC (.str "sign")) (mCons (mLst (mCons (mC (.str "none")) (mCons (mC (.str "any")) (mNil)))) (mNil)))) (mCons (mTup (mCons (mC (.str "then")) (mCons (mLst (mCons (mC (.str "same")) (mNil))) (mNil)))) (mNil))))))) (mNext)) (mRet (mLst (mCons (mTup (mCons (mC (.str "mood")) (mCons (mLst (mCons (mC (.str "any")) (mNil))) (mNil)))) (mCons (mTup (mCons (mC (.str "outcome")) (mCons (mLst (mCons (mC (.str "good")) (mCons (mC (.str "bad")) (mCons (mC (.str "any")) (mNil))))) (mNil)))) (mCons (mTup (mCons (mC (.str "sign")) (mCons (mLst (mCons (mC (.str "none")) (mNil))) (mNil)))) (mCons (mTup (mCons (mC (.str "part")) (mCons (mLst (mCons (mC (.str "keep")) (mCons (mC (.str "drop")) (mNil)))) (mNil)))) (mNil)))))))))
def f__law_words : List D → Sto → R D := pur (mFun true 1 m__law_words)
theorem ok__law_words {K : PySem.W.Frag} {mg : Str → Option Value} {A : Ad} (T : Tx K mg A) {w : World} {base : Heap} : FnOk PG w K mg base (L2.CX PG w) 1 A._law_words A._law_words_d ["_law_row_here"] (spS K A.G 1 f__law_words) :=
  okPur <|
  fnSD (N := ["_law_row_here"]) (k := 0) T._law_words.F sc__law_words rfl fun cdv AA outer s H E hr =>
    have tk := takes_of (X := cxOf (L2.CX PG w) PG w K mg base ["_law_row_here"] "_law_words" (defScope s__law_words) A._law_words cdv AA outer s H E) rfl rfl rfl rfl
    have hx := passes_call tk (fun _ _ _ _ h => h)
    (pSs_cons (pS_if (pS_cmpT (op_eqS hr.units) ad_eq (pS_ix ix_S ad_ix (pS_var 0 (pv 0)) pS_int (fun _ _ => rfl)) pS_str (nomark _)) (pSs_one (pS_ret (pS_lst (pSA_cons (pS_tup (pSA_cons pS_str (pSA_cons (pS_lst (pSA_cons pS_str (pSA_cons pS_str pSA_nil))) pSA_nil))) (pSA_cons (pS_tup (pSA_cons pS_str (pSA_cons (pS_lst (pSA_cons pS_str pSA_nil)) pSA_nil))) (pSA_cons (pS_tup (pSA_cons pS_str (pSA_cons (pS_lst pSA_nil) pSA_nil))) pSA_nil)))))) pSs_nil) (pSs_cons (pS_if (pS_cmpT (op_eqS hr.units) ad_eq (pS_ix ix_S ad_ix (pS_var 0 (pv 0)) pS_int (fun _ _ => rfl)) pS_str (nomark _)) (pSs_one (pS_ret (pS_lst (pSA_cons (pS_tup (pSA_cons pS_str (pSA_cons (pS_lst (pSA_cons pS_str pSA_nil)) pSA_nil))) (pSA_cons (pS_tup (pSA_cons pS_str (pSA_cons (pS_lst (pSA_cons pS_str pSA_nil)) pSA_nil))) (pSA_cons (pS_tup (pSA_cons pS_str (pSA_cons (pS_lst (pSA_cons pS_str (pSA_cons pS_str pSA_nil))) pSA_nil))) pSA_nil)))))) pSs_nil) (pSs_cons (pS_if (pS_cmpT (op_eqS hr.units) ad_eq (pS_ix ix_S ad_ix (pS_var 0 (pv 0)) pS_int (fun _ _ => rfl)) pS_str (nomark _)) (pSs_one (pS_ret (pS_lst (pSA_cons (pS_tup (pSA_cons pS_str (pSA_cons (pS_lst (pSA_cons pS_str pSA_nil)) pSA_nil))) (pSA_cons (pS_tup (pSA_cons pS_str (pSA_cons (pS_lst (pSA_cons pS_str pSA_nil)) pSA_nil))) (pSA_cons (pS_tup (pSA_cons pS_str (pSA_cons (pS_lst (pSA_cons pS_str (pSA_cons pS_str pSA_nil))) pSA_nil))) (pSA_cons (pS_tup (pSA_cons pS_str (pSA_cons (pS_lst (pSA_cons pS_str pSA_nil)) pSA_nil))) pSA_nil))))))) pSs_nil) (pSs_one (pS_ret (pS_lst (pSA_cons (pS_tup (pSA_cons pS_str (pSA_cons (pS_lst (pSA_cons pS_str pSA_nil)) pSA_nil))) (pSA_cons (pS_tup (pSA_cons pS_str (pSA_cons (pS_lst (pSA_cons pS_str (pSA_cons pS_str (pSA_cons pS_str pSA_nil)))) pSA_nil))) (pSA_cons (pS_tup (pSA_cons pS_str (pSA_cons (pS_lst (pSA_cons pS_str pSA_nil)) pSA_nil))) (pSA_cons (pS_tup (pSA_cons pS_str (pSA_cons (pS_lst (pSA_cons pS_str (pSA_cons pS_str pSA_nil))) pSA_nil))) pSA_nil))))))))))
def p__law_drawn_row_1 : MS := mSeq (mSet 6 (mIf (mTest (mBin dNotIn (mVar 4) (mTup (mCons (mC (.str "outcome")) (mCons (mC (.str "part")) (mNil)))))) (mBin dGetK (mVar 2) (mIf (mTest (mBin dEq (mVar 4) (mC (.str "then")))) (mC (.str "mood")) (mVar 4))) (mLst (mNil)))) (mSeq (mSet 7 (mIf (mOrB (mTest (mBin dEqL (mVar 6) (mLst (mNil)))) (mAndB (mTest (mBin dNeL (mVar 5) (mLst (mNil)))) (mTest (mBin dEq (mCall 2 f__law_take [] (mCons (mVar 0) (mCons (mC (.int 3)) (mNil)))) (mC (.int 0)))))) (mVar 5) (mVar 6))) (mDo (mLm dAppend (mVar 3) (mCons (mCall 2 f__law_pick [] (mCons (mVar 0) (mCons (mVar 7) (mNil)))) (mNil)))))
def m__law_drawn_row : MS := mSeq (mSet 3 (mLstC (mCons (mVar 1) (mNil)))) (mSeq (mFor (.tp [.nm 4, .nm 5]) (mItAny (mCall 1 f__law_words [] (mCons (mTup (mCons (mVar 1) (mNil))) (mNil)))) (p__law_drawn_row_1)) (mRet (mApp dTuple (mCons (mVar 3) (mNil)))))
def f__law_drawn_row : List D → Sto → R D := pur (mFun true 8 m__law_drawn_row)
theorem ok__law_drawn_row {K : PySem.W.Frag} {mg : Str → Option Value} {A : Ad} (T : Tx K mg A) {w : World} {base : Heap} : FnOk PG w K mg base (L2.CX PG w) 3 A._law_drawn_row A._law_drawn_row_d ["_law_box_here", "_law_sort", "_law_pools"] (spS K A.G 3 f__law_drawn_row) :=
  okPur <|
  fnSD (N := ["_law_box_here", "_law_sort", "_law_pools", "_law_found", "_law_word", "_law_others", "_law_names_here", "_law_near"]) (k := 2) T._law_drawn_row.F sc__law_drawn_row rfl fun cdv AA outer s H E hr =>
    have tk := takes_of (X := cxOf (L2.CX PG w) PG w K mg base ["_law_box_here", "_law_sort", "_law_pools", "_law_found", "_law_word", "_law_others", "_law_names_here", "_law_near"] "_law_drawn_row" (defScope s__law_drawn_row) A._law_drawn_row cdv AA outer s H E) rfl rfl rfl rfl
    have hx := passes_call tk (fun _ _ _ _ h => h)
    (pSs_cons (pS_set (i := 3) sc__law_drawn_row.nd rfl (Or.inl rfl) (pS_lstC (pSA_cons (pS_var 1 (pv 1)) pSA_nil))) (pSs_cons (pS_for (passes_of rfl) rfl (pI_any (pS_call (ok__law_words T) (hr.mono (by decide)) rfl T._law_words.g T._law_words.F.kp (T._law_words.F.bindsN fun _ _ _ _ _ _ us hl => match us, hl with | [_], _ => rfl) .nil (fun _ => rfl) tk (pSA_cons (pS_tup (pSA_cons (pS_var 1 (pv 1)) pSA_nil)) pSA_nil))) (pG_tp rfl (pGs_cons (pG_nm (i := 4) sc__law_drawn_row.nd rfl (Or.inl rfl)) (pGs_cons (pG_nm (i := 5) sc__law_drawn_row.nd rfl (Or.inl rfl)) pGs_nil))) (pSs_cons (pS_set (i := 6) sc__law_drawn_row.nd rfl (Or.inl rfl) (pS_ifE (pS_cmpT op_notInS ad_notIn (pS_var 4 (pv 4)) (pS_tup (pSA_cons pS_str (pSA_cons pS_str pSA_nil))) (by rfl)) (pS_getK (units1 hr) (pS_var 2 (pv 2)) (pS_ifE (pS_cmpT (op_eqS hr.units) ad_eq (pS_var 4 (pv 4)) pS_str (nomark _)) pS_str (pS_var 4 (pv 4)))) (pS_lst pSA_nil))) (pSs_cons (pS_set (i := 7) sc__law_drawn_row.nd rfl (Or.inl rfl) (pS_ifE (PW.pt (pS_or (pS_cmpT (op_eqSL hr.units) ad_eqL (pS_var 6 (pv 6)) (pS_lst pSA_nil) (nomark _)) (pS_or1 (PW.pt (pS_and (pS_cmpT (op_neSL hr.units) ad_neL (pS_var 5 (pv 5)) (pS_lst pSA_nil) (nomark _)) (pS_and1 (pS_cmpT (op_eqS hr.units) ad_eq (pS_call (ok__law_take T) (hr.mono (by decide)) rfl T._law_take.g T._law_take.F.kp (T._law_take.F.bindsN fun _ _ _ _ _ _ us hl => match us, hl with | [_, _], _ => rfl) .nil (fun _ => rfl) tk (pSA_cons (pS_var 0 (pv 0)) (pSA_cons pS_int pSA_nil))) pS_int (nomark _)))))))) (pS_var 5 (pv 5)) (pS_var 6 (pv 6)))) (pSs_one (pS_do (pS_lm (t := fun _ _ _ => False) ad_append (pe_bm PySem.F.plainAttrs_list PySem.F.slot_list_append PySem.F.type_list_append mt_append (pS_var 3 (pv 3)) (pSA_cons (pS_call (ok__law_pick T) (hr.mono (by decide)) rfl T._law_pick.g T._law_pick.F.kp (T._law_pick.F.bindsN fun _ _ _ _ _ _ us hl => match us, hl with | [_, _], _ => rfl) .nil (fun _ => rfl) tk (pSA_cons (pS_var 0 (pv 0)) (pSA_cons (pS_var 7 (pv 7)) pSA_nil))) pSA_nil)))))))) (pSs_one (pS_ret (pS_callTy call_tuple_of ad_tuple (by rfl) T.b_tuple (by decide +kernel) (pSA_cons (pS_var 3 (pv 3)) pSA_nil))))))
end K
namespace K
open PySem L2 S
theorem kb__law_service_of_Service_init_0 {K : PySem.W.Frag} {mg : Str → Option Value} {A : Ad} (T : Tx K mg A) : KBa K A.Service_init_d ["self", "name", "kinds", "waits", "leaves", "rows"] 6 [] [0, 1, 2, 3, 4, 5] [.ref A.e_Service_init_0, .ref A.e_Service_init_1, .ref A.e_Service_init_2] := kba_of T.Service_init.F (by simp) fun _ _ _ _ _ _ _ us ws its h1 h2 h3 => match us, ws, its, h1, h2, h3 with | [_, _, _, _, _, _], [], [_, _, _], _, _, _ => ⟨_, rfl, rfl⟩
def m__law_service_of : MS := mSeq (mSet 1 (mLc (.nm 2) [2] (mItAny (mBin dGetK (mVar 0) (mC (.str "rows")))) (mYes) (mCall 1 f__law_row [] (mCons (mVar 2) (mNil))))) (mRet (mMakeA 5 6 f_Service_init [0, 1, 2, 3, 4, 5] (mArgs 5 0 (mCons (mBin dGetK (mVar 0) (mC (.str "name"))) (mCons (mBin dGetK (mVar 0) (mC (.str "kinds"))) (mCons (mBin dGetK (mVar 0) (mC (.str "waits"))) (mCons (mApp dTuple (mCons (mBin dGetK (mVar 0) (mC (.str "leaves"))) (mNil))) (mCons (mVar 1) (mNil)))))) (mNil) [.tup [], .tup [], .tup []])))
def f__law_service_of : List D → Sto → R D := pur (mFun true 3 m__law_service_of)
theorem ok__law_service_of {K : PySem.W.Frag} {mg : Str → Option Value} {A : Ad} (T : Tx K mg A) {w : World} {base : Heap} : FnOk PG w K mg base (L2.CX PG w) 7 A._law_service_of A._law_service_of_d ["_law_one"] (spS K A.G 1 f__law_service_of) :=
  okPur <|
  fnSD (N := ["_law_one", "_law_rows", "_law_row_here"]) (k := 6) T._law_service_of.F sc__law_service_of rfl fun cdv AA outer s H E hr =>
    have tk := takes_of (X := cxOf (L2.CX PG w) PG w K mg base ["_law_one", "_law_rows", "_law_row_here"] "_law_service_of" (defScope s__law_service_of) A._law_service_of cdv AA outer s H E) rfl rfl rfl rfl
    have hx := passes_call tk (fun _ _ _ _ h => h)
    (pSs_cons (pS_setLc (i := 1) rfl sc__law_service_of.nd rfl rfl (sw_true rfl rfl rfl (by decide +kernel)) (pI_any (pS_getK (units1 hr) (pS_var 0 (pv 0)) pS_str)) (blkOk_by (own := [("_law_row_here", 2)]) (N := ["_law_one", "_law_rows", "_law_row_here"]) (sc := defScope s__law_service_of) (by decide +kernel)) (fun _ _ _ _ _ => (pG_nm (i := 2) sc__law_service_of.nd rfl (Or.inl rfl))) (fun _ _ _ _ _ => pTs_nil) (fun _ _ _ _ _ => (pS_call (ok__law_row T) (hr.mono (by decide)) rfl T._law_row.g T._law_row.F.kp (T._law_row.F.bindsN fun _ _ _ _ _ _ us hl => match us, hl with | [_], _ => rfl) .nil (fun _ => rfl) takes0 (pSA_cons (pS_var 2 (pv 2)) pSA_nil)))) (pSs_one (pS_ret (pS_makeA (c := 5) T.C_Service.m (ok_Service_init T) (hr.mono (by decide)) rfl T.C_Service.g (kb__law_service_of_Service_init_0 T) (fun Z => ⟨_, _, rfl, ⟨_, _, rfl, T.e_Service_init_0 _, rfl⟩, ⟨_, _, rfl, ⟨_, _, rfl, T.e_Service_init_1 _, rfl⟩, ⟨_, _, rfl, ⟨_, _, rfl, T.e_Service_init_2 _, rfl⟩, rfl⟩⟩⟩) hx (pSA_cons (pS_getK (units1 hr) (pS_var 0 (pv 0)) pS_str) (pSA_cons (pS_getK (units1 hr) (pS_var 0 (pv 0)) pS_str) (pSA_cons (pS_getK (units1 hr) (pS_var 0 (pv 0)) pS_str) (pSA_cons (pS_callTy call_tuple_of ad_tuple (by rfl) T.b_tuple (by decide +kernel) (pSA_cons (pS_getK (units1 hr) (pS_var 0 (pv 0)) pS_str) pSA_nil)) (pSA_cons (pS_var 1 (pv 1)) pSA_nil))))) pSK_nil))))
def m__law_some : MS := mRet (mSl (mCall 2 f__law_mixed [] (mCons (mVar 0) (mCons (mVar 1) (mNil)))) (mNoPart) (mPart (mBin dAdd (mVar 2) (mCall 2 f__law_take [] (mCons (mVar 0) (mCons (mBin dSub (mBin dAdd (mApp dLen (mCons (mVar 1) (mNil))) (mC (.int 1))) (mVar 2)) (mNil)))))))
def f__law_some : List D → Sto → R D := pur (mFun true 3 m__law_some)
theorem ok__law_some {K : PySem.W.Frag} {mg : Str → Option Value} {A : Ad} (T : Tx K mg A) {w : World} {base : Heap} : FnOk PG w K mg base (L2.CX PG w) 3 A._law_some A._law_some_d ["_law_box_here", "_law_names_here", "_law_fewest"] (spS K A.G 3 f__law_some) :=
  okPur <|
  fnSD (N := ["_law_box_here", "_law_names_here", "_law_fewest"]) (k := 2) T._law_some.F sc__law_some rfl fun cdv AA outer s H E hr =>
    have tk := takes_of (X := cxOf (L2.CX PG w) PG w K mg base ["_law_box_here", "_law_names_here", "_law_fewest"] "_law_some" (defScope s__law_some) A._law_some cdv AA outer s H E) rfl rfl rfl rfl
    have hx := passes_call tk (fun _ _ _ _ h => h)
    (pSs_one (pS_ret (pS_sl (pS_call (ok__law_mixed T) (hr.mono (by decide)) rfl T._law_mixed.g T._law_mixed.F.kp (T._law_mixed.F.bindsN fun _ _ _ _ _ _ us hl => match us, hl with | [_, _], _ => rfl) .nil (fun _ => rfl) tk (pSA_cons (pS_var 0 (pv 0)) (pSA_cons (pS_var 1 (pv 1)) pSA_nil))) pSO_none (pSO_some (pS_op op_addS ad_add (pS_var 2 (pv 2)) (pS_call (ok__law_take T) (hr.mono (by decide)) rfl T._law_take.g T._law_take.F.kp (T._law_take.F.bindsN fun _ _ _ _ _ _ us hl => match us, hl with | [_, _], _ => rfl) .nil (fun _ => rfl) tk (pSA_cons (pS_var 0 (pv 0)) (pSA_cons (pS_op op_sub ad_sub (pS_op op_addS ad_add (pS_callB cr_lenS ad_len (by rfl) T.b_len (by decide +kernel) (pSA_cons (pS_var 1 (pv 1)) pSA_nil)) pS_int) (pS_var 2 (pv 2))) pSA_nil))))))))
def p__law_any_service_1 : MS := mSeq (mDo (mDm dUpd (mVar 9) (mCons (mDisp [(mC (.str "waits"), mCall 3 f__law_some [] (mCons (mVar 0) (mCons (mVar 2) (mCons (mC (.int 0)) (mNil))))), (mC (.str "leaves"), mCall 3 f__law_some [] (mCons (mVar 0) (mCons (mVar 2) (mCons (mC (.int 0)) (mNil)))))]) (mNil)))) (mRet (mVar 9))
def p__law_any_service_2 : MS := mSeq (mSet 9 (mDispC [(mC (.str "name"), mVar 1), (mC (.str "kinds"), mVar 4), (mC (.str "rows"), mVar 8)])) (p__law_any_service_1)
def p__law_any_service_3 : MS := mSeq (mSet 8 (mLc (.nm 11) [11] (mItAny (mVar 7)) (mYes) (mCall 3 f__law_drawn_row [] (mCons (mVar 0) (mCons (mVar 11) (mCons (mVar 6) (mNil))))))) (p__law_any_service_2)
def p__law_any_service_4 : MS := mSeq (mSet 7 (mLc (.nm 10) [10] (mItRange (mCons (mCall 2 f__law_take [] (mCons (mVar 0) (mCons (mC (.int 6)) (mNil)))) (mNil))) (mYes) (mCall 2 f__law_pick [] (mCons (mVar 0) (mCons (mLst (mCons (mC (.str "begin")) (mCons (mC (.str "send")) (mCons (mC (.str "back")) (mCons (mC (.str "end")) (mNil)))))) (mNil)))))) (p__law_any_service_3)
def p__law_any_service_5 : MS := mSeq (mSet 6 (mDisp [(mC (.str "mark"), mSl (mVar 3) (mPart (mC (.int 4))) (mPart (mC (.int 6)))), (mC (.str "kind"), mVar 4), (mC (.str "mood"), mVar 5), (mC (.str "service"), mApp dList (mCons (mVar 2) (mNil))), (mC (.str "sign"), mSl (mVar 3) (mPart (mC (.int 5))) (mPart (mC (.int 7))))])) (p__law_any_service_4)
def m__law_any_service : MS := mSeq (mPar [4, 5] (mCons (mCall 3 f__law_some [] (mCons (mVar 0) (mCons (mSl (mVar 3) (mNoPart) (mPart (mC (.int 2)))) (mCons (mC (.int 1)) (mNil))))) (mCons (mBin dAdd (mLst (mCons (mC (.str "calm")) (mNil))) (mSl (mVar 3) (mPart (mC (.int 2))) (mPart (mC (.int 4))))) (mNil)))) (p__law_any_service_5)
def f__law_any_service : List D → Sto → R D := mFun false 12 m__law_any_service
theorem ok__law_any_service {K : PySem.W.Frag} {mg : Str → Option Value} {A : Ad} (T : Tx K mg A) {w : World} {base : Heap} : FnOk PG w K mg base (L2.CX PG w) 4 A._law_any_service A._law_any_service_d ["_law_box_here", "_law_name", "_law_names_here", "_law_words_here"] (spS K A.G 4 f__law_any_service) :=
  fnSD (N := ["_law_box_here", "_law_name", "_law_names_here", "_law_words_here", "_law_kinds", "_law_moods", "_law_pools", "_law_some_here", "_law_rows", "_law_found", "_law_turn", "_law_sort"]) (k := 3) T._law_any_service.F sc__law_any_service rfl fun cdv AA outer s H E hr =>
    have tk := takes_of (X := cxOf (L2.CX PG w) PG w K mg base ["_law_box_here", "_law_name", "_law_names_here", "_law_words_here", "_law_kinds", "_law_moods", "_law_pools", "_law_some_here", "_law_rows", "_law_found", "_law_turn", "_law_sort"] "_law_any_service" (defScope s__law_any_service) A._law_any_service cdv AA outer s H E) rfl rfl rfl rfl
    have hx := passes_call tk (fun _ _ _ _ h => h)
    (pSs_cons (pS_par rfl sc__law_any_service.nd (i := 4) (j := 5) rfl rfl (by decide) rfl rfl (pSA_cons (pS_call (ok__law_some T) (hr.mono (by decide)) rfl T._law_some.g T._law_some.F.kp (T._law_some.F.bindsN fun _ _ _ _ _ _ us hl => match us, hl with | [_, _, _], _ => rfl) .nil (fun _ => rfl) tk (pSA_cons (pS_var 0 (pv 0)) (pSA_cons (pS_sl (pS_var 3 (pv 3)) pSO_none (pSO_some pS_int)) (pSA_cons pS_int pSA_nil)))) (pSA_cons (pS_op op_addS ad_add (pS_lst (pSA_cons pS_str pSA_nil)) (pS_sl (pS_var 3 (pv 3)) (pSO_some pS_int) (pSO_some pS_int))) pSA_nil)) (by rfl)) (pSs_cons (pS_set (i := 6) sc__law_any_service.nd rfl (Or.inr rfl) (pS_disp (pps_cons pS_str (pS_sl (pS_var 3 (pv 3)) (pSO_some pS_int) (pSO_some pS_int)) (pps_cons pS_str (pS_var 4 (pv 4)) (pps_cons pS_str (pS_var 5 (pv 5)) (pps_cons pS_str (pS_callTy call_list_of ad_list (by rfl) T.b_list (by decide +kernel) (pSA_cons (pS_var 2 (pv 2)) pSA_nil)) (pps_cons pS_str (pS_sl (pS_var 3 (pv 3)) (pSO_some pS_int) (pSO_some pS_int)) pps_nil))))))) (pSs_cons (pS_setLc (i := 7) rfl sc__law_any_service.nd rfl rfl (sw_true rfl rfl rfl (by decide +kernel)) (pI_range1 rfl T.b_range (pSA_cons (pS_call (ok__law_take T) (hr.mono (by decide)) rfl T._law_take.g T._law_take.F.kp (T._law_take.F.bindsN fun _ _ _ _ _ _ us hl => match us, hl with | [_, _], _ => rfl) .nil (fun _ => rfl) tk (pSA_cons (pS_var 0 (pv 0)) (pSA_cons pS_int pSA_nil))) pSA_nil)) (blkOk_by (own := [("_law_turn", 10)]) (N := ["_law_box_here", "_law_name", "_law_names_here", "_law_words_here", "_law_kinds", "_law_moods", "_law_pools", "_law_some_here", "_law_rows", "_law_found", "_law_turn", "_law_sort"]) (sc := defScope s__law_any_service) (by decide +kernel)) (fun _ _ _ _ _ => (pG_nm (i := 10) sc__law_any_service.nd rfl (Or.inl rfl))) (fun _ _ _ _ _ => pTs_nil) (fun _ _ _ _ _ => (pS_call (ok__law_pick T) (hr.mono (by decide)) rfl T._law_pick.g T._law_pick.F.kp (T._law_pick.F.bindsN fun _ _ _ _ _ _ us hl => match us, hl with | [_, _], _ => rfl) .nil (fun _ => rfl) takes0 (pSA_cons (pS_var 0 (pv 0)) (pSA_cons (pS_lst (pSA_cons pS_str (pSA_cons pS_str (pSA_cons pS_str (pSA_cons pS_str pSA_nil))))) pSA_nil))))) (pSs_cons (pS_setLc (i := 8) rfl sc__law_any_service.nd rfl rfl (sw_true rfl rfl rfl (by decide +kernel)) (pI_any (pS_var 7 (pv 7))) (blkOk_by (own := [("_law_sort", 11)]) (N := ["_law_box_here", "_law_name", "_law_names_here", "_law_words_here", "_law_kinds", "_law_moods", "_law_pools", "_law_some_here", "_law_rows", "_law_found", "_law_turn", "_law_sort"]) (sc := defScope s__law_any_service) (by decide +kernel)) (fun _ _ _ _ _ => (pG_nm (i := 11) sc__law_any_service.nd rfl (Or.inl rfl))) (fun _ _ _ _ _ => pTs_nil) (fun _ _ _ _ _ => (pS_call (ok__law_drawn_row T) (hr.mono (by decide)) rfl T._law_drawn_row.g T._law_drawn_row.F.kp (T._law_drawn_row.F.bindsN fun _ _ _ _ _ _ us hl => match us, hl with | [_, _, _], _ => rfl) .nil (fun _ => rfl) takes0 (pSA_cons (pS_var 0 (pv 0)) (pSA_cons (pS_var 11 (pv 11)) (pSA_cons (pS_var 6 (pv 6)) pSA_nil)))))) (pSs_cons (pS_set (i := 9) sc__law_any_service.nd rfl (Or.inl rfl) (pS_dispC (pps_cons pS_str (pS_var 1 (pv 1)) (pps_cons pS_str (pS_var 4 (pv 4)) (pps_cons pS_str (pS_var 8 (pv 8)) pps_nil))))) (pSs_cons (pS_do (pS_dm ad_upd (pe_bm PySem.F.plainAttrs_dict PySem.F.slot_dict_update PySem.F.type_dict_update mt_upd (pS_var 9 (pv 9)) (pSA_cons (pS_disp (pps_cons pS_str (pS_call (ok__law_some T) (hr.mono (by decide)) rfl T._law_some.g T._law_some.F.kp (T._law_some.F.bindsN fun _ _ _ _ _ _ us hl => match us, hl with | [_, _, _], _ => rfl) .nil (fun _ => rfl) tk (pSA_cons (pS_var 0 (pv 0)) (pSA_cons (pS_var 2 (pv 2)) (pSA_cons pS_int pSA_nil)))) (pps_cons pS_str (pS_call (ok__law_some T) (hr.mono (by decide)) rfl T._law_some.g T._law_some.F.kp (T._law_some.F.bindsN fun _ _ _ _ _ _ us hl => match us, hl with | [_, _, _], _ => rfl) .nil (fun _ => rfl) tk (pSA_cons (pS_var 0 (pv 0)) (pSA_cons (pS_var 2 (pv 2)) (pSA_cons pS_int pSA_nil)))) pps_nil))) pSA_nil)))) (pSs_one (pS_ret (pS_var 9 (pv 9))))))))))
def p__law_first_1 : MS := mSeq (mSet 4 (mLc (.tp [.nm 5, .nm 6]) [5, 6] (mItZip (mCons (mSl (mVar 3) (mPart (mC (.int 1))) (mNoPart)) (mCons (mVar 2) (mNil)))) (mTest (mBin dNotIn (mVar 5) (mTup (mCons (mC (.str "any")) (mCons (mVar 6) (mNil)))))) (mVar 5))) (mIfS (mAndB (mTest (mBin dEq (mBin dIx (mVar 3) (mC (.int 0))) (mVar 1))) (mTest (mBin dEqL (mVar 4) (mLst (mNil))))) (mRet (mVar 3)) (mNext))
def m__law_first : MS := mSeq (mFor (.nm 3) (mItAny (mBin dGetK (mVar 0) (mC (.str "rows")))) (p__law_first_1)) (mRet (mC .non))
def f__law_first : List D → Sto → R D := pur (mFun true 7 m__law_first)
theorem ok__law_first {K : PySem.W.Frag} {mg : Str → Option Value} {A : Ad} (T : Tx K mg A) {w : World} {base : Heap} : FnOk PG w K mg base (L2.CX PG w) 1 A._law_first A._law_first_d ["_law_one", "_law_sort", "_law_asked"] (spS K A.G 3 f__law_first) :=
  okPur <|
  fnSD (N := ["_law_one", "_law_sort", "_law_asked", "_law_row_here", "_law_unlike", "_law_word", "_law_near"]) (k := 0) T._law_first.F sc__law_first rfl fun cdv AA outer s H E hr =>
    have tk := takes_of (X := cxOf (L2.CX PG w) PG w K mg base ["_law_one", "_law_sort", "_law_asked", "_law_row_here", "_law_unlike", "_law_word", "_law_near"] "_law_first" (defScope s__law_first) A._law_first cdv AA outer s H E) rfl rfl rfl rfl
    have hx := passes_call tk (fun _ _ _ _ h => h)
    (pSs_cons (pS_for (passes_of rfl) rfl (pI_any (pS_getK (units1 hr) (pS_var 0 (pv 0)) pS_str)) (pG_nm (i := 3) sc__law_first.nd rfl (Or.inl rfl)) (pSs_cons (pS_setLc (i := 4) rfl sc__law_first.nd rfl rfl (sw_true rfl rfl rfl (by decide +kernel)) (pI_zip rfl T.b_zip (pSA_cons (pS_sl (pS_var 3 (pv 3)) (pSO_some pS_int) pSO_none) (pSA_cons (pS_var 2 (pv 2)) pSA_nil))) (blkOk_by (own := [("_law_word", 5), ("_law_near", 6)]) (N := ["_law_one", "_law_sort", "_law_asked", "_law_row_here", "_law_unlike", "_law_word", "_law_near"]) (sc := defScope s__law_first) (by decide +kernel)) (fun _ _ _ _ _ => (pG_tp rfl (pGs_cons (pG_nm (i := 5) sc__law_first.nd rfl (Or.inl rfl)) (pGs_cons (pG_nm (i := 6) sc__law_first.nd rfl (Or.inl rfl)) pGs_nil)))) (fun _ _ _ _ _ => (pTs_one (pS_cmpT op_notInS ad_notIn (pS_var 5 (pv 5)) (pS_tup (pSA_cons pS_str (pSA_cons (pS_var 6 (pv 6)) pSA_nil))) (by rfl)))) (fun _ _ _ _ _ => (pS_var 5 (pv 5)))) (pSs_one (pS_if (PW.pt (pS_and (pS_cmpT (op_eqS hr.units) ad_eq (pS_ix ix_S ad_ix (pS_var 3 (pv 3)) pS_int (fun _ _ => rfl)) (pS_var 1 (pv 1)) (nomark _)) (pS_and1 (pS_cmpT (op_eqSL hr.units) ad_eqL (pS_var 4 (pv 4)) (pS_lst pSA_nil) (nomark _))))) (pSs_one (pS_ret (pS_var 3 (pv 3)))) pSs_nil)))) (pSs_one (pS_ret pS_non)))
def m__law_begun : MS := mSeq (mSet 3 (mCall 3 f__law_first [] (mCons (mVar 0) (mCons (mC (.str "begin")) (mCons (mLst (mCons (mVar 1) (mCons (mVar 2) (mNil)))) (mNil)))))) (mRet (mIf (mTest (mBin dIsN (mVar 3) (mC .non))) (mC (.str "calm")) (mBin dIx (mVar 3) (mC (.int 3)))))
def f__law_begun : List D → Sto → R D := pur (mFun true 4 m__law_begun)
theorem ok__law_begun {K : PySem.W.Frag} {mg : Str → Option Value} {A : Ad} (T : Tx K mg A) {w : World} {base : Heap} : FnOk PG w K mg base (L2.CX PG w) 2 A._law_begun A._law_begun_d ["_law_one", "_law_mark", "_law_kind"] (spS K A.G 3 f__law_begun) :=
  okPur <|
  fnSD (N := ["_law_one", "_law_mark", "_law_kind", "_law_row_here"]) (k := 1) T._law_begun.F sc__law_begun rfl fun cdv AA outer s H E hr =>
    have tk := takes_of (X := cxOf (L2.CX PG w) PG w K mg base ["_law_one", "_law_mark", "_law_kind", "_law_row_here"] "_law_begun" (defScope s__law_begun) A._law_begun cdv AA outer s H E) rfl rfl rfl rfl
    have hx := passes_call tk (fun _ _ _ _ h => h)
    (pSs_cons (pS_set (i := 3) sc__law_begun.nd rfl (Or.inl rfl) (pS_call (ok__law_first T) (hr.mono (by decide)) rfl T._law_first.g T._law_first.F.kp (T._law_first.F.bindsN fun _ _ _ _ _ _ us hl => match us, hl with | [_, _, _], _ => rfl) .nil (fun _ => rfl) tk (pSA_cons (pS_var 0 (pv 0)) (pSA_cons pS_str (pSA_cons (pS_lst (pSA_cons (pS_var 1 (pv 1)) (pSA_cons (pS_var 2 (pv 2)) pSA_nil))) pSA_nil))))) (pSs_one (pS_ret (pS_ifE (pS_cmpT op_isN ad_isN (pS_var 3 (pv 3)) pS_non (nomark _)) pS_str (pS_ix ix_S ad_ix (pS_var 3 (pv 3)) pS_int (fun _ _ => rfl))))))
def m__law_sent : MS := mSeq (mSet 4 (mCall 3 f__law_first [] (mCons (mVar 0) (mCons (mC (.str "send")) (mCons (mLst (mCons (mVar 1) (mCons (mVar 2) (mNil)))) (mNil)))))) (mSeq (mIfS (mTest (mBin dIsN (mVar 4) (mC .non))) (mRet (mC (.str "none"))) (mNext)) (mRet (mIf (mTest (mBin dEq (mBin dIx (mVar 4) (mC (.int 3))) (mC (.str "same")))) (mVar 3) (mBin dIx (mVar 4) (mC (.int 3))))))
def f__law_sent : List D → Sto → R D := pur (mFun true 5 m__law_sent)
theorem ok__law_sent {K : PySem.W.Frag} {mg : Str → Option Value} {A : Ad} (T : Tx K mg A) {w : World} {base : Heap} : FnOk PG w K mg base (L2.CX PG w) 2 A._law_sent A._law_sent_d ["_law_one", "_law_mood", "_law_other", "_law_mark"] (spS K A.G 4 f__law_sent) :=
  okPur <|
  fnSD (N := ["_law_one", "_law_mood", "_law_other", "_law_mark", "_law_row_here"]) (k := 1) T._law_sent.F sc__law_sent rfl fun cdv AA outer s H E hr =>
    have tk := takes_of (X := cxOf (L2.CX PG w) PG w K mg base ["_law_one", "_law_mood", "_law_other", "_law_mark", "_law_row_here"] "_law_sent" (defScope s__law_sent) A._law_sent cdv AA outer s H E) rfl rfl rfl rfl
    have hx := passes_call tk (fun _ _ _ _ h => h)
    (pSs_cons (pS_set (i := 4) sc__law_sent.nd rfl (Or.inl rfl) (pS_call (ok__law_first T) (hr.mono (by decide)) rfl T._law_first.g T._law_first.F.kp (T._law_first.F.bindsN fun _ _ _ _ _ _ us hl => match us, hl with | [_, _, _], _ => rfl) .nil (fun _ => rfl) tk (pSA_cons (pS_var 0 (pv 0)) (pSA_cons pS_str (pSA_cons (pS_lst (pSA_cons (pS_var 1 (pv 1)) (pSA_cons (pS_var 2 (pv 2)) pSA_nil))) pSA_nil))))) (pSs_cons (pS_if (pS_cmpT op_isN ad_isN (pS_var 4 (pv 4)) pS_non (nomark _)) (pSs_one (pS_ret pS_str)) pSs_nil) (pSs_one (pS_ret (pS_ifE (pS_cmpT (op_eqS hr.units) ad_eq (pS_ix ix_S ad_ix (pS_var 4 (pv 4)) pS_int (fun _ _ => rfl)) pS_str (nomark _)) (pS_var 3 (pv 3)) (pS_ix ix_S ad_ix (pS_var 4 (pv 4)) pS_int (fun _ _ => rfl)))))))
def m__law_after : MS := mSeq (mSet 4 (mCall 3 f__law_first [] (mCons (mVar 0) (mCons (mC (.str "back")) (mCons (mLst (mCons (mVar 1) (mCons (mVar 2) (mCons (mVar 3) (mNil))))) (mNil)))))) (mRet (mIf (mOrB (mTest (mBin dIsN (mVar 4) (mC .non))) (mTest (mBin dEq (mBin dIx (mVar 4) (mC (.int 4))) (mC (.str "same"))))) (mVar 1) (mBin dIx (mVar 4) (mC (.int 4)))))
def f__law_after : List D → Sto → R D := pur (mFun true 5 m__law_after)
theorem ok__law_after {K : PySem.W.Frag} {mg : Str → Option Value} {A : Ad} (T : Tx K mg A) {w : World} {base : Heap} : FnOk PG w K mg base (L2.CX PG w) 2 A._law_after A._law_after_d ["_law_one", "_law_mood", "_law_other", "_law_sign"] (spS K A.G 4 f__law_after) :=
  okPur <|
  fnSD (N := ["_law_one", "_law_mood", "_law_other", "_law_sign", "_law_row_here"]) (k := 1) T._law_after.F sc__law_after rfl fun cdv AA outer s H E hr =>
    have tk := takes_of (X := cxOf (L2.CX PG w) PG w K mg base ["_law_one", "_law_mood", "_law_other", "_law_sign", "_law_row_here"] "_law_after" (defScope s__law_after) A._law_after cdv AA outer s H E) rfl rfl rfl rfl
    have hx := passes_call tk (fun _ _ _ _ h => h)
    (pSs_cons (pS_set (i := 4) sc__law_after.nd rfl (Or.inl rfl) (pS_call (ok__law_first T) (hr.mono (by decide)) rfl T._law_first.g T._law_first.F.kp (T._law_first.F.bindsN fun _ _ _ _ _ _ us hl => match us, hl with | [_, _, _], _ => rfl) .nil (fun _ => rfl) tk (pSA_cons (pS_var 0 (pv 0)) (pSA_cons pS_str (pSA_cons (pS_lst (pSA_cons (pS_var 1 (pv 1)) (pSA_cons (pS_var 2 (pv 2)) (pSA_cons (pS_var 3 (pv 3)) pSA_nil)))) pSA_nil))))) (pSs_one (pS_ret (pS_ifE (PW.pt (pS_or (pS_cmpT op_isN ad_isN (pS_var 4 (pv 4)) pS_non (nomark _)) (pS_or1 (pS_cmpT (op_eqS hr.units) ad_eq (pS_ix ix_S ad_ix (pS_var 4 (pv 4)) pS_int (fun _ _ => rfl)) pS_str (nomark _))))) (pS_var 1 (pv 1)) (pS_ix ix_S ad_ix (pS_var 4 (pv 4)) pS_int (fun _ _ => rfl))))))
def m__law_ended : MS := mSeq (mSet 3 (mCall 3 f__law_first [] (mCons (mVar 0) (mCons (mC (.str "end")) (mCons (mLst (mCons (mVar 1) (mCons (mIf (mTru (mVar 2)) (mC (.str "bad")) (mC (.str "good"))) (mNil)))) (mNil)))))) (mRet (mIf (mTest (mBin dIsN (mVar 3) (mC .non))) (mTup (mCons (mC (.str "none")) (mCons (mC (.bl false)) (mNil)))) (mTup (mCons (mBin dIx (mVar 3) (mC (.int 3))) (mCons (mBin dEq (mBin dIx (mVar 3) (mC (.int 4))) (mC (.str "keep"))) (mNil))))))
def f__law_ended : List D → Sto → R D := pur (mFun true 4 m__law_ended)
theorem ok__law_ended {K : PySem.W.Frag} {mg : Str → Option Value} {A : Ad} (T : Tx K mg A) {w : World} {base : Heap} : FnOk PG w K mg base (L2.CX PG w) 2 A._law_ended A._law_ended_d ["_law_one", "_law_mood", "_law_bad"] (spS K A.G 3 f__law_ended) :=
  okPur <|
  fnSD (N := ["_law_one", "_law_mood", "_law_bad", "_law_row_here"]) (k := 1) T._law_ended.F sc__law_ended rfl fun cdv AA outer s H E hr =>
    have tk := takes_of (X := cxOf (L2.CX PG w) PG w K mg base ["_law_one", "_law_mood", "_law_bad", "_law_row_here"] "_law_ended" (defScope s__law_ended) A._law_ended cdv AA outer s H E) rfl rfl rfl rfl
    have hx := passes_call tk (fun _ _ _ _ h => h)
    (pSs_cons (pS_set (i := 3) sc__law_ended.nd rfl (Or.inl rfl) (pS_call (ok__law_first T) (hr.mono (by decide)) rfl T._law_first.g T._law_first.F.kp (T._law_first.F.bindsN fun _ _ _ _ _ _ us hl => match us, hl with | [_, _, _], _ => rfl) .nil (fun _ => rfl) tk (pSA_cons (pS_var 0 (pv 0)) (pSA_cons pS_str (pSA_cons (pS_lst (pSA_cons (pS_var 1 (pv 1)) (pSA_cons (pS_ifE (pS_tru (pS_var 2 (pv 2))) pS_str pS_str) pSA_nil))) pSA_nil))))) (pSs_one (pS_ret (pS_ifE (pS_cmpT op_isN ad_isN (pS_var 3 (pv 3)) pS_non (nomark _)) (pS_tup (pSA_cons pS_str (pSA_cons pS_bl pSA_nil))) (pS_tup (pSA_cons (pS_ix ix_S ad_ix (pS_var 3 (pv 3)) pS_int (fun _ _ => rfl)) (pSA_cons (pS_cmp (op_eqS hr.units) ad_eq (pS_ix ix_S ad_ix (pS_var 3 (pv 3)) pS_int (fun _ _ => rfl)) pS_str (nomark _)) pSA_nil)))))))
end K
namespace K
open PySem L2 S
def p_law_1 : MS := mIfS (mTest (mBin dNe (mApp dRepr (mCons (mMeth 5 "end" 3 f_Service_end [] (mVar 8) (mCons (mVar 14) (mCons (mVar 17) (mNil)))) (mNil))) (mApp dRepr (mCons (mCall 3 f__law_ended [] (mCons (mVar 6) (mCons (mVar 14) (mCons (mVar 17) (mNil))))) (mNil))))) (mRet (mC (.bl false))) (mNext)
def p_law_2 : MS := mSeq (mIfS (mTest (mBin dNe (mMeth 5 "back" 4 f_Service_back [] (mVar 8) (mCons (mVar 14) (mCons (mVar 15) (mCons (mVar 16) (mNil))))) (mCall 4 f__law_after [] (mCons (mVar 6) (mCons (mVar 14) (mCons (mVar 15) (mCons (mVar 16) (mNil)))))))) (mRet (mC (.bl false))) (mNext)) (p_law_1)
def p_law_3 : MS := mSeq (mIfS (mTest (mBin dNe (mMeth 5 "send" 4 f_Service_send [] (mVar 8) (mCons (mVar 14) (mCons (mVar 15) (mCons (mVar 12) (mNil))))) (mCall 4 f__law_sent [] (mCons (mVar 6) (mCons (mVar 14) (mCons (mVar 15) (mCons (mVar 12) (mNil)))))))) (mRet (mC (.bl false))) (mNext)) (p_law_2)
def p_law_4 : MS := mSeq (mIfS (mTest (mBin dNe (mMeth 5 "begin" 3 f_Service_begin [] (mVar 8) (mCons (mVar 12) (mCons (mVar 13) (mNil)))) (mCall 3 f__law_begun [] (mCons (mVar 6) (mCons (mVar 12) (mCons (mVar 13) (mNil))))))) (mRet (mC (.bl false))) (mNext)) (p_law_3)
def p_law_5 : MS := mSeq (mPar [16, 17] (mCons (mCall 2 f__law_pick [] (mCons (mVar 2) (mCons (mBin dAdd (mSl (mVar 5) (mPart (mC (.int 5))) (mPart (mC (.int 7)))) (mLst (mCons (mC (.str "none")) (mCons (mC (.str "zx")) (mNil))))) (mNil)))) (mCons (mBin dEq (mCall 2 f__law_take [] (mCons (mVar 2) (mCons (mC (.int 2)) (mNil)))) (mC (.int 0))) (mNil)))) (p_law_4)
def p_law_6 : MS := mSeq (mPar [14, 15] (mCons (mCall 2 f__law_pick [] (mCons (mVar 2) (mCons (mVar 10) (mNil)))) (mCons (mCall 2 f__law_pick [] (mCons (mVar 2) (mCons (mBin dAdd (mVar 4) (mLst (mCons (mC (.str "zx")) (mNil)))) (mNil)))) (mNil)))) (p_law_5)
def p_law_7 : MS := mSeq (mPar [12, 13] (mCons (mCall 2 f__law_pick [] (mCons (mVar 2) (mCons (mVar 9) (mNil)))) (mCons (mCall 2 f__law_pick [] (mCons (mVar 2) (mCons (mBin dAdd (mSl (mVar 5) (mNoPart) (mPart (mC (.int 2)))) (mLst (mCons (mC (.str "zx")) (mNil)))) (mNil)))) (mNil)))) (p_law_6)
def p_law_8 : MS := mSeq (mSet 10 (mBin dAdd (mSl (mVar 5) (mPart (mC (.int 2))) (mPart (mC (.int 4)))) (mLst (mCons (mC (.str "calm")) (mCons (mC (.str "zx")) (mNil)))))) (mFor (.nm 11) (mItRange (mCons (mC (.int 16)) (mNil))) (p_law_7))
def p_law_9 : MS := mSeq (mPar [8, 9] (mCons (mCall 1 f__law_service_of [] (mCons (mVar 6) (mNil))) (mCons (mBin dAdd (mSl (mVar 5) (mPart (mC (.int 4))) (mPart (mC (.int 6)))) (mLst (mCons (mC (.str "none")) (mCons (mC (.str "zx")) (mNil))))) (mNil)))) (p_law_8)
def p_law_10 : MS := mSeq (mIfS (mTest (mBin dEq (mCall 2 f__law_take [] (mCons (mVar 2) (mCons (mC (.int 4)) (mNil)))) (mC (.int 0)))) (mSeq (mSet 7 (mLstC (mCons (mTup (mCons (mC (.str "send")) (mCons (mC (.str "any")) (mCons (mC (.str "zw")) (mCons (mC (.str "none")) (mNil)))))) (mCons (mTup (mCons (mC (.str "back")) (mCons (mC (.str "any")) (mCons (mC (.str "zw")) (mCons (mC (.str "any")) (mCons (mC (.str "same")) (mNil))))))) (mNil))))) (mSeq (mDo (mLm dAppend (mVar 7) (mCons (mTup (mCons (mC (.str "begin")) (mCons (mC (.str "zw")) (mCons (mC (.str "any")) (mCons (mC (.str "calm")) (mNil)))))) (mNil)))) (mSetK (mVar 6) (mC (.str "rows")) (mBin dAdd (mBin dMulY (mVar 7) (mC (.int 6))) (mSl (mBin dGetK (mVar 6) (mC (.str "rows"))) (mNoPart) (mPart (mC (.int 6)))))))) (mNext)) (p_law_9)
def p_law_11 : MS := mSeq (mIfS (mAndB (mTest (mBin dEq (mCall 2 f__law_take [] (mCons (mVar 2) (mCons (mC (.int 2)) (mNil)))) (mC (.int 0)))) (mTest (mBin dNeL (mBin dGetK (mVar 6) (mC (.str "rows"))) (mLst (mNil))))) (mSetK (mVar 6) (mC (.str "rows")) (mBin dAdd (mBin dGetK (mVar 6) (mC (.str "rows"))) (mSl (mCall 2 f__law_mixed [] (mCons (mVar 2) (mCons (mBin dGetK (mVar 6) (mC (.str "rows"))) (mNil)))) (mNoPart) (mPart (mC (.int 2)))))) (mNext)) (p_law_10)
def p_law_12 : MS := mSeq (mPar [4, 5] (mCons (mCall 2 f__law_names [] (mCons (mVar 2) (mCons (mBin dAdd (mC (.int 1)) (mCall 2 f__law_take [] (mCons (mVar 2) (mCons (mC (.int 4)) (mNil))))) (mNil)))) (mCons (mCall 2 f__law_names [] (mCons (mVar 2) (mCons (mC (.int 7)) (mNil)))) (mNil)))) (mSeq (mSet 6 (mCall 4 f__law_any_service [] (mCons (mVar 2) (mCons (mBin dIx (mVar 4) (mC (.int 0))) (mCons (mVar 4) (mCons (mVar 5) (mNil))))))) (p_law_11))
def p_law_13 : MS := mSeq (mSet 2 (mCall 2 f__law_box [] (mCons (mVar 0) (mCons (mVar 1) (mNil))))) (mFor (.nm 3) (mItRange (mCons (mC (.int 3)) (mNil))) (p_law_12))
def m_law : MS := mSeq (mFor (.nm 1) (mItRange (mCons (mApp dMax (mCons (mC (.int 1)) (mCons (mApp dMin (mCons (mC (.int 4)) (mCons (mApp dLen (mCons (mVar 0) (mNil))) (mNil)))) (mNil)))) (mNil))) (p_law_13)) (mRet (mC (.bl true)))
def f_law : List D → Sto → R D := pur (mFun true 18 m_law)
theorem ok_law {K : PySem.W.Frag} {mg : Str → Option Value} {A : Ad} (T : Tx K mg A) {w : World} {base : Heap} : FnG PG w K mg base (L2.CX PG w) 8 A.law A.law_d ["_law_script"] (spS K A.G 1 f_law) :=
  okPurG <|
  fnSDG (N := ["_law_script", "_law_k", "_law_box_here", "_law_turn", "_law_names_here", "_law_words_here", "_law_one", "_law_ahead", "_law_made", "_law_marks", "_law_moods", "_law_more", "_law_mark", "_law_kind", "_law_mood", "_law_near", "_law_sign", "_law_bad"]) (k := 7) T.law.F sc_law rfl fun cdv AA outer s H E hr hg =>
    have tk := takes_of (X := cxOf (L2.CX PG w) PG w K mg base ["_law_script", "_law_k", "_law_box_here", "_law_turn", "_law_names_here", "_law_words_here", "_law_one", "_law_ahead", "_law_made", "_law_marks", "_law_moods", "_law_more", "_law_mark", "_law_kind", "_law_mood", "_law_near", "_law_sign", "_law_bad"] "law" (defScope s_law) A.law cdv AA outer s H E) rfl rfl rfl rfl
    have hx := passes_call tk (fun _ _ _ _ h => h)
    (pSs_cons (pS_for (passes_of rfl) rfl (pI_range1 rfl T.b_range (pSA_cons (pS_callB (call_max2 rfl) ad_max (by rfl) T.b_max (by decide +kernel) (pSA_cons pS_int (pSA_cons (pS_callB (call_min2 rfl) ad_min (by rfl) T.b_min (by decide +kernel) (pSA_cons pS_int (pSA_cons (pS_callB cr_lenS ad_len (by rfl) T.b_len (by decide +kernel) (pSA_cons (pS_var 0 (pv 0)) pSA_nil)) pSA_nil))) pSA_nil))) pSA_nil)) (pG_nm (i := 1) sc_law.nd rfl (Or.inl rfl)) (pSs_cons (pS_set (i := 2) sc_law.nd rfl (Or.inl rfl) (pS_call (ok__law_box T) (hr.mono (by decide)) rfl T._law_box.g T._law_box.F.kp (T._law_box.F.bindsN fun _ _ _ _ _ _ us hl => match us, hl with | [_, _], _ => rfl) .nil (fun _ => rfl) tk (pSA_cons (pS_var 0 (pv 0)) (pSA_cons (pS_var 1 (pv 1)) pSA_nil)))) (pSs_one (pS_for (passes_of rfl) rfl (pI_range1 rfl T.b_range (pSA_cons pS_int pSA_nil)) (pG_nm (i := 3) sc_law.nd rfl (Or.inl rfl)) (pSs_cons (pS_par rfl sc_law.nd (i := 4) (j := 5) rfl rfl (by decide) rfl rfl (pSA_cons (pS_call (ok__law_names T) (hr.mono (by decide)) rfl T._law_names.g T._law_names.F.kp (T._law_names.F.bindsN fun _ _ _ _ _ _ us hl => match us, hl with | [_, _], _ => rfl) .nil (fun _ => rfl) tk (pSA_cons (pS_var 2 (pv 2)) (pSA_cons (pS_op op_addS ad_add pS_int (pS_call (ok__law_take T) (hr.mono (by decide)) rfl T._law_take.g T._law_take.F.kp (T._law_take.F.bindsN fun _ _ _ _ _ _ us hl => match us, hl with | [_, _], _ => rfl) .nil (fun _ => rfl) tk (pSA_cons (pS_var 2 (pv 2)) (pSA_cons pS_int pSA_nil)))) pSA_nil))) (pSA_cons (pS_call (ok__law_names T) (hr.mono (by decide)) rfl T._law_names.g T._law_names.F.kp (T._law_names.F.bindsN fun _ _ _ _ _ _ us hl => match us, hl with | [_, _], _ => rfl) .nil (fun _ => rfl) tk (pSA_cons (pS_var 2 (pv 2)) (pSA_cons pS_int pSA_nil))) pSA_nil)) (by rfl)) (pSs_cons (pS_set (i := 6) sc_law.nd rfl (Or.inl rfl) (pS_call (ok__law_any_service T) (hr.mono (by decide)) rfl T._law_any_service.g T._law_any_service.F.kp (T._law_any_service.F.bindsN fun _ _ _ _ _ _ us hl => match us, hl with | [_, _, _, _], _ => rfl) .nil (fun _ => rfl) tk (pSA_cons (pS_var 2 (pv 2)) (pSA_cons (pS_ix ix_S ad_ix (pS_var 4 (pv 4)) pS_int (fun _ _ => rfl)) (pSA_cons (pS_var 4 (pv 4)) (pSA_cons (pS_var 5 (pv 5)) pSA_nil)))))) (pSs_cons (pS_if (PW.pt (pS_and (pS_cmpT (op_eqS hr.units) ad_eq (pS_call (ok__law_take T) (hr.mono (by decide)) rfl T._law_take.g T._law_take.F.kp (T._law_take.F.bindsN fun _ _ _ _ _ _ us hl => match us, hl with | [_, _], _ => rfl) .nil (fun _ => rfl) tk (pSA_cons (pS_var 2 (pv 2)) (pSA_cons pS_int pSA_nil))) pS_int (nomark _)) (pS_and1 (pS_cmpT (op_neSL hr.units) ad_neL (pS_getK (units1 hr) (pS_var 6 (pv 6)) pS_str) (pS_lst pSA_nil) (nomark _))))) (pSs_one (pS_setK (units1 hr) (pS_var 6 (pv 6)) pS_str (pS_op op_addS ad_add (pS_getK (units1 hr) (pS_var 6 (pv 6)) pS_str) (pS_sl (pS_call (ok__law_mixed T) (hr.mono (by decide)) rfl T._law_mixed.g T._law_mixed.F.kp (T._law_mixed.F.bindsN fun _ _ _ _ _ _ us hl => match us, hl with | [_, _], _ => rfl) .nil (fun _ => rfl) tk (pSA_cons (pS_var 2 (pv 2)) (pSA_cons (pS_getK (units1 hr) (pS_var 6 (pv 6)) pS_str) pSA_nil))) pSO_none (pSO_some pS_int))))) pSs_nil) (pSs_cons (pS_if (pS_cmpT (op_eqS hr.units) ad_eq (pS_call (ok__law_take T) (hr.mono (by decide)) rfl T._law_take.g T._law_take.F.kp (T._law_take.F.bindsN fun _ _ _ _ _ _ us hl => match us, hl with | [_, _], _ => rfl) .nil (fun _ => rfl) tk (pSA_cons (pS_var 2 (pv 2)) (pSA_cons pS_int pSA_nil))) pS_int (nomark _)) (pSs_cons (pS_set (i := 7) sc_law.nd rfl (Or.inl rfl) (pS_lstC (pSA_cons (pS_tup (pSA_cons pS_str (pSA_cons pS_str (pSA_cons pS_str (pSA_cons pS_str pSA_nil))))) (pSA_cons (pS_tup (pSA_cons pS_str (pSA_cons pS_str (pSA_cons pS_str (pSA_cons pS_str (pSA_cons pS_str pSA_nil)))))) pSA_nil)))) (pSs_cons (pS_do (pS_lm (t := fun _ _ _ => False) ad_append (pe_bm PySem.F.plainAttrs_list PySem.F.slot_list_append PySem.F.type_list_append mt_append (pS_var 7 (pv 7)) (pSA_cons (pS_tup (pSA_cons pS_str (pSA_cons pS_str (pSA_cons pS_str (pSA_cons pS_str pSA_nil))))) pSA_nil)))) (pSs_one (pS_setK (units1 hr) (pS_var 6 (pv 6)) pS_str (pS_op op_addS ad_add (pS_op op_mulY ad_mulY (pS_var 7 (pv 7)) pS_int) (pS_sl (pS_getK (units1 hr) (pS_var 6 (pv 6)) pS_str) pSO_none (pSO_some pS_int))))))) pSs_nil) (pSs_cons (pS_par rfl sc_law.nd (i := 8) (j := 9) rfl rfl (by decide) rfl rfl (pSA_cons (pS_call (ok__law_service_of T) (hr.mono (by decide)) rfl T._law_service_of.g T._law_service_of.F.kp (T._law_service_of.F.bindsN fun _ _ _ _ _ _ us hl => match us, hl with | [_], _ => rfl) .nil (fun _ => rfl) tk (pSA_cons (pS_var 6 (pv 6)) pSA_nil)) (pSA_cons (pS_op op_addS ad_add (pS_sl (pS_var 5 (pv 5)) (pSO_some pS_int) (pSO_some pS_int)) (pS_lst (pSA_cons pS_str (pSA_cons pS_str pSA_nil)))) pSA_nil)) (by rfl)) (pSs_cons (pS_set (i := 10) sc_law.nd rfl (Or.inl rfl) (pS_op op_addS ad_add (pS_sl (pS_var 5 (pv 5)) (pSO_some pS_int) (pSO_some pS_int)) (pS_lst (pSA_cons pS_str (pSA_cons pS_str pSA_nil))))) (pSs_one (pS_for (passes_of rfl) rfl (pI_range1 rfl T.b_range (pSA_cons pS_int pSA_nil)) (pG_nm (i := 11) sc_law.nd rfl (Or.inl rfl)) (pSs_cons (pS_par rfl sc_law.nd (i := 12) (j := 13) rfl rfl (by decide) rfl rfl (pSA_cons (pS_call (ok__law_pick T) (hr.mono (by decide)) rfl T._law_pick.g T._law_pick.F.kp (T._law_pick.F.bindsN fun _ _ _ _ _ _ us hl => match us, hl with | [_, _], _ => rfl) .nil (fun _ => rfl) tk (pSA_cons (pS_var 2 (pv 2)) (pSA_cons (pS_var 9 (pv 9)) pSA_nil))) (pSA_cons (pS_call (ok__law_pick T) (hr.mono (by decide)) rfl T._law_pick.g T._law_pick.F.kp (T._law_pick.F.bindsN fun _ _ _ _ _ _ us hl => match us, hl with | [_, _], _ => rfl) .nil (fun _ => rfl) tk (pSA_cons (pS_var 2 (pv 2)) (pSA_cons (pS_op op_addS ad_add (pS_sl (pS_var 5 (pv 5)) pSO_none (pSO_some pS_int)) (pS_lst (pSA_cons pS_str pSA_nil))) pSA_nil))) pSA_nil)) (by rfl)) (pSs_cons (pS_par rfl sc_law.nd (i := 14) (j := 15) rfl rfl (by decide) rfl rfl (pSA_cons (pS_call (ok__law_pick T) (hr.mono (by decide)) rfl T._law_pick.g T._law_pick.F.kp (T._law_pick.F.bindsN fun _ _ _ _ _ _ us hl => match us, hl with | [_, _], _ => rfl) .nil (fun _ => rfl) tk (pSA_cons (pS_var 2 (pv 2)) (pSA_cons (pS_var 10 (pv 10)) pSA_nil))) (pSA_cons (pS_call (ok__law_pick T) (hr.mono (by decide)) rfl T._law_pick.g T._law_pick.F.kp (T._law_pick.F.bindsN fun _ _ _ _ _ _ us hl => match us, hl with | [_, _], _ => rfl) .nil (fun _ => rfl) tk (pSA_cons (pS_var 2 (pv 2)) (pSA_cons (pS_op op_addS ad_add (pS_var 4 (pv 4)) (pS_lst (pSA_cons pS_str pSA_nil))) pSA_nil))) pSA_nil)) (by rfl)) (pSs_cons (pS_par rfl sc_law.nd (i := 16) (j := 17) rfl rfl (by decide) rfl rfl (pSA_cons (pS_call (ok__law_pick T) (hr.mono (by decide)) rfl T._law_pick.g T._law_pick.F.kp (T._law_pick.F.bindsN fun _ _ _ _ _ _ us hl => match us, hl with | [_, _], _ => rfl) .nil (fun _ => rfl) tk (pSA_cons (pS_var 2 (pv 2)) (pSA_cons (pS_op op_addS ad_add (pS_sl (pS_var 5 (pv 5)) (pSO_some pS_int) (pSO_some pS_int)) (pS_lst (pSA_cons pS_str (pSA_cons pS_str pSA_nil)))) pSA_nil))) (pSA_cons (pS_cmp (op_eqS hr.units) ad_eq (pS_call (ok__law_take T) (hr.mono (by decide)) rfl T._law_take.g T._law_take.F.kp (T._law_take.F.bindsN fun _ _ _ _ _ _ us hl => match us, hl with | [_, _], _ => rfl) .nil (fun _ => rfl) tk (pSA_cons (pS_var 2 (pv 2)) (pSA_cons pS_int pSA_nil))) pS_int (nomark _)) pSA_nil)) (by rfl)) (pSs_cons (pS_if (pS_cmpT (op_neS hr.units) ad_ne (pS_meth (c := 5) (pS_var 8 (pv 8)) T.C_Service.t.cl T.me_Service_begin (ok_Service_begin T) (hr.mono (by decide)) (T.Service_begin.F.bindsN fun _ _ _ _ _ _ us hl => match us, hl with | [_, _, _], _ => rfl) .nil (fun _ => rfl) hx (pSA_cons (pS_var 12 (pv 12)) (pSA_cons (pS_var 13 (pv 13)) pSA_nil))) (pS_call (ok__law_begun T) (hr.mono (by decide)) rfl T._law_begun.g T._law_begun.F.kp (T._law_begun.F.bindsN fun _ _ _ _ _ _ us hl => match us, hl with | [_, _, _], _ => rfl) .nil (fun _ => rfl) tk (pSA_cons (pS_var 6 (pv 6)) (pSA_cons (pS_var 12 (pv 12)) (pSA_cons (pS_var 13 (pv 13)) pSA_nil)))) (nomark _)) (pSs_one (pS_ret pS_bl)) pSs_nil) (pSs_cons (pS_if (pS_cmpT (op_neS hr.units) ad_ne (pS_meth (c := 5) (pS_var 8 (pv 8)) T.C_Service.t.cl T.me_Service_send (ok_Service_send T) (hr.mono (by decide)) (T.Service_send.F.bindsN fun _ _ _ _ _ _ us hl => match us, hl with | [_, _, _, _], _ => rfl) .nil (fun _ => rfl) hx (pSA_cons (pS_var 14 (pv 14)) (pSA_cons (pS_var 15 (pv 15)) (pSA_cons (pS_var 12 (pv 12)) pSA_nil)))) (pS_call (ok__law_sent T) (hr.mono (by decide)) rfl T._law_sent.g T._law_sent.F.kp (T._law_sent.F.bindsN fun _ _ _ _ _ _ us hl => match us, hl with | [_, _, _, _], _ => rfl) .nil (fun _ => rfl) tk (pSA_cons (pS_var 6 (pv 6)) (pSA_cons (pS_var 14 (pv 14)) (pSA_cons (pS_var 15 (pv 15)) (pSA_cons (pS_var 12 (pv 12)) pSA_nil))))) (nomark _)) (pSs_one (pS_ret pS_bl)) pSs_nil) (pSs_cons (pS_if (pS_cmpT (op_neS hr.units) ad_ne (pS_meth (c := 5) (pS_var 8 (pv 8)) T.C_Service.t.cl T.me_Service_back (ok_Service_back T) (hr.mono (by decide)) (T.Service_back.F.bindsN fun _ _ _ _ _ _ us hl => match us, hl with | [_, _, _, _], _ => rfl) .nil (fun _ => rfl) hx (pSA_cons (pS_var 14 (pv 14)) (pSA_cons (pS_var 15 (pv 15)) (pSA_cons (pS_var 16 (pv 16)) pSA_nil)))) (pS_call (ok__law_after T) (hr.mono (by decide)) rfl T._law_after.g T._law_after.F.kp (T._law_after.F.bindsN fun _ _ _ _ _ _ us hl => match us, hl with | [_, _, _, _], _ => rfl) .nil (fun _ => rfl) tk (pSA_cons (pS_var 6 (pv 6)) (pSA_cons (pS_var 14 (pv 14)) (pSA_cons (pS_var 15 (pv 15)) (pSA_cons (pS_var 16 (pv 16)) pSA_nil))))) (nomark _)) (pSs_one (pS_ret pS_bl)) pSs_nil) (pSs_one (pS_if (pS_cmpT (op_neS hr.units) ad_ne (pS_callB (call_repr hg hr) ad_repr (by rfl) T.b_repr (by decide +kernel) (pSA_cons (pS_meth (c := 5) (pS_var 8 (pv 8)) T.C_Service.t.cl T.me_Service_end (ok_Service_end T) (hr.mono (by decide)) (T.Service_end.F.bindsN fun _ _ _ _ _ _ us hl => match us, hl with | [_, _, _], _ => rfl) .nil (fun _ => rfl) hx (pSA_cons (pS_var 14 (pv 14)) (pSA_cons (pS_var 17 (pv 17)) pSA_nil))) pSA_nil)) (pS_callB (call_repr hg hr) ad_repr (by rfl) T.b_repr (by decide +kernel) (pSA_cons (pS_call (ok__law_ended T) (hr.mono (by decide)) rfl T._law_ended.g T._law_ended.F.kp (T._law_ended.F.bindsN fun _ _ _ _ _ _ us hl => match us, hl with | [_, _, _], _ => rfl) .nil (fun _ => rfl) tk (pSA_cons (pS_var 6 (pv 6)) (pSA_cons (pS_var 14 (pv 14)) (pSA_cons (pS_var 17 (pv 17)) pSA_nil)))) pSA_nil)) (nomark _)) (pSs_one (pS_ret pS_bl)) pSs_nil)))))))))))))))))))) (pSs_one (pS_ret pS_bl)))
end K
namespace K
open PySem L2 S
/-! ### draws -/
theorem st_same {st : Sto} {i : Nat} {c c' : C} (h : st[i]? = some c) : (st.set i c')[i]? = some c' := by
  have := (List.getElem?_eq_some_iff.mp h).1
  rw [List.getElem?_set_self this]
theorem gc_same {st st' : Sto} {d : D} (h : st'.length = st.length) : gc st.length d st' = .ok d st' := by
  unfold gc
  rw [List.take_of_length_le (Nat.le_of_eq h)]
  split <;> rfl
theorem take_ok {st : Sto} {i : Nat} {w s c many : Int} (h : st[i]? = some (.lst [.int w, .int s, .int c])) (h0 : 0 < many) (h1 : many < 1073741824) :
    ∃ r w' s' c', f__law_take [.ptr i, .int many] st = .ok (.int r) (st.set i (.lst [.int w', .int s', .int c'])) ∧ 0 ≤ r ∧ r < many := by
  have hb : belowL 0 [D.ptr i, .int many] = false := rfl
  have hm : many ≠ 0 := by omega
  have hm2 : many.natAbs < 1073741824 := by omega
  have rr : ∀ x : Int, 0 ≤ x.fmod many ∧ x.fmod many < many := fun x => ⟨Int.fmod_nonneg_of_pos _ h0, Int.fmod_lt_of_pos _ h0⟩
  unfold f__law_take pur
  rw [hb, if_neg (by decide)]
  by_cases hw : 0 < w
  · refine ⟨w.fmod many, w.fdiv many, s, c, ?_, (rr w).1, (rr w).2⟩
    simp [mFun, m__law_take, mSeq, mIfS, mTest, mBin, mVar, mC, mSet, mRet, mSetIx, mDo, mApp, mCons, mNil, R.bind, dIx, rd, h, atI, ixN, dGt, dI, hw, dMod, dDiv, hm, hm2, dInt, dSetIx, dFrz]
    rw [gc_same (by simp)]
  · refine ⟨Int.fmod (Int.fdiv (((s + 104801 * (c + 1)) * 48271).fmod 2147483647 * 2147483647 + (((((s + 104801 * (c + 1)) * 48271).fmod 2147483647) * 69697 + 30161).fmod 2147483629 + 1)) 8191) many, w, ((((s + 104801 * (c + 1)) * 48271).fmod 2147483647) * 69697 + 30161).fmod 2147483629 + 1, c + 1, ?_, (rr _).1, (rr _).2⟩
    simp [mFun, m__law_take, mSeq, mIfS, mTest, mBin, mVar, mC, mSet, mRet, mSetIx, mDo, mApp, mCons, mNil, R.bind, dIx, rd, h, atI, ixN, dGt, dI, hw, dMod, dDiv, hm, hm2, dInt, dSetIx, dFrz, dAdd, dMul, dMulX, mNext, st_same h, List.set_set]
    rw [gc_same (by simp)]
theorem atI_of {α : Type} {ys : List α} {j : Nat} {i : Int} {y : α} (hi : i = j) (h : ys[j]? = some y) : atI ys i = some y := by
  subst hi
  have := (List.getElem?_eq_some_iff.mp h).1
  obtain ⟨_, rfl⟩ := List.getElem?_eq_some_iff.mp h
  simp [atI, ixN, this]
theorem box_fin {st : Sto} {sc : D} {k c : Int} : ∃ w s, mFun false 5 (fun _ st => p__law_box_1 [some sc, some (.int k), some (.int c), none, none] st) [sc, .int k] st = .ok (.ptr st.length) (st ++ [.lst [.int w, .int s, .int 0]]) := by
  have hp : dPow (.int 10) (.int 18) st = .ok (.int 1000000000000000000) st := by
    have : (0 : Int) ≤ 18 ∧ (18 : Int) ≤ 1000000 ∧ (10 : Int).natAbs < 2 ^ 64 := by decide
    simp [dPow, this]
  have h3 : 3 ≤ sizeLine := by unfold sizeLine; omega
  by_cases hc : (1000000000000000000 : Int) ≤ c
  · refine ⟨c, ((c.fmod 2147483629 * 69621 + 40591 * k + 3).fmod 2147483629 + 1), ?_⟩
    simp [mFun, p__law_box_1, mSeq, mSet, mBin, mVar, mC, mApp, mCons, mNil, R.bind, mRet, mLstC, mIf, mTest, dAdd, rd, dMul, dMulX, dMod, dInt, dGe, dI, hp, hc, h3, gc, below]
  · refine ⟨0, ((c.fmod 2147483629 * 69621 + 40591 * k + 3).fmod 2147483629 + 1), ?_⟩
    simp [mFun, p__law_box_1, mSeq, mSet, mBin, mVar, mC, mApp, mCons, mNil, R.bind, mRet, mLstC, mIf, mTest, dAdd, rd, dMul, dMulX, dMod, dInt, dGe, dI, hp, hc, h3, gc, below]
theorem box_at {st : Sto} {xs : List Int} {k c : Int} (hk : k < xs.length) (hx : atI (xs.map D.int) k = some (D.int c)) : ∃ w s, f__law_box [.rls (xs.map D.int), .int k] st = .ok (.ptr st.length) (st ++ [.lst [.int w, .int s, .int 0]]) := by
  obtain ⟨w, s, e⟩ := box_fin (st := st) (sc := .rls (xs.map D.int)) (k := k) (c := if c < 0 then -c else c)
  refine ⟨w, s, Eq.trans ?_ e⟩
  simp [f__law_box, mFun, m__law_box, mSeq, mSet, mBin, mVar, mC, mApp, mCons, mNil, R.bind, dAdd, dMul, dMulX, rd, mIfS, mTest, dLt, dLen, hk, dIx, hx, dInt, dAbs]
theorem box_past {st : Sto} {xs : List Int} {k c : Int} (hk : ¬ k < xs.length) (h0 : 0 < (xs.length : Int)) (hx : atI (xs.map D.int) (Int.fmod k (xs.length : Int)) = some (D.int c)) : ∃ w s, f__law_box [.rls (xs.map D.int), .int k] st = .ok (.ptr st.length) (st ++ [.lst [.int w, .int s, .int 0]]) := by
  obtain ⟨w, s, e⟩ := box_fin (st := st) (sc := .rls (xs.map D.int)) (k := k) (c := 6563 * k + 71 + (c.fmod 2147483629 * 50329))
  refine ⟨w, s, Eq.trans ?_ e⟩
  have hz : (xs.length : Int) ≠ 0 := by omega
  have hl : dLen [D.rls (xs.map D.int)] st = .ok (.int xs.length) st := by simp [dLen, rd]
  revert hk h0 hx hz hl
  generalize (xs.length : Int) = n
  intro hk h0 hx hz hl
  simp [f__law_box, mFun, m__law_box, mSeq, mSet, mBin, mVar, mC, mApp, mCons, mNil, R.bind, dAdd, dMul, dMulX, rd, mIfS, mTest, dLt, hl, hk, dIx, hx, dInt, dAbs, dGt, dI, h0, dMod, hz]
theorem box_none {st : Sto} {k : Int} (hk : 0 ≤ k) : ∃ w s, f__law_box [.rls [], .int k] st = .ok (.ptr st.length) (st ++ [.lst [.int w, .int s, .int 0]]) := by
  obtain ⟨w, s, e⟩ := box_fin (st := st) (sc := .rls []) (k := k) (c := 6563 * k + 71)
  refine ⟨w, s, Eq.trans ?_ e⟩
  have hk' : ¬ k < 0 := by omega
  simp [f__law_box, mFun, m__law_box, mSeq, mSet, mBin, mVar, mC, mApp, mCons, mNil, R.bind, dAdd, dMul, dMulX, rd, mIfS, mTest, dLt, dLen, hk', dGt, dI, mNext]
theorem box_ok {st : Sto} {xs : List Int} {k : Nat} : ∃ w s, f__law_box [.rls (xs.map D.int), .int k] st = .ok (.ptr st.length) (st ++ [.lst [.int w, .int s, .int 0]]) := by
  by_cases hk : k < xs.length
  · exact box_at (by omega) (atI_of rfl (List.getElem?_map.trans (by rw [List.getElem?_eq_getElem hk]; rfl)))
  · by_cases h0 : 0 < xs.length
    · have hm : k % xs.length < xs.length := Nat.mod_lt _ h0
      refine box_past (by omega) (by omega) (atI_of (j := k % xs.length) ?_ (List.getElem?_map.trans (by rw [List.getElem?_eq_getElem hm]; rfl)))
      rw [Int.fmod_eq_emod_of_nonneg _ (by omega)]; rfl
    · obtain rfl : xs = [] := List.length_eq_zero_iff.mp (by omega)
      exact box_none (by omega)
theorem box_st {st : Sto} {xs : List Int} {k : Nat} : ∃ st0 w s, f__law_box [.rls (xs.map D.int), .int k] st = .ok (.ptr st.length) st0 ∧ st0[st.length]? = some (.lst [.int w, .int s, .int 0]) := by
  obtain ⟨w, s, h⟩ := box_ok (st := st) (xs := xs) (k := k)
  exact ⟨_, w, s, h, by simp⟩
theorem take_st {st : Sto} {i : Nat} {w s c many : Int} (h : st[i]? = some (.lst [.int w, .int s, .int c])) (h0 : 0 < many) (h1 : many < 1073741824) :
    ∃ (r : Nat) (st' : Sto), (r : Int) < many ∧ f__law_take [.ptr i, .int many] st = .ok (.int r) st' ∧ ∃ w' s' c', st'[i]? = some (.lst [.int w', .int s', .int c']) := by
  obtain ⟨r, w', s', c', e, r0, r1⟩ := take_ok h h0 h1
  obtain ⟨n, rfl⟩ : ∃ n : Nat, r = n := ⟨r.toNat, by omega⟩
  exact ⟨n, _, r1, e, w', s', c', st_same h⟩
/-! ### what a draw leaves as it was -/
def Box (st : Sto) (i : Nat) : Prop := ∃ w s c : Int, st[i]? = some (.lst [.int w, .int s, .int c])
structure Drawn (i : Nat) (st st' : Sto) : Prop where
  box : Box st' i
  len : st.length ≤ st'.length
  off : ∀ k, k < st.length → k ≠ i → st'[k]? = st[k]?
theorem Box.lt {st : Sto} {i : Nat} (h : Box st i) : i < st.length := by
  obtain ⟨w, s, c, h⟩ := h
  exact (List.getElem?_eq_some_iff.mp h).1
theorem Drawn.refl {i : Nat} {st : Sto} (h : Box st i) : Drawn i st st := ⟨h, Nat.le_refl _, fun _ _ _ => rfl⟩
theorem Drawn.trans {i : Nat} {a b c : Sto} (h : Drawn i a b) (h' : Drawn i b c) : Drawn i a c :=
  ⟨h'.box, Nat.le_trans h.len h'.len, fun k hk hi => (h'.off k (Nat.lt_of_lt_of_le hk h.len) hi).trans (h.off k hk hi)⟩
/-- new cells, and a change of one of these -/
theorem Drawn.app {i : Nat} {st r : Sto} (h : Box st i) : Drawn i st (st ++ r) := by
  obtain ⟨w, s, c, h⟩ := h
  have lt := (List.getElem?_eq_some_iff.mp h).1
  exact ⟨⟨w, s, c, by rw [List.getElem?_append_left lt]; exact h⟩, by simp, fun k hk _ => List.getElem?_append_left hk⟩
theorem Drawn.put {i j : Nat} {a b : Sto} {c : C} (h : Drawn i a b) (hj : a.length ≤ j) (hi : i < a.length) : Drawn i a (b.set j c) := by
  obtain ⟨⟨w, s, c', hb⟩, hl, ho⟩ := h
  exact ⟨⟨w, s, c', by rw [List.getElem?_set_ne (by omega)]; exact hb⟩, by simpa using hl, fun k hk hi => by rw [List.getElem?_set_ne (by omega)]; exact ho k hk hi⟩
theorem Drawn.gc {i : Nat} {st st' : Sto} {d : D} (h : Drawn i st st') (hi : i < st.length) : ∃ st2, S.gc st.length d st' = .ok d st2 ∧ Drawn i st st2 := by
  unfold S.gc
  split
  · obtain ⟨⟨w, s, c, hb⟩, hl, ho⟩ := h
    exact ⟨_, rfl, ⟨w, s, c, by rw [List.getElem?_take_of_lt hi]; exact hb⟩, by simp; omega, fun k hk hk' => by rw [List.getElem?_take_of_lt hk]; exact ho k hk hk'⟩
  · exact ⟨_, rfl, h⟩
theorem take_d {st : Sto} {i : Nat} {many : Int} (h : Box st i) (h0 : 0 < many) (h1 : many < 1073741824) : ∃ (r : Nat) (st' : Sto), (r : Int) < many ∧ f__law_take [.ptr i, .int many] st = .ok (.int r) st' ∧ Drawn i st st' := by
  obtain ⟨w, s, c, h⟩ := h
  obtain ⟨r, w', s', c', e, r0, r1⟩ := take_ok h h0 h1
  obtain ⟨n, rfl⟩ : ∃ n : Nat, r = n := ⟨r.toNat, by omega⟩
  exact ⟨n, _, r1, e, ⟨w', s', c', st_same h⟩, by simp, fun k _ hk => List.getElem?_set_ne (Ne.symm hk)⟩
theorem box_d {st : Sto} {xs : List Int} {k : Nat} : ∃ st0, f__law_box [.rls (xs.map D.int), .int k] st = .ok (.ptr st.length) st0 ∧ Box st0 st.length ∧ ∃ c, st0 = st ++ [c] := by
  obtain ⟨w, s, h⟩ := box_ok (st := st) (xs := xs) (k := k)
  exact ⟨_, h, ⟨w, s, 0, by simp⟩, _, rfl⟩
def noPtr : D → Bool
  | .ptr _ => false
  | _ => true
theorem noPtr_of {ds : List D} (h : ds.all noPtr = true) : ∀ d ∈ ds, ∀ i, d ≠ .ptr i := fun d hd i e => by
  have := List.all_eq_true.mp h d hd
  rw [e] at this
  cases this
theorem noPtr_strs (ws : List Str) : (ws.map D.str).all noPtr = true := by
  simp [List.all_map, noPtr]
theorem pick_d {st : Sto} {i : Nat} {ds : List D} (h : Box st i) (h0 : ds ≠ []) (h1 : ds.length < 1000) (hp : ds.all noPtr = true) : ∃ d st', d ∈ ds ∧ f__law_pick [.ptr i, .lst ds] st = .ok d st' ∧ Drawn i st st' := by
  have hl := List.length_pos_iff.mpr h0
  obtain ⟨r, st1, r1, e, D1⟩ := take_d (many := ds.length) h (by omega) (by omega)
  have hk : r < ds.length := by omega
  have hx : atI ds (r : Int) = some ds[r] := atI_of rfl (List.getElem?_eq_getElem hk)
  obtain ⟨st2, e2, D2⟩ := D1.gc (d := ds[r]) h.lt
  refine ⟨ds[r], st2, List.getElem_mem hk, ?_, D2⟩
  rw [← e2]
  refine call_at rfl ?_ (noPtr_of hp _ (List.getElem_mem hk))
  show m__law_pick [some (.ptr i), some (.lst ds)] st = _
  simp [m__law_pick, mRet, mBin, mVar, mCall, mCons, mNil, mApp, R.bind, dLen, rd, e, dIx, hx]
theorem pick_s {st : Sto} {i : Nat} {ws : List Str} (h : Box st i) (h0 : ws ≠ []) (h1 : ws.length < 1000) : ∃ x st', x ∈ ws ∧ f__law_pick [.ptr i, .lst (ws.map D.str)] st = .ok (.str x) st' ∧ Drawn i st st' := by
  obtain ⟨d, st', m, e, D⟩ := pick_d (ds := ws.map D.str) h (by simpa using h0) (by simpa using h1) (noPtr_strs ws)
  obtain ⟨x, hx, rfl⟩ := List.mem_map.mp m
  exact ⟨x, st', hx, e, D⟩
end K
namespace K
open PySem L2 S
theorem ne_nilP {st : Sto} {i : Nat} {x : D} {xs : List D} (h : st[i]? = some (.lst (x :: xs))) : dNeL (.ptr i) (.lst []) st = .ok (.bl true) st := by
  simp [dNeL, rd, h]
theorem ne_nil0 {st : Sto} {i : Nat} (h : st[i]? = some (.lst [])) : dNeL (.ptr i) (.lst []) st = .ok (.bl false) st := by
  simp [dNeL, rd, h, dNe, eqD, isFl, toPy, toPyL, SeqAt.shaped]
  rfl
theorem erase_perm {α : Type} : ∀ (xs : List α) (r : Nat) (h : r < xs.length), (xs[r] :: xs.eraseIdx r).Perm xs
  | x :: xs, 0, _ => List.Perm.refl _
  | x :: xs, r + 1, h => (List.Perm.swap x _ _).trans (List.Perm.cons x (erase_perm xs r (by simpa using h)))
theorem mix_loop {i n : Nat} {sc : D} : ∀ (f : Nat) (left found : List D) (st0 st : Sto), left.length < f → found.length + left.length < 1000 → n = st0.length → i < n → Drawn i st0 st → st[n]? = some (.lst left) → st[n + 1]? = some (.lst found) →
    ∃ found' st', mWhileGo (mTest (mBin dNeL (mVar 2) (mLst (mNil)))) (p__law_mixed_1) f [some (.ptr i), some sc, some (.ptr n), some (.ptr (n + 1))] st = .nx [some (.ptr i), some sc, some (.ptr n), some (.ptr (n + 1))] st' ∧ st'[n + 1]? = some (.lst found') ∧ found'.Perm (found ++ left) ∧ Drawn i st0 st'
  | 0, _, _, _, _, h, _, _, _, _, _, _ => absurd h (Nat.not_lt_zero _)
  | f + 1, left, found, st0, st, hf, hz, hn, hi, hD, hl, hfo => by
    cases left with
    | nil => exact ⟨found, st, by simp [mWhileGo, mTest, mBin, mVar, mLst, mNil, R.bind, ne_nil0 hl], hfo, by simp, hD⟩
    | cons x xs =>
      obtain ⟨r, st1, r1, e1, D1⟩ := take_d (many := ((x :: xs).length : Int)) hD.box (by rw [List.length_cons]; omega) (by simp at hz ⊢; omega)
      have hr : r < (x :: xs).length := by omega
      have n0 : n < st.length := (List.getElem?_eq_some_iff.mp hl).1
      have n1 : n + 1 < st.length := (List.getElem?_eq_some_iff.mp hfo).1
      have l1 : st1[n]? = some (.lst (x :: xs)) := (D1.off n n0 (by omega)).trans hl
      have f1 : st1[n + 1]? = some (.lst found) := (D1.off (n + 1) n1 (by omega)).trans hfo
      have f2 : (st1.set n (.lst ((x :: xs).eraseIdx r)))[n + 1]? = some (.lst found) := by rw [List.getElem?_set_ne (by omega)]; exact f1
      have hD2 : Drawn i st0 ((st1.set n (.lst ((x :: xs).eraseIdx r))).set (n + 1) (.lst (found ++ [(x :: xs)[r]]))) := ((hD.trans D1).put (by omega) (by omega)).put (by omega) (by omega)
      have hlen : ((x :: xs).eraseIdx r).length = xs.length := by rw [List.length_eraseIdx_of_lt hr]; simp
      obtain ⟨found', st', e2, h1, h2, h3⟩ := mix_loop f ((x :: xs).eraseIdx r) (found ++ [(x :: xs)[r]]) st0 _ (by rw [hlen]; simp at hf; omega) (by rw [hlen]; simp at hz ⊢; omega) hn hi hD2 (by rw [List.getElem?_set_ne (by omega)]; exact st_same l1) (st_same f2)
      refine ⟨found', st', ?_, h1, h2.trans ?_, h3⟩
      · have hk : (0 : Int) ≤ r ∧ (r : Int) < 1000000 := by simp at hz hr; omega
        have hp : dPopAt (.ptr n) [.int r] st1 = .ok (x :: xs)[r] (st1.set n (.lst ((x :: xs).eraseIdx r))) := by
          simp [dPopAt, l1, hk, List.getElem?_eq_getElem hr]
        have hz' : found.length < sizeLine := by rw [sizeLine_eq]; simp at hz; omega
        have e1' : f__law_take [.ptr i, .int ((xs.length : Int) + 1)] st = .ok (.int r) st1 := by simpa using e1
        have ht := ne_nilP hl
        unfold mWhileGo
        simp only [mTest, mBin, mVar, mLst, mNil, R.bind, List.getElem?_cons_succ, List.getElem?_cons_zero, ht, sizeLine_eq, List.length_nil, Nat.zero_le, if_true]
        have hb : p__law_mixed_1 [some (.ptr i), some sc, some (.ptr n), some (.ptr (n + 1))] st = .nx [some (.ptr i), some sc, some (.ptr n), some (.ptr (n + 1))] ((st1.set n (.lst ((x :: xs).eraseIdx r))).set (n + 1) (.lst (found ++ [(x :: xs)[r]]))) := by
          simp [p__law_mixed_1, mDo, mLm, mVar, R.bind, isLst, rd, hfo, hl, mCons, mNil, mCall, mApp, dLen, e1', hp, dAppend, f2, hz']
        rw [hb]
        exact e2
      · rw [List.append_assoc]
        exact List.Perm.append_left found (erase_perm _ r hr)
theorem mixed_ok {st : Sto} {i : Nat} {xs : List D} (h : Box st i) (hl : xs.length < 20) : ∃ ys st', f__law_mixed [.ptr i, .lst xs] st = .ok (.lst ys) st' ∧ ys.Perm xs ∧ Drawn i st st' := by
  have hi := h.lt
  obtain ⟨ys, st1, e1, h1, h2, D1⟩ := mix_loop (i := i) (n := st.length) (sc := .lst xs) 20 xs [] st (st ++ [.lst xs] ++ [.lst []]) hl (by simp; omega) rfl hi (by rw [List.append_assoc]; exact Drawn.app h) (by simp) (by simp)
  have D2 : Drawn i st (st1.set (st.length + 1) .dead) := D1.put (by omega) hi
  obtain ⟨st2, e2, D3⟩ := D2.gc (d := .lst ys) hi
  refine ⟨ys, st2, ?_, by simpa using h2, D3⟩
  rw [← e2]
  unfold f__law_mixed pur
  rw [show belowL 0 [D.ptr i, .lst xs] = false from rfl, if_neg (by decide)]
  have hm : m__law_mixed [some (.ptr i), some (.lst xs), none, none] st = .rt (.ptr (st.length + 1)) st1 := by
    simp only [List.append_assoc] at e1
    simp [m__law_mixed, mSeq, mPar, mCons, mNil, mApp, mVar, R.bind, dListC, items, rd, mLstC, putAll, mRet]
    simp at e1
    simp [e1]
  unfold mFun
  rw [show (List.map some [D.ptr i, .lst xs] ++ List.replicate (4 - [D.ptr i, .lst xs].length) none) = [some (.ptr i), some (.lst xs), none, none] from rfl, hm]
  simp [dFrz, h1, R.bind]
end K
namespace K
open PySem L2 S
/-! ### names and words -/
def lets : List Nat := (Str.ofString "abcdefghijklmnopqrstuvwxyz").cps.toList
def barred : List Str := ["none", "any", "same", "keep", "drop", "good", "bad", "old", "new", "both"]
def isName (x : Str) : Bool := decide (1 ≤ x.length) && (decide (x.length ≤ 4) && (!decide (x ∈ barred) && x.cps.toList.all (fun c => decide (c ∈ lets))))
def isNameD : D → Bool
  | .str x => isName x
  | _ => false
def inD (d : D) (ws : List Str) : Bool := match d with
  | .str x => decide (x ∈ ws)
  | _ => false
theorem inV_strs {x : Str} : ∀ {ws : List Str}, inV (.str x) (ws.map V.str) = decide (x ∈ ws)
  | [] => by simp [inV]
  | w :: ws => by
    have ih := inV_strs (x := x) (ws := ws)
    unfold inV at ih ⊢
    rw [List.map_cons, List.any_cons, ih]
    simp [eqV]
    by_cases h : w = x
    · simp [h]
    · simp [h, Ne.symm h]
theorem fl_strs (ws : List Str) : (ws.map D.str).map fl = ws.map V.str := by simp [fl]
theorem isFl_strs (ws : List Str) : (ws.map D.str).all isFl = true := by simp [isFl]
theorem in_tup {x : Str} {ws : List Str} {st : Sto} : dIn (.str x) (.tup (ws.map D.str)) st = .ok (.bl (decide (x ∈ ws))) st := by
  show (if isFl (.str x) && (ws.map D.str).all isFl then R.ok (D.bl (inV (fl (.str x)) ((ws.map D.str).map fl))) st else .stuck) = _
  rw [isFl_strs, fl_strs]
  show (R.ok (D.bl (inV (V.str x) (ws.map V.str))) st) = _
  rw [inV_strs]
theorem in_lst {x : Str} {ws : List Str} {st : Sto} : dIn (.str x) (.lst (ws.map D.str)) st = .ok (.bl (decide (x ∈ ws))) st := by
  show (if isFl (.str x) && (ws.map D.str).all isFl then R.ok (D.bl (inV (fl (.str x)) ((ws.map D.str).map fl))) st else .stuck) = _
  rw [isFl_strs, fl_strs]
  show (R.ok (D.bl (inV (V.str x) (ws.map V.str))) st) = _
  rw [inV_strs]
theorem sign_in {c : Nat} {st : Sto} : dIn (.str ⟨#[c]⟩) (.str "abcdefghijklmnopqrstuvwxyz") st = .ok (.bl (decide (c ∈ lets))) st := by
  simp [dIn, items, rd, lets]
theorem signs_all {x : Str} {a0 a1 : Option D} {st : Sto} (h : x.length ≤ 1000) : mLcGo (.nm 1) [1] mYes (mBin dIn (mVar 1) (mC (.str "abcdefghijklmnopqrstuvwxyz"))) (signs x) [a0, a1] st [] = .ok (x.cps.toList.map fun c => D.bl (decide (c ∈ lets))) st := by
  have e := lc_pure (t := .nm 1) (vs := [1]) (mt := mYes) (me := mBin dIn (mVar 1) (mC (.str "abcdefghijklmnopqrstuvwxyz"))) (fun d => match d with | .str ⟨⟨[c]⟩⟩ => some (.bl (decide (c ∈ lets))) | _ => none) (env := [a0, a1]) (st := st) (ds := signs x) (acc := []) (by
    rw [sizeLine_eq]; simp [signs]; have : x.cps.size = x.length := rfl; omega) fun d hd => by
      obtain ⟨c, _, rfl⟩ := List.mem_map.mp hd
      exact ⟨_, true, rfl, rfl, fun _ => ⟨.bl (decide (c ∈ lets)), by simp [mBin, mVar, mC, wipeE, R.bind, sign_in], rfl⟩, fun h => by cases h⟩
  rw [e, List.nil_append]
  unfold signs
  rw [List.filterMap_map]
  congr 1
  induction x.cps.toList with
  | nil => rfl
  | cons c cs ih => simp [List.filterMap_cons] at ih ⊢; exact ih
theorem all_bls {st : Sto} {bs : List Bool} : dAll [.lst (bs.map D.bl)] st = .ok (.bl (bs.all id)) st := by
  have h1 : ∀ bs : List Bool, (bs.map D.bl).all isB = true := fun bs => by simp [isB]
  have h2 : ∀ bs : List Bool, (bs.map D.bl).map bOf = bs := fun bs => by induction bs with
    | nil => rfl
    | cons b bs ih => simp [bOf] at ih ⊢; exact ih
  simp only [dAll, itemsL, rd, h1, if_true, h2]
theorem name_str {x : Str} {st : Sto} (h : x.length ≤ 1000) : f_is_name [.str x] st = .ok (.bl (isName x)) st := by
  refine call_rt (st' := []) rfl ?_ rfl
  show m_is_name [some (.str x), none] [] = _
  have hz : x.length ≤ sizeLine := by rw [sizeLine_eq]; omega
  have hi := in_tup (x := x) (ws := barred) (st := [])
  unfold barred at hi
  simp only [List.map_cons, List.map_nil] at hi
  have hs := signs_all (x := x) (a0 := some (.str x)) (a1 := none) (st := []) h
  have e : (x.cps.toList.map fun c => D.bl (decide (c ∈ lets))) = (x.cps.toList.map fun c => decide (c ∈ lets)).map D.bl := by simp
  rw [e] at hs
  have ha := all_bls (st := []) (bs := x.cps.toList.map fun c => decide (c ∈ lets))
  have ea : (x.cps.toList.map fun c => decide (c ∈ lets)).all id = x.cps.toList.all (fun c => decide (c ∈ lets)) := by rw [List.all_map]; rfl
  rw [ea] at ha
  have hp : p_is_name_1 [some (.str x), none] [] = .rt (.bl (x.cps.toList.all (fun c => decide (c ∈ lets)))) [] := by
    unfold p_is_name_1 mRet mApp mCons mLc mItAny
    have hv : mVar 0 [some (.str x), none] [] = .ok (.str x) [] := rfl
    simp only [hv, R.bind, hs, mNil, ha]
  unfold isName
  unfold barred
  revert hi hp
  generalize decide (x ∈ [Str.ofString "none", Str.ofString "any", Str.ofString "same", Str.ofString "keep", Str.ofString "drop", Str.ofString "good", Str.ofString "bad", Str.ofString "old", Str.ofString "new", Str.ofString "both"]) = b3
  generalize x.cps.toList.all (fun c => decide (c ∈ lets)) = b4
  intro hi hp
  by_cases h1 : 1 ≤ x.length
  · have i1 : (1 : Int) ≤ (x.length : Int) := by omega
    by_cases h2 : x.length ≤ 4
    · have i2 : (x.length : Int) ≤ 4 := by omega
      cases b3 with
      | true => simp [m_is_name, mSeq, mIfS, mOrB, mNotB, mTru, mIsi, mVar, R.bind, dIsi, rd, tyD, ki_str, truthD, mTest, mChain, mC, mApp, mCons, mNil, dLen, hz, dLe, dI, i1, i2, h1, h2, mBin, hi, mRet]
      | false =>
        simp [m_is_name, mSeq, mIfS, mOrB, mNotB, mTru, mIsi, mVar, R.bind, dIsi, rd, tyD, ki_str, truthD, mTest, mChain, mC, mApp, mCons, mNil, dLen, hz, dLe, dI, i1, i2, h1, h2, mBin, hi, mRet, mNext, hp]
    · have i2 : ¬ (x.length : Int) ≤ 4 := by omega
      simp [m_is_name, mSeq, mIfS, mOrB, mNotB, mTru, mIsi, mVar, R.bind, dIsi, rd, tyD, ki_str, truthD, mTest, mChain, mC, mApp, mCons, mNil, dLen, hz, dLe, dI, i1, i2, h1, h2, mRet]
  · have i1 : ¬ (1 : Int) ≤ (x.length : Int) := by omega
    simp [m_is_name, mSeq, mIfS, mOrB, mNotB, mTru, mIsi, mVar, R.bind, dIsi, rd, tyD, ki_str, truthD, mTest, mChain, mC, mApp, mCons, mNil, dLen, hz, dLe, dI, i1, h1, mRet]
end K
namespace K
open PySem L2 S
/-! ### any values -/
/-- data, texts not long -/
structure Va (d : D) : Prop where
  py : ∃ p, toPy d = some p ∧ p.canLay0 = true ∧ p.depth ≤ 10
  bel : below 0 d = true
  len : ∀ x, d = .str x → x.length ≤ 10
theorem belowL_cons {d : D} {ds : List D} (h : below 0 d = true) (h' : belowL 0 ds = true) : belowL 0 (d :: ds) = true := by
  unfold belowL
  rw [h, h']; rfl
theorem below_strs : ∀ ws : List Str, belowL 0 (ws.map D.str) = true
  | [] => rfl
  | w :: ws => belowL_cons rfl (below_strs ws)
theorem name_ok {d : D} {st : Sto} (h : Va d) : f_is_name [d] st = .ok (.bl (isNameD d)) st := by
  have hb : belowL 0 [d] = true := belowL_cons h.bel rfl
  obtain ⟨p, hp, _⟩ := h.py
  cases d with
  | str x => exact name_str (by have := h.len x rfl; omega)
  | non => exact call_rt (st' := []) hb rfl rfl
  | bl b => exact call_rt (st' := []) hb rfl rfl
  | int i => exact call_rt (st' := []) hb rfl rfl
  | lst xs => exact call_rt (st' := []) hb rfl rfl
  | rls xs => exact call_rt (st' := []) hb rfl rfl
  | tup xs => exact call_rt (st' := []) hb rfl rfl
  | dct ks xs => unfold toPy at hp; cases hp
  | ins c ns xs => unfold toPy at hp; cases hp
  | ptr i => unfold toPy at hp; cases hp
  | cls c => unfold toPy at hp; cases hp
theorem isi_str {d : D} {st : Sto} (h : Va d) : dIsi ki_str d st = .ok (.bl (match d with | .str _ => true | _ => false)) st := by
  obtain ⟨p, hp, _⟩ := h.py
  cases d with
  | dct ks xs => unfold toPy at hp; cases hp
  | ins c ns xs => unfold toPy at hp; cases hp
  | ptr i => unfold toPy at hp; cases hp
  | cls c => unfold toPy at hp; cases hp
  | _ => rfl
/-- isinstance(d, str) and d in ws -/
theorem isin_ok {d : D} {st : Sto} {ws : List Str} {env : S.Env} {i j : Nat} (h : Va d) (hi : env[i]? = some (some d)) (hj : env[j]? = some (some (.tup (ws.map D.str)))) : mAnd (mIsi ki_str (mVar i)) (mBin dIn (mVar i) (mVar j)) env st = .ok (.bl (inD d ws)) st := by
  have e := isi_str (st := st) h
  cases d with
  | str x => simp [mAnd, mIsi, mVar, hi, R.bind, e, mBin, hj, in_tup, inD]
  | _ => simp [mAnd, mIsi, mVar, hi, R.bind, e, inD]
theorem word_ok {d : D} {ws : List Str} {st : Sto} (h : Va d) : f_is_word [d, .tup (ws.map D.str)] st = .ok (.bl (isNameD d || inD d ws)) st := by
  refine call_rt (st' := []) (belowL_cons h.bel (belowL_cons (below_strs ws) rfl)) ?_ rfl
  show m_is_word [some d, some (.tup (ws.map D.str))] [] = _
  have e := isin_ok (st := []) (ws := ws) (env := [some d, some (.tup (ws.map D.str))]) (i := 0) (j := 1) h rfl rfl
  have hn := name_ok (st := []) h
  unfold m_is_word mRet mOr
  rw [show mCall 1 f_is_name [] (mCons (mVar 0) mNil) [some d, some (.tup (ws.map D.str))] [] = f_is_name [d] [] from rfl, hn]
  cases isNameD d with
  | true => rfl
  | false => simp only [R.bind, Bool.false_eq_true, if_false, e, Bool.false_or]
theorem word1 {d : D} {a : Str} {st : Sto} (h : Va d) : f_is_word [d, .tup [.str a]] st = .ok (.bl (isNameD d || inD d [a])) st := word_ok (ws := [a]) h
theorem word2 {d : D} {a b : Str} {st : Sto} (h : Va d) : f_is_word [d, .tup [.str a, .str b]] st = .ok (.bl (isNameD d || inD d [a, b])) st := word_ok (ws := [a, b]) h
theorem mark_ok {d : D} {st : Sto} (h : Va d) : f_is_mark [d] st = .ok (.bl (isNameD d || inD d ["none"])) st := by
  refine call_rt (st' := []) (belowL_cons h.bel rfl) ?_ rfl
  show m_is_mark [some d] [] = _
  simp [m_is_mark, mRet, mCall, mCons, mVar, mTup, mC, mNil, R.bind, sizeLine_eq, word1 h]
theorem sign_ok {d : D} {st : Sto} (h : Va d) : f_is_sign [d] st = .ok (.bl (isNameD d || inD d ["none"])) st := by
  refine call_rt (st' := []) (belowL_cons h.bel rfl) ?_ rfl
  show m_is_sign [some d] [] = _
  simp [m_is_sign, mRet, mCall, mCons, mVar, mTup, mC, mNil, R.bind, sizeLine_eq, word1 h]
theorem need_ok {w : Str} {st : Sto} : f_need [.bl true, .str w] st = .ok .non st := call_nx (st' := []) (env := [some (.bl true), some (.str w)]) rfl rfl
theorem eq_any {d : D} {st : Sto} (h : Va d) : dEq d (.str "any") st = .ok (.bl (inD d ["any"])) st := by
  obtain ⟨p, hp, h1, h2⟩ := h.py
  have hs : SeqAt.shaped (.str "any") = true := by decide +kernel
  have hsp : SeqAt.shaped p = true := by
    unfold SeqAt.shaped
    rw [h1, decide_eq_true (by omega)]; rfl
  cases d with
  | str x => simp [dEq, eqD, isFl, fl, scal, inD]
  | non => rfl
  | bl b => rfl
  | int i => rfl
  | lst xs =>
    unfold dEq eqD
    rw [show rd st (.lst xs) = .lst xs from rfl, hp, show toPy (rd st (.str "any")) = some (.str "any") from rfl]
    simp only [isFl, Bool.false_and, Bool.false_eq_true, if_false, hsp, hs, Bool.and_true, if_true, inD]
    unfold toPy at hp
    cases hq : toPyL xs with
    | none => rw [hq] at hp; cases hp
    | some ps => rw [hq] at hp; cases hp; rfl
  | rls xs =>
    unfold dEq eqD
    rw [show rd st (.rls xs) = .rls xs from rfl, hp, show toPy (rd st (.str "any")) = some (.str "any") from rfl]
    simp only [isFl, Bool.false_and, Bool.false_eq_true, if_false, hsp, hs, Bool.and_true, if_true, inD]
    unfold toPy at hp
    cases hq : toPyL xs with
    | none => rw [hq] at hp; cases hp
    | some ps => rw [hq] at hp; cases hp; rfl
  | tup xs =>
    unfold dEq eqD
    rw [show rd st (.tup xs) = .tup xs from rfl, hp, show toPy (rd st (.str "any")) = some (.str "any") from rfl]
    simp only [isFl, Bool.false_and, Bool.false_eq_true, if_false, hsp, hs, Bool.and_true, if_true, inD]
    unfold toPy at hp
    cases hq : toPyL xs with
    | none => rw [hq] at hp; cases hp
    | some ps => rw [hq] at hp; cases hp; rfl
  | dct ks xs => unfold toPy at hp; cases hp
  | ins c ns xs => unfold toPy at hp; cases hp
  | ptr i => unfold toPy at hp; cases hp
  | cls c => unfold toPy at hp; cases hp
end K
namespace K
open PySem L2 S
/-! ### rows -/
theorem ok_str {d : D} {ws : List Str} (h : (isNameD d || inD d ws) = true) : ∃ x, d = .str x := by
  cases d with
  | str x => exact ⟨x, rfl⟩
  | _ => simp [isNameD, inD] at h
theorem in_str {d : D} {ws : List Str} (h : inD d ws = true) : ∃ x, d = .str x := by
  cases d with
  | str x => exact ⟨x, rfl⟩
  | _ => simp [inD] at h
theorem in_two {d : D} {a b : Str} : (inD d [a] || inD d [b]) = inD d [a, b] := by
  cases d with
  | str x => simp [inD]
  | _ => rfl
theorem fmt_var {env : S.Env} {st : Sto} {i : Nat} {x : Str} (h : env[i]? = some (some (.str x))) (hx : x.length ≤ 1000) : mFmt (mVar i) env st = .ok (.str x) st := by
  have hz : x.length ≤ sizeLine := by rw [sizeLine_eq]; omega
  simp [mFmt, mVar, h, R.bind, hz]
def cat (ys : List Str) : Str := ys.foldl (· ++ ·) Str.empty
theorem text_row {c : Nat} {ns : List Str} {es : List D} {t : Str} (h : at_text c = true) (hn : ns.length < 1000) : f_Row_init [.ptr 0, .str t] [.ins c ns es] = .ok .non [.ins c (putN "text" ns) (putX "text" (.str t) ns es)] := by
  unfold f_Row_init pur
  rw [show belowL 0 [D.ptr 0, .str t] = false from rfl, if_neg (by decide)]
  show (match m_Row_init [some (.ptr 0), some (.str t)] [.ins c ns es] with
    | .nx _ st' => gc 1 .non st'
    | .rt d st' => if true = true then (dFrz d st').bind fun d' st2 => gc 1 d' st2 else gc 1 d st'
    | .exc _ c ns ds st' => gcX 1 c ns ds st'
    | _ => .stuck) = _
  simp [m_Row_init, mSetF, mDo, mBin, mVar, R.bind, dPutF, h, hn]
  exact gc_same (st := [.ins c ns es]) rfl
theorem sup_made {c : Nat} {ns : List Str} {es : List D} {env : S.Env} {ms : List M} {ys : List Str} {cs : List Nat} (h : at_text c = true) (hc : cs.contains c = true) (hn : ns.length < 1000) (h0 : env[0]? = some (some (.ptr 0)))
    (hj : All2 (fun m y => m env [.ins c ns es] = .ok (.str y) [.ins c ns es]) ms ys) (hl : (ys.map (·.length)).sum ≤ 100000) : mSup cs 0 2 f_Row_init (mCons (mJs ms Str.empty) mNil) env [.ins c ns es] = .nx env [.ins c (putN "text" ns) (putX "text" (.str (cat ys)) ns es)] := by
  have hj := js_ok (acc := Str.empty) hj (by rw [sizeLine_eq]; have h3 : Str.empty.length = 0 := by decide +kernel
                                             omega)
  unfold mSup mDo
  simp only [h0, rd, List.getElem?_cons_zero, hc, if_true, mCons, mNil, hj, R.bind, List.length_cons, List.length_nil, text_row h hn]
  rfl
theorem l_sp : (Str.ofString " ").length = 1 := by decide +kernel
theorem begin_made {a b c : Str} (ha : a.length ≤ 10) (hb : b.length ≤ 10) (hc : c.length ≤ 10) : p_Begin_init_2 [some (.ptr 0), some (.str a), some (.str b), some (.str c)] [.ins 1 [] []] = .nx [some (.ptr 0), some (.str a), some (.str b), some (.str c)] [.ins 1 ["mark", "kind", "mood", "text"] [.str a, .str b, .str c, .str (cat ["begin ", a, " ", b, " ", c])]] := by
  have e : p_Begin_init_2 [some (.ptr 0), some (.str a), some (.str b), some (.str c)] [.ins 1 [] []] = p_Begin_init_1 [some (.ptr 0), some (.str a), some (.str b), some (.str c)] [.ins 1 ["mark", "kind", "mood"] [.str a, .str b, .str c]] := by
    simp [p_Begin_init_2, mSeq, mSetF, mDo, mBin, mVar, R.bind, dPutF, at_mark, at_kind, at_mood, putN, putX, str_eq]
  rw [e]
  have h1 : (Str.ofString "begin ").length = 6 := by decide +kernel
  have r := sup_made (c := 1) (ns := ["mark", "kind", "mood"]) (es := [.str a, .str b, .str c]) (env := [some (.ptr 0), some (.str a), some (.str b), some (.str c)]) (ms := [mC (.str "begin "), mFmt (mVar 1), mC (.str " "), mFmt (mVar 2), mC (.str " "), mFmt (mVar 3)]) (ys := ["begin ", a, " ", b, " ", c]) (cs := [1]) rfl rfl (by decide) rfl
    (.cons rfl (.cons (fmt_var rfl (by omega)) (.cons rfl (.cons (fmt_var rfl (by omega)) (.cons rfl (.cons (fmt_var rfl (by omega)) .nil)))))) (by simp [h1, l_sp]; omega)
  simp [putN, putX, str_eq] at r
  exact r
theorem send_made {a b c : Str} (ha : a.length ≤ 10) (hb : b.length ≤ 10) (hc : c.length ≤ 10) : p_Send_init_2 [some (.ptr 0), some (.str a), some (.str b), some (.str c)] [.ins 2 [] []] = .nx [some (.ptr 0), some (.str a), some (.str b), some (.str c)] [.ins 2 ["mood", "service", "mark", "text"] [.str a, .str b, .str c, .str (cat ["send ", a, " ", b, " ", c])]] := by
  have e : p_Send_init_2 [some (.ptr 0), some (.str a), some (.str b), some (.str c)] [.ins 2 [] []] = p_Send_init_1 [some (.ptr 0), some (.str a), some (.str b), some (.str c)] [.ins 2 ["mood", "service", "mark"] [.str a, .str b, .str c]] := by
    simp [p_Send_init_2, mSeq, mSetF, mDo, mBin, mVar, R.bind, dPutF, at_mark, at_service, at_mood, putN, putX, str_eq]
  rw [e]
  have h1 : (Str.ofString "send ").length = 5 := by decide +kernel
  have r := sup_made (c := 2) (ns := ["mood", "service", "mark"]) (es := [.str a, .str b, .str c]) (env := [some (.ptr 0), some (.str a), some (.str b), some (.str c)]) (ms := [mC (.str "send "), mFmt (mVar 1), mC (.str " "), mFmt (mVar 2), mC (.str " "), mFmt (mVar 3)]) (ys := ["send ", a, " ", b, " ", c]) (cs := [2]) rfl rfl (by decide) rfl
    (.cons rfl (.cons (fmt_var rfl (by omega)) (.cons rfl (.cons (fmt_var rfl (by omega)) (.cons rfl (.cons (fmt_var rfl (by omega)) .nil)))))) (by simp [h1, l_sp]; omega)
  simp [putN, putX, str_eq] at r
  exact r
theorem back_made {a b c d : Str} (ha : a.length ≤ 10) (hb : b.length ≤ 10) (hc : c.length ≤ 10) (hd : d.length ≤ 10) : p_Back_init_2 [some (.ptr 0), some (.str a), some (.str b), some (.str c), some (.str d)] [.ins 3 [] []] = .nx [some (.ptr 0), some (.str a), some (.str b), some (.str c), some (.str d)] [.ins 3 ["mood", "service", "sign", "then", "text"] [.str a, .str b, .str c, .str d, .str (cat ["back ", a, " ", b, " ", c, " ", d])]] := by
  have e : p_Back_init_2 [some (.ptr 0), some (.str a), some (.str b), some (.str c), some (.str d)] [.ins 3 [] []] = p_Back_init_1 [some (.ptr 0), some (.str a), some (.str b), some (.str c), some (.str d)] [.ins 3 ["mood", "service", "sign", "then"] [.str a, .str b, .str c, .str d]] := by
    simp [p_Back_init_2, mSeq, mSetF, mDo, mBin, mVar, R.bind, dPutF, at_sign, at_service, at_mood, at_then, putN, putX, str_eq]
  rw [e]
  have h1 : (Str.ofString "back ").length = 5 := by decide +kernel
  have r := sup_made (c := 3) (ns := ["mood", "service", "sign", "then"]) (es := [.str a, .str b, .str c, .str d]) (env := [some (.ptr 0), some (.str a), some (.str b), some (.str c), some (.str d)]) (ms := [mC (.str "back "), mFmt (mVar 1), mC (.str " "), mFmt (mVar 2), mC (.str " "), mFmt (mVar 3), mC (.str " "), mFmt (mVar 4)]) (ys := ["back ", a, " ", b, " ", c, " ", d]) (cs := [3]) rfl rfl (by decide) rfl
    (.cons rfl (.cons (fmt_var rfl (by omega)) (.cons rfl (.cons (fmt_var rfl (by omega)) (.cons rfl (.cons (fmt_var rfl (by omega)) (.cons rfl (.cons (fmt_var rfl (by omega)) .nil)))))))) (by simp [h1, l_sp]; omega)
  simp [putN, putX, str_eq] at r
  exact r
theorem end_made {a b c d : Str} (ha : a.length ≤ 10) (hb : b.length ≤ 10) (hc : c.length ≤ 10) (hd : d.length ≤ 10) : p_End_init_2 [some (.ptr 0), some (.str a), some (.str b), some (.str c), some (.str d)] [.ins 4 [] []] = .nx [some (.ptr 0), some (.str a), some (.str b), some (.str c), some (.str d)] [.ins 4 ["mood", "outcome", "sign", "part", "text"] [.str a, .str b, .str c, .str d, .str (cat ["end ", a, " ", b, " ", c, " ", d])]] := by
  have e : p_End_init_2 [some (.ptr 0), some (.str a), some (.str b), some (.str c), some (.str d)] [.ins 4 [] []] = p_End_init_1 [some (.ptr 0), some (.str a), some (.str b), some (.str c), some (.str d)] [.ins 4 ["mood", "outcome", "sign", "part"] [.str a, .str b, .str c, .str d]] := by
    simp [p_End_init_2, mSeq, mSetF, mDo, mBin, mVar, R.bind, dPutF, at_sign, at_outcome, at_mood, at_part, putN, putX, str_eq]
  rw [e]
  have h1 : (Str.ofString "end ").length = 4 := by decide +kernel
  have r := sup_made (c := 4) (ns := ["mood", "outcome", "sign", "part"]) (es := [.str a, .str b, .str c, .str d]) (env := [some (.ptr 0), some (.str a), some (.str b), some (.str c), some (.str d)]) (ms := [mC (.str "end "), mFmt (mVar 1), mC (.str " "), mFmt (mVar 2), mC (.str " "), mFmt (mVar 3), mC (.str " "), mFmt (mVar 4)]) (ys := ["end ", a, " ", b, " ", c, " ", d]) (cs := [4]) rfl rfl (by decide) rfl
    (.cons rfl (.cons (fmt_var rfl (by omega)) (.cons rfl (.cons (fmt_var rfl (by omega)) (.cons rfl (.cons (fmt_var rfl (by omega)) (.cons rfl (.cons (fmt_var rfl (by omega)) .nil)))))))) (by simp [h1, l_sp]; omega)
  simp [putN, putX, str_eq] at r
  exact r
end K
namespace K
open PySem L2 S
theorem seq_need {e : M} {w : Str} {env : S.Env} {st : Sto} {r : MS} (h : e env st = .ok (.bl true) st) : mSeq (mDo (mCall 2 f_need [] (mCons e (mCons (mC (.str w)) mNil)))) r env st = r env st :=
  seq_nx (do_ok (call_ok (cons_ok h (cons_ok rfl nil_ok)) rfl need_ok))
section
variable {env : S.Env} {st : Sto} {i : Nat} {d : D}
theorem e_word1 {a : Str} (h : Va d) (hi : env[i]? = some (some d)) : mCall 2 f_is_word [] (mCons (mVar i) (mCons (mTup (mCons (mC (.str a)) mNil)) mNil)) env st = .ok (.bl (isNameD d || inD d [a])) st := by
  simp [mCall, mCons, mVar, hi, mTup, mC, mNil, R.bind, sizeLine_eq, word1 h]
theorem e_word2 {a b : Str} (h : Va d) (hi : env[i]? = some (some d)) : mCall 2 f_is_word [] (mCons (mVar i) (mCons (mTup (mCons (mC (.str a)) (mCons (mC (.str b)) mNil))) mNil)) env st = .ok (.bl (isNameD d || inD d [a, b])) st := by
  simp [mCall, mCons, mVar, hi, mTup, mC, mNil, R.bind, sizeLine_eq, word2 h]
theorem e_name (h : Va d) (hi : env[i]? = some (some d)) : mCall 1 f_is_name [] (mCons (mVar i) mNil) env st = .ok (.bl (isNameD d)) st := by
  simp [mCall, mCons, mVar, hi, mNil, R.bind, name_ok h]
theorem e_sign (h : Va d) (hi : env[i]? = some (some d)) : mCall 1 f_is_sign [] (mCons (mVar i) mNil) env st = .ok (.bl (isNameD d || inD d ["none"])) st := by
  simp [mCall, mCons, mVar, hi, mNil, R.bind, sign_ok h]
theorem e_mark (h : Va d) (hi : env[i]? = some (some d)) : mOr (mCall 1 f_is_mark [] (mCons (mVar i) mNil)) (mBin dEq (mVar i) (mC (.str "any"))) env st = .ok (.bl (isNameD d || inD d ["none", "any"])) st := by
  rw [← in_two, ← Bool.or_assoc]
  simp only [mOr, mCall, mCons, mVar, hi, mNil, R.bind, mark_ok h, List.append_nil, List.length_cons, List.length_nil, if_true, mBin, mC, eq_any h]
  cases (isNameD d || inD d ["none"]) <;> rfl
theorem e_in2 {a b : Str} (h : Va d) (hi : env[i]? = some (some d)) : mAnd (mIsi ki_str (mVar i)) (mBin dIn (mVar i) (mTup (mCons (mC (.str a)) (mCons (mC (.str b)) mNil)))) env st = .ok (.bl (inD d [a, b])) st := by
  have e := isi_str (st := st) h
  cases d with
  | str x =>
    have e2 := in_tup (x := x) (ws := [a, b]) (st := st)
    simp only [List.map_cons, List.map_nil] at e2
    simp only [mAnd, mIsi, mVar, hi, R.bind, e, mBin, mTup, mCons, mC, mNil, sizeLine_eq, List.length_cons, List.length_nil, if_true, e2, inD, show ((0 + 1 + 1 ≤ 16777216) = True) from eq_true (by decide)]
  | _ => simp [mAnd, mIsi, mVar, hi, R.bind, e, inD]
theorem e_in3 {a b c : Str} (h : Va d) (hi : env[i]? = some (some d)) : mAnd (mIsi ki_str (mVar i)) (mBin dIn (mVar i) (mTup (mCons (mC (.str a)) (mCons (mC (.str b)) (mCons (mC (.str c)) mNil))))) env st = .ok (.bl (inD d [a, b, c])) st := by
  have e := isi_str (st := st) h
  cases d with
  | str x =>
    have e2 := in_tup (x := x) (ws := [a, b, c]) (st := st)
    simp only [List.map_cons, List.map_nil] at e2
    simp only [mAnd, mIsi, mVar, hi, R.bind, e, mBin, mTup, mCons, mC, mNil, sizeLine_eq, List.length_cons, List.length_nil, if_true, e2, inD, show ((0 + 1 + 1 + 1 ≤ 16777216) = True) from eq_true (by decide)]
  | _ => simp [mAnd, mIsi, mVar, hi, R.bind, e, inD]
end
theorem eqL_nil {ds : List D} {st : Sto} : dEqL (.lst ds) (.lst []) st = .ok (.bl ds.isEmpty) st := by
  cases ds with
  | nil =>
    simp [dEqL, rd, dEq, eqD, isFl, toPy, toPyL, SeqAt.shaped]
    rfl
  | cons d ds => simp [dEqL, rd]
theorem neL_nil {ds : List D} {st : Sto} : dNeL (.lst ds) (.lst []) st = .ok (.bl (!ds.isEmpty)) st := by
  cases ds with
  | nil =>
    simp [dNeL, rd, dNe, eqD, isFl, toPy, toPyL, SeqAt.shaped]
    rfl
  | cons d ds => simp [dNeL, rd]
theorem gcX_same {st st' : Sto} {c : Nat} {ns : List Str} {ds : List D} (h : st'.length = st.length) : gcX st.length c ns ds st' = .exc c ns ds st' := by
  unfold gcX
  rw [List.take_of_length_le (Nat.le_of_eq h)]
  split <;> rfl
/-- a call at a store that it leaves as it is -/
theorem at_rt {n : Nat} {ms : MS} {ds : List D} {st : Sto} {d : D} (hb : belowL 0 ds = false) (h : ms (ds.map some ++ List.replicate (n - ds.length) none) st = .rt d st) (hd : ∀ i, d ≠ .ptr i) : pur (mFun true n ms) ds st = .ok d st := by
  rw [call_at hb h hd]; exact gc_same rfl
theorem at_exc {n c : Nat} {ns : List Str} {es : List D} {ms : MS} {ds : List D} {st : Sto} {env : S.Env} (hb : belowL 0 ds = false) (h : ms (ds.map some ++ List.replicate (n - ds.length) none) st = .exc env c ns es st) : pur (mFun true n ms) ds st = .exc c ns es st := by
  unfold pur
  rw [hb, if_neg (by decide)]
  unfold mFun
  rw [h]
  exact gcX_same rfl
def pr (w : Str) (ws : List Str) : D := .tup [.str w, .lst (ws.map D.str)]
def wB : List (Str × List Str) := [("mark", ["none", "any"]), ("kind", ["any"]), ("mood", [])]
def wS : List (Str × List Str) := [("mood", ["any"]), ("service", ["any"]), ("mark", ["none", "same"])]
def wK : List (Str × List Str) := [("mood", ["any"]), ("service", ["any"]), ("sign", ["none", "any"]), ("then", ["same"])]
def wE : List (Str × List Str) := [("mood", ["any"]), ("outcome", ["good", "bad", "any"]), ("sign", ["none"]), ("part", ["keep", "drop"])]
def prs (l : List (Str × List Str)) : D := .lst (l.map fun p => pr p.1 p.2)
theorem eq_strs {st : Sto} {a b : Str} : dEq (.str a) (.str b) st = .ok (.bl (decide (a = b))) st := by
  simp [dEq, eqD, isFl, fl, scal]
end K
namespace K
open PySem L2 S
/-! ### drawn names -/
def w12 : List Str := ["send", "back", "end", "root", "wait", "a", "ab", "abc", "zzzz", "row", "hear", "x"]
def abc : Str := "abcdefghijklmnopqrstuvwxyz"
def n0 (spot k : Nat) : Str := w12.getD ((spot + 5 * k) % 12) ""
def n1 (k : Nat) : Str := cutS "tttt" none (some ((k : Int) + 1))
def n2 (spot k : Nat) : Str := (⟨#[abc.cps.toList.getD ((spot + 7 * k) % 26) 0]⟩ : Str) ++ repS "v" (spot % 4)
structure Nms (ns : List Str) (n : Nat) : Prop where
  len : ns.length = n
  nm : ∀ x ∈ ns, isName x = true
  nd : ns.Nodup
def okNs (ns : List Str) : Bool := ns.all isName && decide ns.Nodup
theorem nms_of {ns : List Str} {n : Nat} (h : okNs ns = true) (hl : ns.length = n) : Nms ns n := by
  unfold okNs at h
  rw [Bool.and_eq_true] at h
  exact ⟨hl, fun x hx => List.all_eq_true.mp h.1 x hx, of_decide_eq_true h.2⟩
theorem all0 : ((List.range 26).all fun s => (List.range 8).all fun n => okNs ((List.range n).map (n0 s))) = true := by kernel_rfl
theorem all1 : ((List.range 5).all fun n => okNs ((List.range n).map n1)) = true := by kernel_rfl
theorem all2 : ((List.range 26).all fun s => (List.range 8).all fun n => okNs ((List.range n).map (n2 s))) = true := by kernel_rfl
theorem ok0 {s n : Nat} (hs : s < 26) (hn : n ≤ 7) : okNs ((List.range n).map (n0 s)) = true :=
  List.all_eq_true.mp (List.all_eq_true.mp all0 s (List.mem_range.mpr hs)) n (List.mem_range.mpr (Nat.lt_succ_of_le hn))
theorem ok1 {n : Nat} (hn : n < 5) : okNs ((List.range n).map n1) = true := List.all_eq_true.mp all1 n (List.mem_range.mpr hn)
theorem ok2 {s n : Nat} (hs : s < 26) (hn : n ≤ 7) : okNs ((List.range n).map (n2 s)) = true :=
  List.all_eq_true.mp (List.all_eq_true.mp all2 s (List.mem_range.mpr hs)) n (List.mem_range.mpr (Nat.lt_succ_of_le hn))
theorem fmod_nat (a b : Nat) : Int.fmod (a : Int) (b : Int) = ((a % b : Nat) : Int) := by
  rw [Int.fmod_eq_emod_of_nonneg _ (by omega)]; rfl
section
variable {i n s : Nat} {fm : Int} {a6 : Option D} {st : Sto}
theorem rng {env : S.Env} (h : env[1]? = some (some (.int (n : Nat)))) (hn : n ≤ 1000) : mItRange (mCons (mVar 1) mNil) env st = .ok (rangeD 0 n) st := by
  have h1 : -4611686018427387904 ≤ (n : Int) ∧ (n : Int) < 4611686018427387904 := by omega
  simp [mItRange, mCons, mVar, h, mNil, R.bind, h1]
theorem nm0 (hn : n ≤ 1000) : mLc (.nm 6) [6] (mItRange (mCons (mVar 1) (mNil))) (mYes) (mBin dIx (mVar 2) (mBin dMod (mApp dInt (mCons (mBin dAdd (mVar 5) (mBin dMulX (mC (.int 5)) (mVar 6))) (mNil))) (mC (.int 12)))) [some (.ptr i), some (.int n), some (.lst (w12.map D.str)), some (.str abc), some (.int fm), some (.int s), a6] st = .ok (.lst (((List.range n).map (n0 s)).map D.str)) st := by
  have e := lc_range (t := .nm 6) (vs := [6]) (mt := mYes) (me := mBin dIx (mVar 2) (mBin dMod (mApp dInt (mCons (mBin dAdd (mVar 5) (mBin dMulX (mC (.int 5)) (mVar 6))) (mNil))) (mC (.int 12)))) (fun k => .str (n0 s k)) (env := [some (.ptr i), some (.int n), some (.lst (w12.map D.str)), some (.str abc), some (.int fm), some (.int s), a6]) (st := st) (n := n) (by omega) fun k hk => by
    refine ⟨_, rfl, rfl, ?_⟩
    have hm : Int.fmod ((s : Int) + 5 * (k : Int)) 12 = (((s + 5 * k) % 12 : Nat) : Int) := fmod_nat (s + 5 * k) 12
    have hl : (s + 5 * k) % 12 < 12 := Nat.mod_lt _ (by decide)
    have hx : atI (w12.map D.str) (Int.fmod ((s : Int) + 5 * (k : Int)) 12) = some (.str (n0 s k)) := by
      refine atI_of hm ?_
      rw [List.getElem?_map, List.getElem?_eq_getElem (show (s + 5 * k) % 12 < w12.length from hl)]
      show some (D.str _) = some (D.str (w12.getD ((s + 5 * k) % 12) ""))
      rw [List.getD_eq_getElem?_getD, List.getElem?_eq_getElem (show (s + 5 * k) % 12 < w12.length from hl)]
      rfl
    simp [mBin, mVar, mC, wipeE, R.bind, mApp, mCons, mNil, dMulX, dMul, dAdd, rd, dInt, dMod, dIx, hx]
  unfold mLc
  rw [rng rfl hn]
  simp only [R.bind, e, List.map_map]
  rfl
theorem nm1 (hn : n ≤ 4) : mLc (.nm 6) [6] (mItRange (mCons (mVar 1) (mNil))) (mYes) (mSl (mC (.str "tttt")) (mNoPart) (mPart (mBin dAdd (mVar 6) (mC (.int 1))))) [some (.ptr i), some (.int n), some (.lst (w12.map D.str)), some (.str abc), some (.int fm), some (.int s), a6] st = .ok (.lst (((List.range n).map n1).map D.str)) st := by
  have e := lc_range (t := .nm 6) (vs := [6]) (mt := mYes) (me := mSl (mC (.str "tttt")) (mNoPart) (mPart (mBin dAdd (mVar 6) (mC (.int 1))))) (fun k => .str (n1 k)) (env := [some (.ptr i), some (.int n), some (.lst (w12.map D.str)), some (.str abc), some (.int fm), some (.int s), a6]) (st := st) (n := n) (by omega) fun k hk => by
    refine ⟨_, rfl, rfl, ?_⟩
    have ht : (Str.ofString "tttt").length = 4 := by decide +kernel
    simp [mSl, mC, mNoPart, mPart, mBin, mVar, wipeE, R.bind, dAdd, rd, dSl, ht, sizeLine_eq, n1]
  unfold mLc
  rw [rng rfl (by omega)]
  simp only [R.bind, e, List.map_map]
  rfl
theorem nm2 (hn : n ≤ 1000) : mLc (.nm 6) [6] (mItRange (mCons (mVar 1) (mNil))) (mYes) (mBin dAdd (mBin dIx (mVar 3) (mBin dMod (mApp dInt (mCons (mBin dAdd (mVar 5) (mBin dMulX (mC (.int 7)) (mVar 6))) (mNil))) (mC (.int 26)))) (mBin dMulX (mC (.str "v")) (mBin dMod (mApp dInt (mCons (mVar 5) (mNil))) (mC (.int 4))))) [some (.ptr i), some (.int n), some (.lst (w12.map D.str)), some (.str abc), some (.int fm), some (.int s), a6] st = .ok (.lst (((List.range n).map (n2 s)).map D.str)) st := by
  have e := lc_range (t := .nm 6) (vs := [6]) (mt := mYes) (me := mBin dAdd (mBin dIx (mVar 3) (mBin dMod (mApp dInt (mCons (mBin dAdd (mVar 5) (mBin dMulX (mC (.int 7)) (mVar 6))) (mNil))) (mC (.int 26)))) (mBin dMulX (mC (.str "v")) (mBin dMod (mApp dInt (mCons (mVar 5) (mNil))) (mC (.int 4))))) (fun k => .str (n2 s k)) (env := [some (.ptr i), some (.int n), some (.lst (w12.map D.str)), some (.str abc), some (.int fm), some (.int s), a6]) (st := st) (n := n) (by omega) fun k hk => by
    refine ⟨_, rfl, rfl, ?_⟩
    have hm : Int.fmod ((s : Int) + 7 * (k : Int)) 26 = (((s + 7 * k) % 26 : Nat) : Int) := fmod_nat (s + 7 * k) 26
    have hm4 : Int.fmod (s : Int) 4 = ((s % 4 : Nat) : Int) := fmod_nat s 4
    have h4 : s % 4 < 4 := Nat.mod_lt _ (by decide)
    have hl : (s + 7 * k) % 26 < abc.cps.toList.length := by
      have : abc.cps.toList.length = 26 := by decide +kernel
      rw [this]
      exact Nat.mod_lt _ (by decide)
    have hx : atI abc.cps.toList (Int.fmod ((s : Int) + 7 * (k : Int)) 26) = some (abc.cps.toList.getD ((s + 7 * k) % 26) 0) := by
      refine atI_of hm ?_
      rw [List.getD_eq_getElem?_getD, List.getElem?_eq_getElem hl]
      rfl
    have ha : abc.length ≤ sizeLine := by decide +kernel
    have hv : 1 ≤ (Str.ofString "v").length ∧ (Str.ofString "v").length ≤ 1000 := by decide +kernel
    have hr : dMulX (.str "v") (.int (Int.fmod (s : Int) 4)) st = .ok (.str (repS "v" (s % 4))) st := by
      rw [hm4]
      have : (0 : Int) ≤ ((s % 4 : Nat) : Int) ∧ ((s % 4 : Nat) : Int) ≤ 1000 ∧ 1 ≤ (Str.ofString "v").length ∧ (Str.ofString "v").length ≤ 1000 := ⟨by omega, by omega, hv.1, hv.2⟩
      show (if (0 : Int) ≤ ((s % 4 : Nat) : Int) ∧ ((s % 4 : Nat) : Int) ≤ 1000 ∧ 1 ≤ (Str.ofString "v").length ∧ (Str.ofString "v").length ≤ 1000 then R.ok (D.str (repS "v" (((s % 4 : Nat) : Int)).toNat)) st else .stuck) = _
      rw [if_pos this, Int.toNat_natCast]
    have hz : (⟨#[abc.cps.toList.getD ((s + 7 * k) % 26) 0]⟩ : Str).length + (repS "v" (s % 4)).length ≤ sizeLine := by
      have : ∀ q, q < 4 → (repS "v" q).length ≤ 3 := by decide +kernel
      have := this _ h4
      have h1 : (⟨#[abc.cps.toList.getD ((s + 7 * k) % 26) 0]⟩ : Str).length = 1 := rfl
      rw [sizeLine_eq, h1]; omega
    have m7 : dMulX (.int 7) (.int (k : Int)) st = .ok (.int (7 * k)) st := by simp [dMulX, dMul]
    simp [mBin, mVar, mC, wipeE, R.bind, mApp, mCons, mNil, m7, dAdd, rd, dInt, dMod, dIx, hx, ha, hr, hz, n2]
    simpa using hz
  unfold mLc
  rw [rng rfl hn]
  simp only [R.bind, e, List.map_map]
  rfl
end
theorem perm_strs {ys : List D} {ns : List Str} (h : ys.Perm (ns.map D.str)) : ∃ ms : List Str, ys = ms.map D.str ∧ ms.Perm ns := by
  refine ⟨ys.map sOf, ?_, ?_⟩
  · have : ∀ y ∈ ys, y = .str (sOf y) := fun y hy => by
      obtain ⟨x, _, rfl⟩ := List.mem_map.mp (h.mem_iff.mp hy)
      rfl
    rw [List.map_map]
    conv => lhs; rw [← List.map_id ys]
    exact List.map_congr_left fun y hy => this y hy
  · have := h.map sOf
    rw [List.map_map] at this
    have e : (sOf ∘ D.str) = id := funext fun x => rfl
    rw [e, List.map_id] at this
    exact this
theorem Nms.perm {ns ms : List Str} {n : Nat} (h : Nms ns n) (p : ms.Perm ns) : Nms ms n := ⟨p.length_eq.trans h.len, fun x hx => h.nm x (p.mem_iff.mp hx), p.symm.nodup h.nd⟩
theorem names_head {i n fm s : Nat} {st st1 st2 : Sto} (e1 : f__law_take [.ptr i, .int 3] st = .ok (.int fm) st1) (e2 : f__law_take [.ptr i, .int 26] st1 = .ok (.int s) st2) : m__law_names [some (.ptr i), some (.int n), none, none, none, none, none] st = p__law_names_3 [some (.ptr i), some (.int n), some (.lst (w12.map D.str)), some (.str abc), some (.int fm), some (.int s), none] st2 := by
  simp [m__law_names, mSeq, mSet, mLst, mCons, mNil, mC, R.bind, sizeLine_eq, mAsg, mTup, mCall, mVar, e1, e2, Tg.at, Tg.ats, items, rd, w12, abc]
section
variable {i n s : Nat} {fm : Nat} {st : Sto}
abbrev nenv (i n s fm : Nat) : S.Env := [some (.ptr i), some (.int n), some (.lst (w12.map D.str)), some (.str abc), some (.int fm), some (.int s), none]
theorem t_0 : mTest (mBin dEq (mVar 4) (mC (.int 0))) (nenv i n s fm) st = .ok (decide ((fm : Int) = 0)) st := by
  simp [mTest, mBin, mVar, mC, R.bind, dEq, eqD, isFl, fl, scal]
theorem t_1 : mAndB (mTest (mBin dEq (mVar 4) (mC (.int 1)))) (mTest (mBin dLt (mVar 1) (mC (.int 5)))) (nenv i n s fm) st = .ok (decide ((fm : Int) = 1) && decide ((n : Int) < 5)) st := by
  by_cases c1 : (fm : Int) = 1
  · simp [mAndB, mTest, mBin, mVar, mC, R.bind, dEq, eqD, isFl, fl, scal, dLt, c1]
  · simp [mAndB, mTest, mBin, mVar, mC, R.bind, dEq, eqD, isFl, fl, scal, dLt, c1]
theorem s_3 (hn : n ≤ 1000) (h : (fm : Int) = 0) : p__law_names_3 (nenv i n s fm) st = .rt (.lst (((List.range n).map (n0 s)).map D.str)) st := by
  unfold p__law_names_3
  exact seq_if_rt (t_0.trans (by rw [decide_eq_true h])) (ret_ok (nm0 hn))
theorem s_32 (h : ¬ (fm : Int) = 0) : p__law_names_3 (nenv i n s fm) st = p__law_names_2 (nenv i n s fm) st := by
  unfold p__law_names_3
  exact seq_if_f (t_0.trans (by rw [decide_eq_false h]))
theorem s_2 {ys : List D} {st3 : Sto} (hn : n ≤ 4) (h : (fm : Int) = 1) (e3 : f__law_mixed [.ptr i, .lst (((List.range n).map n1).map D.str)] st = .ok (.lst ys) st3) : p__law_names_2 (nenv i n s fm) st = .rt (.lst ys) st3 := by
  have hv : mVar 0 (nenv i n s fm) st = .ok (.ptr i) st := rfl
  have hc : mCall 2 f__law_mixed [] (mCons (mVar 0) (mCons (mLc (.nm 6) [6] (mItRange (mCons (mVar 1) (mNil))) (mYes) (mSl (mC (.str "tttt")) (mNoPart) (mPart (mBin dAdd (mVar 6) (mC (.int 1)))))) (mNil))) (nenv i n s fm) st = .ok (.lst ys) st3 := by
    exact call_ok (cons_ok hv (cons_ok (nm1 hn) nil_ok)) rfl e3
  unfold p__law_names_2
  exact seq_if_rt (t_1.trans (by rw [decide_eq_true h, decide_eq_true (show (n : Int) < 5 by omega)]; rfl)) (ret_ok hc)
theorem s_21 (h : ¬ ((fm : Int) = 1 ∧ (n : Int) < 5)) : p__law_names_2 (nenv i n s fm) st = p__law_names_1 (nenv i n s fm) st := by
  have e : (decide ((fm : Int) = 1) && decide ((n : Int) < 5)) = false := by
    rw [← Bool.decide_and]; exact decide_eq_false h
  unfold p__law_names_2
  exact seq_if_f (t_1.trans (by rw [e]))
theorem s_1 (hn : n ≤ 1000) : p__law_names_1 (nenv i n s fm) st = .rt (.lst (((List.range n).map (n2 s)).map D.str)) st := by
  unfold p__law_names_1
  exact ret_ok (nm2 hn)
end
theorem names_ok {st : Sto} {i n : Nat} (h : Box st i) (hn : n ≤ 7) : ∃ ns st', f__law_names [.ptr i, .int n] st = .ok (.lst (ns.map D.str)) st' ∧ Nms ns n ∧ Drawn i st st' := by
  obtain ⟨fm, st1, f1, e1, D1⟩ := take_d (many := 3) h (by decide) (by decide)
  obtain ⟨s, st2, s1, e2, D2⟩ := take_d (many := 26) D1.box (by decide) (by decide)
  have hi := h.lt
  have D12 := D1.trans D2
  have head := names_head (n := n) e1 e2
  have fin : ∀ {ns : List Str} {st3 : Sto}, Nms ns n → Drawn i st st3 → p__law_names_3 (nenv i n s fm) st2 = .rt (.lst (ns.map D.str)) st3 →
      ∃ ns st', f__law_names [.ptr i, .int n] st = .ok (.lst (ns.map D.str)) st' ∧ Nms ns n ∧ Drawn i st st' := fun {ns st3} hn D3 e => by
    obtain ⟨st4, e4, D4⟩ := D3.gc (d := .lst (ns.map D.str)) hi
    refine ⟨ns, st4, ?_, hn, D4⟩
    rw [← e4]
    exact call_at rfl (head.trans e) (fun _ h => by cases h)
  have hs : s < 26 := by omega
  by_cases q0 : (fm : Int) = 0
  · exact fin (nms_of (ok0 hs hn) (by simp)) D12 (s_3 (by omega) q0)
  · by_cases q1 : (fm : Int) = 1 ∧ (n : Int) < 5
    · obtain ⟨ys, st3, e3, p3, D3⟩ := mixed_ok (xs := ((List.range n).map n1).map D.str) D2.box (by simp; omega)
      obtain ⟨ms, rfl, pm⟩ := perm_strs p3
      exact fin (Nms.perm (nms_of (ok1 (by omega)) (by simp)) pm) (D12.trans D3) ((s_32 q0).trans (s_2 (by omega) q1.1 e3))
    · exact fin (nms_of (ok2 hs hn) (by simp)) D12 ((s_32 q0).trans ((s_21 q1).trans (s_1 (by omega))))
end K
namespace K
open PySem L2 S
/-! ### drawn rows -/
/-- pools of names -/
structure Pool (P : D) (pl : Str → List Str) : Prop where
  get : ∀ w ∈ [Str.ofString "mark", Str.ofString "kind", Str.ofString "mood", Str.ofString "service", Str.ofString "sign"], ∀ st, dGetK P (.str w) st = .ok (.lst ((pl w).map D.str)) st
  ne : ∀ w ∈ [Str.ofString "mark", Str.ofString "kind", Str.ofString "mood", Str.ofString "service", Str.ofString "sign"], pl w ≠ []
  len : ∀ w ∈ [Str.ofString "mark", Str.ofString "kind", Str.ofString "mood", Str.ofString "service", Str.ofString "sign"], (pl w).length < 1000
/-- which pool serves -/
def pw (w : Str) : Str := if w = Str.ofString "then" then Str.ofString "mood" else w
def isO (w : Str) : Bool := decide (w ∈ [Str.ofString "outcome", Str.ofString "part"])
def Fits (pl : Str → List Str) (p : Str × List Str) (x : Str) : Prop := x ∈ p.2 ∨ (isO p.1 = false ∧ x ∈ pl (pw p.1))
/-- a place of a row whose words can be drawn -/
def Can (p : Str × List Str) : Prop := p.2.length < 1000 ∧ (isO p.1 = true ∧ p.2 ≠ [] ∨ isO p.1 = false ∧ pw p.1 ∈ [Str.ofString "mark", Str.ofString "kind", Str.ofString "mood", Str.ofString "service", Str.ofString "sign"])
section
variable {P : D} {pl : Str → List Str} {i f : Nat} {srt : Option D} {w : Str} {ws : List Str} {a6 a7 : Option D} {st : Sto}
theorem dr_names_o (h : isO w = true) : mIf (mTest (mBin dNotIn (mVar 4) (mTup (mCons (mC (.str "outcome")) (mCons (mC (.str "part")) (mNil)))))) (mBin dGetK (mVar 2) (mIf (mTest (mBin dEq (mVar 4) (mC (.str "then")))) (mC (.str "mood")) (mVar 4))) (mLst (mNil)) [some (.ptr i), srt, some P, some (.ptr f), some (.str w), some (.lst (ws.map D.str)), a6, a7] st = .ok (.lst []) st := by
  have e : dNotIn (.str w) (.tup [.str "outcome", .str "part"]) st = .ok (.bl (!isO w)) st := by
    have := inV_strs (x := w) (ws := [Str.ofString "outcome", Str.ofString "part"])
    simp only [List.map_cons, List.map_nil] at this
    simp [dNotIn, items, rd, isFl, fl, this, isO]
  simp [mIf, mTest, mBin, mVar, mTup, mCons, mC, mNil, R.bind, sizeLine_eq, e, h, mLst]
theorem dr_names_p (hP : Pool P pl) (h : isO w = false) (hw : pw w ∈ [Str.ofString "mark", Str.ofString "kind", Str.ofString "mood", Str.ofString "service", Str.ofString "sign"]) : mIf (mTest (mBin dNotIn (mVar 4) (mTup (mCons (mC (.str "outcome")) (mCons (mC (.str "part")) (mNil)))))) (mBin dGetK (mVar 2) (mIf (mTest (mBin dEq (mVar 4) (mC (.str "then")))) (mC (.str "mood")) (mVar 4))) (mLst (mNil)) [some (.ptr i), srt, some P, some (.ptr f), some (.str w), some (.lst (ws.map D.str)), a6, a7] st = .ok (.lst ((pl (pw w)).map D.str)) st := by
  have e : dNotIn (.str w) (.tup [.str "outcome", .str "part"]) st = .ok (.bl (!isO w)) st := by
    have := inV_strs (x := w) (ws := [Str.ofString "outcome", Str.ofString "part"])
    simp only [List.map_cons, List.map_nil] at this
    simp [dNotIn, items, rd, isFl, fl, this, isO]
  have e2 : mIf (mTest (mBin dEq (mVar 4) (mC (.str "then")))) (mC (.str "mood")) (mVar 4) [some (.ptr i), srt, some P, some (.ptr f), some (.str w), some (.lst (ws.map D.str)), a6, a7] st = .ok (.str (pw w)) st := by
    unfold pw
    by_cases q : w = Str.ofString "then"
    · simp [mIf, mTest, mBin, mVar, mC, R.bind, eq_strs, q]
    · simp [mIf, mTest, mBin, mVar, mC, R.bind, eq_strs, q]
  have e3 := hP.get _ hw st
  have e4 : mBin dGetK (mVar 2) (mIf (mTest (mBin dEq (mVar 4) (mC (.str "then")))) (mC (.str "mood")) (mVar 4)) [some (.ptr i), srt, some P, some (.ptr f), some (.str w), some (.lst (ws.map D.str)), a6, a7] st = .ok (.lst ((pl (pw w)).map D.str)) st := (bin_ok rfl e2).trans e3
  have t : mTest (mBin dNotIn (mVar 4) (mTup (mCons (mC (.str "outcome")) (mCons (mC (.str "part")) (mNil))))) [some (.ptr i), srt, some P, some (.ptr f), some (.str w), some (.lst (ws.map D.str)), a6, a7] st = .ok true st := by
    simp [mTest, mBin, mVar, mTup, mCons, mC, mNil, R.bind, sizeLine_eq, e, h]
  unfold mIf
  rw [t]
  exact e4
theorem isEmpty_strs (ws : List Str) : (ws.map D.str).isEmpty = ws.isEmpty := by cases ws <;> rfl
/-- which words are near -/
theorem dr_near {ns : List Str} (h : Box st i) : ∃ near st', mIf (mOrB (mTest (mBin dEqL (mVar 6) (mLst (mNil)))) (mAndB (mTest (mBin dNeL (mVar 5) (mLst (mNil)))) (mTest (mBin dEq (mCall 2 f__law_take [] (mCons (mVar 0) (mCons (mC (.int 3)) (mNil)))) (mC (.int 0)))))) (mVar 5) (mVar 6) [some (.ptr i), srt, some P, some (.ptr f), some (.str w), some (.lst (ws.map D.str)), some (.lst (ns.map D.str)), a7] st = .ok (.lst (near.map D.str)) st' ∧ Drawn i st st' ∧ (near = ws ∧ (ns = [] ∨ ws ≠ []) ∨ near = ns ∧ ns ≠ []) := by
  cases ns with
  | nil => exact ⟨ws, st, by simp [mIf, mOrB, mTest, mBin, mVar, mLst, mNil, R.bind, eqL_nil], Drawn.refl h, .inl ⟨rfl, .inl rfl⟩⟩
  | cons n ns =>
    cases ws with
    | nil => exact ⟨n :: ns, st, by simp [mIf, mOrB, mTest, mBin, mVar, mLst, mNil, R.bind, eqL_nil, mAndB, neL_nil], Drawn.refl h, .inr ⟨rfl, by simp⟩⟩
    | cons x ws =>
      obtain ⟨r, st1, r1, e, D1⟩ := take_d (many := 3) h (by decide) (by decide)
      by_cases q : r = 0
      · exact ⟨x :: ws, st1, by simp [mIf, mOrB, mTest, mBin, mVar, mLst, mNil, R.bind, eqL_nil, mAndB, neL_nil, mCall, mCons, mC, e, dEq, eqD, isFl, fl, scal, q], D1, .inl ⟨rfl, .inr (by simp)⟩⟩
      · exact ⟨n :: ns, st1, by simp [mIf, mOrB, mTest, mBin, mVar, mLst, mNil, R.bind, eqL_nil, mAndB, neL_nil, mCall, mCons, mC, e, dEq, eqD, isFl, fl, scal, q], D1, .inr ⟨rfl, by simp⟩⟩
end
theorem dr_it {P : D} {pl : Str → List Str} {i : Nat} {srt : Option D} {p : Str × List Str} {a6 a7 : Option D} {st0 st : Sto} {acc : List D} (hP : Pool P pl) (hc : Can p) (hi : i < st0.length) (hD : Drawn i st0 st) (hf : st[st0.length]? = some (.lst acc)) (ha : acc.length < 1000) :
    ∃ x b6 b7 st', p__law_drawn_row_1 [some (.ptr i), srt, some P, some (.ptr st0.length), some (.str p.1), some (.lst (p.2.map D.str)), a6, a7] st = .nx [some (.ptr i), srt, some P, some (.ptr st0.length), some (.str p.1), some (.lst (p.2.map D.str)), b6, b7] st' ∧ Drawn i st0 st' ∧ st'[st0.length]? = some (.lst (acc ++ [.str x])) ∧ Fits pl p x := by
  obtain ⟨w, ws⟩ := p
  obtain ⟨hl, hc⟩ := hc
  have hft : st0.length < st.length := (List.getElem?_eq_some_iff.mp hf).1
  have hz : acc.length < sizeLine := by rw [sizeLine_eq]; omega
  have go : ∀ (ns : List Str), mIf (mTest (mBin dNotIn (mVar 4) (mTup (mCons (mC (.str "outcome")) (mCons (mC (.str "part")) (mNil)))))) (mBin dGetK (mVar 2) (mIf (mTest (mBin dEq (mVar 4) (mC (.str "then")))) (mC (.str "mood")) (mVar 4))) (mLst (mNil)) [some (.ptr i), srt, some P, some (.ptr st0.length), some (.str w), some (.lst (ws.map D.str)), a6, a7] st = .ok (.lst (ns.map D.str)) st →
      (∀ near, (near = ws ∧ (ns = [] ∨ ws ≠ []) ∨ near = ns ∧ ns ≠ []) → near ≠ [] ∧ near.length < 1000 ∧ ∀ x ∈ near, Fits pl (w, ws) x) →
      ∃ x b6 b7 st', p__law_drawn_row_1 [some (.ptr i), srt, some P, some (.ptr st0.length), some (.str w), some (.lst (ws.map D.str)), a6, a7] st = .nx [some (.ptr i), srt, some P, some (.ptr st0.length), some (.str w), some (.lst (ws.map D.str)), b6, b7] st' ∧ Drawn i st0 st' ∧ st'[st0.length]? = some (.lst (acc ++ [.str x])) ∧ Fits pl (w, ws) x := fun ns e1 hn => by
    obtain ⟨near, st1, e2, D1, q⟩ := dr_near (P := P) (f := st0.length) (srt := srt) (w := w) (ws := ws) (a7 := a7) (ns := ns) hD.box
    obtain ⟨n1, n2, n3⟩ := hn near q
    obtain ⟨x, st2, m, e3, D2⟩ := pick_s (ws := near) D1.box n1 n2
    have D3 := D1.trans D2
    have hf2 : st2[st0.length]? = some (.lst acc) := (D3.off _ hft (by omega)).trans hf
    refine ⟨x, some (.lst (ns.map D.str)), some (.lst (near.map D.str)), st2.set st0.length (.lst (acc ++ [.str x])), ?_, (hD.trans D3).put (Nat.le_refl _) hi, st_same hf2, n3 x m⟩
    unfold p__law_drawn_row_1
    rw [seq_nx (set_ok e1)]
    show mSeq _ _ [some (.ptr i), srt, some P, some (.ptr st0.length), some (.str w), some (.lst (ws.map D.str)), some (.lst (ns.map D.str)), a7] st = _
    rw [seq_nx (set_ok e2)]
    show mDo _ [some (.ptr i), srt, some P, some (.ptr st0.length), some (.str w), some (.lst (ws.map D.str)), some (.lst (ns.map D.str)), some (.lst (near.map D.str))] st1 = _
    refine do_ok (d := .non) ?_
    have hf1 : st1[st0.length]? = some (.lst acc) := (D1.off _ hft (by omega)).trans hf
    simp [mLm, mVar, R.bind, isLst, rd, hf1, mCons, mCall, mNil, e3, dAppend, hf2, hz]
  rcases hc with ⟨h1, h2⟩ | ⟨h1, h2⟩
  · refine go [] (dr_names_o h1) fun near q => ?_
    rcases q with ⟨rfl, _⟩ | ⟨_, q⟩
    · exact ⟨h2, hl, fun x hx => .inl hx⟩
    · exact absurd rfl q
  · refine go (pl (pw w)) (dr_names_p hP h1 h2) fun near q => ?_
    rcases q with ⟨rfl, q | q⟩ | ⟨rfl, q⟩
    · exact absurd q (hP.ne _ h2)
    · exact ⟨q, hl, fun x hx => .inl hx⟩
    · exact ⟨q, hP.len _ h2, fun x hx => .inr ⟨h1, hx⟩⟩
theorem dr_loop {P : D} {pl : Str → List Str} {i : Nat} {srt : Option D} {st0 : Sto} (hP : Pool P pl) (hi : i < st0.length) : ∀ (l : List (Str × List Str)) (a4 a5 a6 a7 : Option D) (st : Sto) (acc : List D), (∀ p ∈ l, Can p) → Drawn i st0 st → st[st0.length]? = some (.lst acc) → acc.length + l.length < 1000 →
    ∃ xs env st', mForGo (.tp [.nm 4, .nm 5]) p__law_drawn_row_1 (l.map fun p => pr p.1 p.2) [some (.ptr i), srt, some P, some (.ptr st0.length), a4, a5, a6, a7] st = .nx ([some (.ptr i), srt, some P, some (.ptr st0.length)] ++ env) st' ∧ Drawn i st0 st' ∧ st'[st0.length]? = some (.lst (acc ++ xs.map D.str)) ∧ All2 (Fits pl) l xs
  | [], a4, a5, a6, a7, st, acc, _, hD, hf, _ => ⟨[], [a4, a5, a6, a7], st, rfl, hD, by simpa using hf, .nil⟩
  | p :: l, a4, a5, a6, a7, st, acc, hc, hD, hf, hl => by
    obtain ⟨x, b6, b7, st1, e1, D1, f1, q1⟩ := dr_it (srt := srt) (a6 := a6) (a7 := a7) hP (hc p (.head _)) hi hD hf (by simp at hl; omega)
    obtain ⟨xs, env, st2, e2, D2, f2, q2⟩ := dr_loop hP hi l (some (.str p.1)) (some (.lst (p.2.map D.str))) b6 b7 st1 (acc ++ [.str x]) (fun z hz => hc z (.tail _ hz)) D1 f1 (by simp at hl ⊢; omega)
    refine ⟨x :: xs, env, st2, ?_, D2, by simpa using f2, .cons q1 q2⟩
    rw [← e2]
    show (match p__law_drawn_row_1 [some (.ptr i), srt, some P, some (.ptr st0.length), some (.str p.1), some (.lst (p.2.map D.str)), a6, a7] st with
      | .nx env2 st2 => mForGo (.tp [.nm 4, .nm 5]) p__law_drawn_row_1 (l.map fun (p : Str × List Str) => pr p.1 p.2) env2 st2
      | .ct env2 st2 => mForGo (.tp [.nm 4, .nm 5]) p__law_drawn_row_1 (l.map fun (p : Str × List Str) => pr p.1 p.2) env2 st2
      | .bk env2 st2 => .nx env2 st2
      | r => r) = _
    rw [e1]
inductive SortW : Str → List (Str × List Str) → Prop
  | b : SortW "begin" wB
  | s : SortW "send" wS
  | k : SortW "back" wK
  | e : SortW "end" wE
theorem can_all {sort : Str} {l : List (Str × List Str)} (h : SortW sort l) : (∀ p ∈ l, Can p) ∧ l.length < 10 := by
  have c : ∀ {p : Str × List Str}, (decide (p.2.length < 1000) && (isO p.1 && !p.2.isEmpty || !isO p.1 && decide (pw p.1 ∈ [Str.ofString "mark", Str.ofString "kind", Str.ofString "mood", Str.ofString "service", Str.ofString "sign"]))) = true → Can p := fun {p} h => by
    simp only [Bool.and_eq_true, decide_eq_true_eq, Bool.or_eq_true, Bool.not_eq_true'] at h
    exact ⟨h.1, h.2.imp (fun q => ⟨q.1, by intro z; rw [z] at q; simp at q⟩) id⟩
  have d : ∀ {l : List (Str × List Str)}, (l.all fun p => decide (p.2.length < 1000) && (isO p.1 && !p.2.isEmpty || !isO p.1 && decide (pw p.1 ∈ [Str.ofString "mark", Str.ofString "kind", Str.ofString "mood", Str.ofString "service", Str.ofString "sign"]))) = true → ∀ p ∈ l, Can p := fun {l} h p hp => c (List.all_eq_true.mp h p hp)
  cases h <;> exact ⟨d (by kernel_rfl), by decide⟩
theorem words_t {sort : Str} {l : List (Str × List Str)} {st : Sto} (h : SortW sort l) : f__law_words [.tup [.str sort]] st = .ok (prs l) st := by
  cases h <;> kernel_rfl
theorem drawn_ok {P : D} {pl : Str → List Str} {i : Nat} {sort : Str} {l : List (Str × List Str)} {st : Sto} (h : Box st i) (hP : Pool P pl) (hs : SortW sort l) : ∃ xs st', f__law_drawn_row [.ptr i, .str sort, P] st = .ok (.tup (.str sort :: xs.map D.str)) st' ∧ Drawn i st st' ∧ All2 (Fits pl) l xs := by
  have hi := h.lt
  obtain ⟨hc, hl⟩ := can_all hs
  obtain ⟨xs, env, st1, e1, D1, f1, q⟩ := dr_loop (srt := some (.str sort)) hP hi l none none none none (st ++ [.lst [.str sort]]) [.str sort] hc (Drawn.app h) (by simp) (by simp; omega)
  obtain ⟨st2, e2, D2⟩ := D1.gc (d := .tup (.str sort :: xs.map D.str)) hi
  refine ⟨xs, st2, ?_, D2, q⟩
  rw [← e2]
  refine call_at rfl ?_ (fun _ h => by cases h)
  show m__law_drawn_row [some (.ptr i), some (.str sort), some P, none, none, none, none, none] st = _
  unfold m__law_drawn_row
  rw [seq_nx (set_ok (d := .ptr st.length) (st' := st ++ [.lst [.str sort]]) (by simp [mLstC, mCons, mVar, mNil, R.bind, sizeLine_eq]))]
  show mSeq _ _ [some (.ptr i), some (.str sort), some P, some (.ptr st.length), none, none, none, none] _ = _
  have hit : mItAny (mCall 1 f__law_words [] (mCons (mTup (mCons (mVar 1) mNil)) mNil)) [some (.ptr i), some (.str sort), some P, some (.ptr st.length), none, none, none, none] (st ++ [.lst [.str sort]]) = .ok (l.map fun p => pr p.1 p.2) (st ++ [.lst [.str sort]]) := by
    simp [mItAny, mCall, mCons, mTup, mVar, mNil, R.bind, sizeLine_eq, words_t hs, prs, itemsF]
  refine (seq_nx (env' := [some (.ptr i), some (.str sort), some P, some (.ptr st.length)] ++ env) (st' := st1) ?_).trans ?_
  · unfold mFor
    rw [hit]
    exact e1
  · refine ret_ok ?_
    simp [mApp, mCons, mVar, mNil, R.bind, dTuple, items, rd, f1]
end K
namespace K
open PySem L2 S
/-! ### words of small letters -/
def low (x : Str) : Bool := x.cps.toList.all (fun c => decide (c ∈ lets)) && (decide (x.length ≤ 10) && decide (1 ≤ x.length))
theorem low_name {x : Str} (h : isName x = true) : low x = true := by
  unfold isName at h
  unfold low
  simp only [Bool.and_eq_true, decide_eq_true_eq] at h ⊢
  exact ⟨h.2.2.2, by omega, h.1⟩
theorem low_len {x : Str} (h : low x = true) : x.length ≤ 10 := by
  unfold low at h
  simp only [Bool.and_eq_true, decide_eq_true_eq] at h
  exact h.2.1
theorem low_pos {x : Str} (h : low x = true) : 1 ≤ x.length := by
  unfold low at h
  simp only [Bool.and_eq_true, decide_eq_true_eq] at h
  exact h.2.2
theorem lets_ok : (lets.all fun c => decide (c < 0x110000)) = true := by decide +kernel
theorem low_ok {x : Str} (h : low x = true) : PyData.strOk x = true := by
  unfold low at h
  rw [Bool.and_eq_true] at h
  unfold PyData.strOk
  rw [← Array.all_toList]
  refine List.all_eq_true.mpr fun c hc => ?_
  have := List.all_eq_true.mp h.1 c hc
  exact List.all_eq_true.mp lets_ok c (of_decide_eq_true this)
theorem low_va {x : Str} (h : low x = true) : Va (.str x) := ⟨⟨.str x, rfl, low_ok h, Nat.zero_le _⟩, rfl, fun y e => by cases e; exact low_len h⟩
theorem low_nin {x : Str} {c : Nat} (h : low x = true) (hc : decide (c ∈ lets) = false) : c ∉ TL.tl x := by
  intro hm
  unfold low at h
  rw [Bool.and_eq_true] at h
  have := List.all_eq_true.mp h.1 c hm
  rw [hc] at this
  cases this
/-! ### rows -/
def wok (p : Str × List Str) (x : Str) : Bool := decide (x ∈ p.2) || (!isO p.1 && isName x)
/-- a row by its sort and its words -/
structure RowOk (r : Str × List Str) : Prop where
  ex : ∃ l, SortW r.1 l ∧ All2 (fun p x => wok p x = true) l r.2
def lowL (l : List (Str × List Str)) : Bool := l.all fun p => p.2.all low
theorem lowL_ok {sort : Str} {l : List (Str × List Str)} (h : SortW sort l) : low sort = true ∧ ∀ p ∈ l, ∀ x ∈ p.2, low x = true := by
  have d : ∀ {l : List (Str × List Str)}, lowL l = true → ∀ p ∈ l, ∀ x ∈ p.2, low x = true := fun {l} h p hp x hx => List.all_eq_true.mp (List.all_eq_true.mp h p hp) x hx
  cases h <;> exact ⟨by decide +kernel, d (by kernel_rfl)⟩
theorem all_low {l : List (Str × List Str)} {xs : List Str} (h : All2 (fun p x => wok p x = true) l xs) (h1 : ∀ p ∈ l, ∀ x ∈ p.2, low x = true) : ∀ x ∈ xs, low x = true := by
  induction h with
  | nil => intro x hx; simp at hx
  | cons p _ ih =>
    intro x hx
    rcases List.mem_cons.mp hx with rfl | hx
    · unfold wok at p
      rw [Bool.or_eq_true, Bool.and_eq_true, decide_eq_true_eq] at p
      rcases p with p | ⟨_, p⟩
      · exact h1 _ (.head _) _ p
      · exact low_name p
    · exact ih (fun q hq => h1 q (.tail _ hq)) x hx
theorem RowOk.low {r : Str × List Str} (h : RowOk r) : ∀ x ∈ r.1 :: r.2, K.low x = true := by
  obtain ⟨l, hs, ha⟩ := h.ex
  have q := lowL_ok hs
  intro x hx
  rcases List.mem_cons.mp hx with rfl | hx
  · exact q.1
  · exact all_low ha q.2 x hx
def rt (r : Str × List Str) : Str := Txt.join " " (r.1 :: r.2)
def rowC (sort : Str) : Nat := if sort = Str.ofString "begin" then 1 else if sort = Str.ofString "send" then 2 else if sort = Str.ofString "back" then 3 else 4
def rowN (sort : Str) : List Str := if sort = Str.ofString "begin" then ["mark", "kind", "mood", "text"] else if sort = Str.ofString "send" then ["mood", "service", "mark", "text"] else if sort = Str.ofString "back" then ["mood", "service", "sign", "then", "text"] else ["mood", "outcome", "sign", "part", "text"]
def rowD (r : Str × List Str) : D := .ins (rowC r.1) (rowN r.1) (r.2.map D.str ++ [.str (rt r)])
theorem sp_app (a : String) : (Str.ofString a ++ Str.ofString " ") = Str.ofString (a ++ " ") := by
  rw [Str.ofString_eq_toList, Str.ofString_eq_toList, Str.ofString_eq_toList]
  show (⟨_ ++ _⟩ : Str) = _
  simp
theorem cat4 {s a b c : Str} {s' : Str} (h : s' = s ++ Str.ofString " ") : cat [s', a, Str.ofString " ", b, Str.ofString " ", c] = rt (s, [a, b, c]) := by
  subst h
  show _ = Txt.join (Str.ofString " ") [s, a, b, c]
  rw [TL.join_eq]
  show Str.empty ++ (s ++ Str.ofString " ") ++ a ++ Str.ofString " " ++ b ++ Str.ofString " " ++ c = s ++ Str.ofString " " ++ (a ++ Str.ofString " " ++ (b ++ Str.ofString " " ++ c))
  rw [str_emp]
  simp only [str_assoc]
theorem cat5 {s a b c d : Str} {s' : Str} (h : s' = s ++ Str.ofString " ") : cat [s', a, Str.ofString " ", b, Str.ofString " ", c, Str.ofString " ", d] = rt (s, [a, b, c, d]) := by
  subst h
  show _ = Txt.join (Str.ofString " ") [s, a, b, c, d]
  rw [TL.join_eq]
  show Str.empty ++ (s ++ Str.ofString " ") ++ a ++ Str.ofString " " ++ b ++ Str.ofString " " ++ c ++ Str.ofString " " ++ d = s ++ Str.ofString " " ++ (a ++ Str.ofString " " ++ (b ++ Str.ofString " " ++ (c ++ Str.ofString " " ++ d)))
  rw [str_emp]
  simp only [str_assoc]
theorem wok_n {w : Str} {ws : List Str} {x : Str} (h : wok (w, ws) x = true) : (isNameD (.str x) || inD (.str x) ws) = true := by
  unfold wok at h
  simp only [Bool.or_eq_true, Bool.and_eq_true] at h ⊢
  exact h.elim .inr fun q => .inl q.2
theorem wok_0 {w : Str} {x : Str} (h : wok (w, []) x = true) : isNameD (.str x) = true := by
  unfold wok at h
  simp at h
  exact h.2
theorem wok_o {w : Str} {ws : List Str} {x : Str} (hw : isO w = true) (h : wok (w, ws) x = true) : inD (.str x) ws = true := by
  unfold wok at h
  rw [hw] at h
  simpa [inD] using h
theorem sb_begin {a b c : Str} {st : Sto} (h1 : wok ("mark", ["none", "any"]) a = true) (h2 : wok ("kind", ["any"]) b = true) (h3 : wok ("mood", []) c = true) (ha : low a = true) (hb : low b = true) (hc : low c = true) : pur (dNewF 1 4 f_Begin_init) [.str a, .str b, .str c] st = .ok (rowD ("begin", [a, b, c])) st := by
  have va := low_va ha; have vb := low_va hb; have vc := low_va hc
  have e : rowD ("begin", [a, b, c]) = .ins 1 ["mark", "kind", "mood", "text"] [.str a, .str b, .str c, .str (rt ("begin", [a, b, c]))] := by simp [rowD, rowC, rowN, str_eq]
  have run : m_Begin_init [some (.ptr 0), some (.str a), some (.str b), some (.str c)] [.ins 1 [] []] = .nx [some (.ptr 0), some (.str a), some (.str b), some (.str c)] [.ins 1 ["mark", "kind", "mood", "text"] [.str a, .str b, .str c, .str (rt ("begin", [a, b, c]))]] := by
    unfold m_Begin_init
    rw [seq_need ((e_mark va rfl).trans (by rw [wok_n h1])), seq_need ((e_word1 vb rfl).trans (by rw [wok_n h2])), seq_need ((e_name vc rfl).trans (by rw [wok_0 h3])), begin_made (low_len ha) (low_len hb) (low_len hc), cat4 (s := "begin") (by decide +kernel)]
  rw [e]
  exact new_nx rfl rfl run rfl
theorem sb_send {a b c : Str} {st : Sto} (h1 : wok ("mood", ["any"]) a = true) (h2 : wok ("service", ["any"]) b = true) (h3 : wok ("mark", ["none", "same"]) c = true) (ha : low a = true) (hb : low b = true) (hc : low c = true) : pur (dNewF 2 4 f_Send_init) [.str a, .str b, .str c] st = .ok (rowD ("send", [a, b, c])) st := by
  have va := low_va ha; have vb := low_va hb; have vc := low_va hc
  have e : rowD ("send", [a, b, c]) = .ins 2 ["mood", "service", "mark", "text"] [.str a, .str b, .str c, .str (rt ("send", [a, b, c]))] := by simp [rowD, rowC, rowN, str_eq]
  have run : m_Send_init [some (.ptr 0), some (.str a), some (.str b), some (.str c)] [.ins 2 [] []] = .nx [some (.ptr 0), some (.str a), some (.str b), some (.str c)] [.ins 2 ["mood", "service", "mark", "text"] [.str a, .str b, .str c, .str (rt ("send", [a, b, c]))]] := by
    unfold m_Send_init
    rw [seq_need ((e_word1 va rfl).trans (by rw [wok_n h1])), seq_need ((e_word1 vb rfl).trans (by rw [wok_n h2])), seq_need ((e_word2 vc rfl).trans (by rw [wok_n h3])), send_made (low_len ha) (low_len hb) (low_len hc), cat4 (s := "send") (by decide +kernel)]
  rw [e]
  exact new_nx rfl rfl run rfl
theorem sb_back {a b c d : Str} {st : Sto} (h1 : wok ("mood", ["any"]) a = true) (h2 : wok ("service", ["any"]) b = true) (h3 : wok ("sign", ["none", "any"]) c = true) (h4 : wok ("then", ["same"]) d = true) (ha : low a = true) (hb : low b = true) (hc : low c = true) (hd : low d = true) : pur (dNewF 3 5 f_Back_init) [.str a, .str b, .str c, .str d] st = .ok (rowD ("back", [a, b, c, d])) st := by
  have va := low_va ha; have vb := low_va hb; have vc := low_va hc; have vd := low_va hd
  have e : rowD ("back", [a, b, c, d]) = .ins 3 ["mood", "service", "sign", "then", "text"] [.str a, .str b, .str c, .str d, .str (rt ("back", [a, b, c, d]))] := by simp [rowD, rowC, rowN, str_eq]
  have run : m_Back_init [some (.ptr 0), some (.str a), some (.str b), some (.str c), some (.str d)] [.ins 3 [] []] = .nx [some (.ptr 0), some (.str a), some (.str b), some (.str c), some (.str d)] [.ins 3 ["mood", "service", "sign", "then", "text"] [.str a, .str b, .str c, .str d, .str (rt ("back", [a, b, c, d]))]] := by
    unfold m_Back_init
    rw [seq_need ((e_word1 va rfl).trans (by rw [wok_n h1])), seq_need ((e_word1 vb rfl).trans (by rw [wok_n h2])), seq_need ((e_word2 vc rfl).trans (by rw [wok_n h3])), seq_need ((e_word1 vd rfl).trans (by rw [wok_n h4])), back_made (low_len ha) (low_len hb) (low_len hc) (low_len hd), cat5 (s := "back") (by decide +kernel)]
  rw [e]
  exact new_nx rfl rfl run rfl
theorem sb_end {a b c d : Str} {st : Sto} (h1 : wok ("mood", ["any"]) a = true) (h2 : wok ("outcome", ["good", "bad", "any"]) b = true) (h3 : wok ("sign", ["none"]) c = true) (h4 : wok ("part", ["keep", "drop"]) d = true) (ha : low a = true) (hb : low b = true) (hc : low c = true) (hd : low d = true) : pur (dNewF 4 5 f_End_init) [.str a, .str b, .str c, .str d] st = .ok (rowD ("end", [a, b, c, d])) st := by
  have va := low_va ha; have vb := low_va hb; have vc := low_va hc; have vd := low_va hd
  have e : rowD ("end", [a, b, c, d]) = .ins 4 ["mood", "outcome", "sign", "part", "text"] [.str a, .str b, .str c, .str d, .str (rt ("end", [a, b, c, d]))] := by simp [rowD, rowC, rowN, str_eq]
  have run : m_End_init [some (.ptr 0), some (.str a), some (.str b), some (.str c), some (.str d)] [.ins 4 [] []] = .nx [some (.ptr 0), some (.str a), some (.str b), some (.str c), some (.str d)] [.ins 4 ["mood", "outcome", "sign", "part", "text"] [.str a, .str b, .str c, .str d, .str (rt ("end", [a, b, c, d]))]] := by
    unfold m_End_init
    rw [seq_need ((e_word1 va rfl).trans (by rw [wok_n h1])), seq_need ((e_in3 vb rfl).trans (by rw [wok_o (by decide +kernel) h2])), seq_need ((e_sign vc rfl).trans (by rw [wok_n h3])), seq_need ((e_in2 vd rfl).trans (by rw [wok_o (by decide +kernel) h4])), end_made (low_len ha) (low_len hb) (low_len hc) (low_len hd), cat5 (s := "end") (by decide +kernel)]
  rw [e]
  exact new_nx rfl rfl run rfl
/-- the words of a row, at their places -/
theorem RowOk.split {r : Str × List Str} (h : RowOk r) : (∃ a b c, r = (Str.ofString "begin", [a, b, c]) ∧ wok ("mark", ["none", "any"]) a = true ∧ wok ("kind", ["any"]) b = true ∧ wok ("mood", []) c = true) ∨ (∃ a b c, r = (Str.ofString "send", [a, b, c]) ∧ wok ("mood", ["any"]) a = true ∧ wok ("service", ["any"]) b = true ∧ wok ("mark", ["none", "same"]) c = true) ∨
    (∃ a b c d, r = (Str.ofString "back", [a, b, c, d]) ∧ wok ("mood", ["any"]) a = true ∧ wok ("service", ["any"]) b = true ∧ wok ("sign", ["none", "any"]) c = true ∧ wok ("then", ["same"]) d = true) ∨ (∃ a b c d, r = (Str.ofString "end", [a, b, c, d]) ∧ wok ("mood", ["any"]) a = true ∧ wok ("outcome", ["good", "bad", "any"]) b = true ∧ wok ("sign", ["none"]) c = true ∧ wok ("part", ["keep", "drop"]) d = true) := by
  obtain ⟨sort, xs⟩ := r
  obtain ⟨l, hs, ha⟩ := h.ex
  dsimp only at hs ha
  cases hs with
  | b =>
    cases ha with | cons p1 q => cases q with | cons p2 q => cases q with | cons p3 q => cases q; exact .inl ⟨_, _, _, rfl, p1, p2, p3⟩
  | s =>
    cases ha with | cons p1 q => cases q with | cons p2 q => cases q with | cons p3 q => cases q; exact .inr (.inl ⟨_, _, _, rfl, p1, p2, p3⟩)
  | k =>
    cases ha with | cons p1 q => cases q with | cons p2 q => cases q with | cons p3 q => cases q with | cons p4 q => cases q; exact .inr (.inr (.inl ⟨_, _, _, _, rfl, p1, p2, p3, p4⟩))
  | e =>
    cases ha with | cons p1 q => cases q with | cons p2 q => cases q with | cons p3 q => cases q with | cons p4 q => cases q; exact .inr (.inr (.inr ⟨_, _, _, _, rfl, p1, p2, p3, p4⟩))
theorem row_made {r : Str × List Str} {st : Sto} (h : RowOk r) : f__law_row [.tup (.str r.1 :: r.2.map D.str)] st = .ok (rowD r) st := by
  have hl := h.low
  have bel : ∀ (s : Str) (xs : List Str), belowL 0 [D.tup (.str s :: xs.map D.str)] = true := fun s xs => belowL_cons (below_strs (s :: xs)) rfl
  have belr : below 0 (rowD r) = true := by
    show belowL 0 (r.2.map D.str ++ [.str (rt r)]) = true
    have := below_strs (r.2 ++ [rt r])
    rwa [List.map_append] at this
  rcases h.split with ⟨a, b, c, rfl, h1, h2, h3⟩ | ⟨a, b, c, rfl, h1, h2, h3⟩ | ⟨a, b, c, d, rfl, h1, h2, h3, h4⟩ | ⟨a, b, c, d, rfl, h1, h2, h3, h4⟩
  · have e := sb_begin (st := []) h1 h2 h3 (hl a (by simp)) (hl b (by simp)) (hl c (by simp))
    refine call_rt (st' := []) (bel _ _) (?_ : m__law_row [some (.tup [.str "begin", .str a, .str b, .str c])] [] = _) belr
    simp [m__law_row, mSeq, mIfS, mTest, mBin, mVar, mC, R.bind, dIx, rd, atI, ixN, eq_strs, mRet, mMakeF, mCons, mNil, e]
  · have e := sb_send (st := []) h1 h2 h3 (hl a (by simp)) (hl b (by simp)) (hl c (by simp))
    refine call_rt (st' := []) (bel _ _) (?_ : m__law_row [some (.tup [.str "send", .str a, .str b, .str c])] [] = _) belr
    simp [m__law_row, mSeq, mIfS, mTest, mBin, mVar, mC, R.bind, dIx, rd, atI, ixN, eq_strs, mRet, mMakeF, mCons, mNil, e, str_eq, mNext]
  · have e := sb_back (st := []) h1 h2 h3 h4 (hl a (by simp)) (hl b (by simp)) (hl c (by simp)) (hl d (by simp))
    refine call_rt (st' := []) (bel _ _) (?_ : m__law_row [some (.tup [.str "back", .str a, .str b, .str c, .str d])] [] = _) belr
    simp [m__law_row, mSeq, mIfS, mTest, mBin, mVar, mC, R.bind, dIx, rd, atI, ixN, eq_strs, mRet, mMakeF, mCons, mNil, e, str_eq, mNext]
  · have e := sb_end (st := []) h1 h2 h3 h4 (hl a (by simp)) (hl b (by simp)) (hl c (by simp)) (hl d (by simp))
    refine call_rt (st' := []) (bel _ _) (?_ : m__law_row [some (.tup [.str "end", .str a, .str b, .str c, .str d])] [] = _) belr
    simp [m__law_row, mSeq, mIfS, mTest, mBin, mVar, mC, R.bind, dIx, rd, atI, ixN, eq_strs, mRet, mMakeF, mCons, mNil, e, str_eq, mNext]
end K
namespace K
open PySem L2 S
/-! ### services -/
def sq (b : Bool) (xs : List D) : D := if b = true then .lst xs else .tup xs
theorem sq_items {b : Bool} {xs : List D} {st : Sto} : items st (sq b xs) = some xs := by cases b <;> rfl
theorem sq_itemsF {b : Bool} {xs : List D} : itemsF (sq b xs) = some xs := by cases b <;> rfl
theorem sq_below {b : Bool} {xs : List D} (h : belowL 0 xs = true) : below 0 (sq b xs) = true := by cases b <;> exact h
theorem sq_len {b : Bool} {xs : List D} {st : Sto} : dLen [sq b xs] st = .ok (.int xs.length) st := by cases b <;> rfl
theorem sq_any {b : Bool} {xs : List D} {env : S.Env} {st : Sto} {i : Nat} (h : env[i]? = some (some (sq b xs))) : mItAny (mVar i) env st = .ok xs st := by
  cases b <;> simp [mItAny, mVar, h, R.bind, sq, itemsF]
theorem seq_is {b : Bool} {xs : List D} {st : Sto} (h : belowL 0 xs = true) : f_is_sequence [sq b xs] st = .ok (.bl true) st := by
  refine call_rt (st' := []) (belowL_cons (sq_below h) rfl) ?_ rfl
  show m_is_sequence [some (sq b xs)] [] = _
  cases b <;> rfl
theorem all_names {ks : List Str} {st : Sto} {e0 e1 : Option D} (h : ∀ x ∈ ks, isName x = true) (hl : ks.length ≤ 1000) : mLcGo (.nm 1) [1] mYes (mCall 1 f_is_name [] (mCons (mVar 1) mNil)) (ks.map D.str) [e0, e1] st [] = .ok (ks.map fun _ => D.bl true) st := by
  refine (lc_map D.str (fun _ => D.bl true) (by rw [sizeLine_eq]; simp; omega) fun x hx => ⟨_, rfl, rfl, ?_⟩).trans (by rw [List.nil_append])
  refine call_ok (ds := [.str x]) (cons_ok rfl nil_ok) rfl ?_
  have := name_str (x := x) (st := st) (by have := low_len (low_name (h x hx)); omega)
  rw [this, h x hx]
theorem bls_true {α : Type} (ks : List α) : ((ks.map fun _ => true).all id) = true := by simp
theorem names_are {b : Bool} {ks : List Str} {st : Sto} (h : ∀ x ∈ ks, isName x = true) (hn : ks.Nodup) (hl : ks.length ≤ 1000) : f_are_names [sq b (ks.map D.str)] st = .ok (.bl true) st := by
  refine call_rt (st' := []) (belowL_cons (sq_below (below_strs ks)) rfl) ?_ rfl
  show m_are_names [some (sq b (ks.map D.str)), none] [] = _
  have e1 : mCall 1 f_is_sequence [] (mCons (mVar 0) mNil) [some (sq b (ks.map D.str)), none] [] = .ok (.bl true) [] := call_ok (ds := [sq b (ks.map D.str)]) (cons_ok rfl nil_ok) rfl (seq_is (below_strs ks))
  have e2 : mLc (.nm 1) [1] (mItAny (mVar 0)) mYes (mCall 1 f_is_name [] (mCons (mVar 1) mNil)) [some (sq b (ks.map D.str)), none] [] = .ok (.lst (ks.map fun _ => D.bl true)) [] := by
    unfold mLc
    rw [sq_any rfl]
    simp only [R.bind, all_names h hl]
  have e3 : mApp dAll (mCons (mLc (.nm 1) [1] (mItAny (mVar 0)) mYes (mCall 1 f_is_name [] (mCons (mVar 1) mNil))) mNil) [some (sq b (ks.map D.str)), none] [] = .ok (.bl true) [] := by
    refine (app_ok (cons_ok e2 nil_ok)).trans ?_
    have := all_bls (st := []) (bs := ks.map fun _ => true)
    rw [List.map_map] at this
    rw [bls_true] at this
    exact this
  have t : mOrB (mNotB (mTru (mCall 1 f_is_sequence [] (mCons (mVar 0) mNil)))) (mNotB (mTru (mApp dAll (mCons (mLc (.nm 1) [1] (mItAny (mVar 0)) mYes (mCall 1 f_is_name [] (mCons (mVar 1) mNil))) mNil)))) [some (sq b (ks.map D.str)), none] [] = .ok false [] := by
    unfold mOrB mNotB mTru
    simp only [e1, e3, R.bind, truthD, rd]
    rfl
  unfold m_are_names
  rw [seq_if_f t]
  unfold p_are_names_1
  refine ret_ok ?_
  have e4 : mDc (.nm 1) [1] (mItAny (mVar 0)) mYes (mVar 1) (mC (.bl true)) [some (sq b (ks.map D.str)), none] [] = .ok (.dct ((addU [] ks).map fun a => (Sum.inr a : Key)) ((addU [] ks).map fun _ => D.bl true)) [] := by
    unfold mDc
    rw [sq_any rfl]
    have := dc_strs (t := .nm 1) (vs := [1]) (mt := mYes) (mk := mVar 1) (mv := mC (.bl true)) (env := [some (sq b (ks.map D.str)), none]) (st := []) (xs := ks) (acc := []) (by simp; omega) fun x hx => ⟨_, rfl, rfl, rfl, rfl⟩
    simp only [List.map_nil] at this
    simp only [R.bind, this]
  have hu : addU [] ks = ks := by rw [addU_nodup ks [] (by simpa using hn)]; simp
  rw [hu] at e4
  have l1 : mApp dLen (mCons (mDc (.nm 1) [1] (mItAny (mVar 0)) mYes (mVar 1) (mC (.bl true))) mNil) [some (sq b (ks.map D.str)), none] [] = .ok (.int ks.length) [] := (app_ok (cons_ok e4 nil_ok)).trans (by simp [dLen, rd])
  have l2 : mApp dLen (mCons (mVar 0) mNil) [some (sq b (ks.map D.str)), none] [] = .ok (.int ks.length) [] := (app_ok (cons_ok rfl nil_ok)).trans (by rw [sq_len]; simp)
  refine (bin_ok l1 l2).trans ?_
  simp [dEq, eqD, isFl, fl, scal]
/-! #### texts of words -/
theorem join_d {z : Str} {ws : List Str} {st : Sto} (h : (ws.map fun x => x.length).sum + ws.length * z.length ≤ 16777216) : dJoin (.str z) (.lst (ws.map D.str)) st = .ok (.str (Txt.join z ws)) st := by
  have h1 : (ws.map D.str).all isS = true := by simp [isS]
  have h2 : (ws.map D.str).map sOf = ws := by
    rw [List.map_map]
    have : (sOf ∘ D.str) = id := funext fun _ => rfl
    rw [this, List.map_id]
  show (if (ws.map D.str).all isS && decide ((((ws.map D.str).map sOf).map fun x => x.length).sum + (ws.map D.str).length * z.length ≤ 16777216) then R.ok (D.str (Txt.join z ((ws.map D.str).map sOf))) st else .stuck) = _
  rw [h1, h2, List.length_map, decide_eq_true h]
  rfl
theorem sum_le {n : Nat} : ∀ {ws : List Str}, (∀ x ∈ ws, x.length ≤ n) → (ws.map fun x => x.length).sum ≤ n * ws.length
  | [], _ => by simp
  | w :: ws, h => by
    have h1 := h w (.head _)
    have h2 := sum_le (n := n) (ws := ws) fun x hx => h x (.tail _ hx)
    simp only [List.map_cons, List.sum_cons, List.length_cons, Nat.mul_succ]
    omega
theorem join_len {z : Str} : ∀ (ws : List Str), (Txt.join z ws).length ≤ (ws.map fun x => x.length).sum + ws.length * z.length := by
  intro ws
  rw [TL.join_eq]
  induction ws with
  | nil =>
    show Str.empty.length ≤ _
    have : Str.empty.length = 0 := by decide +kernel
    omega
  | cons w ws ih =>
    cases ws with
    | nil =>
      show w.length ≤ _
      simp
    | cons v ws =>
      show (w ++ z ++ Str.join z (v :: ws)).length ≤ _
      rw [str_len, str_len]
      simp only [List.map_cons, List.sum_cons, List.length_cons, Nat.succ_mul] at ih ⊢
      omega
theorem l_nl : (Str.ofString "\n").length = 1 := by decide +kernel
theorem words_len {ws : List Str} (h : ∀ x ∈ ws, low x = true) : (Txt.join (Str.ofString " ") ws).length ≤ 11 * ws.length := by
  have h1 := join_len (z := Str.ofString " ") ws
  have h2 := sum_le (n := 10) (ws := ws) fun x hx => low_len (h x hx)
  rw [l_sp] at h1
  omega
theorem words_join {ws : List Str} {st : Sto} (h : ∀ x ∈ ws, low x = true) (hl : ws.length ≤ 1000) : dJoin (.str " ") (.lst (ws.map D.str)) st = .ok (.str (Txt.join " " ws)) st := by
  refine join_d ?_
  have h2 := sum_le (n := 10) (ws := ws) fun x hx => low_len (h x hx)
  rw [l_sp]
  omega
theorem words_split {ws : List Str} {st : Sto} (h : ∀ x ∈ ws, low x = true) (hn : ws ≠ []) (hl : ws.length ≤ 1000) : dSplit (.str (Txt.join " " ws)) (.str " ") st = .ok (.lst (ws.map D.str)) st := by
  have e : Txt.split (Txt.join (Str.ofString " ") ws) (Str.ofString " ") = ws := TL.split_join (s := 32) (S := []) (by decide +kernel) (by decide +kernel) hn fun p hp => low_nin (h p hp) (by decide +kernel)
  have h1 := words_len h
  have h0 : ((Str.ofString " ").length == 0) = false := by rw [l_sp]; rfl
  have hz : (Txt.join (Str.ofString " ") ws).length + 2 ≤ sizeLine := by rw [sizeLine_eq]; omega
  show (if ((Str.ofString " ").length == 0) = false ∧ (Txt.join (Str.ofString " ") ws).length + 2 ≤ sizeLine then R.ok (D.lst ((Txt.split (Txt.join (Str.ofString " ") ws) (Str.ofString " ")).map D.str)) st else .stuck) = _
  rw [if_pos ⟨h0, hz⟩, e]
/-! #### rows as texts -/
theorem row_str {r : Str × List Str} {st : Sto} (h : RowOk r) : f_Row_str [rowD r] st = .ok (.str (rt r)) st := by
  have hl := h.low
  have h1 := words_len hl
  have hlen : (r.1 :: r.2).length ≤ 5 := by
    rcases h.split with ⟨a, b, c, rfl, _⟩ | ⟨a, b, c, rfl, _⟩ | ⟨a, b, c, d, rfl, _⟩ | ⟨a, b, c, d, rfl, _⟩ <;> simp
  have hz : (rt r).length ≤ sizeLine := by rw [sizeLine_eq]; show (Txt.join (Str.ofString " ") (r.1 :: r.2)).length ≤ _; omega
  have belr : below 0 (rowD r) = true := by
    show belowL 0 (r.2.map D.str ++ [.str (rt r)]) = true
    have := below_strs (r.2 ++ [rt r])
    rwa [List.map_append] at this
  refine call_rt (st' := []) (belowL_cons belr rfl) ?_ rfl
  show m_Row_str [some (rowD r)] [] = _
  revert hz
  rcases h.split with ⟨a, b, c, rfl, _⟩ | ⟨a, b, c, rfl, _⟩ | ⟨a, b, c, d, rfl, _⟩ | ⟨a, b, c, d, rfl, _⟩ <;> intro hz <;> simp [m_Row_str, mRet, mFmt, mFld, mVar, R.bind, dFld, rd, rowD, rowC, rowN, at_text, look, str_eq, hz]
theorem row_words {r : Str × List Str} {st : Sto} {env : S.Env} {i : Nat} (h : RowOk r) (hi : env[i]? = some (some (rowD r))) : mTxt dSplit (mApp (dStrX stc_0 f_Row_str dStr) (mCons (mVar i) mNil)) (mC (.str " ")) env st = .ok (.lst ((r.1 :: r.2).map D.str)) st := by
  have hl := h.low
  have hlen : (r.1 :: r.2).length ≤ 5 := by
    rcases h.split with ⟨a, b, c, rfl, _⟩ | ⟨a, b, c, rfl, _⟩ | ⟨a, b, c, d, rfl, _⟩ | ⟨a, b, c, d, rfl, _⟩ <;> simp
  have e1 : dStrX stc_0 f_Row_str dStr [rowD r] st = .ok (.str (rt r)) st := by
    have e := row_str (st := st) h
    have hc : stc_0.contains (rowC r.1) = true := by
      rcases h.split with ⟨a, b, c, rfl, _⟩ | ⟨a, b, c, rfl, _⟩ | ⟨a, b, c, d, rfl, _⟩ | ⟨a, b, c, d, rfl, _⟩ <;> simp [rowC, str_eq, stc_0]
    show (if stc_0.contains (rowC r.1) = true then (f_Row_str [rowD r] st).bind _ else _) = _
    rw [if_pos hc, e]
    rfl
  have e2 := words_split (st := st) hl (by simp) (by omega)
  have e3 : mApp (dStrX stc_0 f_Row_str dStr) (mCons (mVar i) mNil) env st = .ok (.str (rt r)) st := by
    refine (app_ok (cons_ok ?_ nil_ok)).trans e1
    simp [mVar, hi]
  unfold mTxt
  rw [e3]
  exact e2
end K
namespace K
open PySem L2 S
/-! ### moods -/
def moL (r : Str × List Str) : List Str := ((if r.1 = Str.ofString "begin" then [r.2.getD 2 ""] else [r.2.getD 0 ""]) ++ (if r.1 = Str.ofString "back" then [r.2.getD 3 ""] else [])).filter fun x => !decide (x ∈ [Str.ofString "any", Str.ofString "same"])
theorem nin2 {x : Str} {st : Sto} : dNotIn (.str x) (.tup [.str "any", .str "same"]) st = .ok (.bl (!decide (x ∈ [Str.ofString "any", Str.ofString "same"]))) st := by
  have := inV_strs (x := x) (ws := [Str.ofString "any", Str.ofString "same"])
  simp only [List.map_cons, List.map_nil] at this
  simp only [dNotIn, items, rd, isFl, Bool.true_and, List.all_cons, List.all_nil, if_true, List.map_cons, List.map_nil, fl, this, Bool.and_self]
theorem mo_flt {ws : List Str} {st : Sto} {e0 e1 e2 : Option D} (hl : ws.length ≤ 1000) : mLcGo (.nm 2) [2] (mTest (mBin dNotIn (mVar 2) (mTup (mCons (mC (.str "any")) (mCons (mC (.str "same")) (mNil)))))) (mVar 2) (ws.map D.str) [e0, e1, e2] st [] = .ok ((ws.filter fun x => !decide (x ∈ [Str.ofString "any", Str.ofString "same"])).map D.str) st := by
  refine (lc_filter D.str D.str (fun x => !decide (x ∈ [Str.ofString "any", Str.ofString "same"])) (by rw [sizeLine_eq]; simp; omega) fun x hx => ⟨_, rfl, ?_, fun _ => rfl⟩).trans (by rw [List.nil_append])
  have e : mBin dNotIn (mVar 2) (mTup (mCons (mC (.str "any")) (mCons (mC (.str "same")) (mNil)))) [e0, e1, some (.str x)] st = .ok (.bl (!decide (x ∈ [Str.ofString "any", Str.ofString "same"]))) st := by
    refine (bin_ok (d := .str x) (e := .tup [.str "any", .str "same"]) rfl ?_).trans nin2
    simp [mTup, mCons, mC, mNil, R.bind, sizeLine_eq]
  show (mBin dNotIn (mVar 2) (mTup (mCons (mC (.str "any")) (mCons (mC (.str "same")) (mNil)))) [e0, e1, some (.str x)] st).bind _ = _
  rw [e]
  rfl
theorem moods_r {r : Str × List Str} {st : Sto} (h : RowOk r) : f_moods_of [.lst ((r.1 :: r.2).map D.str)] st = .ok (.lst ((moL r).map D.str)) st := by
  refine call_rt (st' := []) (belowL_cons (below_strs _) rfl) ?_ (below_strs _)
  have f3 : ∀ {ws : List Str} {e0 : Option D}, ws.length ≤ 1000 → mRet (mLc (.nm 2) [2] (mItAny (mVar 1)) (mTest (mBin dNotIn (mVar 2) (mTup (mCons (mC (.str "any")) (mCons (mC (.str "same")) (mNil)))))) (mVar 2)) [e0, some (.lst (ws.map D.str)), none] [] = .rt (.lst ((ws.filter fun x => !decide (x ∈ [Str.ofString "any", Str.ofString "same"])).map D.str)) [] := fun {ws e0} hl => by
    refine ret_ok ?_
    have hi : mItAny (mVar 1) [e0, some (.lst (ws.map D.str)), none] [] = .ok (ws.map D.str) [] := by simp [mItAny, mVar, R.bind, itemsF]
    unfold mLc
    rw [hi]
    simp only [R.bind, mo_flt hl]
  rcases h.split with ⟨a, b, c, rfl, _⟩ | ⟨a, b, c, rfl, _⟩ | ⟨a, b, c, d, rfl, _⟩ | ⟨a, b, c, d, rfl, _⟩
  · show m_moods_of [some (.lst [.str "begin", .str a, .str b, .str c]), none, none] [] = _
    unfold m_moods_of
    refine (seq_nx (set_ok (d := .lst [.str c]) (st' := []) (by simp [mIf, mTest, mBin, mVar, mC, R.bind, dIx, rd, atI, ixN, eq_strs, mLst, mCons, mNil, sizeLine_eq]))).trans ?_
    refine (seq_nx (set_ok (d := .lst [.str c]) (st' := []) (by simp [mIf, mTest, mBin, mVar, mC, R.bind, dIx, rd, atI, ixN, eq_strs, str_eq]))).trans ?_
    refine (f3 (ws := [c]) (by simp)).trans ?_
    simp [moL, str_eq]
  · show m_moods_of [some (.lst [.str "send", .str a, .str b, .str c]), none, none] [] = _
    unfold m_moods_of
    refine (seq_nx (set_ok (d := .lst [.str a]) (st' := []) (by simp [mIf, mTest, mBin, mVar, mC, R.bind, dIx, rd, atI, ixN, eq_strs, mLst, mCons, mNil, sizeLine_eq, str_eq]))).trans ?_
    refine (seq_nx (set_ok (d := .lst [.str a]) (st' := []) (by simp [mIf, mTest, mBin, mVar, mC, R.bind, dIx, rd, atI, ixN, eq_strs, str_eq]))).trans ?_
    refine (f3 (ws := [a]) (by simp)).trans ?_
    simp [moL, str_eq]
  · show m_moods_of [some (.lst [.str "back", .str a, .str b, .str c, .str d]), none, none] [] = _
    unfold m_moods_of
    refine (seq_nx (set_ok (d := .lst [.str a]) (st' := []) (by simp [mIf, mTest, mBin, mVar, mC, R.bind, dIx, rd, atI, ixN, eq_strs, mLst, mCons, mNil, sizeLine_eq, str_eq]))).trans ?_
    refine (seq_nx (set_ok (d := .lst [.str a, .str d]) (st' := []) (by simp [mIf, mTest, mBin, mVar, mC, R.bind, dIx, rd, atI, ixN, eq_strs, mLst, mStar, items, mCons, mNil, sizeLine_eq, str_eq]))).trans ?_
    refine (f3 (ws := [a, d]) (by simp)).trans ?_
    simp [moL, str_eq]
  · show m_moods_of [some (.lst [.str "end", .str a, .str b, .str c, .str d]), none, none] [] = _
    unfold m_moods_of
    refine (seq_nx (set_ok (d := .lst [.str a]) (st' := []) (by simp [mIf, mTest, mBin, mVar, mC, R.bind, dIx, rd, atI, ixN, eq_strs, mLst, mCons, mNil, sizeLine_eq, str_eq]))).trans ?_
    refine (seq_nx (set_ok (d := .lst [.str a]) (st' := []) (by simp [mIf, mTest, mBin, mVar, mC, R.bind, dIx, rd, atI, ixN, eq_strs, str_eq]))).trans ?_
    refine (f3 (ws := [a]) (by simp)).trans ?_
    simp [moL, str_eq]
/-- words, each once, ascending -/
def asc (ws : List Str) : List Str := sortS (addU [] ws)
theorem asc_ok {ws : List Str} {st : Sto} (hl : ws.length < 64) : f_ascending [.lst (ws.map D.str)] st = .ok (.tup ((asc ws).map D.str)) st := by
  refine call_rt (st' := []) (belowL_cons (below_strs ws) rfl) ?_ (below_strs _)
  show m_ascending [some (.lst (ws.map D.str)), none] [] = _
  have hu := addU_len ws []
  have hd : mItDc (.nm 1) [1] (mItAny (mVar 0)) mYes (mVar 1) (mC (.bl true)) [some (.lst (ws.map D.str)), none] [] = .ok ((addU [] ws).map D.str) [] := by
    have hi : mItAny (mVar 0) [some (.lst (ws.map D.str)), none] [] = .ok (ws.map D.str) [] := by simp [mItAny, mVar, R.bind, itemsF]
    have := dc_strs (t := .nm 1) (vs := [1]) (mt := mYes) (mk := mVar 1) (mv := mC (.bl true)) (env := [some (.lst (ws.map D.str)), none]) (st := []) (xs := ws) (acc := []) (by simp; omega) fun x hx => ⟨_, rfl, rfl, rfl, rfl⟩
    simp only [List.map_nil] at this
    unfold mItDc
    rw [hi]
    simp only [R.bind, this, List.map_map]
    rfl
  have hlc : mLc (.nm 1) [1] (mItDc (.nm 1) [1] (mItAny (mVar 0)) mYes (mVar 1) (mC (.bl true))) mYes (mApp dStr (mCons (mVar 1) mNil)) [some (.lst (ws.map D.str)), none] [] = .ok (.lst ((addU [] ws).map D.str)) [] := by
    unfold mLc
    rw [hd]
    have := lc_map (t := .nm 1) (vs := [1]) (mt := mYes) (me := mApp dStr (mCons (mVar 1) mNil)) (env := [some (.lst (ws.map D.str)), none]) (st := []) D.str D.str (xs := addU [] ws) (acc := []) (by rw [sizeLine_eq]; simp at hu ⊢; omega) fun x hx => ⟨_, rfl, rfl, rfl⟩
    simp only [R.bind, this, List.nil_append]
  have hs : dSorted [.lst ((addU [] ws).map D.str)] [] = .ok (.lst ((asc ws).map D.str)) [] := by
    have h1 : ((addU [] ws).map D.str).all isS = true := by simp [isS]
    have h2 : ((addU [] ws).map D.str).map sOf = addU [] ws := by
      rw [List.map_map]
      have : (sOf ∘ D.str) = id := funext fun _ => rfl
      rw [this, List.map_id]
    show (if ((addU [] ws).map D.str).all isS && decide (((addU [] ws).map D.str).length < 64) then R.ok (D.lst ((sortS (((addU [] ws).map D.str).map sOf)).map D.str)) [] else .stuck) = _
    rw [h1, h2, List.length_map, decide_eq_true (by simp at hu; omega)]
    rfl
  unfold m_ascending
  refine ret_ok ?_
  have e1 : mApp dSorted (mCons (mLc (.nm 1) [1] (mItDc (.nm 1) [1] (mItAny (mVar 0)) mYes (mVar 1) (mC (.bl true))) mYes (mApp dStr (mCons (mVar 1) mNil))) mNil) [some (.lst (ws.map D.str)), none] [] = .ok (.lst ((asc ws).map D.str)) [] := (app_ok (cons_ok hlc nil_ok)).trans hs
  refine (app_ok (cons_ok e1 nil_ok)).trans ?_
  simp [dTuple, items, rd]
end K
namespace K
open PySem L2 S
/-! ### a service, made -/
structure Sv where
  nm : Str
  ks : List Str
  ws : List Str
  ls : List Str
  rs : List (Str × List Str)
structure NmL (xs : List Str) : Prop where
  nm : ∀ x ∈ xs, isName x = true
  nd : xs.Nodup
  len : xs.length ≤ 30
structure SvOk (s : Sv) : Prop where
  nm : isName s.nm = true
  ks : NmL s.ks
  k0 : s.ks ≠ []
  ws : NmL s.ws
  ls : NmL s.ls
  rs : ∀ r ∈ s.rs, RowOk r
  rl : s.rs.length ≤ 30
theorem NmL.low {xs : List Str} (h : NmL xs) : ∀ x ∈ xs, K.low x = true := fun x hx => low_name (h.nm x hx)
def svMo (s : Sv) : List Str := asc ("calm" :: s.rs.flatMap moL)
def svHead (s : Sv) : List Str := Txt.join " " ("service" :: s.nm :: s.ks) :: ((if s.ws = [] then [] else [Txt.join " " ("waits" :: s.ws)]) ++ (if s.ls = [] then [] else [Txt.join " " ("leaves" :: s.ls)]))
def svLines (s : Sv) : List Str := svHead s ++ s.rs.map rt
def svText (s : Sv) : Str := Txt.join "\n" (svLines s)
def wdD (r : Str × List Str) : D := .lst ((r.1 :: r.2).map D.str)
def svNs : List Str := ["name", "kinds", "waits", "leaves", "rows", "told", "moods", "text"]
def svEs (s : Sv) : List D := [.str s.nm, .tup (s.ks.map D.str), .tup (s.ws.map D.str), .tup (s.ls.map D.str), .tup (s.rs.map rowD), .lst (s.rs.map wdD), .tup ((svMo s).map D.str), .str (svText s)]
def svD (s : Sv) : D := .ins 5 svNs (svEs s)
theorem bel_row (r : Str × List Str) : below 0 (rowD r) = true := by
  show belowL 0 (r.2.map D.str ++ [.str (rt r)]) = true
  have := below_strs (r.2 ++ [rt r])
  rwa [List.map_append] at this
theorem bel_map {α : Type} {f : α → D} (h : ∀ a, below 0 (f a) = true) : ∀ xs : List α, belowL 0 (xs.map f) = true
  | [] => rfl
  | x :: xs => belowL_cons (h x) (bel_map h xs)
theorem bel_sv (s : Sv) : belowL 0 (svEs s) = true :=
  belowL_cons rfl (belowL_cons (below_strs _) (belowL_cons (below_strs _) (belowL_cons (below_strs _) (belowL_cons (bel_map bel_row _) (belowL_cons (bel_map (f := wdD) (fun r => below_strs (r.1 :: r.2)) _) (belowL_cons (below_strs _) (belowL_cons rfl rfl)))))))
theorem need2_ok {w : Str} {st : Sto} : f_need_24 [.bl true, .str w] st = .ok .non st := call_nx (st' := []) (env := [some (.bl true), some (.str w)]) rfl rfl
theorem seq_need2 {e : M} {w : Str} {env : S.Env} {st : Sto} {r : MS} (h : e env st = .ok (.bl true) st) : mSeq (mDo (mCall 2 f_need_24 [] (mCons e (mCons (mC (.str w)) mNil)))) r env st = r env st :=
  seq_nx (do_ok (call_ok (cons_ok h (cons_ok rfl nil_ok)) rfl need2_ok))
section
variable {s : Sv} {b1 b2 b3 b4 : Bool} {e6 e7 e8 e9 : Option D} {st : Sto}
def senv (s : Sv) (b1 b2 b3 b4 : Bool) (e6 e7 e8 e9 : Option D) : S.Env := [some (.ptr 0), some (.str s.nm), some (sq b1 (s.ks.map D.str)), some (sq b2 (s.ws.map D.str)), some (sq b3 (s.ls.map D.str)), some (sq b4 (s.rs.map rowD)), e6, e7, e8, e9]
theorem s_rows (h : SvOk s) : mAnd (mCall 1 f_is_sequence [] (mCons (mVar 5) mNil)) (mApp dAll (mCons (mLc (.nm 7) [7] (mItAny (mVar 5)) mYes (mIsi ki_Row (mVar 7))) mNil)) (senv s b1 b2 b3 b4 e6 e7 e8 e9) st = .ok (.bl true) st := by
  have e1 : mCall 1 f_is_sequence [] (mCons (mVar 5) mNil) (senv s b1 b2 b3 b4 e6 e7 e8 e9) st = .ok (.bl true) st := call_ok (ds := [sq b4 (s.rs.map rowD)]) (cons_ok rfl nil_ok) rfl (seq_is (bel_map bel_row _))
  have e2 : mLc (.nm 7) [7] (mItAny (mVar 5)) mYes (mIsi ki_Row (mVar 7)) (senv s b1 b2 b3 b4 e6 e7 e8 e9) st = .ok (.lst (s.rs.map fun _ => D.bl true)) st := by
    unfold mLc
    rw [sq_any (b := b4) (xs := s.rs.map rowD) rfl]
    have := lc_map (t := .nm 7) (vs := [7]) (mt := mYes) (me := mIsi ki_Row (mVar 7)) (env := senv s b1 b2 b3 b4 e6 e7 e8 e9) (st := st) rowD (fun _ => D.bl true) (xs := s.rs) (acc := []) (by rw [sizeLine_eq]; have := h.rl; simp; omega) fun r hr => by
      refine ⟨_, rfl, rfl, ?_⟩
      show dIsi ki_Row (rowD r) st = _
      rcases (h.rs r hr).split with ⟨a, b, c, rfl, _⟩ | ⟨a, b, c, rfl, _⟩ | ⟨a, b, c, d, rfl, _⟩ | ⟨a, b, c, d, rfl, _⟩ <;> simp [dIsi, rd, rowD, rowC, str_eq, tyD, ki_Row]
    simp only [R.bind, this, List.nil_append]
  have e3 : mApp dAll (mCons (mLc (.nm 7) [7] (mItAny (mVar 5)) mYes (mIsi ki_Row (mVar 7))) mNil) (senv s b1 b2 b3 b4 e6 e7 e8 e9) st = .ok (.bl true) st := by
    refine (app_ok (cons_ok e2 nil_ok)).trans ?_
    have := all_bls (st := st) (bs := s.rs.map fun _ => true)
    rw [List.map_map, bls_true] at this
    exact this
  unfold mAnd
  rw [e1]
  exact e3
theorem s_kinds (h : SvOk s) : mAnd (mCall 1 f_are_names [] (mCons (mVar 2) mNil)) (mBin dGt (mApp dLen (mCons (mVar 2) mNil)) (mC (.int 0))) (senv s b1 b2 b3 b4 e6 e7 e8 e9) st = .ok (.bl true) st := by
  have e1 : mCall 1 f_are_names [] (mCons (mVar 2) mNil) (senv s b1 b2 b3 b4 e6 e7 e8 e9) st = .ok (.bl true) st := call_ok (ds := [sq b1 (s.ks.map D.str)]) (cons_ok rfl nil_ok) rfl (names_are h.ks.nm h.ks.nd (by have := h.ks.len; omega))
  have hp := List.length_pos_iff.mpr h.k0
  have e2 : mBin dGt (mApp dLen (mCons (mVar 2) mNil)) (mC (.int 0)) (senv s b1 b2 b3 b4 e6 e7 e8 e9) st = .ok (.bl true) st := by
    refine (bin_ok ((app_ok (ds := [sq b1 (s.ks.map D.str)]) (cons_ok rfl nil_ok)).trans sq_len) rfl).trans ?_
    simp [dGt, dI]
    exact hp
  unfold mAnd
  rw [e1]
  exact e2
theorem s_needs (h : SvOk s) : m_Service_init (senv s b1 b2 b3 b4 e6 e7 e8 e9) st = p_Service_init_7 (senv s b1 b2 b3 b4 e6 e7 e8 e9) st := by
  have e1 : mCall 1 f_is_name [] (mCons (mVar 1) mNil) (senv s b1 b2 b3 b4 e6 e7 e8 e9) st = .ok (.bl true) st := call_ok (ds := [.str s.nm]) (cons_ok rfl nil_ok) rfl ((name_str (by have := low_len (low_name h.nm); omega)).trans (by rw [h.nm]))
  have e3 : mCall 1 f_are_names [] (mCons (mVar 3) mNil) (senv s b1 b2 b3 b4 e6 e7 e8 e9) st = .ok (.bl true) st := call_ok (ds := [sq b2 (s.ws.map D.str)]) (cons_ok rfl nil_ok) rfl (names_are h.ws.nm h.ws.nd (by have := h.ws.len; omega))
  have e4 : mCall 1 f_are_names [] (mCons (mVar 4) mNil) (senv s b1 b2 b3 b4 e6 e7 e8 e9) st = .ok (.bl true) st := call_ok (ds := [sq b3 (s.ls.map D.str)]) (cons_ok rfl nil_ok) rfl (names_are h.ls.nm h.ls.nd (by have := h.ls.len; omega))
  unfold m_Service_init
  rw [seq_need2 e1, seq_need2 (s_kinds h), seq_need2 e3, seq_need2 e4, seq_need2 (s_rows h)]
/-- a field is set on the one cell -/
theorem setf_ok {ok : Nat → Bool} {f : Str} {mv : M} {env : S.Env} {c : Nat} {ns : List Str} {es : List D} {d : D} {r : MS} (h0 : env[0]? = some (some (.ptr 0))) (hc : ok c = true) (hn : ns.length < 1000) (h : mv env [.ins c ns es] = .ok d [.ins c ns es]) : mSeq (mSetF ok f (mVar 0) mv) r env [.ins c ns es] = r env [.ins c (putN f ns) (putX f d ns es)] := by
  refine seq_nx (do_ok (d := .non) ?_)
  refine (bin_ok h (e := .ptr 0) (st2 := [.ins c ns es]) (by simp [mVar, h0])).trans ?_
  simp [dPutF, hc, hn]
theorem setl_ok {ok : Nat → Bool} {f : Str} {mv : M} {env : S.Env} {c : Nat} {ns : List Str} {es : List D} {d : D} (h0 : env[0]? = some (some (.ptr 0))) (hc : ok c = true) (hn : ns.length < 1000) (h : mv env [.ins c ns es] = .ok d [.ins c ns es]) : mSetF ok f (mVar 0) mv env [.ins c ns es] = .nx env [.ins c (putN f ns) (putX f d ns es)] := by
  refine do_ok (d := .non) ?_
  refine (bin_ok h (e := .ptr 0) (st2 := [.ins c ns es]) (by simp [mVar, h0])).trans ?_
  simp [dPutF, hc, hn]
theorem tup_ok {i : Nat} {b : Bool} {xs : List D} {env : S.Env} (h : env[i]? = some (some (sq b xs))) : mApp dTuple (mCons (mVar i) mNil) env st = .ok (.tup xs) st := by
  refine (app_ok (ds := [sq b xs]) (st1 := st) (cons_ok (st1 := st) (by simp [mVar, h]) nil_ok)).trans ?_
  show (match items st (sq b xs) with | some xs => R.ok (D.tup xs) st | none => .stuck) = _
  rw [sq_items]
def ns5 : List Str := ["name", "kinds", "waits", "leaves", "rows"]
def es5 (s : Sv) : List D := [.str s.nm, .tup (s.ks.map D.str), .tup (s.ws.map D.str), .tup (s.ls.map D.str), .tup (s.rs.map rowD)]
theorem s_p7 : p_Service_init_7 (senv s b1 b2 b3 b4 e6 e7 e8 e9) [.ins 5 [] []] = p_Service_init_6 (senv s b1 b2 b3 b4 e6 e7 e8 e9) [.ins 5 ns5 (es5 s)] := by
  unfold p_Service_init_7
  rw [setf_ok (d := .str s.nm) rfl rfl (by decide) rfl, setf_ok rfl rfl (by decide) (tup_ok (i := 2) (b := b1) rfl)]
  rw [setf_ok rfl rfl (by decide) (tup_ok (i := 3) (b := b2) rfl), setf_ok rfl rfl (by decide) (tup_ok (i := 4) (b := b3) rfl), setf_ok rfl rfl (by decide) (tup_ok (i := 5) (b := b4) rfl)]
  simp [putN, putX, str_eq, ns5, es5]
end
end K
namespace K
open PySem L2 S
theorem star_ok {m : M} {ma : MA} {env : S.Env} {st st1 st2 : Sto} {d : D} {xs ys : List D} (h : m env st = .ok d st1) (hi : items st1 d = some xs) (h' : ma env st1 = .ok ys st2) : mStar m ma env st = .ok (xs ++ ys) st2 := by
  unfold mStar
  rw [h]
  show (match items st1 d with | some xs => (ma env st1).bind fun r st2 => R.ok (xs ++ r) st2 | none => .stuck) = _
  rw [hi, h']
  rfl
theorem lst_ok {ma : MA} {env : S.Env} {st st1 : Sto} {ds : List D} (h : ma env st = .ok ds st1) (hl : ds.length ≤ 100000) : mLst ma env st = .ok (.lst ds) st1 := by
  unfold mLst
  rw [h]
  show (if ds.length ≤ sizeLine then R.ok (D.lst ds) st1 else .stuck) = _
  rw [if_pos (by rw [sizeLine_eq]; omega)]
theorem txt_ok {f : D → D → Sto → R D} {m n : M} {env : S.Env} {st st1 st2 : Sto} {z : Str} {d : D} (h : m env st = .ok (.str z) st1) (h' : n env st1 = .ok d st2) : mTxt f m n env st = f (.str z) d st2 := by
  unfold mTxt
  rw [h]
  show R.bind (n env st1) _ = _
  rw [h']
  rfl
section
variable {s : Sv} {b1 b2 b3 b4 : Bool} {e6 e7 e8 e9 : Option D} {st : Sto}
theorem fld_ok {ok : Nat → Bool} {f : Str} {env : S.Env} {c : Nat} {ns : List Str} {es : List D} {d : D} (h0 : env[0]? = some (some (.ptr 0))) (hc : ok c = true) (h : look f ns es = some d) : mFld ok f (mVar 0) env [.ins c ns es] = .ok d [.ins c ns es] := by
  simp [mFld, mVar, h0, R.bind, dFld, rd, hc, h]
theorem it_fld {ok : Nat → Bool} {f : Str} {env : S.Env} {c : Nat} {ns : List Str} {es xs : List D} {d : D} (h0 : env[0]? = some (some (.ptr 0))) (hc : ok c = true) (h : look f ns es = some d) (hd : d = .lst xs ∨ d = .tup xs) : mItAny (mFld ok f (mVar 0)) env [.ins c ns es] = .ok xs [.ins c ns es] := by
  unfold mItAny
  rw [fld_ok h0 hc h]
  rcases hd with rfl | rfl <;> rfl
def ns6 : List Str := ["name", "kinds", "waits", "leaves", "rows", "told"]
def es6 (s : Sv) : List D := es5 s ++ [.lst (s.rs.map wdD)]
theorem s_p6 (h : SvOk s) : p_Service_init_6 (senv s b1 b2 b3 b4 e6 e7 e8 e9) [.ins 5 ns5 (es5 s)] = p_Service_init_5 (senv s b1 b2 b3 b4 e6 e7 e8 e9) [.ins 5 ns6 (es6 s)] := by
  have e : mLc (.nm 7) [7] (mItAny (mFld at_rows "rows" (mVar 0))) mYes (mTxt dSplit (mApp (dStrX stc_0 f_Row_str dStr) (mCons (mVar 7) mNil)) (mC (.str " "))) (senv s b1 b2 b3 b4 e6 e7 e8 e9) [.ins 5 ns5 (es5 s)] = .ok (.lst (s.rs.map wdD)) [.ins 5 ns5 (es5 s)] := by
    unfold mLc
    rw [it_fld (xs := s.rs.map rowD) (d := .tup (s.rs.map rowD)) rfl rfl (by simp [look, ns5, es5, str_eq]) (.inr rfl)]
    have := lc_map (t := .nm 7) (vs := [7]) (mt := mYes) (me := mTxt dSplit (mApp (dStrX stc_0 f_Row_str dStr) (mCons (mVar 7) mNil)) (mC (.str " "))) (env := senv s b1 b2 b3 b4 e6 e7 e8 e9) (st := [.ins 5 ns5 (es5 s)]) rowD wdD (xs := s.rs) (acc := []) (by rw [sizeLine_eq]; have := h.rl; simp; omega) fun r hr => ⟨_, rfl, rfl, row_words (h.rs r hr) rfl⟩
    simp only [R.bind, this, List.nil_append]
  unfold p_Service_init_6
  rw [setf_ok rfl rfl (by decide) e]
  simp [putN, putX, str_eq, ns5, es5, ns6, es6]
def ns7 : List Str := ["name", "kinds", "waits", "leaves", "rows", "told", "moods"]
def es7 (s : Sv) : List D := es5 s ++ [.lst (s.rs.map wdD), .tup ((svMo s).map D.str)]
theorem mo_len (r : Str × List Str) : (moL r).length ≤ 2 := by
  unfold moL
  refine Nat.le_trans (List.length_filter_le _ _) ?_
  split <;> split <;> simp
theorem flat_len {α β : Type} {f : α → List β} {n : Nat} (h : ∀ a, (f a).length ≤ n) : ∀ xs : List α, (xs.flatMap f).length ≤ n * xs.length
  | [] => by simp
  | x :: xs => by
    have h1 := h x
    have h2 := flat_len h xs
    rw [List.flatMap_cons, List.length_append, List.length_cons, Nat.mul_succ]
    omega
theorem s_p5 (h : SvOk s) : p_Service_init_5 (senv s b1 b2 b3 b4 e6 e7 e8 e9) [.ins 5 ns6 (es6 s)] = p_Service_init_4 (senv s b1 b2 b3 b4 e6 e7 e8 e9) [.ins 5 ns7 (es7 s)] := by
  have hfl := flat_len (n := 2) mo_len s.rs
  have hrl := h.rl
  have e1 : mLc2 (.nm 8) [8, 9] (mItAny (mFld at_told "told" (mVar 0))) mYes (.nm 9) [9] (mItAny (mCall 1 f_moods_of [] (mCons (mVar 8) mNil))) mYes (mVar 9) (senv s b1 b2 b3 b4 e6 e7 e8 e9) [.ins 5 ns6 (es6 s)] = .ok (.lst ((s.rs.flatMap moL).map D.str)) [.ins 5 ns6 (es6 s)] := by
    unfold mLc2
    rw [it_fld (xs := s.rs.map wdD) (d := .lst (s.rs.map wdD)) rfl rfl (by simp [look, ns6, es6, es5, str_eq]) (.inl rfl)]
    have := lc2_map (t := .nm 8) (vs := [8, 9]) (mt := mYes) (t1 := .nm 9) (vs1 := [9]) (mi1 := mItAny (mCall 1 f_moods_of [] (mCons (mVar 8) mNil))) (mt1 := mYes) (me := mVar 9) (env := senv s b1 b2 b3 b4 e6 e7 e8 e9) (st := [.ins 5 ns6 (es6 s)]) wdD moL D.str D.str (xs := s.rs) (acc := []) (by rw [sizeLine_eq]; simp only [List.length_nil]; omega) fun r hr => by
      refine ⟨_, rfl, rfl, ?_, fun b hb => ⟨_, rfl, rfl, rfl⟩⟩
      have e : mCall 1 f_moods_of [] (mCons (mVar 8) mNil) [some (.ptr 0), some (.str s.nm), some (sq b1 (s.ks.map D.str)), some (sq b2 (s.ws.map D.str)), some (sq b3 (s.ls.map D.str)), some (sq b4 (s.rs.map rowD)), e6, e7, some (wdD r), none] [.ins 5 ns6 (es6 s)] = .ok (.lst ((moL r).map D.str)) [.ins 5 ns6 (es6 s)] := call_ok (ds := [wdD r]) (cons_ok rfl nil_ok) rfl (moods_r (h.rs r hr))
      show mItAny (mCall 1 f_moods_of [] (mCons (mVar 8) mNil)) [some (.ptr 0), some (.str s.nm), some (sq b1 (s.ks.map D.str)), some (sq b2 (s.ws.map D.str)), some (sq b3 (s.ls.map D.str)), some (sq b4 (s.rs.map rowD)), e6, e7, some (wdD r), none] _ = _
      unfold mItAny
      rw [e]
      rfl
    simp only [R.bind, this, List.nil_append]
  have e2 : mLst (mCons (mC (.str "calm")) (mStar (mLc2 (.nm 8) [8, 9] (mItAny (mFld at_told "told" (mVar 0))) mYes (.nm 9) [9] (mItAny (mCall 1 f_moods_of [] (mCons (mVar 8) mNil))) mYes (mVar 9)) mNil)) (senv s b1 b2 b3 b4 e6 e7 e8 e9) [.ins 5 ns6 (es6 s)] = .ok (.lst (((Str.ofString "calm") :: s.rs.flatMap moL).map D.str)) [.ins 5 ns6 (es6 s)] := by
    refine (lst_ok (cons_ok rfl (star_ok e1 rfl nil_ok)) (by simp only [List.length_cons, List.length_append, List.length_map, List.length_nil]; omega)).trans ?_
    simp
  have e4 : mCall 1 f_ascending [] (mCons (mLst (mCons (mC (.str "calm")) (mStar (mLc2 (.nm 8) [8, 9] (mItAny (mFld at_told "told" (mVar 0))) mYes (.nm 9) [9] (mItAny (mCall 1 f_moods_of [] (mCons (mVar 8) mNil))) mYes (mVar 9)) mNil))) mNil) (senv s b1 b2 b3 b4 e6 e7 e8 e9) [.ins 5 ns6 (es6 s)] = .ok (.tup ((svMo s).map D.str)) [.ins 5 ns6 (es6 s)] :=
    call_ok (cons_ok e2 nil_ok) rfl (asc_ok (by simp only [List.length_cons]; omega))
  unfold p_Service_init_5
  rw [setf_ok rfl rfl (by decide) e4]
  simp [putN, putX, str_eq, ns6, es6, es5, ns7, es7]
/-- lines of words -/
theorem line_ok {w : Str} {ma : MA} {env : S.Env} {st : Sto} {ws : List Str} (h : ma env st = .ok (ws.map D.str) st) (hw : low w = true) (hl : ∀ x ∈ ws, low x = true) (hn : ws.length ≤ 900) : mTxt dJoin (mC (.str " ")) (mLst (mCons (mC (.str w)) ma)) env st = .ok (.str (Txt.join " " (w :: ws))) st := by
  refine (txt_ok rfl (lst_ok (ds := (w :: ws).map D.str) (cons_ok rfl h) (by simp; omega))).trans ?_
  exact words_join (fun x hx => by
    rcases List.mem_cons.mp hx with rfl | hx
    · exact hw
    · exact hl x hx) (by simp; omega)
theorem s_p4 (h : SvOk s) : p_Service_init_4 (senv s b1 b2 b3 b4 e6 e7 e8 e9) st = p_Service_init_3 (senv s b1 b2 b3 b4 (some (.lst [.str (Txt.join " " ("service" :: s.nm :: s.ks))])) e7 e8 e9) st := by
  have hk := h.ks.len
  have e : mTxt dJoin (mC (.str " ")) (mLst (mCons (mC (.str "service")) (mCons (mVar 1) (mStar (mVar 2) mNil)))) (senv s b1 b2 b3 b4 e6 e7 e8 e9) st = .ok (.str (Txt.join " " ("service" :: s.nm :: s.ks))) st := by
    refine line_ok (ws := s.nm :: s.ks) ?_ (by decide +kernel) (fun x hx => ?_) (by simp; omega)
    · refine (cons_ok rfl (star_ok (d := sq b1 (s.ks.map D.str)) rfl sq_items nil_ok)).trans ?_
      simp
    · rcases List.mem_cons.mp hx with rfl | hx
      · exact low_name h.nm
      · exact h.ks.low x hx
  unfold p_Service_init_4
  exact seq_nx (set_ok (lst_ok (cons_ok e nil_ok) (by simp)))
theorem s_p32 {ls : List Str} {e0 : Option D} (hn : NmL s.ws) (hl : ls.length ≤ 100) : p_Service_init_3 (senv s b1 b2 b3 b4 (some (.lst (ls.map D.str))) e7 e8 e9) st = p_Service_init_2 (senv s b1 b2 b3 b4 (some (.lst ((ls ++ (if s.ws = [] then [] else [Txt.join (Str.ofString " ") (Str.ofString "waits" :: s.ws)])).map D.str))) e7 e8 e9) st := by
  have hk := hn.len
  unfold p_Service_init_3
  refine seq_nx (set_ok ?_)
  have ht : mTest (mBin dGt (mApp dLen (mCons (mVar 3) mNil)) (mC (.int 0))) (senv s b1 b2 b3 b4 (some (.lst (ls.map D.str))) e7 e8 e9) st = .ok (decide (0 < s.ws.length)) st := by
    have : mBin dGt (mApp dLen (mCons (mVar 3) mNil)) (mC (.int 0)) (senv s b1 b2 b3 b4 (some (.lst (ls.map D.str))) e7 e8 e9) st = .ok (.bl (decide (0 < s.ws.length))) st := by
      refine (bin_ok ((app_ok (ds := [sq b2 (s.ws.map D.str)]) (cons_ok rfl nil_ok)).trans sq_len) rfl).trans ?_
      simp [dGt, dI]
    unfold mTest
    rw [this]
    rfl
  unfold mIf
  rw [ht]
  by_cases q : s.ws = []
  · rw [if_pos q, q, List.append_nil]
    rfl
  · rw [if_neg q, decide_eq_true (List.length_pos_iff.mpr q)]
    show mLst _ _ _ = _
    have e : mTxt dJoin (mC (.str " ")) (mLst (mCons (mC (.str "waits")) (mStar (mVar 3) mNil))) (senv s b1 b2 b3 b4 (some (.lst (ls.map D.str))) e7 e8 e9) st = .ok (.str (Txt.join " " ("waits" :: s.ws))) st :=
      line_ok (ws := s.ws) ((star_ok (d := sq b2 (s.ws.map D.str)) rfl sq_items nil_ok).trans (by simp)) (by decide +kernel) hn.low (by omega)
    refine (lst_ok (star_ok (d := .lst (ls.map D.str)) rfl rfl (cons_ok e nil_ok)) (by simp; omega)).trans ?_
    simp
theorem s_p21 {ls : List Str} (hn : NmL s.ls) (hl : ls.length ≤ 100) : p_Service_init_2 (senv s b1 b2 b3 b4 (some (.lst (ls.map D.str))) e7 e8 e9) st = p_Service_init_1 (senv s b1 b2 b3 b4 (some (.lst ((ls ++ (if s.ls = [] then [] else [Txt.join (Str.ofString " ") (Str.ofString "leaves" :: s.ls)])).map D.str))) e7 e8 e9) st := by
  have hk := hn.len
  unfold p_Service_init_2
  refine seq_nx (set_ok ?_)
  have ht : mTest (mBin dGt (mApp dLen (mCons (mVar 4) mNil)) (mC (.int 0))) (senv s b1 b2 b3 b4 (some (.lst (ls.map D.str))) e7 e8 e9) st = .ok (decide (0 < s.ls.length)) st := by
    have : mBin dGt (mApp dLen (mCons (mVar 4) mNil)) (mC (.int 0)) (senv s b1 b2 b3 b4 (some (.lst (ls.map D.str))) e7 e8 e9) st = .ok (.bl (decide (0 < s.ls.length))) st := by
      refine (bin_ok ((app_ok (ds := [sq b3 (s.ls.map D.str)]) (cons_ok rfl nil_ok)).trans sq_len) rfl).trans ?_
      simp [dGt, dI]
    unfold mTest
    rw [this]
    rfl
  unfold mIf
  rw [ht]
  by_cases q : s.ls = []
  · rw [if_pos q, q, List.append_nil]
    rfl
  · rw [if_neg q, decide_eq_true (List.length_pos_iff.mpr q)]
    show mLst _ _ _ = _
    have e : mTxt dJoin (mC (.str " ")) (mLst (mCons (mC (.str "leaves")) (mStar (mVar 4) mNil))) (senv s b1 b2 b3 b4 (some (.lst (ls.map D.str))) e7 e8 e9) st = .ok (.str (Txt.join " " ("leaves" :: s.ls))) st :=
      line_ok (ws := s.ls) ((star_ok (d := sq b3 (s.ls.map D.str)) rfl sq_items nil_ok).trans (by simp)) (by decide +kernel) hn.low (by omega)
    refine (lst_ok (star_ok (d := .lst (ls.map D.str)) rfl rfl (cons_ok e nil_ok)) (by simp; omega)).trans ?_
    simp
end
end K
namespace K
open PySem L2 S
section
variable {s : Sv} {b1 b2 b3 b4 : Bool} {e6 e7 e8 e9 : Option D} {st : Sto}
theorem SvOk.head_len (h : SvOk s) : (svHead s).length ≤ 3 ∧ ∀ x ∈ svHead s, x.length ≤ 400 := by
  have hk := h.ks.len; have hw := h.ws.len; have hl := h.ls.len
  have l0 : (Txt.join (Str.ofString " ") (Str.ofString "service" :: s.nm :: s.ks)).length ≤ 400 := by
    have := words_len (ws := Str.ofString "service" :: s.nm :: s.ks) fun x hx => by
      rcases List.mem_cons.mp hx with rfl | hx
      · decide +kernel
      · rcases List.mem_cons.mp hx with rfl | hx
        · exact low_name h.nm
        · exact h.ks.low x hx
    simp at this
    omega
  have l1 : (Txt.join (Str.ofString " ") (Str.ofString "waits" :: s.ws)).length ≤ 400 := by
    have := words_len (ws := Str.ofString "waits" :: s.ws) fun x hx => by
      rcases List.mem_cons.mp hx with rfl | hx
      · decide +kernel
      · exact h.ws.low x hx
    simp at this
    omega
  have l2 : (Txt.join (Str.ofString " ") (Str.ofString "leaves" :: s.ls)).length ≤ 400 := by
    have := words_len (ws := Str.ofString "leaves" :: s.ls) fun x hx => by
      rcases List.mem_cons.mp hx with rfl | hx
      · decide +kernel
      · exact h.ls.low x hx
    simp at this
    omega
  unfold svHead
  by_cases q1 : s.ws = [] <;> by_cases q2 : s.ls = [] <;> simp only [q1, q2, if_true, if_false, List.append_nil, List.nil_append]
  · exact ⟨by simp, fun x hx => by simp at hx; subst hx; exact l0⟩
  · exact ⟨by simp, fun x hx => by
                                         simp at hx
                                         rcases hx with rfl | rfl
                                         · exact l0
                                         · exact l2⟩
  · exact ⟨by simp, fun x hx => by
                                         simp at hx
                                         rcases hx with rfl | rfl
                                         · exact l0
                                         · exact l1⟩
  · exact ⟨by simp, fun x hx => by
                                         simp at hx
                                         rcases hx with rfl | rfl | rfl
                                         · exact l0
                                         · exact l1
                                         · exact l2⟩
theorem RowOk.len {r : Str × List Str} (h : RowOk r) : (rt r).length ≤ 400 := by
  have h1 := words_len h.low
  have hlen : (r.1 :: r.2).length ≤ 5 := by
    rcases h.split with ⟨a, b, c, rfl, _⟩ | ⟨a, b, c, rfl, _⟩ | ⟨a, b, c, d, rfl, _⟩ | ⟨a, b, c, d, rfl, _⟩ <;> simp
  show (Txt.join (Str.ofString " ") (r.1 :: r.2)).length ≤ _
  omega
theorem SvOk.lines_len (h : SvOk s) : (svLines s).length ≤ 33 ∧ ∀ x ∈ svLines s, x.length ≤ 400 := by
  obtain ⟨h1, h2⟩ := h.head_len
  have hr := h.rl
  refine ⟨by unfold svLines; simp; omega, fun x hx => ?_⟩
  rcases List.mem_append.mp hx with hx | hx
  · exact h2 x hx
  · obtain ⟨r, hr, rfl⟩ := List.mem_map.mp hx
    exact (h.rs r hr).len
theorem s_p1 (h : SvOk s) : p_Service_init_1 (senv s b1 b2 b3 b4 (some (.lst ((svHead s).map D.str))) e7 e8 e9) [.ins 5 ns7 (es7 s)] = .nx (senv s b1 b2 b3 b4 (some (.lst ((svHead s).map D.str))) e7 e8 e9) [.ins 5 svNs (svEs s)] := by
  obtain ⟨n1, n2⟩ := h.lines_len
  have hh := h.head_len.1
  have hr := h.rl
  have e1 : mLc (.nm 8) [8] (mItAny (mFld at_told "told" (mVar 0))) mYes (mTxt dJoin (mC (.str " ")) (mVar 8)) (senv s b1 b2 b3 b4 (some (.lst ((svHead s).map D.str))) e7 e8 e9) [.ins 5 ns7 (es7 s)] = .ok (.lst ((s.rs.map rt).map D.str)) [.ins 5 ns7 (es7 s)] := by
    unfold mLc
    rw [it_fld (xs := s.rs.map wdD) (d := .lst (s.rs.map wdD)) rfl rfl (by simp [look, ns7, es7, es5, str_eq]) (.inl rfl)]
    have := lc_map (t := .nm 8) (vs := [8]) (mt := mYes) (me := mTxt dJoin (mC (.str " ")) (mVar 8)) (env := senv s b1 b2 b3 b4 (some (.lst ((svHead s).map D.str))) e7 e8 e9) (st := [.ins 5 ns7 (es7 s)]) wdD (fun r => .str (rt r)) (xs := s.rs) (acc := []) (by rw [sizeLine_eq]; simp; omega) fun r hr => by
      refine ⟨_, rfl, rfl, ?_⟩
      refine (txt_ok rfl (d := wdD r) rfl).trans ?_
      have hlen : (r.1 :: r.2).length ≤ 5 := by
        rcases (h.rs r hr).split with ⟨a, b, c, rfl, _⟩ | ⟨a, b, c, rfl, _⟩ | ⟨a, b, c, d, rfl, _⟩ | ⟨a, b, c, d, rfl, _⟩ <;> simp
      exact words_join (h.rs r hr).low (by omega)
    simp only [R.bind, this, List.nil_append, List.map_map]
    rfl
  have e2 : mLst (mStar (mVar 6) (mStar (mLc (.nm 8) [8] (mItAny (mFld at_told "told" (mVar 0))) mYes (mTxt dJoin (mC (.str " ")) (mVar 8))) mNil)) (senv s b1 b2 b3 b4 (some (.lst ((svHead s).map D.str))) e7 e8 e9) [.ins 5 ns7 (es7 s)] = .ok (.lst ((svLines s).map D.str)) [.ins 5 ns7 (es7 s)] := by
    refine (lst_ok (star_ok (d := .lst ((svHead s).map D.str)) rfl rfl (star_ok e1 rfl nil_ok)) (by simp; omega)).trans ?_
    simp [svLines]
  have e3 : mTxt dJoin (mC (.str "\n")) (mLst (mStar (mVar 6) (mStar (mLc (.nm 8) [8] (mItAny (mFld at_told "told" (mVar 0))) mYes (mTxt dJoin (mC (.str " ")) (mVar 8))) mNil))) (senv s b1 b2 b3 b4 (some (.lst ((svHead s).map D.str))) e7 e8 e9) [.ins 5 ns7 (es7 s)] = .ok (.str (svText s)) [.ins 5 ns7 (es7 s)] := by
    refine (txt_ok rfl e2).trans (join_d ?_)
    have := sum_le n2
    rw [l_nl]
    omega
  unfold p_Service_init_1
  rw [setl_ok rfl rfl (by decide) e3]
  simp [putN, putX, str_eq, ns7, es7, es5, svNs, svEs]
theorem service_run (h : SvOk s) : m_Service_init (senv s b1 b2 b3 b4 none none none none) [.ins 5 [] []] = .nx (senv s b1 b2 b3 b4 (some (.lst ((svHead s).map D.str))) none none none) [.ins 5 svNs (svEs s)] := by
  have hh := h.head_len.1
  rw [s_needs h, s_p7, s_p6 h, s_p5 h, s_p4 h]
  have e1 := s_p32 (s := s) (b1 := b1) (b2 := b2) (b3 := b3) (b4 := b4) (e7 := none) (e8 := none) (e9 := none) (e0 := none) (st := [.ins 5 ns7 (es7 s)]) (ls := [Txt.join " " ("service" :: s.nm :: s.ks)]) h.ws (by simp)
  have e2 := s_p21 (s := s) (b1 := b1) (b2 := b2) (b3 := b3) (b4 := b4) (e7 := none) (e8 := none) (e9 := none) (st := [.ins 5 ns7 (es7 s)]) (ls := [Txt.join " " ("service" :: s.nm :: s.ks)] ++ (if s.ws = [] then [] else [Txt.join (Str.ofString " ") (Str.ofString "waits" :: s.ws)])) h.ls (by split <;> simp)
  refine (e1.trans e2).trans ?_
  have e3 : ([Txt.join " " ("service" :: s.nm :: s.ks)] ++ (if s.ws = [] then [] else [Txt.join (Str.ofString " ") (Str.ofString "waits" :: s.ws)])) ++ (if s.ls = [] then [] else [Txt.join (Str.ofString " ") (Str.ofString "leaves" :: s.ls)]) = svHead s := by
    simp [svHead]
  rw [e3]
  exact s_p1 h
theorem service_made (h : SvOk s) : pur (dNewA 5 6 f_Service_init [0, 1, 2, 3, 4, 5]) [.str s.nm, sq b1 (s.ks.map D.str), sq b2 (s.ws.map D.str), sq b3 (s.ls.map D.str), sq b4 (s.rs.map rowD), .tup [], .tup [], .tup []] st = .ok (svD s) st := by
  refine newA_nx (es := [.str s.nm, sq b1 (s.ks.map D.str), sq b2 (s.ws.map D.str), sq b3 (s.ls.map D.str), sq b4 (s.rs.map rowD)]) ?_ rfl rfl (service_run h) (bel_sv s)
  exact belowL_cons rfl (belowL_cons (sq_below (below_strs _)) (belowL_cons (sq_below (below_strs _)) (belowL_cons (sq_below (below_strs _)) (belowL_cons (sq_below (bel_map bel_row _)) rfl))))
end
end K
namespace K
open PySem L2 S
/-! ### some of the names -/
theorem cut_pre {xs : List D} {k : Nat} (h : k ≤ xs.length) : cutD xs none (some (k : Int)) = xs.take k := by
  have e1 : HT.sIx xs.length 0 none = 0 := rfl
  have e2 : HT.sIx xs.length xs.length (some (k : Int)) = k := by
    rw [HT.sIx_nat]
    omega
  unfold cutD
  rw [e1, e2]
  simp
structure Sub (k : Nat) (ms ns : List Str) : Prop where
  len : k ≤ ms.length
  le : ms.length ≤ ns.length
  mem : ∀ x ∈ ms, x ∈ ns
  nd : ns.Nodup → ms.Nodup
theorem some_ok {st : Sto} {i k : Nat} {ns : List Str} (h : Box st i) (hl : ns.length < 20) (hk : k ≤ ns.length) : ∃ ms st', f__law_some [.ptr i, .lst (ns.map D.str), .int k] st = .ok (.lst (ms.map D.str)) st' ∧ Sub k ms ns ∧ Drawn i st st' := by
  have hi := h.lt
  obtain ⟨ys, st1, e1, p1, D1⟩ := mixed_ok (xs := ns.map D.str) h (by simpa using hl)
  obtain ⟨ms, rfl, p⟩ := perm_strs p1
  obtain ⟨r, st2, r1, e2, D2⟩ := take_d (many := (ns.length : Int) + 1 - k) D1.box (by omega) (by omega)
  have hr : k + r ≤ (ms.map D.str).length := by rw [List.length_map, p.length_eq]; omega
  obtain ⟨st3, e3, D3⟩ := (D1.trans D2).gc (d := .lst ((ms.take (k + r)).map D.str)) hi
  refine ⟨ms.take (k + r), st3, ?_, ⟨?_, ?_, ?_, ?_⟩, D3⟩
  · rw [← e3]
    refine call_at rfl ?_ (fun _ h => by cases h)
    show m__law_some [some (.ptr i), some (.lst (ns.map D.str)), some (.int k)] st = _
    refine ret_ok ?_
    have e4 := cut_pre hr
    rw [Int.natCast_add] at e4
    simp [mSl, mCall, mCons, mVar, mNil, R.bind, e1, mNoPart, mPart, mBin, mApp, dLen, items, rd, dAdd, dSub, dI, mC, e2, dSl, e4]
  · simp; rw [p.length_eq]; simp at hr; rw [p.length_eq] at hr; omega
  · simp; rw [p.length_eq]; omega
  · exact fun x hx => p.mem_iff.mp (List.mem_of_mem_take hx)
  · exact fun q => (p.symm.nodup q).sublist (List.take_sublist _ _)
end K
namespace K
open PySem L2 S
/-! ### any service -/
def poolK : List Key := [.inr "mark", .inr "kind", .inr "mood", .inr "service", .inr "sign"]
def pl5 (a b c d e : List Str) (w : Str) : List Str := if w = Str.ofString "mark" then a else if w = Str.ofString "kind" then b else if w = Str.ofString "mood" then c else if w = Str.ofString "service" then d else e
theorem pool5 {a b c d e : List Str} (ha : a ≠ [] ∧ a.length < 1000) (hb : b ≠ [] ∧ b.length < 1000) (hc : c ≠ [] ∧ c.length < 1000) (hd : d ≠ [] ∧ d.length < 1000) (he : e ≠ [] ∧ e.length < 1000) :
    Pool (.dct poolK [.lst (a.map D.str), .lst (b.map D.str), .lst (c.map D.str), .lst (d.map D.str), .lst (e.map D.str)]) (pl5 a b c d e) := by
  have k : ∀ w, pl5 a b c d e w ≠ [] ∧ (pl5 a b c d e w).length < 1000 := fun w => by
    unfold pl5
    split
    · exact ha
    · split
      · exact hb
      · split
        · exact hc
        · split
          · exact hd
          · exact he
  refine ⟨fun w hw st => ?_, fun w _ => (k w).1, fun w _ => (k w).2⟩
  simp only [List.mem_cons, List.not_mem_nil, or_false] at hw
  rcases hw with rfl | rfl | rfl | rfl | rfl <;> simp [dGetK, rd, kOf, lookK, poolK, pl5, str_eq]
def rowT (r : Str × List Str) : D := .tup (.str r.1 :: r.2.map D.str)
def oneK : List Key := [.inr "name", .inr "kinds", .inr "rows", .inr "waits", .inr "leaves"]
def oneD (s : Sv) : D := .dct oneK [.str s.nm, .lst (s.ks.map D.str), .lst (s.rs.map rowT), .lst (s.ws.map D.str), .lst (s.ls.map D.str)]
theorem fits_wok {pl : Str → List Str} {p : Str × List Str} {x : Str} (hp : ∀ w, ∀ x ∈ pl w, isName x = true) (h : Fits pl p x) : wok p x = true := by
  unfold wok
  rcases h with h | ⟨h1, h2⟩
  · simp [h]
  · simp [h1, hp _ _ h2]
theorem all2_imp {α β : Type} {P Q : α → β → Prop} (h : ∀ a b, P a b → Q a b) {l : List α} {m : List β} (q : All2 P l m) : All2 Q l m := by
  induction q with
  | nil => exact .nil
  | cons p _ ih => exact .cons (h _ _ p) ih
theorem sort_ex {x : Str} (h : x ∈ [Str.ofString "begin", Str.ofString "send", Str.ofString "back", Str.ofString "end"]) : ∃ l, SortW x l := by
  simp only [List.mem_cons, List.not_mem_nil, or_false] at h
  rcases h with rfl | rfl | rfl | rfl
  · exact ⟨_, .b⟩
  · exact ⟨_, .s⟩
  · exact ⟨_, .k⟩
  · exact ⟨_, .e⟩
theorem all2_map {α : Type} {P : D → D → Prop} {f : α → D} (R : α → Prop) (h : ∀ d y, P d y → ∃ a, y = f a ∧ R a) {l m : List D} (q : All2 P l m) : ∃ as : List α, m = as.map f ∧ (∀ a ∈ as, R a) ∧ as.length = l.length := by
  induction q with
  | nil => exact ⟨[], rfl, by simp, rfl⟩
  | cons p _ ih =>
    obtain ⟨as, e, h1, h2⟩ := ih
    obtain ⟨a, e2, h3⟩ := h _ _ p
    exact ⟨a :: as, by simp [e, e2], by simpa [h3] using h1, by simp [h2]⟩
abbrev sorts4 : List Str := [Str.ofString "begin", Str.ofString "send", Str.ofString "back", Str.ofString "end"]
section
variable {i : Nat} {e0 e1 e2 e3 e4 e5 e6 e7 e8 e9 ea eb : Option D} {st st0 : Sto}
/-- the sorts of the rows -/
theorem as_sorts (h : Box st i) : ∃ (ss : List Str) (st' : Sto), mLc (.nm 10) [10] (mItRange (mCons (mCall 2 f__law_take [] (mCons (mVar 0) (mCons (mC (.int 6)) (mNil)))) (mNil))) (mYes) (mCall 2 f__law_pick [] (mCons (mVar 0) (mCons (mLst (mCons (mC (.str "begin")) (mCons (mC (.str "send")) (mCons (mC (.str "back")) (mCons (mC (.str "end")) (mNil)))))) (mNil)))) [some (.ptr i), e1, e2, e3, e4, e5, e6, e7, e8, e9, ea, eb] st = .ok (.lst (ss.map D.str)) st' ∧ Drawn i st st' ∧ (∀ x ∈ ss, x ∈ sorts4) ∧ ss.length ≤ 5 := by
  obtain ⟨r, st1, r1, q1, D1⟩ := take_d (many := 6) h (by decide) (by decide)
  have hit : mItRange (mCons (mCall 2 f__law_take [] (mCons (mVar 0) (mCons (mC (.int 6)) (mNil)))) (mNil)) [some (.ptr i), e1, e2, e3, e4, e5, e6, e7, e8, e9, ea, eb] st = .ok (rangeD 0 r) st1 := by
    have : (-4611686018427387904 : Int) ≤ r ∧ (r : Int) < 4611686018427387904 := by omega
    simp [mItRange, mCons, mCall, mVar, mC, mNil, R.bind, q1, this]
  obtain ⟨ys, st2, e, I2, A⟩ := lc_inv (t := .nm 10) (vs := [10]) (mt := mYes) (me := mCall 2 f__law_pick [] (mCons (mVar 0) (mCons (mLst (mCons (mC (.str "begin")) (mCons (mC (.str "send")) (mCons (mC (.str "back")) (mCons (mC (.str "end")) (mNil)))))) (mNil)))) (fun s => Drawn i st s) (fun _ y => ∃ x, y = .str x ∧ x ∈ sorts4) (env := [some (.ptr i), e1, e2, e3, e4, e5, e6, e7, e8, e9, ea, eb]) (ds := rangeD 0 r) (acc := []) (st := st1) (by rw [sizeLine_eq]; simp [rangeD]; omega) D1 fun d _ st2 I => by
    obtain ⟨x, st3, hx, q3, D3⟩ := pick_s (ws := sorts4) I.box (by simp) (by simp)
    refine ⟨[some (.ptr i), e1, e2, e3, e4, e5, e6, e7, e8, e9, some d, eb], .str x, st3, rfl, rfl, ?_, I.trans D3, x, rfl, hx⟩
    refine call_ok (ds := [.ptr i, .lst (sorts4.map D.str)]) ?_ rfl q3
    simp [mCons, mVar, mLst, mC, mNil, R.bind, sizeLine_eq]
  obtain ⟨ss, rfl, h1, h2⟩ := all2_map (f := D.str) (fun x => x ∈ sorts4) (fun d y q => q) A
  refine ⟨ss, st2, ?_, I2, h1, ?_⟩
  · unfold mLc
    rw [hit]
    simp only [R.bind, e, List.nil_append]
  · rw [h2]; simp [rangeD]; omega
/-- the rows -/
theorem as_rows {P : D} {pl : Str → List Str} {ss : List Str} (h : Box st i) (hP : Pool P pl) (hpl : ∀ w, ∀ x ∈ pl w, isName x = true) (hs : ∀ x ∈ ss, x ∈ sorts4) (hl : ss.length ≤ 5) : ∃ (rs : List (Str × List Str)) (st' : Sto), mLc (.nm 11) [11] (mItAny (mVar 7)) (mYes) (mCall 3 f__law_drawn_row [] (mCons (mVar 0) (mCons (mVar 11) (mCons (mVar 6) (mNil))))) [some (.ptr i), e1, e2, e3, e4, e5, some P, some (.lst (ss.map D.str)), e8, e9, ea, eb] st = .ok (.lst (rs.map rowT)) st' ∧ Drawn i st st' ∧ (∀ r ∈ rs, RowOk r) ∧ rs.length ≤ 5 := by
  obtain ⟨ys, st2, e, I2, A⟩ := lc_inv (t := .nm 11) (vs := [11]) (mt := mYes) (me := mCall 3 f__law_drawn_row [] (mCons (mVar 0) (mCons (mVar 11) (mCons (mVar 6) (mNil))))) (fun s => Drawn i st s) (fun _ y => ∃ r, y = rowT r ∧ RowOk r) (env := [some (.ptr i), e1, e2, e3, e4, e5, some P, some (.lst (ss.map D.str)), e8, e9, ea, eb]) (ds := ss.map D.str) (acc := []) (st := st) (by rw [sizeLine_eq]; simp; omega) (Drawn.refl h) fun d hd st2 I => by
    obtain ⟨x, hx, rfl⟩ := List.mem_map.mp hd
    obtain ⟨l, hw⟩ := sort_ex (hs x hx)
    obtain ⟨xs, st3, q3, D3, q⟩ := drawn_ok I.box hP hw
    refine ⟨_, rowT (x, xs), st3, rfl, rfl, ?_, I.trans D3, (x, xs), rfl, ⟨l, hw, all2_imp (fun a b => fits_wok hpl) q⟩⟩
    exact call_ok (ds := [.ptr i, .str x, P]) rfl rfl q3
  obtain ⟨rs, rfl, h1, h2⟩ := all2_map (f := rowT) RowOk (fun d y q => q) A
  refine ⟨rs, st2, ?_, I2, h1, ?_⟩
  · unfold mLc
    rw [show mItAny (mVar 7) [some (.ptr i), e1, e2, e3, e4, e5, some P, some (.lst (ss.map D.str)), e8, e9, ea, eb] st = .ok (ss.map D.str) st from rfl]
    simp only [R.bind, e, List.nil_append]
  · rw [h2]; simpa using hl
end
end K
namespace K
open PySem L2 S
theorem keep_ptr {n j : Nat} {ms : MS} {ds : List D} {st st' : Sto} (h : ms (ds.map some ++ List.replicate (n - ds.length) none) st = .rt (.ptr j) st') (hj : st.length ≤ j) : mFun false n ms ds st = .ok (.ptr j) st' := by
  unfold mFun
  rw [h]
  show gc st.length (.ptr j) st' = _
  unfold gc
  rw [show below st.length (.ptr j) = false by unfold below; simp; omega]
  rfl
def oneEs (s : Sv) : List D := [.str s.nm, .lst (s.ks.map D.str), .lst (s.rs.map rowT), .lst (s.ws.map D.str), .lst (s.ls.map D.str)]
theorem seven {ws : List Str} (h : ws.length = 7) : ∃ a b c d e f g, ws = [a, b, c, d, e, f, g] := by
  match ws, h with
  | [a, b, c, d, e, f, g], _ => exact ⟨a, b, c, d, e, f, g, rfl⟩
section
variable {i n j : Nat} {nm : Str} {ns : List Str} {e1 e2 e3 e4 e5 e6 e7 e8 e9 ea eb : Option D} {st : Sto}
theorem as_end {ks : List Key} {ds : List D} (h : Box st i) (hj : st[j]? = some (.dct [.inr "name", .inr "kinds", .inr "rows"] [a, b, c])) (hij : j ≠ i) (hl : ns.length < 20) :
    ∃ ws ls st', p__law_any_service_1 [some (.ptr i), e1, some (.lst (ns.map D.str)), e3, e4, e5, e6, e7, e8, some (.ptr j), ea, eb] st = .rt (.ptr j) (st'.set j (.dct oneK [a, b, c, .lst (ws.map D.str), .lst (ls.map D.str)])) ∧ Drawn i st st' ∧ Sub 0 ws ns ∧ Sub 0 ls ns ∧ st'[j]? = some (.dct [.inr "name", .inr "kinds", .inr "rows"] [a, b, c]) := by
  obtain ⟨ws, st1, q1, s1, D1⟩ := some_ok (k := 0) (ns := ns) h hl (Nat.zero_le _)
  obtain ⟨ls, st2, q2, s2, D2⟩ := some_ok (k := 0) (ns := ns) D1.box hl (Nat.zero_le _)
  have hlt : j < st.length := (List.getElem?_eq_some_iff.mp hj).1
  have hj2 : st2[j]? = some (.dct [.inr "name", .inr "kinds", .inr "rows"] [a, b, c]) := ((D1.trans D2).off _ hlt (by omega)).trans hj
  refine ⟨ws, ls, st2, ?_, D1.trans D2, s1, s2, hj2⟩
  have r1 : mDisp [(mC (.str "waits"), mCall 3 f__law_some [] (mCons (mVar 0) (mCons (mVar 2) (mCons (mC (.int 0)) (mNil))))), (mC (.str "leaves"), mCall 3 f__law_some [] (mCons (mVar 0) (mCons (mVar 2) (mCons (mC (.int 0)) (mNil)))))] [some (.ptr i), e1, some (.lst (ns.map D.str)), e3, e4, e5, e6, e7, e8, some (.ptr j), ea, eb] st = .ok (.dct [.inr "waits", .inr "leaves"] [.lst (ws.map D.str), .lst (ls.map D.str)]) st2 := by
    have q1' : f__law_some [.ptr i, .lst (ns.map D.str), .int 0] st = .ok (.lst (ws.map D.str)) st1 := q1
    have q2' : f__law_some [.ptr i, .lst (ns.map D.str), .int 0] st1 = .ok (.lst (ls.map D.str)) st2 := q2
    simp [mDisp, mPrs, mC, mCall, mCons, mVar, mNil, R.bind, R.only, q1', q2', kOfs, kOf, str_eq]
  unfold p__law_any_service_1
  refine (seq_nx (env' := [some (.ptr i), e1, some (.lst (ns.map D.str)), e3, e4, e5, e6, e7, e8, some (.ptr j), ea, eb]) (st' := st2.set j (.dct oneK [a, b, c, .lst (ws.map D.str), .lst (ls.map D.str)])) (do_ok (d := .non) ?_)).trans (ret_ok rfl)
  have r2 : mCons (mDisp [(mC (.str "waits"), mCall 3 f__law_some [] (mCons (mVar 0) (mCons (mVar 2) (mCons (mC (.int 0)) (mNil))))), (mC (.str "leaves"), mCall 3 f__law_some [] (mCons (mVar 0) (mCons (mVar 2) (mCons (mC (.int 0)) (mNil)))))]) mNil [some (.ptr i), e1, some (.lst (ns.map D.str)), e3, e4, e5, e6, e7, e8, some (.ptr j), ea, eb] st = .ok [.dct [.inr "waits", .inr "leaves"] [.lst (ws.map D.str), .lst (ls.map D.str)]] st2 := cons_ok r1 nil_ok
  unfold mDm
  rw [show mVar 9 [some (.ptr i), e1, some (.lst (ns.map D.str)), e3, e4, e5, e6, e7, e8, some (.ptr j), ea, eb] st = .ok (.ptr j) st from rfl]
  simp only [R.bind]
  rw [r2, if_pos (by simp [isDct, rd, hj])]
  simp [R.bind, dUpd, hj2, sizeLine_eq, foldK, zipK, putKs, putKd, str_eq, oneK]
theorem any_sv {n : Nat} {words : List Str} (h : Box st i) (hn : Nms ns n) (h0 : 1 ≤ n) (h7 : n ≤ 7) (hw : Nms words 7) (hm : isName nm = true) : ∃ s j st', f__law_any_service [.ptr i, .str nm, .lst (ns.map D.str), .lst (words.map D.str)] st = .ok (.ptr j) st' ∧ Drawn i st st' ∧ st.length ≤ j ∧ st'[j]? = some (.dct oneK (oneEs s)) ∧ SvOk s ∧ s.nm = nm ∧ (∀ x ∈ s.ws, x ∈ ns) ∧ (∀ x ∈ s.ls, x ∈ ns) ∧ s.rs.length ≤ 5 ∧ s.ks.length ≤ 7 ∧ s.ws.length ≤ 7 ∧ s.ls.length ≤ 7 := by
  have hi := h.lt
  obtain ⟨w0, w1, w2, w3, w4, w5, w6, rfl⟩ := seven hw.len
  have hnl := hn.len
  obtain ⟨ks, st1, q1, s1, D1⟩ := some_ok (k := 1) (ns := [w0, w1]) h (by simp) (by simp)
  have w : ∀ x ∈ [w0, w1, w2, w3, w4, w5, w6], isName x = true := hw.nm
  have hks : ∀ x ∈ ks, isName x = true := fun x hx => w x (by have := s1.mem x hx; simp at this; rcases this with rfl | rfl <;> simp)
  have hk0 : ks ≠ [] := fun e => by have := s1.len; rw [e] at this; simp at this
  have hk1 : ks.length ≤ 2 := s1.le
  have hn0 : ns ≠ [] := fun e => by rw [e] at hnl; simp at hnl; omega
  have hP := pool5 (a := [w4, w5]) (b := ks) (c := ["calm", w2, w3]) (d := ns) (e := [w5, w6]) ⟨by simp, by simp⟩ ⟨hk0, by omega⟩ ⟨by simp, by simp⟩ ⟨hn0, by omega⟩ ⟨by simp, by simp⟩
  have hpl : ∀ z, ∀ x ∈ pl5 [w4, w5] ks ["calm", w2, w3] ns [w5, w6] z, isName x = true := fun z x hx => by
    unfold pl5 at hx
    split at hx
    · exact w x (by simp at hx; rcases hx with rfl | rfl <;> simp)
    · split at hx
      · exact hks x hx
      · split at hx
        · rcases List.mem_cons.mp hx with rfl | hx
          · decide +kernel
          · exact w x (by simp at hx; rcases hx with rfl | rfl <;> simp)
        · split at hx
          · exact hn.nm x hx
          · exact w x (by simp at hx; rcases hx with rfl | rfl <;> simp)
  obtain ⟨ss, st2, q2, D2, hs, hsl⟩ := as_sorts (e1 := some (.str nm)) (e2 := some (.lst (ns.map D.str))) (e3 := some (.lst ([w0, w1, w2, w3, w4, w5, w6].map D.str))) (e4 := some (.lst (ks.map D.str))) (e5 := some (.lst ([Str.ofString "calm", w2, w3].map D.str))) (e6 := some (.dct poolK [.lst ([w4, w5].map D.str), .lst (ks.map D.str), .lst ([Str.ofString "calm", w2, w3].map D.str), .lst (ns.map D.str), .lst ([w5, w6].map D.str)])) (e7 := none) (e8 := none) (e9 := none) (ea := none) (eb := none) D1.box
  obtain ⟨rs, st3, q3, D3, hr, hrl⟩ := as_rows (e1 := some (.str nm)) (e2 := some (.lst (ns.map D.str))) (e3 := some (.lst ([w0, w1, w2, w3, w4, w5, w6].map D.str))) (e4 := some (.lst (ks.map D.str))) (e5 := some (.lst ([Str.ofString "calm", w2, w3].map D.str))) (e8 := none) (e9 := none) (ea := none) (eb := none) D2.box hP hpl hs hsl
  have D4 := (D1.trans D2).trans D3
  have hb3 : Box (st3 ++ [.dct [.inr "name", .inr "kinds", .inr "rows"] [.str nm, .lst (ks.map D.str), .lst (rs.map rowT)]]) i := (Drawn.app D4.box).box
  have hle := D4.len
  obtain ⟨ws, ls, st5, q5, D5, sw, sl, hj⟩ := as_end (ks := []) (ds := []) (j := st3.length) (ns := ns) (a := .str nm) (b := .lst (ks.map D.str)) (c := .lst (rs.map rowT)) (e1 := some (.str nm)) (e3 := some (.lst ([w0, w1, w2, w3, w4, w5, w6].map D.str))) (e4 := some (.lst (ks.map D.str))) (e5 := some (.lst ([Str.ofString "calm", w2, w3].map D.str))) (e6 := some (.dct poolK [.lst ([w4, w5].map D.str), .lst (ks.map D.str), .lst ([Str.ofString "calm", w2, w3].map D.str), .lst (ns.map D.str), .lst ([w5, w6].map D.str)])) (e7 := some (.lst (ss.map D.str))) (e8 := some (.lst (rs.map rowT))) (ea := none) (eb := none) hb3 (by simp) (by omega) (by omega)
  have D6 : Drawn i st st5 := D4.trans ((Drawn.app D4.box).trans D5)
  have D7 := (D6.put (j := st3.length) (c := .dct oneK [.str nm, .lst (ks.map D.str), .lst (rs.map rowT), .lst (ws.map D.str), .lst (ls.map D.str)]) hle hi)
  refine ⟨⟨nm, ks, ws, ls, rs⟩, st3.length, _, ?_, D7, hle, st_same hj, ⟨hm, ⟨hks, s1.nd ?_, by show ks.length ≤ 30; omega⟩, hk0, ⟨fun x hx => hn.nm x (sw.mem x hx), sw.nd hn.nd, ?_⟩, ⟨fun x hx => hn.nm x (sl.mem x hx), sl.nd hn.nd, ?_⟩, hr, by show rs.length ≤ 30; omega⟩, rfl, sw.mem, sl.mem, hrl, by show ks.length ≤ 7; omega, by have := sw.le; show ws.length ≤ 7; omega, by have := sl.le; show ls.length ≤ 7; omega⟩
  · refine keep_ptr (?_ : m__law_any_service [some (.ptr i), some (.str nm), some (.lst (ns.map D.str)), some (.lst ([w0, w1, w2, w3, w4, w5, w6].map D.str)), none, none, none, none, none, none, none, none] st = _) hle
    have q1' : f__law_some [.ptr i, .lst [.str w0, .str w1], .int 1] st = .ok (.lst (ks.map D.str)) st1 := q1
    unfold m__law_any_service
    refine (seq_nx (env' := [some (.ptr i), some (.str nm), some (.lst (ns.map D.str)), some (.lst ([w0, w1, w2, w3, w4, w5, w6].map D.str)), some (.lst (ks.map D.str)), some (.lst ([Str.ofString "calm", w2, w3].map D.str)), none, none, none, none, none, none]) (st' := st1) ?_).trans ?_
    · simp [mPar, mCons, mCall, mVar, mSl, mNoPart, mPart, mC, R.bind, dSl, rd, cutD, HT.sIx, mNil, q1', mBin, mLst, dAdd, sizeLine_eq, putAll]
    unfold p__law_any_service_5
    refine (seq_nx (set_ok (d := .dct poolK [.lst ([w4, w5].map D.str), .lst (ks.map D.str), .lst ([Str.ofString "calm", w2, w3].map D.str), .lst (ns.map D.str), .lst ([w5, w6].map D.str)]) (st' := st1) ?_)).trans ?_
    · simp [mDisp, mPrs, mC, mVar, mSl, mPart, R.bind, R.only, dSl, rd, cutD, HT.sIx, mApp, mCons, mNil, dList, items, kOfs, kOf, poolK, str_eq]
    unfold p__law_any_service_4
    refine (seq_nx (set_ok q2)).trans ?_
    unfold p__law_any_service_3
    refine (seq_nx (set_ok q3)).trans ?_
    unfold p__law_any_service_2
    refine (seq_nx (set_ok (d := .ptr st3.length) (st' := st3 ++ [C.dct [.inr "name", .inr "kinds", .inr "rows"] [.str nm, .lst (ks.map D.str), .lst (rs.map rowT)]]) ?_)).trans ?_
    rotate_left
    · exact q5
    simp [mDispC, mPrs, mC, mVar, R.bind, R.only, kOfs, kOf, str_eq]
  · have := hw.nd
    simp at this ⊢
    exact this.1.1
  · have := sw.le; show ws.length ≤ 30; omega
  · have := sl.le; show ls.length ≤ 30; omega
end
end K
namespace K
open PySem L2 S
/-! ### the first row that fits: both looks -/
abbrev sAny : Str := Str.ofString "any"
def fitW (ws as : List Str) : Bool := (ws.zip as).all fun p => decide (p.1 = sAny ∨ p.1 = p.2)
def fitR (sort : Str) (as : List Str) (r : Str × List Str) : Bool := decide (r.1 = sort) && fitW r.2 as
def firstR (rs : List (Str × List Str)) (sort : Str) (as : List Str) : Option (Str × List Str) := rs.find? (fitR sort as)
def optR (f : Str × List Str → D) : Option (Str × List Str) → D
  | some r => f r
  | none => .non
theorem in_any {x y : Str} {st : Sto} : dIn (.str x) (.tup [.str "any", .str y]) st = .ok (.bl (decide (x = sAny ∨ x = y))) st := by
  have := in_tup (x := x) (ws := [sAny, y]) (st := st)
  simpa using this
theorem nin_any {x y : Str} {st : Sto} : dNotIn (.str x) (.tup [.str "any", .str y]) st = .ok (.bl (!decide (x = sAny ∨ x = y))) st := by
  have := inV_strs (x := x) (ws := [sAny, y])
  simp only [List.map_cons, List.map_nil] at this
  simp only [dNotIn, items, rd, isFl, Bool.true_and, List.all_cons, List.all_nil, if_true, List.map_cons, List.map_nil, fl, this, Bool.and_self]
  simp
theorem zip_strs : ∀ ws as : List Str, zipD (ws.map D.str) (as.map D.str) = (ws.zip as).map fun p => D.tup [.str p.1, .str p.2]
  | [], as => by simp [zipD]
  | w :: ws, [] => by simp [zipD]
  | w :: ws, a :: as => by
    have ih := zip_strs ws as
    unfold zipD at ih ⊢
    rw [List.map_cons, List.map_cons, List.zip_cons_cons, List.map_cons, ih]
    rfl
theorem cut1 {x : D} {xs : List D} : cutD (x :: xs) (some 1) none = xs := by
  have e1 : HT.sIx (x :: xs).length 0 (some ((1 : Nat) : Int)) = 1 := by rw [HT.sIx_nat]; simp
  have e2 : HT.sIx (x :: xs).length (x :: xs).length none = xs.length + 1 := rfl
  unfold cutD
  rw [show (1 : Int) = ((1 : Nat) : Int) from rfl, e1, e2]
  simp
section
variable {st : Sto}
theorem for_nx {t : Tg} {body : MS} {d : D} {ds : List D} {env env1 env2 : S.Env} {st st2 : Sto} (h : t.at d env st = some env1) (h' : body env1 st = .nx env2 st2) : mForGo t body (d :: ds) env st = mForGo t body ds env2 st2 := by
  show (match t.at d env st with | none => RS.stuck | some env1 => _) = _
  rw [h]
  show (match body env1 st with | .nx env2 st2 => mForGo t body ds env2 st2 | .ct env2 st2 => mForGo t body ds env2 st2 | .bk env2 st2 => .nx env2 st2 | r => r) = _
  rw [h']
theorem for_rt {t : Tg} {body : MS} {d r : D} {ds : List D} {env env1 : S.Env} {st st2 : Sto} (h : t.at d env st = some env1) (h' : body env1 st = .rt r st2) : mForGo t body (d :: ds) env st = .rt r st2 := by
  show (match t.at d env st with | none => RS.stuck | some env1 => _) = _
  rw [h]
  show (match body env1 st with | .nx env2 st2 => mForGo t body ds env2 st2 | .ct env2 st2 => mForGo t body ds env2 st2 | .bk env2 st2 => .nx env2 st2 | r => r) = _
  rw [h']
/-- a loop that returns the first thing that fits -/
theorem for_find {α : Type} {t : Tg} {body : MS} {f g : α → D} {p : α → Bool} {I : S.Env → Prop} : ∀ (xs : List α) (env : S.Env), I env → (∀ a ∈ xs, ∀ env, I env → ∃ env1, t.at (f a) env st = some env1 ∧ if p a = true then body env1 st = .rt (g a) st else ∃ env2, body env1 st = .nx env2 st ∧ I env2) →
    match xs.find? p with
    | some a => mForGo t body (xs.map f) env st = .rt (g a) st
    | none => ∃ env2, mForGo t body (xs.map f) env st = .nx env2 st ∧ I env2
  | [], env, h, _ => ⟨env, rfl, h⟩
  | a :: xs, env, h, H => by
    obtain ⟨env1, h1, h2⟩ := H a (.head _) env h
    cases q : p a with
    | true =>
      rw [q, if_pos rfl] at h2
      rw [List.find?_cons, q]
      exact for_rt h1 h2
    | false =>
      rw [q, if_neg (by decide)] at h2
      obtain ⟨env2, h3, h4⟩ := h2
      have ih := for_find (t := t) (body := body) (f := f) (g := g) (p := p) (I := I) xs env2 h4 fun b hb => H b (.tail _ hb)
      rw [List.find?_cons, q]
      dsimp only
      rw [List.map_cons, for_nx h1 h3]
      exact ih
theorem all_fit {ws as : List Str} {env : S.Env} (hl : ws.length ≤ 1000) (h5 : 6 ≤ env.length) : mLcGo (.tp [.nm 4, .nm 5]) [4, 5] mYes (mBin dIn (mVar 4) (mTup (mCons (mC (.str "any")) (mCons (mVar 5) mNil)))) ((ws.zip as).map fun p => D.tup [.str p.1, .str p.2]) env st [] = .ok ((ws.zip as).map fun p => D.bl (decide (p.1 = sAny ∨ p.1 = p.2))) st := by
  have hz : (ws.zip as).length ≤ sizeLine := by rw [sizeLine_eq, List.length_zip]; omega
  have := lc_map (t := .tp [.nm 4, .nm 5]) (vs := [4, 5]) (mt := mYes) (me := mBin dIn (mVar 4) (mTup (mCons (mC (.str "any")) (mCons (mVar 5) mNil)))) (env := env) (st := st) (fun p : Str × Str => D.tup [.str p.1, .str p.2]) (fun p => D.bl (decide (p.1 = sAny ∨ p.1 = p.2))) (xs := ws.zip as) (acc := []) (by simpa using hz) fun p hp => by
    refine ⟨((wipeE env [4, 5]).set 4 (some (.str p.1))).set 5 (some (.str p.2)), rfl, rfl, ?_⟩
    have l : (wipeE env [4, 5]).length = env.length := by simp [wipeE]
    have v4 : mVar 4 (((wipeE env [4, 5]).set 4 (some (.str p.1))).set 5 (some (.str p.2))) st = .ok (.str p.1) st := by
      unfold mVar
      rw [List.getElem?_set_ne (by decide), List.getElem?_set_self (by omega)]
    have v5 : mVar 5 (((wipeE env [4, 5]).set 4 (some (.str p.1))).set 5 (some (.str p.2))) st = .ok (.str p.2) st := by
      unfold mVar
      rw [List.getElem?_set_self (by rw [List.length_set]; omega)]
    have tp : mTup (mCons (mC (.str "any")) (mCons (mVar 5) mNil)) (((wipeE env [4, 5]).set 4 (some (.str p.1))).set 5 (some (.str p.2))) st = .ok (.tup [.str "any", .str p.2]) st := by
      unfold mTup
      rw [cons_ok (d := .str "any") (st1 := st) rfl (cons_ok v5 nil_ok)]
      simp [R.bind, sizeLine_eq]
    exact (bin_ok v4 tp).trans in_any
  simpa using this
theorem ixl {xs : List D} {j : Nat} {k : Int} {d : D} {st : Sto} (hk : k = j) (h : xs[j]? = some d) : dIx (.lst xs) (.int k) st = .ok d st := by
  have := atI_of hk h
  simp [dIx, rd, this]
theorem ixt {xs : List D} {j : Nat} {k : Int} {d : D} {st : Sto} (hk : k = j) (h : xs[j]? = some d) : dIx (.tup xs) (.int k) st = .ok d st := by
  have := atI_of hk h
  simp [dIx, rd, this]
theorem step_first {r : Str × List Str} {sort : Str} {as : List Str} {e0 : Option D} {e4 e5 : Option D} (h : r.2.length ≤ 1000) : p_Service_first_1 [e0, some (.str sort), some (.tup (as.map D.str)), some (wdD r), e4, e5] st = if fitR sort as r = true then .rt (wdD r) st else .nx [e0, some (.str sort), some (.tup (as.map D.str)), some (wdD r), e4, e5] st := by
  have i0 : mBin dIx (mVar 3) (mC (.int 0)) [e0, some (.str sort), some (.tup (as.map D.str)), some (wdD r), e4, e5] st = .ok (.str r.1) st := (bin_ok (d := wdD r) (e := .int 0) (st1 := st) (st2 := st) rfl rfl).trans (ixl (j := 0) rfl rfl)
  have t0 : mTest (mBin dEq (mBin dIx (mVar 3) (mC (.int 0))) (mVar 1)) [e0, some (.str sort), some (.tup (as.map D.str)), some (wdD r), e4, e5] st = .ok (decide (r.1 = sort)) st := by
    unfold mTest
    rw [(bin_ok i0 (e := .str sort) (st2 := st) rfl).trans eq_strs]
    rfl
  have zi : mItZip (mCons (mSl (mVar 3) (mPart (mC (.int 1))) (mNoPart)) (mCons (mVar 2) (mNil))) [e0, some (.str sort), some (.tup (as.map D.str)), some (wdD r), e4, e5] st = .ok ((r.2.zip as).map fun p => D.tup [.str p.1, .str p.2]) st := by
    have sl : mSl (mVar 3) (mPart (mC (.int 1))) mNoPart [e0, some (.str sort), some (.tup (as.map D.str)), some (wdD r), e4, e5] st = .ok (.lst (r.2.map D.str)) st := by
      show R.ok (D.lst (cutD (D.str r.1 :: r.2.map D.str) (some 1) none)) st = _
      rw [cut1]
    unfold mItZip
    rw [cons_ok sl (cons_ok (d := .tup (as.map D.str)) (st1 := st) rfl nil_ok)]
    show R.ok (zipD (r.2.map D.str) (as.map D.str)) st = _
    rw [zip_strs]
  have lc : mLc (.tp [.nm 4, .nm 5]) [4, 5] (mItZip (mCons (mSl (mVar 3) (mPart (mC (.int 1))) (mNoPart)) (mCons (mVar 2) (mNil)))) (mYes) (mBin dIn (mVar 4) (mTup (mCons (mC (.str "any")) (mCons (mVar 5) (mNil))))) [e0, some (.str sort), some (.tup (as.map D.str)), some (wdD r), e4, e5] st = .ok (.lst ((r.2.zip as).map fun p => D.bl (decide (p.1 = sAny ∨ p.1 = p.2)))) st := by
    unfold mLc
    rw [zi]
    show R.bind (mLcGo _ _ _ _ _ _ _ _) _ = _
    rw [all_fit h (by simp)]
    rfl
  have al : mTru (mApp dAll (mCons (mLc (.tp [.nm 4, .nm 5]) [4, 5] (mItZip (mCons (mSl (mVar 3) (mPart (mC (.int 1))) (mNoPart)) (mCons (mVar 2) (mNil)))) (mYes) (mBin dIn (mVar 4) (mTup (mCons (mC (.str "any")) (mCons (mVar 5) (mNil)))))) (mNil))) [e0, some (.str sort), some (.tup (as.map D.str)), some (wdD r), e4, e5] st = .ok (fitW r.2 as) st := by
    have e : mApp dAll (mCons (mLc (.tp [.nm 4, .nm 5]) [4, 5] (mItZip (mCons (mSl (mVar 3) (mPart (mC (.int 1))) (mNoPart)) (mCons (mVar 2) (mNil)))) (mYes) (mBin dIn (mVar 4) (mTup (mCons (mC (.str "any")) (mCons (mVar 5) (mNil)))))) (mNil)) [e0, some (.str sort), some (.tup (as.map D.str)), some (wdD r), e4, e5] st = .ok (.bl (fitW r.2 as)) st := by
      refine (app_ok (cons_ok lc nil_ok)).trans ?_
      have := all_bls (st := st) (bs := (r.2.zip as).map fun p => decide (p.1 = sAny ∨ p.1 = p.2))
      rw [List.map_map] at this
      refine this.trans ?_
      unfold fitW
      rw [List.all_map]
      rfl
    unfold mTru
    rw [e]
    rfl
  unfold p_Service_first_1 mIfS mAndB
  rw [t0]
  unfold fitR
  cases decide (r.1 = sort) with
  | false => rfl
  | true =>
    show (match (mTru _ _ _) with | .ok k st' => _ | .exc c ns ds st' => _ | .stuck => _) = _
    rw [al]
    cases fitW r.2 as <;> rfl
theorem RowOk.few {r : Str × List Str} (h : RowOk r) : r.2.length ≤ 1000 := by
  rcases h.split with ⟨a, b, c, rfl, _⟩ | ⟨a, b, c, rfl, _⟩ | ⟨a, b, c, d, rfl, _⟩ | ⟨a, b, c, d, rfl, _⟩ <;> simp
theorem first_ok {s : Sv} {sort : Str} {as : List Str} (h : SvOk s) : f_Service_first [svD s, .str sort, .tup (as.map D.str)] st = .ok (optR wdD (firstR s.rs sort as)) st := by
  have hb : belowL 0 [svD s, .str sort, .tup (as.map D.str)] = true := belowL_cons (bel_sv s) (belowL_cons rfl (belowL_cons (below_strs as) rfl))
  have hd : below 0 (optR wdD (firstR s.rs sort as)) = true := by
    cases firstR s.rs sort as with
    | none => rfl
    | some r => exact below_strs _
  refine call_rt (st' := []) hb ?_ hd
  show m_Service_first [some (svD s), some (.str sort), some (.tup (as.map D.str)), none, none, none] [] = _
  have lp := for_find (st := []) (t := .nm 3) (body := p_Service_first_1) (f := wdD) (g := wdD) (p := fitR sort as) (I := fun env => ∃ e3 e4 e5, env = [some (svD s), some (.str sort), some (.tup (as.map D.str)), e3, e4, e5]) s.rs [some (svD s), some (.str sort), some (.tup (as.map D.str)), none, none, none] ⟨_, _, _, rfl⟩ fun r hr env ⟨e3, e4, e5, he⟩ => by
    subst he
    refine ⟨_, rfl, ?_⟩
    have := step_first (st := []) (r := r) (sort := sort) (as := as) (e0 := some (svD s)) (e4 := e4) (e5 := e5) (h.rs r hr).few
    show if fitR sort as r = true then p_Service_first_1 [some (svD s), some (.str sort), some (.tup (as.map D.str)), some (wdD r), e4, e5] [] = _ else _
    cases q : fitR sort as r with
    | true => rw [q] at this; exact this
    | false => rw [q] at this; exact ⟨_, this, _, _, _, rfl⟩
  have it : mItAny (mFld at_told "told" (mVar 0)) [some (svD s), some (.str sort), some (.tup (as.map D.str)), none, none, none] [] = .ok (s.rs.map wdD) [] := by
    simp [mItAny, mFld, dFld, mVar, svD, R.bind, fldD, rd, at_told, look, svNs, svEs, str_eq, itemsF]
  unfold m_Service_first
  unfold firstR
  cases q : s.rs.find? (fitR sort as) with
  | some r =>
    rw [q] at lp
    refine seq_rt ?_
    unfold mFor
    rw [it]
    exact lp
  | none =>
    rw [q] at lp
    obtain ⟨env2, lp, e3, e4, e5, rfl⟩ := lp
    refine (seq_nx (env' := [some (svD s), some (.str sort), some (.tup (as.map D.str)), e3, e4, e5]) (st' := []) ?_).trans rfl
    unfold mFor
    rw [it]
    exact lp
end
end K
namespace K
open PySem L2 S
/-! ### what rows tell -/
def svBegin (rs : List (Str × List Str)) (mark kind : Str) : Str := match firstR rs "begin" [mark, kind] with
  | none => "calm"
  | some r => r.2.getD 2 ""
def svSend (rs : List (Str × List Str)) (mood other mark : Str) : Str := match firstR rs "send" [mood, other] with
  | none => "none"
  | some r => if r.2.getD 2 "" = Str.ofString "same" then mark else r.2.getD 2 ""
def svBack (rs : List (Str × List Str)) (mood other sign : Str) : Str := match firstR rs "back" [mood, other, sign] with
  | none => mood
  | some r => if r.2.getD 3 "" = Str.ofString "same" then mood else r.2.getD 3 ""
def svEnd (rs : List (Str × List Str)) (mood : Str) (bad : Bool) : Str × Bool := match firstR rs "end" [mood, if bad = true then "bad" else "good"] with
  | none => ("none", false)
  | some r => (r.2.getD 2 "", decide (r.2.getD 3 "" = Str.ofString "keep"))
theorem first_mem {rs : List (Str × List Str)} {sort : Str} {as : List Str} {r : Str × List Str} (h : firstR rs sort as = some r) : r ∈ rs ∧ r.1 = sort := by
  refine ⟨List.mem_of_find?_eq_some h, ?_⟩
  have := List.find?_some h
  unfold fitR at this
  rw [Bool.and_eq_true] at this
  exact of_decide_eq_true this.1
theorem row3 {r : Str × List Str} (h : RowOk r) : r.2[2]? = some (r.2.getD 2 "") := by
  rcases h.split with ⟨a, b, c, rfl, _⟩ | ⟨a, b, c, rfl, _⟩ | ⟨a, b, c, d, rfl, _⟩ | ⟨a, b, c, d, rfl, _⟩ <;> rfl
theorem row4 {r : Str × List Str} (h : RowOk r) (hs : r.1 = Str.ofString "back" ∨ r.1 = Str.ofString "end") : r.2[3]? = some (r.2.getD 3 "") := by
  rcases h.split with ⟨a, b, c, rfl, _⟩ | ⟨a, b, c, rfl, _⟩ | ⟨a, b, c, d, rfl, _⟩ | ⟨a, b, c, d, rfl, _⟩
  · simp [str_eq] at hs
  · simp [str_eq] at hs
  · rfl
  · rfl
section
variable {st : Sto} {r : Str × List Str}
theorem w3 (h : RowOk r) : dIx (wdD r) (.int 3) st = .ok (.str (r.2.getD 2 "")) st := ixl (j := 3) rfl (by
  rw [List.map_cons, List.getElem?_cons_succ, List.getElem?_map, row3 h]; rfl)
theorem w4 (h : RowOk r) (hs : r.1 = Str.ofString "back" ∨ r.1 = Str.ofString "end") : dIx (wdD r) (.int 4) st = .ok (.str (r.2.getD 3 "")) st := ixl (j := 4) rfl (by
  rw [List.map_cons, List.getElem?_cons_succ, List.getElem?_map, row4 h hs]; rfl)
theorem t3 (h : RowOk r) : dIx (rowT r) (.int 3) st = .ok (.str (r.2.getD 2 "")) st := ixt (j := 3) rfl (by
  rw [List.getElem?_cons_succ, List.getElem?_map, row3 h]; rfl)
theorem t4 (h : RowOk r) (hs : r.1 = Str.ofString "back" ∨ r.1 = Str.ofString "end") : dIx (rowT r) (.int 4) st = .ok (.str (r.2.getD 3 "")) st := ixt (j := 4) rfl (by
  rw [List.getElem?_cons_succ, List.getElem?_map, row4 h hs]; rfl)
theorem tst_none {m : M} {env : S.Env} (h : m env st = .ok .non st) : mTest (mBin dIsN m (mC .non)) env st = .ok true st := by
  unfold mTest
  rw [bin_ok h (e := .non) (st2 := st) rfl]
  rfl
theorem tst_wd {m : M} {env : S.Env} (h : m env st = .ok (wdD r) st) : mTest (mBin dIsN m (mC .non)) env st = .ok false st := by
  unfold mTest
  rw [bin_ok h (e := .non) (st2 := st) rfl]
  rfl
theorem tst_rt {m : M} {env : S.Env} (h : m env st = .ok (rowT r) st) : mTest (mBin dIsN m (mC .non)) env st = .ok false st := by
  unfold mTest
  rw [bin_ok h (e := .non) (st2 := st) rfl]
  rfl
theorem tst_eq {m : M} {env : S.Env} {x y : Str} (h : m env st = .ok (.str x) st) : mTest (mBin dEq m (mC (.str y))) env st = .ok (decide (x = y)) st := by
  unfold mTest
  rw [(bin_ok h (e := .str y) (st2 := st) rfl).trans eq_strs]
  rfl
theorem if_ok {c : MB} {a b : M} {env : S.Env} {k : Bool} {st1 : Sto} (h : c env st = .ok k st1) : mIf c a b env st = if k = true then a env st1 else b env st1 := by
  unfold mIf
  rw [h]
  cases k <;> rfl
theorem tup_ok2 {m n : M} {env : S.Env} {a b : D} (h : m env st = .ok a st) (h' : n env st = .ok b st) : mTup (mCons m (mCons n mNil)) env st = .ok (.tup [a, b]) st := by
  unfold mTup
  rw [cons_ok h (cons_ok h' nil_ok)]
  simp [R.bind, sizeLine_eq]
theorem tup_ok3 {m n o : M} {env : S.Env} {a b c : D} (h : m env st = .ok a st) (h' : n env st = .ok b st) (h'' : o env st = .ok c st) : mTup (mCons m (mCons n (mCons o mNil))) env st = .ok (.tup [a, b, c]) st := by
  unfold mTup
  rw [cons_ok h (cons_ok h' (cons_ok h'' nil_ok))]
  simp [R.bind, sizeLine_eq]
variable {s : Sv}
theorem meth_sv {nm : Str} {n : Nat} {F : List D → Sto → R D} {mo : M} {ma : MA} {env : S.Env} {ds : List D} {st1 : Sto} {r : R D} (hv : mo env st = .ok (svD s) st) (hn : svNs.contains nm = false) (ha : ma env st = .ok ds st1) (hl : (svD s :: ds).length = n) (hf : F (svD s :: ds) st1 = r) : mMeth 5 nm n F [] mo ma env st = r := by
  unfold mMeth
  rw [hv]
  show (if 5 = 5 ∧ svNs.contains nm = false then _ else _) = r
  rw [if_pos ⟨rfl, hn⟩, ha]
  show (if (svD s :: (ds ++ [])).length = n then F (svD s :: (ds ++ [])) st1 else .stuck) = r
  rw [List.append_nil, if_pos hl, hf]
theorem begin_ok {mark kind : Str} (h : SvOk s) : f_Service_begin [svD s, .str mark, .str kind] st = .ok (.str (svBegin s.rs mark kind)) st := by
  refine call_rt (st' := []) (belowL_cons (bel_sv s) rfl) ?_ rfl
  show m_Service_begin [some (svD s), some (.str mark), some (.str kind), none] [] = _
  have c : mMeth 5 "first" 3 f_Service_first [] (mVar 0) (mCons (mC (.str "begin")) (mCons (mTup (mCons (mVar 1) (mCons (mVar 2) (mNil)))) (mNil))) [some (svD s), some (.str mark), some (.str kind), none] [] = .ok (optR wdD (firstR s.rs "begin" [mark, kind])) [] :=
    meth_sv (ds := [.str "begin", .tup [.str mark, .str kind]]) rfl (by decide +kernel) (cons_ok rfl (cons_ok (tup_ok2 rfl rfl) nil_ok)) rfl (first_ok (as := [mark, kind]) h)
  unfold m_Service_begin
  refine (seq_nx (set_ok c)).trans (ret_ok ?_)
  show mIf _ _ _ [some (svD s), some (.str mark), some (.str kind), some (optR wdD (firstR s.rs "begin" [mark, kind]))] [] = _
  unfold svBegin
  cases q : firstR s.rs "begin" [mark, kind] with
  | none => rw [if_ok (tst_none rfl)]; rfl
  | some r =>
    rw [if_ok (tst_wd (r := r) rfl)]
    exact (bin_ok (d := wdD r) (e := .int 3) (st1 := []) (st2 := []) rfl rfl).trans (w3 (h.rs r (first_mem q).1))
theorem send_ok {mood other mark : Str} (h : SvOk s) : f_Service_send [svD s, .str mood, .str other, .str mark] st = .ok (.str (svSend s.rs mood other mark)) st := by
  refine call_rt (st' := []) (belowL_cons (bel_sv s) rfl) ?_ rfl
  show m_Service_send [some (svD s), some (.str mood), some (.str other), some (.str mark), none] [] = _
  have c : mMeth 5 "first" 3 f_Service_first [] (mVar 0) (mCons (mC (.str "send")) (mCons (mTup (mCons (mVar 1) (mCons (mVar 2) (mNil)))) (mNil))) [some (svD s), some (.str mood), some (.str other), some (.str mark), none] [] = .ok (optR wdD (firstR s.rs "send" [mood, other])) [] :=
    meth_sv (ds := [.str "send", .tup [.str mood, .str other]]) rfl (by decide +kernel) (cons_ok rfl (cons_ok (tup_ok2 rfl rfl) nil_ok)) rfl (first_ok (as := [mood, other]) h)
  unfold m_Service_send
  refine (seq_nx (set_ok c)).trans ?_
  show mSeq _ _ [some (svD s), some (.str mood), some (.str other), some (.str mark), some (optR wdD (firstR s.rs "send" [mood, other]))] [] = _
  unfold svSend
  cases q : firstR s.rs "send" [mood, other] with
  | none => exact seq_if_rt (tst_none rfl) rfl
  | some r =>
    rw [seq_if_f (tst_wd (r := r) rfl)]
    refine ret_ok ?_
    have x := w3 (st := []) (h.rs r (first_mem q).1)
    have x' : mBin dIx (mVar 4) (mC (.int 3)) [some (svD s), some (.str mood), some (.str other), some (.str mark), some (wdD r)] [] = .ok (.str (r.2.getD 2 "")) [] := (bin_ok (d := wdD r) (e := .int 3) (st1 := []) (st2 := []) rfl rfl).trans x
    show mIf _ _ _ [some (svD s), some (.str mood), some (.str other), some (.str mark), some (wdD r)] [] = _
    rw [if_ok (tst_eq x')]
    show _ = R.ok (D.str (if r.2.getD 2 "" = Str.ofString "same" then mark else r.2.getD 2 "")) []
    by_cases z : r.2.getD 2 "" = Str.ofString "same"
    · rw [if_pos z, decide_eq_true z]; rfl
    · rw [if_neg z, decide_eq_false z]; exact x'
theorem back_ok {mood other sign : Str} (h : SvOk s) : f_Service_back [svD s, .str mood, .str other, .str sign] st = .ok (.str (svBack s.rs mood other sign)) st := by
  refine call_rt (st' := []) (belowL_cons (bel_sv s) rfl) ?_ rfl
  show m_Service_back [some (svD s), some (.str mood), some (.str other), some (.str sign), none] [] = _
  have c : mMeth 5 "first" 3 f_Service_first [] (mVar 0) (mCons (mC (.str "back")) (mCons (mTup (mCons (mVar 1) (mCons (mVar 2) (mCons (mVar 3) (mNil))))) (mNil))) [some (svD s), some (.str mood), some (.str other), some (.str sign), none] [] = .ok (optR wdD (firstR s.rs "back" [mood, other, sign])) [] :=
    meth_sv (ds := [.str "back", .tup [.str mood, .str other, .str sign]]) rfl (by decide +kernel) (cons_ok rfl (cons_ok (tup_ok3 rfl rfl rfl) nil_ok)) rfl (first_ok (as := [mood, other, sign]) h)
  unfold m_Service_back
  refine (seq_nx (set_ok c)).trans (ret_ok ?_)
  show mIf _ _ _ [some (svD s), some (.str mood), some (.str other), some (.str sign), some (optR wdD (firstR s.rs "back" [mood, other, sign]))] [] = _
  unfold svBack
  cases q : firstR s.rs "back" [mood, other, sign] with
  | none =>
    rw [if_ok (k := true) (st1 := []) (by unfold mOrB; rw [tst_none rfl]; rfl)]
    rfl
  | some r =>
    have x := w4 (st := []) (h.rs r (first_mem q).1) (.inl (first_mem q).2)
    have x' : mBin dIx (mVar 4) (mC (.int 4)) [some (svD s), some (.str mood), some (.str other), some (.str sign), some (wdD r)] [] = .ok (.str (r.2.getD 3 "")) [] := (bin_ok (d := wdD r) (e := .int 4) (st1 := []) (st2 := []) rfl rfl).trans x
    have t : mOrB (mTest (mBin dIsN (mVar 4) (mC .non))) (mTest (mBin dEq (mBin dIx (mVar 4) (mC (.int 4))) (mC (.str "same")))) [some (svD s), some (.str mood), some (.str other), some (.str sign), some (wdD r)] [] = .ok (decide (r.2.getD 3 "" = Str.ofString "same")) [] := by
      unfold mOrB
      rw [tst_wd (r := r) rfl]
      exact tst_eq x'
    show mIf _ _ _ [some (svD s), some (.str mood), some (.str other), some (.str sign), some (wdD r)] [] = _
    rw [if_ok t]
    show _ = R.ok (D.str (if r.2.getD 3 "" = Str.ofString "same" then mood else r.2.getD 3 "")) []
    by_cases z : r.2.getD 3 "" = Str.ofString "same"
    · rw [if_pos z, decide_eq_true z]; rfl
    · rw [if_neg z, decide_eq_false z]; exact x'
def endD (p : Str × Bool) : D := .tup [.str p.1, .bl p.2]
theorem end_w {bad : Bool} {env : S.Env} {i : Nat} (h : env[i]? = some (some (.bl bad))) : mIf (mTru (mVar i)) (mC (.str "bad")) (mC (.str "good")) env st = .ok (.str (if bad = true then "bad" else "good")) st := by
  have t : mTru (mVar i) env st = .ok bad st := by
    unfold mTru mVar
    rw [h]
    rfl
  rw [if_ok t]
  cases bad <;> rfl
theorem end_ok {mood : Str} {bad : Bool} (h : SvOk s) : f_Service_end [svD s, .str mood, .bl bad] st = .ok (endD (svEnd s.rs mood bad)) st := by
  refine call_rt (st' := []) (belowL_cons (bel_sv s) rfl) ?_ rfl
  show m_Service_end [some (svD s), some (.str mood), some (.bl bad), none] [] = _
  have c : mMeth 5 "first" 3 f_Service_first [] (mVar 0) (mCons (mC (.str "end")) (mCons (mTup (mCons (mVar 1) (mCons (mIf (mTru (mVar 2)) (mC (.str "bad")) (mC (.str "good"))) (mNil)))) (mNil))) [some (svD s), some (.str mood), some (.bl bad), none] [] = .ok (optR wdD (firstR s.rs "end" [mood, if bad = true then "bad" else "good"])) [] :=
    meth_sv (ds := [.str "end", .tup [.str mood, .str (if bad = true then "bad" else "good")]]) rfl (by decide +kernel) (cons_ok rfl (cons_ok (tup_ok2 rfl (end_w rfl)) nil_ok)) rfl (first_ok (as := [mood, if bad = true then "bad" else "good"]) h)
  unfold m_Service_end
  refine (seq_nx (set_ok c)).trans (ret_ok ?_)
  show mIf _ _ _ [some (svD s), some (.str mood), some (.bl bad), some (optR wdD (firstR s.rs "end" [mood, if bad = true then "bad" else "good"]))] [] = _
  unfold svEnd
  cases q : firstR s.rs "end" [mood, if bad = true then "bad" else "good"] with
  | none => rw [if_ok (tst_none rfl)]; rfl
  | some r =>
    have x := w3 (st := []) (h.rs r (first_mem q).1)
    have y := w4 (st := []) (h.rs r (first_mem q).1) (.inr (first_mem q).2)
    show mIf _ _ _ [some (svD s), some (.str mood), some (.bl bad), some (wdD r)] [] = _
    rw [if_ok (tst_wd (r := r) rfl)]
    refine tup_ok2 ((bin_ok (d := wdD r) (e := .int 3) (st1 := []) (st2 := []) rfl rfl).trans x) ?_
    exact (bin_ok ((bin_ok (d := wdD r) (e := .int 4) (st1 := []) (st2 := []) rfl rfl).trans y) (e := .str "keep") (st2 := []) rfl).trans eq_strs
end
end K
namespace K
open PySem L2 S
/-! ### the law's own look -/
section
variable {st : Sto} {j : Nat} {s : Sv}
theorem un_fit {ws as : List Str} {env : S.Env} (hl : ws.length ≤ 1000) (h5 : 7 ≤ env.length) : mLcGo (.tp [.nm 5, .nm 6]) [5, 6] (mTest (mBin dNotIn (mVar 5) (mTup (mCons (mC (.str "any")) (mCons (mVar 6) mNil))))) (mVar 5) ((ws.zip as).map fun p => D.tup [.str p.1, .str p.2]) env st [] = .ok (((ws.zip as).filter fun p => !decide (p.1 = sAny ∨ p.1 = p.2)).map fun p => D.str p.1) st := by
  have hz : (ws.zip as).length ≤ sizeLine := by rw [sizeLine_eq, List.length_zip]; omega
  have := lc_filter (t := .tp [.nm 5, .nm 6]) (vs := [5, 6]) (mt := mTest (mBin dNotIn (mVar 5) (mTup (mCons (mC (.str "any")) (mCons (mVar 6) mNil))))) (me := mVar 5) (env := env) (st := st) (fun p : Str × Str => D.tup [.str p.1, .str p.2]) (fun p => D.str p.1) (fun p => !decide (p.1 = sAny ∨ p.1 = p.2)) (xs := ws.zip as) (acc := []) (by simpa using hz) fun p hp => by
    have l : (wipeE env [5, 6]).length = env.length := by simp [wipeE]
    have v4 : mVar 5 (((wipeE env [5, 6]).set 5 (some (.str p.1))).set 6 (some (.str p.2))) st = .ok (.str p.1) st := by
      unfold mVar
      rw [List.getElem?_set_ne (by decide), List.getElem?_set_self (by omega)]
    have v5 : mVar 6 (((wipeE env [5, 6]).set 5 (some (.str p.1))).set 6 (some (.str p.2))) st = .ok (.str p.2) st := by
      unfold mVar
      rw [List.getElem?_set_self (by rw [List.length_set]; omega)]
    refine ⟨((wipeE env [5, 6]).set 5 (some (.str p.1))).set 6 (some (.str p.2)), rfl, ?_, fun _ => v4⟩
    unfold mTest
    rw [(bin_ok v4 (tup_ok2 (a := .str "any") rfl v5)).trans nin_any]
    rfl
  simpa using this
theorem un_empty (ws as : List Str) : (((ws.zip as).filter fun p => !decide (p.1 = sAny ∨ p.1 = p.2)).map fun p => D.str p.1).isEmpty = fitW ws as := by
  unfold fitW
  induction ws.zip as with
  | nil => rfl
  | cons p ps ih =>
    rw [List.filter_cons, List.all_cons]
    cases decide (p.1 = sAny ∨ p.1 = p.2) with
    | true => simpa using ih
    | false => rfl
theorem step_lfirst {r : Str × List Str} {sort : Str} {as : List Str} {e0 e4 e5 e6 : Option D} (h : r.2.length ≤ 1000) : if fitR sort as r = true then p__law_first_1 [e0, some (.str sort), some (.lst (as.map D.str)), some (rowT r), e4, e5, e6] st = .rt (rowT r) st else ∃ f4, p__law_first_1 [e0, some (.str sort), some (.lst (as.map D.str)), some (rowT r), e4, e5, e6] st = .nx [e0, some (.str sort), some (.lst (as.map D.str)), some (rowT r), f4, e5, e6] st := by
  have zi : mItZip (mCons (mSl (mVar 3) (mPart (mC (.int 1))) (mNoPart)) (mCons (mVar 2) (mNil))) [e0, some (.str sort), some (.lst (as.map D.str)), some (rowT r), e4, e5, e6] st = .ok ((r.2.zip as).map fun p => D.tup [.str p.1, .str p.2]) st := by
    have sl : mSl (mVar 3) (mPart (mC (.int 1))) mNoPart [e0, some (.str sort), some (.lst (as.map D.str)), some (rowT r), e4, e5, e6] st = .ok (.tup (r.2.map D.str)) st := by
      show R.ok (D.tup (cutD (D.str r.1 :: r.2.map D.str) (some 1) none)) st = _
      rw [cut1]
    unfold mItZip
    rw [cons_ok sl (cons_ok (d := .lst (as.map D.str)) (st1 := st) rfl nil_ok)]
    show R.ok (zipD (r.2.map D.str) (as.map D.str)) st = _
    rw [zip_strs]
  have lc : mLc (.tp [.nm 5, .nm 6]) [5, 6] (mItZip (mCons (mSl (mVar 3) (mPart (mC (.int 1))) (mNoPart)) (mCons (mVar 2) (mNil)))) (mTest (mBin dNotIn (mVar 5) (mTup (mCons (mC (.str "any")) (mCons (mVar 6) (mNil)))))) (mVar 5) [e0, some (.str sort), some (.lst (as.map D.str)), some (rowT r), e4, e5, e6] st = .ok (.lst (((r.2.zip as).filter fun p => !decide (p.1 = sAny ∨ p.1 = p.2)).map fun p => D.str p.1)) st := by
    unfold mLc
    rw [zi]
    show R.bind (mLcGo _ _ _ _ _ _ _ _) _ = _
    rw [un_fit h (by simp)]
    rfl
  have t0 : mTest (mBin dEq (mBin dIx (mVar 3) (mC (.int 0))) (mVar 1)) [e0, some (.str sort), some (.lst (as.map D.str)), some (rowT r), some (.lst (((r.2.zip as).filter fun p => !decide (p.1 = sAny ∨ p.1 = p.2)).map fun p => D.str p.1)), e5, e6] st = .ok (decide (r.1 = sort)) st := by
    have i0 : mBin dIx (mVar 3) (mC (.int 0)) [e0, some (.str sort), some (.lst (as.map D.str)), some (rowT r), some (.lst (((r.2.zip as).filter fun p => !decide (p.1 = sAny ∨ p.1 = p.2)).map fun p => D.str p.1)), e5, e6] st = .ok (.str r.1) st := (bin_ok (d := rowT r) (e := .int 0) (st1 := st) (st2 := st) rfl rfl).trans (ixt (j := 0) rfl rfl)
    unfold mTest
    rw [(bin_ok i0 (e := .str sort) (st2 := st) rfl).trans eq_strs]
    rfl
  have t1 : mTest (mBin dEqL (mVar 4) (mLst (mNil))) [e0, some (.str sort), some (.lst (as.map D.str)), some (rowT r), some (.lst (((r.2.zip as).filter fun p => !decide (p.1 = sAny ∨ p.1 = p.2)).map fun p => D.str p.1)), e5, e6] st = .ok (fitW r.2 as) st := by
    unfold mTest
    rw [(bin_ok (d := .lst (((r.2.zip as).filter fun p => !decide (p.1 = sAny ∨ p.1 = p.2)).map fun p => D.str p.1)) (e := .lst []) (st1 := st) (st2 := st) rfl rfl).trans eqL_nil, un_empty]
    rfl
  have t : mAndB (mTest (mBin dEq (mBin dIx (mVar 3) (mC (.int 0))) (mVar 1))) (mTest (mBin dEqL (mVar 4) (mLst (mNil)))) [e0, some (.str sort), some (.lst (as.map D.str)), some (rowT r), some (.lst (((r.2.zip as).filter fun p => !decide (p.1 = sAny ∨ p.1 = p.2)).map fun p => D.str p.1)), e5, e6] st = .ok (fitR sort as r) st := by
    unfold mAndB
    rw [t0]
    unfold fitR
    cases decide (r.1 = sort) with
    | false => rfl
    | true => exact t1
  cases q : fitR sort as r with
  | true =>
    rw [q] at t
    rw [if_pos rfl]
    unfold p__law_first_1
    refine (seq_nx (set_ok lc)).trans ?_
    exact (if_t t).trans rfl
  | false =>
    rw [q] at t
    rw [if_neg (by decide)]
    refine ⟨some (.lst (((r.2.zip as).filter fun p => !decide (p.1 = sAny ∨ p.1 = p.2)).map fun p => D.str p.1)), ?_⟩
    unfold p__law_first_1
    refine (seq_nx (set_ok lc)).trans ?_
    exact (if_f t).trans rfl
/-- the service as the law tells it -/
def OneAt (st : Sto) (j : Nat) (s : Sv) : Prop := st[j]? = some (.dct oneK (oneEs s))
theorem get_one {st : Sto} {j : Nat} {s : Sv} (h : OneAt st j s) : dGetK (.ptr j) (.str "name") st = .ok (.str s.nm) st ∧ dGetK (.ptr j) (.str "kinds") st = .ok (.lst (s.ks.map D.str)) st ∧ dGetK (.ptr j) (.str "rows") st = .ok (.lst (s.rs.map rowT)) st ∧ dGetK (.ptr j) (.str "waits") st = .ok (.lst (s.ws.map D.str)) st ∧ dGetK (.ptr j) (.str "leaves") st = .ok (.lst (s.ls.map D.str)) st := by
  unfold OneAt at h
  refine ⟨?_, ?_, ?_, ?_, ?_⟩ <;> simp [dGetK, rd, h, kOf, lookK, oneK, oneEs, str_eq]
theorem at_ptr (ds : List D) : belowL 0 (.ptr j :: ds) = false := belowL_at (.head _) (by omega)
theorem lfirst_ok {sort : Str} {as : List Str} (h1 : OneAt st j s) (h : SvOk s) : f__law_first [.ptr j, .str sort, .lst (as.map D.str)] st = .ok (optR rowT (firstR s.rs sort as)) st := by
  refine at_rt (at_ptr _) ?_ (fun i e => by cases q : firstR s.rs sort as <;> rw [q] at e <;> cases e)
  show m__law_first [some (.ptr j), some (.str sort), some (.lst (as.map D.str)), none, none, none, none] st = _
  have lp := for_find (st := st) (t := .nm 3) (body := p__law_first_1) (f := rowT) (g := rowT) (p := fitR sort as) (I := fun env => ∃ e3 e4 e5 e6, env = [some (.ptr j), some (.str sort), some (.lst (as.map D.str)), e3, e4, e5, e6]) s.rs [some (.ptr j), some (.str sort), some (.lst (as.map D.str)), none, none, none, none] ⟨_, _, _, _, rfl⟩ fun r hr env ⟨e3, e4, e5, e6, he⟩ => by
    subst he
    refine ⟨_, rfl, ?_⟩
    have := step_lfirst (st := st) (r := r) (sort := sort) (as := as) (e0 := some (.ptr j)) (e4 := e4) (e5 := e5) (e6 := e6) (h.rs r hr).few
    show if fitR sort as r = true then p__law_first_1 [some (.ptr j), some (.str sort), some (.lst (as.map D.str)), some (rowT r), e4, e5, e6] st = _ else _
    cases q : fitR sort as r with
    | true => rw [q] at this; exact this
    | false => rw [q] at this; obtain ⟨f4, this⟩ := this; exact ⟨_, this, _, _, _, _, rfl⟩
  have it : mItAny (mBin dGetK (mVar 0) (mC (.str "rows"))) [some (.ptr j), some (.str sort), some (.lst (as.map D.str)), none, none, none, none] st = .ok (s.rs.map rowT) st := by
    unfold mItAny
    rw [(bin_ok (d := .ptr j) (e := .str "rows") (st1 := st) (st2 := st) rfl rfl).trans (get_one h1).2.2.1]
    rfl
  unfold m__law_first
  unfold firstR
  cases q : s.rs.find? (fitR sort as) with
  | some r =>
    rw [q] at lp
    refine seq_rt ?_
    unfold mFor
    rw [it]
    exact lp
  | none =>
    rw [q] at lp
    obtain ⟨env2, lp, e3, e4, e5, e6, rfl⟩ := lp
    refine (seq_nx (env' := [some (.ptr j), some (.str sort), some (.lst (as.map D.str)), e3, e4, e5, e6]) (st' := st) ?_).trans rfl
    unfold mFor
    rw [it]
    exact lp
theorem lbegun_ok {mark kind : Str} (h1 : OneAt st j s) (h : SvOk s) : f__law_begun [.ptr j, .str mark, .str kind] st = .ok (.str (svBegin s.rs mark kind)) st := by
  refine at_rt (at_ptr _) ?_ (fun i e => by cases e)
  show m__law_begun [some (.ptr j), some (.str mark), some (.str kind), none] st = _
  have c : mCall 3 f__law_first [] (mCons (mVar 0) (mCons (mC (.str "begin")) (mCons (mLst (mCons (mVar 1) (mCons (mVar 2) (mNil)))) (mNil)))) [some (.ptr j), some (.str mark), some (.str kind), none] st = .ok (optR rowT (firstR s.rs "begin" [mark, kind])) st :=
    call_ok (ds := [.ptr j, .str "begin", .lst [.str mark, .str kind]]) (cons_ok rfl (cons_ok rfl (cons_ok (lst_ok (ds := [.str mark, .str kind]) rfl (by simp)) nil_ok))) rfl (lfirst_ok (as := [mark, kind]) h1 h)
  unfold m__law_begun
  refine (seq_nx (set_ok c)).trans (ret_ok ?_)
  show mIf _ _ _ [some (.ptr j), some (.str mark), some (.str kind), some (optR rowT (firstR s.rs "begin" [mark, kind]))] st = _
  unfold svBegin
  cases q : firstR s.rs "begin" [mark, kind] with
  | none => rw [if_ok (tst_none rfl)]; rfl
  | some r =>
    rw [if_ok (tst_rt (r := r) rfl)]
    exact (bin_ok (d := rowT r) (e := .int 3) (st1 := st) (st2 := st) rfl rfl).trans (t3 (h.rs r (first_mem q).1))
theorem lsent_ok {mood other mark : Str} (h1 : OneAt st j s) (h : SvOk s) : f__law_sent [.ptr j, .str mood, .str other, .str mark] st = .ok (.str (svSend s.rs mood other mark)) st := by
  refine at_rt (at_ptr _) ?_ (fun i e => by cases e)
  show m__law_sent [some (.ptr j), some (.str mood), some (.str other), some (.str mark), none] st = _
  have c : mCall 3 f__law_first [] (mCons (mVar 0) (mCons (mC (.str "send")) (mCons (mLst (mCons (mVar 1) (mCons (mVar 2) (mNil)))) (mNil)))) [some (.ptr j), some (.str mood), some (.str other), some (.str mark), none] st = .ok (optR rowT (firstR s.rs "send" [mood, other])) st :=
    call_ok (ds := [.ptr j, .str "send", .lst [.str mood, .str other]]) (cons_ok rfl (cons_ok rfl (cons_ok (lst_ok (ds := [.str mood, .str other]) rfl (by simp)) nil_ok))) rfl (lfirst_ok (as := [mood, other]) h1 h)
  unfold m__law_sent
  refine (seq_nx (set_ok c)).trans ?_
  show mSeq _ _ [some (.ptr j), some (.str mood), some (.str other), some (.str mark), some (optR rowT (firstR s.rs "send" [mood, other]))] st = _
  unfold svSend
  cases q : firstR s.rs "send" [mood, other] with
  | none => exact seq_if_rt (tst_none rfl) rfl
  | some r =>
    rw [seq_if_f (tst_rt (r := r) rfl)]
    refine ret_ok ?_
    have x := t3 (st := st) (h.rs r (first_mem q).1)
    have x' : mBin dIx (mVar 4) (mC (.int 3)) [some (.ptr j), some (.str mood), some (.str other), some (.str mark), some (rowT r)] st = .ok (.str (r.2.getD 2 "")) st := (bin_ok (d := rowT r) (e := .int 3) (st1 := st) (st2 := st) rfl rfl).trans x
    show mIf _ _ _ [some (.ptr j), some (.str mood), some (.str other), some (.str mark), some (rowT r)] st = _
    rw [if_ok (tst_eq x')]
    show _ = R.ok (D.str (if r.2.getD 2 "" = Str.ofString "same" then mark else r.2.getD 2 "")) st
    by_cases z : r.2.getD 2 "" = Str.ofString "same"
    · rw [if_pos z, decide_eq_true z]; rfl
    · rw [if_neg z, decide_eq_false z]; exact x'
theorem lafter_ok {mood other sign : Str} (h1 : OneAt st j s) (h : SvOk s) : f__law_after [.ptr j, .str mood, .str other, .str sign] st = .ok (.str (svBack s.rs mood other sign)) st := by
  refine at_rt (at_ptr _) ?_ (fun i e => by cases e)
  show m__law_after [some (.ptr j), some (.str mood), some (.str other), some (.str sign), none] st = _
  have c : mCall 3 f__law_first [] (mCons (mVar 0) (mCons (mC (.str "back")) (mCons (mLst (mCons (mVar 1) (mCons (mVar 2) (mCons (mVar 3) (mNil))))) (mNil)))) [some (.ptr j), some (.str mood), some (.str other), some (.str sign), none] st = .ok (optR rowT (firstR s.rs "back" [mood, other, sign])) st :=
    call_ok (ds := [.ptr j, .str "back", .lst [.str mood, .str other, .str sign]]) (cons_ok rfl (cons_ok rfl (cons_ok (lst_ok (ds := [.str mood, .str other, .str sign]) rfl (by simp)) nil_ok))) rfl (lfirst_ok (as := [mood, other, sign]) h1 h)
  unfold m__law_after
  refine (seq_nx (set_ok c)).trans (ret_ok ?_)
  show mIf _ _ _ [some (.ptr j), some (.str mood), some (.str other), some (.str sign), some (optR rowT (firstR s.rs "back" [mood, other, sign]))] st = _
  unfold svBack
  cases q : firstR s.rs "back" [mood, other, sign] with
  | none =>
    rw [if_ok (k := true) (st1 := st) (by unfold mOrB; rw [tst_none rfl]; rfl)]
    rfl
  | some r =>
    have x := t4 (st := st) (h.rs r (first_mem q).1) (.inl (first_mem q).2)
    have x' : mBin dIx (mVar 4) (mC (.int 4)) [some (.ptr j), some (.str mood), some (.str other), some (.str sign), some (rowT r)] st = .ok (.str (r.2.getD 3 "")) st := (bin_ok (d := rowT r) (e := .int 4) (st1 := st) (st2 := st) rfl rfl).trans x
    have t : mOrB (mTest (mBin dIsN (mVar 4) (mC .non))) (mTest (mBin dEq (mBin dIx (mVar 4) (mC (.int 4))) (mC (.str "same")))) [some (.ptr j), some (.str mood), some (.str other), some (.str sign), some (rowT r)] st = .ok (decide (r.2.getD 3 "" = Str.ofString "same")) st := by
      unfold mOrB
      rw [tst_rt (r := r) rfl]
      exact tst_eq x'
    show mIf _ _ _ [some (.ptr j), some (.str mood), some (.str other), some (.str sign), some (rowT r)] st = _
    rw [if_ok t]
    show _ = R.ok (D.str (if r.2.getD 3 "" = Str.ofString "same" then mood else r.2.getD 3 "")) st
    by_cases z : r.2.getD 3 "" = Str.ofString "same"
    · rw [if_pos z, decide_eq_true z]; rfl
    · rw [if_neg z, decide_eq_false z]; exact x'
theorem lended_ok {mood : Str} {bad : Bool} (h1 : OneAt st j s) (h : SvOk s) : f__law_ended [.ptr j, .str mood, .bl bad] st = .ok (endD (svEnd s.rs mood bad)) st := by
  refine at_rt (at_ptr _) ?_ (fun i e => by cases e)
  show m__law_ended [some (.ptr j), some (.str mood), some (.bl bad), none] st = _
  have c : mCall 3 f__law_first [] (mCons (mVar 0) (mCons (mC (.str "end")) (mCons (mLst (mCons (mVar 1) (mCons (mIf (mTru (mVar 2)) (mC (.str "bad")) (mC (.str "good"))) (mNil)))) (mNil)))) [some (.ptr j), some (.str mood), some (.bl bad), none] st = .ok (optR rowT (firstR s.rs "end" [mood, if bad = true then "bad" else "good"])) st :=
    call_ok (ds := [.ptr j, .str "end", .lst [.str mood, .str (if bad = true then "bad" else "good")]]) (cons_ok rfl (cons_ok rfl (cons_ok (lst_ok (ds := [.str mood, .str (if bad = true then "bad" else "good")]) (cons_ok rfl (cons_ok (end_w rfl) nil_ok)) (by simp)) nil_ok))) rfl (lfirst_ok (as := [mood, if bad = true then "bad" else "good"]) h1 h)
  unfold m__law_ended
  refine (seq_nx (set_ok c)).trans (ret_ok ?_)
  show mIf _ _ _ [some (.ptr j), some (.str mood), some (.bl bad), some (optR rowT (firstR s.rs "end" [mood, if bad = true then "bad" else "good"]))] st = _
  unfold svEnd
  cases q : firstR s.rs "end" [mood, if bad = true then "bad" else "good"] with
  | none => rw [if_ok (tst_none rfl)]; rfl
  | some r =>
    have x := t3 (st := st) (h.rs r (first_mem q).1)
    have y := t4 (st := st) (h.rs r (first_mem q).1) (.inr (first_mem q).2)
    show mIf _ _ _ [some (.ptr j), some (.str mood), some (.bl bad), some (rowT r)] st = _
    rw [if_ok (tst_rt (r := r) rfl)]
    refine tup_ok2 ((bin_ok (d := rowT r) (e := .int 3) (st1 := st) (st2 := st) rfl rfl).trans x) ?_
    exact (bin_ok ((bin_ok (d := rowT r) (e := .int 4) (st1 := st) (st2 := st) rfl rfl).trans y) (e := .str "keep") (st2 := st) rfl).trans eq_strs
theorem service_of_ok (h1 : OneAt st j s) (h : SvOk s) : f__law_service_of [.ptr j] st = .ok (svD s) st := by
  refine at_rt (at_ptr _) ?_ (fun i e => by cases e)
  show m__law_service_of [some (.ptr j), none, none] st = _
  have g : ∀ {w : Str} {d : D} {e1 : Option D}, dGetK (.ptr j) (.str w) st = .ok d st → mBin dGetK (mVar 0) (mC (.str w)) [some (.ptr j), e1, none] st = .ok d st := fun hd => (bin_ok (d := .ptr j) (st1 := st) (st2 := st) rfl rfl).trans hd
  have rows : mLc (.nm 2) [2] (mItAny (mBin dGetK (mVar 0) (mC (.str "rows")))) (mYes) (mCall 1 f__law_row [] (mCons (mVar 2) (mNil))) [some (.ptr j), none, none] st = .ok (.lst (s.rs.map rowD)) st := by
    unfold mLc mItAny
    rw [g (get_one h1).2.2.1]
    have := lc_map (t := .nm 2) (vs := [2]) (mt := mYes) (me := mCall 1 f__law_row [] (mCons (mVar 2) (mNil))) (env := [some (.ptr j), none, none]) (st := st) rowT rowD (xs := s.rs) (acc := []) (by rw [sizeLine_eq]; have := h.rl; simp; omega) fun r hr => ⟨_, rfl, rfl, call_ok (ds := [rowT r]) rfl rfl (row_made (h.rs r hr))⟩
    simp only [R.bind, itemsF, this, List.nil_append]
  unfold m__law_service_of
  refine (seq_nx (set_ok rows)).trans (ret_ok ?_)
  show mMakeA _ _ _ _ _ [some (.ptr j), some (.lst (s.rs.map rowD)), none] st = _
  have a3 : mArgs 5 0 (mCons (mBin dGetK (mVar 0) (mC (.str "name"))) (mCons (mBin dGetK (mVar 0) (mC (.str "kinds"))) (mCons (mBin dGetK (mVar 0) (mC (.str "waits"))) (mCons (mApp dTuple (mCons (mBin dGetK (mVar 0) (mC (.str "leaves"))) (mNil))) (mCons (mVar 1) (mNil)))))) (mNil) [.tup [], .tup [], .tup []] [some (.ptr j), some (.lst (s.rs.map rowD)), none] st = .ok [.str s.nm, .lst (s.ks.map D.str), .lst (s.ws.map D.str), .tup (s.ls.map D.str), .lst (s.rs.map rowD), .tup [], .tup [], .tup []] st := by
    have tp : mApp dTuple (mCons (mBin dGetK (mVar 0) (mC (.str "leaves"))) (mNil)) [some (.ptr j), some (.lst (s.rs.map rowD)), none] st = .ok (.tup (s.ls.map D.str)) st := (app_ok (cons_ok (g (get_one h1).2.2.2.2) nil_ok)).trans rfl
    unfold mArgs
    rw [cons_ok (g (get_one h1).1) (cons_ok (g (get_one h1).2.1) (cons_ok (g (get_one h1).2.2.2.1) (cons_ok tp (cons_ok (d := .lst (s.rs.map rowD)) (st1 := st) rfl nil_ok))))]
    rfl
  unfold mMakeA
  rw [a3]
  exact service_made (b1 := true) (b2 := true) (b3 := false) (b4 := true) h
end
end K
namespace K
open PySem L2 S
/-! ### the law: a service with its rows changed -/
theorem eq_ints {a b : Int} {st : Sto} : dEq (.int a) (.int b) st = .ok (.bl (decide (a = b))) st := by
  simp [dEq, eqD, isFl, fl, scal]
theorem par2_ok {i j : Nat} {m n : M} {env : S.Env} {st st1 st2 : Sto} {a b : D} (h : m env st = .ok a st1) (h' : n env st1 = .ok b st2) : mPar [i, j] (mCons m (mCons n mNil)) env st = .nx ((env.set i (some a)).set j (some b)) st2 := by
  unfold mPar
  rw [cons_ok h (cons_ok h' nil_ok)]
  rfl
theorem add_lst {xs ys : List D} {st : Sto} (h : xs.length + ys.length ≤ 100000) : dAdd (.lst xs) (.lst ys) st = .ok (.lst (xs ++ ys)) st := by
  have : xs.length + ys.length ≤ 16777216 := by omega
  simp [dAdd, rd, sizeLine_eq, this]
theorem cut_min {xs : List D} {k : Nat} : cutD xs none (some (k : Int)) = xs.take k := by
  have e1 : HT.sIx xs.length 0 none = 0 := rfl
  unfold cutD
  rw [e1, HT.sIx_nat]
  simp [List.take_eq_take_iff]
theorem list_of {α : Type} {f : α → D} {xs : List α} : ∀ {ys : List D}, (∀ y ∈ ys, y ∈ xs.map f) → ∃ zs : List α, ys = zs.map f ∧ (∀ z ∈ zs, z ∈ xs) ∧ zs.length = ys.length
  | [], _ => ⟨[], rfl, by simp, rfl⟩
  | y :: ys, h => by
    obtain ⟨x, hx, rfl⟩ := List.mem_map.mp (h y (.head _))
    obtain ⟨zs, rfl, h1, h2⟩ := list_of (xs := xs) (f := f) fun z hz => h z (.tail _ hz)
    exact ⟨x :: zs, rfl, fun z hz => by
      rcases List.mem_cons.mp hz with rfl | hz
      · exact hx
      · exact h1 z hz, by simp⟩
theorem Box.set {st : Sto} {b a : Nat} {c : C} (h : Box st b) (ne : a ≠ b) : Box (st.set a c) b := by
  obtain ⟨w, s, k, hb⟩ := h
  exact ⟨w, s, k, by rw [List.getElem?_set_ne ne]; exact hb⟩
theorem Box.app {st : Sto} {b : Nat} {r : Sto} (h : Box st b) : Box (st ++ r) b := by
  obtain ⟨w, s, k, hb⟩ := h
  exact ⟨w, s, k, by rw [List.getElem?_append_left (List.getElem?_eq_some_iff.mp hb).1]; exact hb⟩
structure Tn (st : Sto) (b j : Nat) (s : Sv) : Prop where
  box : Box st b
  one : OneAt st j s
  ne : j ≠ b
  ok : SvOk s
theorem Tn.lt {st : Sto} {b j : Nat} {s : Sv} (h : Tn st b j s) : j < st.length := (List.getElem?_eq_some_iff.mp h.one).1
theorem Tn.step {st st' : Sto} {b j : Nat} {s : Sv} (h : Tn st b j s) (d : Drawn b st st') : Tn st' b j s := ⟨d.box, (d.off j h.lt h.ne).trans h.one, h.ne, h.ok⟩
theorem Tn.app {st r : Sto} {b j : Nat} {s : Sv} (h : Tn st b j s) : Tn (st ++ r) b j s := ⟨h.box.app, by
  have := h.lt
  unfold OneAt
  rw [List.getElem?_append_left this]; exact h.one, h.ne, h.ok⟩
theorem Tn.other {st : Sto} {b j k : Nat} {s : Sv} {c : C} (h : Tn st b j s) (h1 : k ≠ b) (h2 : k ≠ j) : Tn (st.set k c) b j s := ⟨h.box.set h1, by
  unfold OneAt
  rw [List.getElem?_set_ne h2]; exact h.one, h.ne, h.ok⟩
theorem Tn.put {st : Sto} {b j : Nat} {s : Sv} {rs : List (Str × List Str)} (h : Tn st b j s) (hr : ∀ r ∈ rs, RowOk r) (hl : rs.length ≤ 30) : ∃ st', dPutK (.lst (rs.map rowT)) (.ptr j) (.str "rows") st = .ok .non st' ∧ Tn st' b j { s with rs := rs } := by
  refine ⟨st.set j (.dct oneK (oneEs { s with rs := rs })), ?_, h.box.set h.ne, st_same h.one, h.ne, ⟨h.ok.nm, h.ok.ks, h.ok.k0, h.ok.ws, h.ok.ls, hr, hl⟩⟩
  have e := h.one
  unfold OneAt at e
  simp [dPutK, e, kOf, sizeLine_eq, oneK, oneEs, putKs, putKd, repl, str_eq]
theorem setk_ok {mo mi mv : M} {env : S.Env} {st st1 st2 st3 st4 : Sto} {v o i x : D} (hv : mv env st = .ok v st1) (ho : mo env st1 = .ok o st2) (hi : mi env st2 = .ok i st3) (h : dPutK v o i st3 = .ok x st4) : mSetK mo mi mv env st = .nx env st4 := by
  unfold mSetK mDo
  simp only [hv, R.bind, ho, hi, h]
section
variable {st : Sto} {b j : Nat} {s : Sv} {e0 e1 e3 e4 e5 e7 e8 e9 ea eb ec ed ee ef eg eh : Option D}
def lv (e0 e1 : Option D) (b : Nat) (e3 e4 e5 : Option D) (j : Nat) (e7 e8 e9 ea eb ec ed ee ef eg eh : Option D) : S.Env := [e0, e1, some (.ptr b), e3, e4, e5, some (.ptr j), e7, e8, e9, ea, eb, ec, ed, ee, ef, eg, eh]
theorem tk_ok {n : Int} {r : Nat} {st1 : Sto} {env : S.Env} (hv : env[2]? = some (some (.ptr b))) (h : f__law_take [.ptr b, .int n] st = .ok (.int r) st1) : mTest (mBin dEq (mCall 2 f__law_take [] (mCons (mVar 2) (mCons (mC (.int n)) (mNil)))) (mC (.int 0))) env st = .ok (decide ((r : Int) = 0)) st1 := by
  have c : mCall 2 f__law_take [] (mCons (mVar 2) (mCons (mC (.int n)) (mNil))) env st = .ok (.int r) st1 := call_ok (ds := [.ptr b, .int n]) (cons_ok (by unfold mVar; rw [hv]) (cons_ok rfl nil_ok)) rfl h
  unfold mTest
  rw [(bin_ok c (e := .int 0) (st2 := st1) rfl).trans eq_ints]
  rfl
theorem stA (T : Tn st b j s) (hl : s.rs.length ≤ 5) : ∃ s' st', p_law_11 (lv e0 e1 b e3 e4 e5 j e7 e8 e9 ea eb ec ed ee ef eg eh) st = p_law_10 (lv e0 e1 b e3 e4 e5 j e7 e8 e9 ea eb ec ed ee ef eg eh) st' ∧ Tn st' b j s' ∧ s'.rs.length ≤ 7 := by
  obtain ⟨r, st1, r1, q1, D1⟩ := take_d (many := 2) T.box (by decide) (by decide)
  have T1 := T.step D1
  have t1 := tk_ok (env := lv e0 e1 b e3 e4 e5 j e7 e8 e9 ea eb ec ed ee ef eg eh) rfl q1
  have g : mBin dGetK (mVar 6) (mC (.str "rows")) (lv e0 e1 b e3 e4 e5 j e7 e8 e9 ea eb ec ed ee ef eg eh) st1 = .ok (.lst (s.rs.map rowT)) st1 := (bin_ok (d := .ptr j) (e := .str "rows") (st1 := st1) (st2 := st1) rfl rfl).trans (get_one T1.one).2.2.1
  have t2 : mTest (mBin dNeL (mBin dGetK (mVar 6) (mC (.str "rows"))) (mLst (mNil))) (lv e0 e1 b e3 e4 e5 j e7 e8 e9 ea eb ec ed ee ef eg eh) st1 = .ok (!(s.rs.map rowT).isEmpty) st1 := by
    unfold mTest
    rw [(bin_ok g (e := .lst []) (st2 := st1) rfl).trans neL_nil]
    rfl
  have t : mAndB (mTest (mBin dEq (mCall 2 f__law_take [] (mCons (mVar 2) (mCons (mC (.int 2)) (mNil)))) (mC (.int 0)))) (mTest (mBin dNeL (mBin dGetK (mVar 6) (mC (.str "rows"))) (mLst (mNil)))) (lv e0 e1 b e3 e4 e5 j e7 e8 e9 ea eb ec ed ee ef eg eh) st = .ok (decide ((r : Int) = 0) && !(s.rs.map rowT).isEmpty) st1 := by
    unfold mAndB
    rw [t1]
    cases decide ((r : Int) = 0) with
    | false => rfl
    | true => exact t2
  unfold p_law_11
  cases q : (decide ((r : Int) = 0) && !(s.rs.map rowT).isEmpty) with
  | false =>
    rw [q] at t
    exact ⟨s, st1, seq_if_f t, T1, by omega⟩
  | true =>
    rw [q] at t
    obtain ⟨ys, st2, q2, pm, D2⟩ := mixed_ok (xs := s.rs.map rowT) T1.box (by simp; omega)
    have T2 := T1.step D2
    obtain ⟨zs, rfl, hz, hzl⟩ := list_of (f := rowT) (xs := s.rs) fun y hy => pm.mem_iff.mp hy
    have m2 : mSl (mCall 2 f__law_mixed [] (mCons (mVar 2) (mCons (mBin dGetK (mVar 6) (mC (.str "rows"))) (mNil)))) (mNoPart) (mPart (mC (.int 2))) (lv e0 e1 b e3 e4 e5 j e7 e8 e9 ea eb ec ed ee ef eg eh) st1 = .ok (.lst ((zs.take 2).map rowT)) st2 := by
      have c : mCall 2 f__law_mixed [] (mCons (mVar 2) (mCons (mBin dGetK (mVar 6) (mC (.str "rows"))) (mNil))) (lv e0 e1 b e3 e4 e5 j e7 e8 e9 ea eb ec ed ee ef eg eh) st1 = .ok (.lst (zs.map rowT)) st2 := call_ok (ds := [.ptr b, .lst (s.rs.map rowT)]) (cons_ok rfl (cons_ok g nil_ok)) rfl q2
      unfold mSl
      rw [c]
      show R.ok (D.lst (cutD (zs.map rowT) none (some ((2 : Nat) : Int)))) st2 = _
      rw [cut_min, List.map_take]
    have ad : mBin dAdd (mBin dGetK (mVar 6) (mC (.str "rows"))) (mSl (mCall 2 f__law_mixed [] (mCons (mVar 2) (mCons (mBin dGetK (mVar 6) (mC (.str "rows"))) (mNil)))) (mNoPart) (mPart (mC (.int 2)))) (lv e0 e1 b e3 e4 e5 j e7 e8 e9 ea eb ec ed ee ef eg eh) st1 = .ok (.lst ((s.rs ++ zs.take 2).map rowT)) st2 := by
      refine (bin_ok g m2).trans ?_
      rw [add_lst (by simp; omega), List.map_append]
    have hr : ∀ r ∈ s.rs ++ zs.take 2, RowOk r := fun r hr => by
      rcases List.mem_append.mp hr with hr | hr
      · exact T.ok.rs r hr
      · exact T.ok.rs r (hz r (List.mem_of_mem_take hr))
    obtain ⟨st3, q3, T3⟩ := T2.put hr (by simp; omega)
    refine ⟨_, st3, ?_, T3, by simp; omega⟩
    refine seq_nx ?_
    rw [if_t t]
    exact setk_ok ad rfl rfl q3
def aheadR : List (Str × List Str) := [("send", ["any", "zw", "none"]), ("back", ["any", "zw", "any", "same"]), ("begin", ["zw", "any", "calm"])]
theorem ahead_ok : ∀ r ∈ aheadR, RowOk r := by
  intro r hr
  simp only [aheadR, List.mem_cons, List.not_mem_nil, or_false] at hr
  rcases hr with rfl | rfl | rfl
  · exact ⟨_, .s, .cons (by decide +kernel) (.cons (by decide +kernel) (.cons (by decide +kernel) .nil))⟩
  · exact ⟨_, .k, .cons (by decide +kernel) (.cons (by decide +kernel) (.cons (by decide +kernel) (.cons (by decide +kernel) .nil)))⟩
  · exact ⟨_, .b, .cons (by decide +kernel) (.cons (by decide +kernel) (.cons (by decide +kernel) .nil))⟩
theorem stB (T : Tn st b j s) (hl : s.rs.length ≤ 7) : ∃ s' st' f7, p_law_10 (lv e0 e1 b e3 e4 e5 j e7 e8 e9 ea eb ec ed ee ef eg eh) st = p_law_9 (lv e0 e1 b e3 e4 e5 j f7 e8 e9 ea eb ec ed ee ef eg eh) st' ∧ Tn st' b j s' := by
  obtain ⟨r, st1, r1, q1, D1⟩ := take_d (many := 4) T.box (by decide) (by decide)
  have T1 := T.step D1
  have t1 := tk_ok (env := lv e0 e1 b e3 e4 e5 j e7 e8 e9 ea eb ec ed ee ef eg eh) rfl q1
  unfold p_law_10
  cases q : decide ((r : Int) = 0) with
  | false =>
    rw [q] at t1
    exact ⟨s, st1, e7, seq_if_f t1, T1⟩
  | true =>
    rw [q] at t1
    have c1 : mLstC (mCons (mTup (mCons (mC (.str "send")) (mCons (mC (.str "any")) (mCons (mC (.str "zw")) (mCons (mC (.str "none")) (mNil)))))) (mCons (mTup (mCons (mC (.str "back")) (mCons (mC (.str "any")) (mCons (mC (.str "zw")) (mCons (mC (.str "any")) (mCons (mC (.str "same")) (mNil))))))) (mNil))) (lv e0 e1 b e3 e4 e5 j e7 e8 e9 ea eb ec ed ee ef eg eh) st1 = .ok (.ptr st1.length) (st1 ++ [C.lst ((aheadR.take 2).map rowT)]) := by
      simp [mLstC, mCons, mTup, mC, mNil, R.bind, sizeLine_eq, aheadR, rowT]
    have T2 : Tn (st1 ++ [C.lst ((aheadR.take 2).map rowT)]) b j s := T1.app
    have la := T1.lt
    have lb := T1.box.lt
    have T3 : Tn ((st1 ++ [C.lst ((aheadR.take 2).map rowT)]).set st1.length (C.lst (aheadR.map rowT))) b j s := T2.other (by omega) (by omega)
    have hc : ((st1 ++ [C.lst ((aheadR.take 2).map rowT)]).set st1.length (C.lst (aheadR.map rowT)))[st1.length]? = some (.lst (aheadR.map rowT)) := List.getElem?_set_self (by simp)
    have hc0 : (st1 ++ [C.lst ((aheadR.take 2).map rowT)])[st1.length]? = some (.lst ((aheadR.take 2).map rowT)) := by simp
    generalize hst : (st1 ++ [C.lst ((aheadR.take 2).map rowT)]).set st1.length (C.lst (aheadR.map rowT)) = st2 at T3 hc
    have c2 : mDo (mLm dAppend (mVar 7) (mCons (mTup (mCons (mC (.str "begin")) (mCons (mC (.str "zw")) (mCons (mC (.str "any")) (mCons (mC (.str "calm")) (mNil)))))) (mNil))) (lv e0 e1 b e3 e4 e5 j (some (.ptr st1.length)) e8 e9 ea eb ec ed ee ef eg eh) (st1 ++ [C.lst ((aheadR.take 2).map rowT)]) = .nx (lv e0 e1 b e3 e4 e5 j (some (.ptr st1.length)) e8 e9 ea eb ec ed ee ef eg eh) st2 := by
      refine do_ok (d := .non) ?_
      have tp : mCons (mTup (mCons (mC (.str "begin")) (mCons (mC (.str "zw")) (mCons (mC (.str "any")) (mCons (mC (.str "calm")) (mNil)))))) (mNil) (lv e0 e1 b e3 e4 e5 j (some (.ptr st1.length)) e8 e9 ea eb ec ed ee ef eg eh) (st1 ++ [C.lst ((aheadR.take 2).map rowT)]) = .ok [rowT ("begin", ["zw", "any", "calm"])] (st1 ++ [C.lst ((aheadR.take 2).map rowT)]) := by
        simp [mCons, mTup, mC, mNil, R.bind, sizeLine_eq, rowT]
      unfold mLm
      rw [show mVar 7 (lv e0 e1 b e3 e4 e5 j (some (.ptr st1.length)) e8 e9 ea eb ec ed ee ef eg eh) (st1 ++ [C.lst ((aheadR.take 2).map rowT)]) = .ok (.ptr st1.length) (st1 ++ [C.lst ((aheadR.take 2).map rowT)]) from rfl]
      simp only [R.bind, tp]
      rw [if_pos (by simp [isLst, rd, hc0])]
      simp only [dAppend, hc0]
      rw [← hst]
      simp [sizeLine_eq, aheadR]
    have g : mBin dGetK (mVar 6) (mC (.str "rows")) (lv e0 e1 b e3 e4 e5 j (some (.ptr st1.length)) e8 e9 ea eb ec ed ee ef eg eh) st2 = .ok (.lst (s.rs.map rowT)) st2 := (bin_ok (d := .ptr j) (e := .str "rows") (st1 := st2) (st2 := st2) rfl rfl).trans (get_one T3.one).2.2.1
    have sl : mSl (mBin dGetK (mVar 6) (mC (.str "rows"))) (mNoPart) (mPart (mC (.int 6))) (lv e0 e1 b e3 e4 e5 j (some (.ptr st1.length)) e8 e9 ea eb ec ed ee ef eg eh) st2 = .ok (.lst ((s.rs.take 6).map rowT)) st2 := by
      unfold mSl
      rw [g]
      show R.ok (D.lst (cutD (s.rs.map rowT) none (some ((6 : Nat) : Int)))) st2 = _
      rw [cut_min, List.map_take]
    have mu : mBin dMulY (mVar 7) (mC (.int 6)) (lv e0 e1 b e3 e4 e5 j (some (.ptr st1.length)) e8 e9 ea eb ec ed ee ef eg eh) st2 = .ok (.lst ((List.replicate 6 aheadR).flatten.map rowT)) st2 := by
      refine (bin_ok (d := .ptr st1.length) (e := .int 6) (st1 := st2) (st2 := st2) rfl rfl).trans ?_
      have : rd st2 (.ptr st1.length) = .lst (aheadR.map rowT) := by simp [rd, hc]
      unfold dMulY
      rw [this]
      rfl
    have ad : mBin dAdd (mBin dMulY (mVar 7) (mC (.int 6))) (mSl (mBin dGetK (mVar 6) (mC (.str "rows"))) (mNoPart) (mPart (mC (.int 6)))) (lv e0 e1 b e3 e4 e5 j (some (.ptr st1.length)) e8 e9 ea eb ec ed ee ef eg eh) st2 = .ok (.lst (((List.replicate 6 aheadR).flatten ++ s.rs.take 6).map rowT)) st2 := by
      refine (bin_ok mu sl).trans ?_
      rw [add_lst (by simp [aheadR]; omega), List.map_append]
    have hr : ∀ r ∈ (List.replicate 6 aheadR).flatten ++ s.rs.take 6, RowOk r := fun r hr => by
      rcases List.mem_append.mp hr with hr | hr
      · obtain ⟨l, hl, hr⟩ := List.mem_flatten.mp hr
        rw [List.eq_of_mem_replicate hl] at hr
        exact ahead_ok r hr
      · exact T.ok.rs r (List.mem_of_mem_take hr)
    obtain ⟨st3, q3, T4⟩ := T3.put hr (by simp [aheadR]; omega)
    refine ⟨_, st3, some (.ptr st1.length), ?_, T4⟩
    refine seq_nx ?_
    rw [if_t t1]
    refine (seq_nx (set_ok c1)).trans ?_
    show mSeq _ _ (lv e0 e1 b e3 e4 e5 j (some (.ptr st1.length)) e8 e9 ea eb ec ed ee ef eg eh) _ = _
    refine (seq_nx c2).trans ?_
    exact setk_ok ad rfl rfl q3
end
end K
namespace K
open PySem L2 S
/-! ### the law: what is asked -/
theorem end_low {s : Sv} {mood : Str} {bad : Bool} (h : SvOk s) : low (svEnd s.rs mood bad).1 = true := by
  unfold svEnd
  cases q : firstR s.rs "end" [mood, if bad = true then "bad" else "good"] with
  | none => decide +kernel
  | some r =>
    have hr := h.rs r (first_mem q).1
    have := row3 hr
    exact hr.low _ (.tail _ (List.mem_of_getElem? this))
theorem repr_end {p : Str × Bool} {st : Sto} (h : low p.1 = true) : ∃ t, dRepr [endD p] st = .ok (.str t) st := by
  have hs := low_ok h
  have hl := low_len h
  have c : (PyData.tuple [.str p.1, .bool p.2]).showable = true ∧ (PyData.tuple [.str p.1, .bool p.2]).hasDict = false ∧ (PyData.tuple [.str p.1, .bool p.2]).depth ≤ 50 ∧ (PyData.tuple [.str p.1, .bool p.2]).shown.length ≤ sizeLine := by
    refine ⟨rfl, rfl, by simp [PyData.depth, PyData.depthAll], PyData.shown_fits (B := 8) (by decide) (by decide) ?_ ?_⟩
    · have h1 := hs
      unfold PyData.strOk at h1
      rw [← Array.all_toList, List.all_eq_true] at h1
      show (PyData.leavesShort 8 (.str p.1) && (PyData.leavesShort 8 (.bool p.2) && true)) = true
      have a : PyData.leavesShort 8 (.str p.1) = true := by
        simp only [PyData.leavesShort]
        rw [List.all_eq_true]
        intro c hc
        have := of_decide_eq_true (h1 c hc)
        exact decide_eq_true (by omega)
      rw [a]
      simp [PyData.leavesShort]
    · have e : (PyData.tuple [.str p.1, .bool p.2]).weight = p.1.length + 1 + (0 + 1 + 0) := by
        simp only [PyData.weight, PyData.weightAll]
        rfl
      rw [e]
      have : (2 : Nat) ^ 20 = 1048576 := by decide
      omega
  refine ⟨(PyData.tuple [.str p.1, .bool p.2]).shown, ?_⟩
  have e : toPyL [D.str p.1, D.bl p.2] = some [.str p.1, .bool p.2] := rfl
  unfold dRepr endD
  simp only [e]
  rw [if_pos c]
theorem ne_str {x : Str} {st : Sto} : dNe (.str x) (.str x) st = .ok (.bl false) st := by
  simp [dNe, eqD, isFl, fl, scal]
theorem tne {m n : M} {env : S.Env} {st : Sto} {x : Str} (h : m env st = .ok (.str x) st) (h' : n env st = .ok (.str x) st) : mTest (mBin dNe m n) env st = .ok false st := by
  unfold mTest
  rw [(bin_ok h h').trans ne_str]
  rfl
section
variable {st : Sto} {b j : Nat} {s : Sv} {e0 e1 e3 e7 eb ec ed ee ef eg eh : Option D} {w0 w1 w2 w3 w4 w5 w6 : Str} {ns : List Str}
/-- what stands fast while a service is asked -/
def av (e0 e1 : Option D) (b : Nat) (e3 : Option D) (ns : List Str) (w0 w1 w2 w3 w4 w5 w6 : Str) (j : Nat) (e7 : Option D) (s : Sv) (eb ec ed ee ef eg eh : Option D) : S.Env := [e0, e1, some (.ptr b), e3, some (.lst (ns.map D.str)), some (.lst ([w0, w1, w2, w3, w4, w5, w6].map D.str)), some (.ptr j), e7, some (svD s), some (.lst ([w4, w5, Str.ofString "none", Str.ofString "zx"].map D.str)), some (.lst ([w2, w3, Str.ofString "calm", Str.ofString "zx"].map D.str)), eb, ec, ed, ee, ef, eg, eh]
theorem asked {mark kind mood near sign : Str} {bad : Bool} (T : Tn st b j s) : p_law_4 (av e0 e1 b e3 ns w0 w1 w2 w3 w4 w5 w6 j e7 s eb (some (.str mark)) (some (.str kind)) (some (.str mood)) (some (.str near)) (some (.str sign)) (some (.bl bad))) st = .nx (av e0 e1 b e3 ns w0 w1 w2 w3 w4 w5 w6 j e7 s eb (some (.str mark)) (some (.str kind)) (some (.str mood)) (some (.str near)) (some (.str sign)) (some (.bl bad))) st := by
  generalize hE : av e0 e1 b e3 ns w0 w1 w2 w3 w4 w5 w6 j e7 s eb (some (.str mark)) (some (.str kind)) (some (.str mood)) (some (.str near)) (some (.str sign)) (some (.bl bad)) = E
  have v : ∀ (i : Nat) {d : D}, (av e0 e1 b e3 ns w0 w1 w2 w3 w4 w5 w6 j e7 s eb (some (.str mark)) (some (.str kind)) (some (.str mood)) (some (.str near)) (some (.str sign)) (some (.bl bad)))[i]? = some (some d) → mVar i E st = .ok d st := fun i d h => by
    unfold mVar
    rw [← hE, h]
  have v6 := v 6 (d := .ptr j) rfl
  have v8 := v 8 (d := svD s) rfl
  have v12 := v 12 (d := .str mark) rfl
  have v13 := v 13 (d := .str kind) rfl
  have v14 := v 14 (d := .str mood) rfl
  have v15 := v 15 (d := .str near) rfl
  have v16 := v 16 (d := .str sign) rfl
  have v17 := v 17 (d := .bl bad) rfl
  obtain ⟨t, ht⟩ := repr_end (st := st) (end_low (mood := mood) (bad := bad) T.ok)
  have m1 : mMeth 5 "begin" 3 f_Service_begin [] (mVar 8) (mCons (mVar 12) (mCons (mVar 13) (mNil))) E st = .ok (.str (svBegin s.rs mark kind)) st := meth_sv (ds := [.str mark, .str kind]) v8 (by decide +kernel) (cons_ok v12 (cons_ok v13 nil_ok)) rfl (begin_ok T.ok)
  have l1 : mCall 3 f__law_begun [] (mCons (mVar 6) (mCons (mVar 12) (mCons (mVar 13) (mNil)))) E st = .ok (.str (svBegin s.rs mark kind)) st := call_ok (ds := [.ptr j, .str mark, .str kind]) (cons_ok v6 (cons_ok v12 (cons_ok v13 nil_ok))) rfl (lbegun_ok T.one T.ok)
  have m2 : mMeth 5 "send" 4 f_Service_send [] (mVar 8) (mCons (mVar 14) (mCons (mVar 15) (mCons (mVar 12) (mNil)))) E st = .ok (.str (svSend s.rs mood near mark)) st := meth_sv (ds := [.str mood, .str near, .str mark]) v8 (by decide +kernel) (cons_ok v14 (cons_ok v15 (cons_ok v12 nil_ok))) rfl (send_ok T.ok)
  have l2 : mCall 4 f__law_sent [] (mCons (mVar 6) (mCons (mVar 14) (mCons (mVar 15) (mCons (mVar 12) (mNil))))) E st = .ok (.str (svSend s.rs mood near mark)) st := call_ok (ds := [.ptr j, .str mood, .str near, .str mark]) (cons_ok v6 (cons_ok v14 (cons_ok v15 (cons_ok v12 nil_ok)))) rfl (lsent_ok T.one T.ok)
  have m3 : mMeth 5 "back" 4 f_Service_back [] (mVar 8) (mCons (mVar 14) (mCons (mVar 15) (mCons (mVar 16) (mNil)))) E st = .ok (.str (svBack s.rs mood near sign)) st := meth_sv (ds := [.str mood, .str near, .str sign]) v8 (by decide +kernel) (cons_ok v14 (cons_ok v15 (cons_ok v16 nil_ok))) rfl (back_ok T.ok)
  have l3 : mCall 4 f__law_after [] (mCons (mVar 6) (mCons (mVar 14) (mCons (mVar 15) (mCons (mVar 16) (mNil))))) E st = .ok (.str (svBack s.rs mood near sign)) st := call_ok (ds := [.ptr j, .str mood, .str near, .str sign]) (cons_ok v6 (cons_ok v14 (cons_ok v15 (cons_ok v16 nil_ok)))) rfl (lafter_ok T.one T.ok)
  have m4 : mMeth 5 "end" 3 f_Service_end [] (mVar 8) (mCons (mVar 14) (mCons (mVar 17) (mNil))) E st = .ok (endD (svEnd s.rs mood bad)) st := meth_sv (ds := [.str mood, .bl bad]) v8 (by decide +kernel) (cons_ok v14 (cons_ok v17 nil_ok)) rfl (end_ok T.ok)
  have l4 : mCall 3 f__law_ended [] (mCons (mVar 6) (mCons (mVar 14) (mCons (mVar 17) (mNil)))) E st = .ok (endD (svEnd s.rs mood bad)) st := call_ok (ds := [.ptr j, .str mood, .bl bad]) (cons_ok v6 (cons_ok v14 (cons_ok v17 nil_ok))) rfl (lended_ok T.one T.ok)
  unfold p_law_4
  rw [seq_if_f (tne m1 l1)]
  unfold p_law_3
  rw [seq_if_f (tne m2 l2)]
  unfold p_law_2
  rw [seq_if_f (tne m3 l3)]
  unfold p_law_1
  rw [if_f (tne ((app_ok (cons_ok m4 nil_ok)).trans ht) ((app_ok (cons_ok l4 nil_ok)).trans ht))]
  rfl
theorem add2 {xs ys : List Str} {m n : M} {env : S.Env} (h : m env st = .ok (.lst (xs.map D.str)) st) (h' : n env st = .ok (.lst (ys.map D.str)) st) (hl : xs.length + ys.length ≤ 1000) : mBin dAdd m n env st = .ok (.lst ((xs ++ ys).map D.str)) st := by
  refine (bin_ok h h').trans ?_
  rw [add_lst (by simp; omega), List.map_append]
theorem ask_turn (T : Tn st b j s) (hn : ns.length ≤ 7) : ∃ fc fd fe ff fg fh st', p_law_7 (av e0 e1 b e3 ns w0 w1 w2 w3 w4 w5 w6 j e7 s eb ec ed ee ef eg eh) st = .nx (av e0 e1 b e3 ns w0 w1 w2 w3 w4 w5 w6 j e7 s eb fc fd fe ff fg fh) st' ∧ Tn st' b j s := by
  obtain ⟨mark, st1, _, q1, D1⟩ := pick_s (ws := [w4, w5, Str.ofString "none", Str.ofString "zx"]) T.box (by simp) (by simp)
  have T1 := T.step D1
  obtain ⟨kind, st2, _, q2, D2⟩ := pick_s (ws := [w0, w1, Str.ofString "zx"]) T1.box (by simp) (by simp)
  have T2 := T1.step D2
  obtain ⟨mood, st3, _, q3, D3⟩ := pick_s (ws := [w2, w3, Str.ofString "calm", Str.ofString "zx"]) T2.box (by simp) (by simp)
  have T3 := T2.step D3
  obtain ⟨near, st4, _, q4, D4⟩ := pick_s (ws := ns ++ [Str.ofString "zx"]) T3.box (by simp) (by simp; omega)
  have T4 := T3.step D4
  obtain ⟨sign, st5, _, q5, D5⟩ := pick_s (ws := [w5, w6, Str.ofString "none", Str.ofString "zx"]) T4.box (by simp) (by simp)
  have T5 := T4.step D5
  obtain ⟨r, st6, r1, q6, D6⟩ := take_d (many := 2) T5.box (by decide) (by decide)
  have T6 := T5.step D6
  refine ⟨some (.str mark), some (.str kind), some (.str mood), some (.str near), some (.str sign), some (.bl (decide ((r : Int) = 0))), st6, ?_, T6⟩
  have sl : ∀ {lo hi : MO} {l h : Option Int} {st : Sto} {ec ed ee ef eg eh : Option D}, (∀ env st, lo env st = .ok l st) → (∀ env st, hi env st = .ok h st) → mSl (mVar 5) lo hi (av e0 e1 b e3 ns w0 w1 w2 w3 w4 w5 w6 j e7 s eb ec ed ee ef eg eh) st = .ok (.lst (cutD ([w0, w1, w2, w3, w4, w5, w6].map D.str) l h)) st := fun {lo hi l h st ec ed ee ef eg eh} h1 h2 => by
    unfold mSl
    have hv : mVar 5 (av e0 e1 b e3 ns w0 w1 w2 w3 w4 w5 w6 j e7 s eb ec ed ee ef eg eh) st = .ok (.lst ([w0, w1, w2, w3, w4, w5, w6].map D.str)) st := rfl
    simp only [hv, R.bind, h1, h2, dSl, rd]
  unfold p_law_7
  refine (seq_nx (env' := av e0 e1 b e3 ns w0 w1 w2 w3 w4 w5 w6 j e7 s eb (some (.str mark)) (some (.str kind)) ee ef eg eh) (st' := st2) (par2_ok (a := .str mark) (b := .str kind) (call_ok (ds := [.ptr b, .lst ([w4, w5, Str.ofString "none", Str.ofString "zx"].map D.str)]) rfl rfl q1) ?_)).trans ?_
  · refine call_ok (ds := [.ptr b, .lst ([w0, w1, Str.ofString "zx"].map D.str)]) (cons_ok rfl (cons_ok ?_ nil_ok)) rfl q2
    exact add2 (xs := [w0, w1]) (ys := [Str.ofString "zx"]) (sl (l := none) (h := some 2) (fun _ _ => rfl) (fun _ _ => rfl)) rfl (by simp)
  unfold p_law_6
  refine (seq_nx (env' := av e0 e1 b e3 ns w0 w1 w2 w3 w4 w5 w6 j e7 s eb (some (.str mark)) (some (.str kind)) (some (.str mood)) (some (.str near)) eg eh) (st' := st4) (par2_ok (a := .str mood) (b := .str near) (call_ok (ds := [.ptr b, .lst ([w2, w3, Str.ofString "calm", Str.ofString "zx"].map D.str)]) rfl rfl q3) ?_)).trans ?_
  · refine call_ok (ds := [.ptr b, .lst ((ns ++ [Str.ofString "zx"]).map D.str)]) (cons_ok rfl (cons_ok ?_ nil_ok)) rfl q4
    exact add2 (xs := ns) (ys := [Str.ofString "zx"]) rfl rfl (by simp; omega)
  unfold p_law_5
  refine (seq_nx (env' := av e0 e1 b e3 ns w0 w1 w2 w3 w4 w5 w6 j e7 s eb (some (.str mark)) (some (.str kind)) (some (.str mood)) (some (.str near)) (some (.str sign)) (some (.bl (decide ((r : Int) = 0))))) (st' := st6) (par2_ok (a := .str sign) (b := .bl (decide ((r : Int) = 0))) (st1 := st5) ?_ ?_)).trans (asked T6)
  · refine call_ok (ds := [.ptr b, .lst ([w5, w6, Str.ofString "none", Str.ofString "zx"].map D.str)]) (cons_ok rfl (cons_ok ?_ nil_ok)) rfl q5
    exact add2 (xs := [w5, w6]) (ys := [Str.ofString "none", Str.ofString "zx"]) (sl (l := some 5) (h := some 7) (fun _ _ => rfl) (fun _ _ => rfl)) rfl (by simp)
  · exact (bin_ok (call_ok (ds := [.ptr b, .int 2]) rfl rfl q6) (e := .int 0) (st2 := st6) rfl).trans eq_ints
end
end K
namespace K
open PySem L2 S
/-! ### the law -/
section
variable {st : Sto} {b j : Nat} {s : Sv} {e0 e1 e3 e7 e8 e9 ea eb ec ed ee ef eg eh : Option D} {w0 w1 w2 w3 w4 w5 w6 : Str} {ns : List Str}
theorem asks (T : Tn st b j s) (hn : ns.length ≤ 7) : ∃ r st', p_law_9 (lv e0 e1 b e3 (some (.lst (ns.map D.str))) (some (.lst ([w0, w1, w2, w3, w4, w5, w6].map D.str))) j e7 e8 e9 ea eb ec ed ee ef eg eh) st = .nx (e0 :: e1 :: some (.ptr b) :: r) st' ∧ r.length = 15 ∧ Box st' b := by
  have sl : ∀ {lo hi : MO} {l h : Option Int} {e8 e9 ea : Option D}, (∀ env st, lo env st = .ok l st) → (∀ env st, hi env st = .ok h st) → mSl (mVar 5) lo hi (lv e0 e1 b e3 (some (.lst (ns.map D.str))) (some (.lst ([w0, w1, w2, w3, w4, w5, w6].map D.str))) j e7 e8 e9 ea eb ec ed ee ef eg eh) st = .ok (.lst (cutD ([w0, w1, w2, w3, w4, w5, w6].map D.str) l h)) st := fun {lo hi l h e8 e9 ea} h1 h2 => by
    unfold mSl
    have hv : mVar 5 (lv e0 e1 b e3 (some (.lst (ns.map D.str))) (some (.lst ([w0, w1, w2, w3, w4, w5, w6].map D.str))) j e7 e8 e9 ea eb ec ed ee ef eg eh) st = .ok (.lst ([w0, w1, w2, w3, w4, w5, w6].map D.str)) st := rfl
    simp only [hv, R.bind, h1, h2, dSl, rd]
  obtain ⟨env', st', e, ⟨fb, fc, fd, fe, ff, fg, fh, rfl⟩, T'⟩ := for_inv (t := .nm 11) (body := p_law_7) (fun env st => (∃ fb fc fd fe ff fg fh, env = av e0 e1 b e3 ns w0 w1 w2 w3 w4 w5 w6 j e7 s fb fc fd fe ff fg fh) ∧ Tn st b j s) (ds := rangeD 0 16) (env := av e0 e1 b e3 ns w0 w1 w2 w3 w4 w5 w6 j e7 s eb ec ed ee ef eg eh) (st := st) ⟨⟨_, _, _, _, _, _, _, rfl⟩, T⟩ fun d hd env st ⟨⟨fb, fc, fd, fe, ff, fg, fh, h0⟩, hT⟩ => by
    subst h0
    obtain ⟨gc, gd, ge, gf, gg, gh, st', e, T'⟩ := ask_turn (e0 := e0) (e1 := e1) (e3 := e3) (e7 := e7) (eb := some d) (ec := fc) (ed := fd) (ee := fe) (ef := ff) (eg := fg) (eh := fh) (w0 := w0) (w1 := w1) (w2 := w2) (w3 := w3) (w4 := w4) (w5 := w5) (w6 := w6) hT hn
    exact ⟨_, _, st', rfl, e, ⟨_, _, _, _, _, _, _, rfl⟩, T'⟩
  refine ⟨[e3, some (.lst (ns.map D.str)), some (.lst ([w0, w1, w2, w3, w4, w5, w6].map D.str)), some (.ptr j), e7, some (svD s), some (.lst ([w4, w5, Str.ofString "none", Str.ofString "zx"].map D.str)), some (.lst ([w2, w3, Str.ofString "calm", Str.ofString "zx"].map D.str)), fb, fc, fd, fe, ff, fg, fh], st', ?_, rfl, T'.box⟩
  unfold p_law_9
  refine (seq_nx (env' := lv e0 e1 b e3 (some (.lst (ns.map D.str))) (some (.lst ([w0, w1, w2, w3, w4, w5, w6].map D.str))) j e7 (some (svD s)) (some (.lst ([w4, w5, Str.ofString "none", Str.ofString "zx"].map D.str))) ea eb ec ed ee ef eg eh) (st' := st) (par2_ok (a := svD s) (b := .lst ([w4, w5, Str.ofString "none", Str.ofString "zx"].map D.str)) (call_ok (ds := [.ptr j]) rfl rfl (service_of_ok T.one T.ok)) ?_)).trans ?_
  · exact add2 (xs := [w4, w5]) (ys := [Str.ofString "none", Str.ofString "zx"]) (sl (l := some 4) (h := some 6) (fun _ _ => rfl) (fun _ _ => rfl)) rfl (by simp)
  unfold p_law_8
  refine (seq_nx (env' := av e0 e1 b e3 ns w0 w1 w2 w3 w4 w5 w6 j e7 s eb ec ed ee ef eg eh) (st' := st) (set_ok (d := .lst ([w2, w3, Str.ofString "calm", Str.ofString "zx"].map D.str)) ?_)).trans ?_
  · exact add2 (xs := [w2, w3]) (ys := [Str.ofString "calm", Str.ofString "zx"]) (sl (l := some 2) (h := some 4) (fun _ _ => rfl) (fun _ _ => rfl)) rfl (by simp)
  unfold mFor
  have hr : mItRange (mCons (mC (.int 16)) mNil) (av e0 e1 b e3 ns w0 w1 w2 w3 w4 w5 w6 j e7 s eb ec ed ee ef eg eh) st = .ok (rangeD 0 16) st := rfl
  rw [hr]
  exact e
end
theorem turn_ok {st : Sto} {b : Nat} {e0 e1 e3 e4 e5 e6 e7 e8 e9 ea eb ec ed ee ef eg eh : Option D} (hB : Box st b) : ∃ r st', p_law_12 [e0, e1, some (.ptr b), e3, e4, e5, e6, e7, e8, e9, ea, eb, ec, ed, ee, ef, eg, eh] st = .nx (e0 :: e1 :: some (.ptr b) :: r) st' ∧ r.length = 15 ∧ Box st' b := by
  obtain ⟨k, st1, k1, q1, D1⟩ := take_d (many := 4) hB (by decide) (by decide)
  obtain ⟨ns, st2, q2, hn, D2⟩ := names_ok (n := 1 + k) D1.box (by omega)
  obtain ⟨ws, st3, q3, hw, D3⟩ := names_ok (n := 7) D2.box (by decide)
  obtain ⟨n0, nr, rfl⟩ : ∃ n0 nr, ns = n0 :: nr := by
    have := hn.len
    cases ns with
    | nil => simp at this; omega
    | cons x xs => exact ⟨x, xs, rfl⟩
  obtain ⟨s, j, st4, q4, D4, hj, ho, hs, _, _, _, hrl, _⟩ := any_sv (nm := n0) D3.box hn (by omega) (by omega) hw (hn.nm n0 (.head _))
  obtain ⟨w0, w1, w2, w3, w4, w5, w6, rfl⟩ := seven hw.len
  have lb := D3.box.lt
  have T : Tn st4 b j s := ⟨D4.box, ho, by omega, hs⟩
  obtain ⟨s', st5, eA, TA, lA⟩ := stA (e0 := e0) (e1 := e1) (e3 := e3) (e4 := some (.lst ((n0 :: nr).map D.str))) (e5 := some (.lst ([w0, w1, w2, w3, w4, w5, w6].map D.str))) (e7 := e7) (e8 := e8) (e9 := e9) (ea := ea) (eb := eb) (ec := ec) (ed := ed) (ee := ee) (ef := ef) (eg := eg) (eh := eh) T hrl
  obtain ⟨s2, st6, f7, eB, TB⟩ := stB (e0 := e0) (e1 := e1) (e3 := e3) (e4 := some (.lst ((n0 :: nr).map D.str))) (e5 := some (.lst ([w0, w1, w2, w3, w4, w5, w6].map D.str))) (e7 := e7) (e8 := e8) (e9 := e9) (ea := ea) (eb := eb) (ec := ec) (ed := ed) (ee := ee) (ef := ef) (eg := eg) (eh := eh) TA lA
  obtain ⟨r, st7, eC, rl, BC⟩ := asks (e0 := e0) (e1 := e1) (e3 := e3) (e7 := f7) (e8 := e8) (e9 := e9) (ea := ea) (eb := eb) (ec := ec) (ed := ed) (ee := ee) (ef := ef) (eg := eg) (eh := eh) (w0 := w0) (w1 := w1) (w2 := w2) (w3 := w3) (w4 := w4) (w5 := w5) (w6 := w6) (ns := n0 :: nr) TB (by have := hn.len; omega)
  refine ⟨r, st7, ?_, rl, BC⟩
  unfold p_law_12
  refine (seq_nx (env' := [e0, e1, some (.ptr b), e3, some (.lst ((n0 :: nr).map D.str)), some (.lst ([w0, w1, w2, w3, w4, w5, w6].map D.str)), e6, e7, e8, e9, ea, eb, ec, ed, ee, ef, eg, eh]) (st' := st3) (par2_ok (a := .lst ((n0 :: nr).map D.str)) (b := .lst ([w0, w1, w2, w3, w4, w5, w6].map D.str)) (st1 := st2) ?_ (call_ok (ds := [.ptr b, .int 7]) rfl rfl q3))).trans ?_
  · have e : (1 : Int) + (k : Int) = ((1 + k : Nat) : Int) := by omega
    have ad : mBin dAdd (mC (.int 1)) (mCall 2 f__law_take [] (mCons (mVar 2) (mCons (mC (.int 4)) (mNil)))) [e0, e1, some (.ptr b), e3, e4, e5, e6, e7, e8, e9, ea, eb, ec, ed, ee, ef, eg, eh] st = .ok (.int ((1 + k : Nat) : Int)) st1 := by
      refine (bin_ok (d := .int 1) (st1 := st) rfl (call_ok (ds := [.ptr b, .int 4]) rfl rfl q1)).trans ?_
      rw [← e]
      rfl
    exact call_ok (ds := [.ptr b, .int ((1 + k : Nat) : Int)]) (cons_ok rfl (cons_ok ad nil_ok)) rfl q2
  refine (seq_nx (env' := lv e0 e1 b e3 (some (.lst ((n0 :: nr).map D.str))) (some (.lst ([w0, w1, w2, w3, w4, w5, w6].map D.str))) j e7 e8 e9 ea eb ec ed ee ef eg eh) (st' := st4) (set_ok (d := .ptr j) ?_)).trans ((eA.trans eB).trans eC)
  refine call_ok (ds := [.ptr b, .str n0, .lst ((n0 :: nr).map D.str), .lst ([w0, w1, w2, w3, w4, w5, w6].map D.str)]) (cons_ok rfl (cons_ok ?_ rfl)) rfl q4
  exact (bin_ok (d := .lst ((n0 :: nr).map D.str)) (e := .int 0) (st1 := st3) (st2 := st3) rfl rfl).trans (ixl (j := 0) rfl rfl)
theorem cell_ok {xs : List Int} {k : Nat} {r : S.Env} {st : Sto} (hr : r.length = 16) : ∃ r' st', p_law_13 (some (.rls (xs.map D.int)) :: some (.int k) :: r) st = .nx (some (.rls (xs.map D.int)) :: r') st' ∧ r'.length = 17 := by
  obtain ⟨st0, hb, B0, _⟩ := box_d (st := st) (xs := xs) (k := k)
  match r, hr with
  | [e2, e3, e4, e5, e6, e7, e8, e9, ea, eb, ec, ed, ee, ef, eg, eh], _ =>
    obtain ⟨env', st', e, ⟨r, rfl, rl⟩, _⟩ := for_inv (t := .nm 3) (body := p_law_12) (fun env s => (∃ r, env = some (.rls (xs.map D.int)) :: some (.int k) :: some (.ptr st.length) :: r ∧ r.length = 15) ∧ Box s st.length) (ds := rangeD 0 3) (env := [some (.rls (xs.map D.int)), some (.int k), some (.ptr st.length), e3, e4, e5, e6, e7, e8, e9, ea, eb, ec, ed, ee, ef, eg, eh]) (st := st0) ⟨⟨_, rfl, rfl⟩, B0⟩ fun d hd env s ⟨⟨r, h0, hl⟩, hB⟩ => by
      subst h0
      match r, hl with
      | [f3, f4, f5, f6, f7, f8, f9, fa, fb, fc, fd, fe, ff, fg, fh], _ =>
        obtain ⟨r', s', e, rl, B⟩ := turn_ok (e0 := some (.rls (xs.map D.int))) (e1 := some (.int k)) (e3 := some d) (e4 := f4) (e5 := f5) (e6 := f6) (e7 := f7) (e8 := f8) (e9 := f9) (ea := fa) (eb := fb) (ec := fc) (ed := fd) (ee := fe) (ef := ff) (eg := fg) (eh := fh) hB
        exact ⟨_, _, s', rfl, e, ⟨_, rfl, rl⟩, B⟩
    refine ⟨some (.int k) :: some (.ptr st.length) :: r, st', ?_, by simp [rl]⟩
    unfold p_law_13
    refine (seq_nx (set_ok (call_ok (ds := [.rls (xs.map D.int), .int k]) rfl rfl hb))).trans ?_
    show mFor _ _ _ [some (.rls (xs.map D.int)), some (.int k), some (.ptr st.length), e3, e4, e5, e6, e7, e8, e9, ea, eb, ec, ed, ee, ef, eg, eh] _ = _
    unfold mFor
    have hr : mItRange (mCons (mC (.int 3)) mNil) [some (.rls (xs.map D.int)), some (.int k), some (.ptr st.length), e3, e4, e5, e6, e7, e8, e9, ea, eb, ec, ed, ee, ef, eg, eh] st0 = .ok (rangeD 0 3) st0 := rfl
    rw [hr]
    exact e
theorem law_true (ns : List Int) (hl : ns.length ≤ 63) : ∃ st, f_law [.rls (ns.map D.int)] [] = .ok (.bl true) st := by
  obtain ⟨r, hr⟩ := cells_of ns 4 (by decide) (by decide) (List.replicate 17 none) []
  obtain ⟨env', st', e, ⟨r', rfl, _⟩⟩ := for_inv (t := .nm 1) (body := p_law_13) (fun env _ => ∃ r, env = some (.rls (ns.map D.int)) :: r ∧ r.length = 17) (ds := rangeD 0 r) (env := some (.rls (ns.map D.int)) :: List.replicate 17 none) (st := []) ⟨_, rfl, rfl⟩ fun d hd env st ⟨r, h0, hl⟩ => by
    obtain ⟨k, _, rfl⟩ := range_nat hd
    subst h0
    match r, hl with
    | f1 :: r, hl =>
      obtain ⟨r', s', e, hl'⟩ := cell_ok (xs := ns) (k := k) (r := r) (st := st) (by simpa using hl)
      exact ⟨_, _, s', rfl, e, _, rfl, hl'⟩
  refine law_end (n := 18) (ms := m_law) (st' := st') ?_
  show m_law (some (.rls (ns.map D.int)) :: List.replicate 17 none) [] = _
  unfold m_law
  refine (seq_nx (env' := some (.rls (ns.map D.int)) :: r') (st' := st') ?_).trans rfl
  unfold mFor
  rw [hr]
  exact e
end K
namespace K
open PySem L2 S
theorem all_mk {K : PySem.W.Frag} {h : Heap} {mg : Str → Option Value} (X : K.In h) (G : h.Ns mainGlobals mg)
    {C_Row : Addr} {C_Begin : Addr} {C_Send : Addr} {C_Back : Addr} {C_End : Addr} {C_Service : Addr} {f_is_name : Addr} {od_is_name an_is_name : Option Addr} {sl_is_name : Array (Option Value)} {oc_is_name kV_is_name dc_is_name pm_is_name ct_is_name : Value} {cd_is_name : Value} {f_is_word : Addr} {od_is_word an_is_word : Option Addr} {sl_is_word : Array (Option Value)} {oc_is_word kV_is_word dc_is_word pm_is_word ct_is_word : Value} {cd_is_word : Value} {f_is_mark : Addr} {od_is_mark an_is_mark : Option Addr} {sl_is_mark : Array (Option Value)} {oc_is_mark kV_is_mark dc_is_mark pm_is_mark ct_is_mark : Value} {cd_is_mark : Value} {f_is_sign : Addr} {od_is_sign an_is_sign : Option Addr} {sl_is_sign : Array (Option Value)} {oc_is_sign kV_is_sign dc_is_sign pm_is_sign ct_is_sign : Value} {cd_is_sign : Value} {f_is_sequence : Addr} {od_is_sequence an_is_sequence : Option Addr} {sl_is_sequence : Array (Option Value)} {oc_is_sequence kV_is_sequence dc_is_sequence pm_is_sequence ct_is_sequence : Value} {cd_is_sequence : Value} {f_are_names : Addr} {od_are_names an_are_names : Option Addr} {sl_are_names : Array (Option Value)} {oc_are_names kV_are_names dc_are_names pm_are_names ct_are_names : Value} {cd_are_names : Value} {f_Row_init : Addr} {od_Row_init an_Row_init : Option Addr} {sl_Row_init : Array (Option Value)} {oc_Row_init kV_Row_init dc_Row_init pm_Row_init ct_Row_init : Value} {cd_Row_init : Value} {f_Row_str : Addr} {od_Row_str an_Row_str : Option Addr} {sl_Row_str : Array (Option Value)} {oc_Row_str kV_Row_str dc_Row_str pm_Row_str ct_Row_str : Value} {cd_Row_str : Value} {f_need : Addr} {od_need an_need : Option Addr} {sl_need : Array (Option Value)} {oc_need kV_need dc_need pm_need ct_need : Value} {cd_need : Value} {f_Begin_init : Addr} {od_Begin_init an_Begin_init : Option Addr} {sl_Begin_init : Array (Option Value)} {oc_Begin_init kV_Begin_init dc_Begin_init pm_Begin_init ct_Begin_init : Value} {ca_Begin_init cc_Begin_init : Addr} {cl_Begin_init cv_Begin_init : Value} {cld_Begin_init cdd_Begin_init : Option Addr} {csl_Begin_init ccs_Begin_init : Array (Option Value)} {vs_Begin_init : Array Value} {file_Begin_init : Str} {tf_Begin_init : Tok} {f_Send_init : Addr} {od_Send_init an_Send_init : Option Addr} {sl_Send_init : Array (Option Value)} {oc_Send_init kV_Send_init dc_Send_init pm_Send_init ct_Send_init : Value} {ca_Send_init cc_Send_init : Addr} {cl_Send_init cv_Send_init : Value} {cld_Send_init cdd_Send_init : Option Addr} {csl_Send_init ccs_Send_init : Array (Option Value)} {vs_Send_init : Array Value} {file_Send_init : Str} {tf_Send_init : Tok} {f_Back_init : Addr} {od_Back_init an_Back_init : Option Addr} {sl_Back_init : Array (Option Value)} {oc_Back_init kV_Back_init dc_Back_init pm_Back_init ct_Back_init : Value} {ca_Back_init cc_Back_init : Addr} {cl_Back_init cv_Back_init : Value} {cld_Back_init cdd_Back_init : Option Addr} {csl_Back_init ccs_Back_init : Array (Option Value)} {vs_Back_init : Array Value} {file_Back_init : Str} {tf_Back_init : Tok} {f_End_init : Addr} {od_End_init an_End_init : Option Addr} {sl_End_init : Array (Option Value)} {oc_End_init kV_End_init dc_End_init pm_End_init ct_End_init : Value} {ca_End_init cc_End_init : Addr} {cl_End_init cv_End_init : Value} {cld_End_init cdd_End_init : Option Addr} {csl_End_init ccs_End_init : Array (Option Value)} {vs_End_init : Array Value} {file_End_init : Str} {tf_End_init : Tok} {f_need_24 : Addr} {od_need_24 an_need_24 : Option Addr} {sl_need_24 : Array (Option Value)} {oc_need_24 kV_need_24 dc_need_24 pm_need_24 ct_need_24 : Value} {cd_need_24 : Value} {f_moods_of : Addr} {od_moods_of an_moods_of : Option Addr} {sl_moods_of : Array (Option Value)} {oc_moods_of kV_moods_of dc_moods_of pm_moods_of ct_moods_of : Value} {cd_moods_of : Value} {f_ascending : Addr} {od_ascending an_ascending : Option Addr} {sl_ascending : Array (Option Value)} {oc_ascending kV_ascending dc_ascending pm_ascending ct_ascending : Value} {cd_ascending : Value} {f_Service_init : Addr} {od_Service_init an_Service_init : Option Addr} {sl_Service_init : Array (Option Value)} {oc_Service_init kV_Service_init dc_Service_init pm_Service_init ct_Service_init : Value} {cd_Service_init : Value} {T_Service_init : Addr} {Tc_Service_init : Option Addr} {Tn_Service_init : Nat} {Ts_Service_init : Array (Option Value)} {e_Service_init_0 : Addr} {ec_Service_init_0 : Option Addr} {en_Service_init_0 : Nat} {es_Service_init_0 : Array (Option Value)} {e_Service_init_1 : Addr} {ec_Service_init_1 : Option Addr} {en_Service_init_1 : Nat} {es_Service_init_1 : Array (Option Value)} {e_Service_init_2 : Addr} {ec_Service_init_2 : Option Addr} {en_Service_init_2 : Nat} {es_Service_init_2 : Array (Option Value)} {f_Service_first : Addr} {od_Service_first an_Service_first : Option Addr} {sl_Service_first : Array (Option Value)} {oc_Service_first kV_Service_first dc_Service_first pm_Service_first ct_Service_first : Value} {cd_Service_first : Value} {f_Service_begin : Addr} {od_Service_begin an_Service_begin : Option Addr} {sl_Service_begin : Array (Option Value)} {oc_Service_begin kV_Service_begin dc_Service_begin pm_Service_begin ct_Service_begin : Value} {cd_Service_begin : Value} {f_Service_send : Addr} {od_Service_send an_Service_send : Option Addr} {sl_Service_send : Array (Option Value)} {oc_Service_send kV_Service_send dc_Service_send pm_Service_send ct_Service_send : Value} {cd_Service_send : Value} {f_Service_back : Addr} {od_Service_back an_Service_back : Option Addr} {sl_Service_back : Array (Option Value)} {oc_Service_back kV_Service_back dc_Service_back pm_Service_back ct_Service_back : Value} {cd_Service_back : Value} {f_Service_end : Addr} {od_Service_end an_Service_end : Option Addr} {sl_Service_end : Array (Option Value)} {oc_Service_end kV_Service_end dc_Service_end pm_Service_end ct_Service_end : Value} {cd_Service_end : Value} {f__law_box : Addr} {od__law_box an__law_box : Option Addr} {sl__law_box : Array (Option Value)} {oc__law_box kV__law_box dc__law_box pm__law_box ct__law_box : Value} {cd__law_box : Value} {f__law_take : Addr} {od__law_take an__law_take : Option Addr} {sl__law_take : Array (Option Value)} {oc__law_take kV__law_take dc__law_take pm__law_take ct__law_take : Value} {cd__law_take : Value} {f__law_pick : Addr} {od__law_pick an__law_pick : Option Addr} {sl__law_pick : Array (Option Value)} {oc__law_pick kV__law_pick dc__law_pick pm__law_pick ct__law_pick : Value} {cd__law_pick : Value} {f__law_mixed : Addr} {od__law_mixed an__law_mixed : Option Addr} {sl__law_mixed : Array (Option Value)} {oc__law_mixed kV__law_mixed dc__law_mixed pm__law_mixed ct__law_mixed : Value} {cd__law_mixed : Value} {f__law_names : Addr} {od__law_names an__law_names : Option Addr} {sl__law_names : Array (Option Value)} {oc__law_names kV__law_names dc__law_names pm__law_names ct__law_names : Value} {cd__law_names : Value} {f__law_row : Addr} {od__law_row an__law_row : Option Addr} {sl__law_row : Array (Option Value)} {oc__law_row kV__law_row dc__law_row pm__law_row ct__law_row : Value} {cd__law_row : Value} {f__law_words : Addr} {od__law_words an__law_words : Option Addr} {sl__law_words : Array (Option Value)} {oc__law_words kV__law_words dc__law_words pm__law_words ct__law_words : Value} {cd__law_words : Value} {f__law_drawn_row : Addr} {od__law_drawn_row an__law_drawn_row : Option Addr} {sl__law_drawn_row : Array (Option Value)} {oc__law_drawn_row kV__law_drawn_row dc__law_drawn_row pm__law_drawn_row ct__law_drawn_row : Value} {cd__law_drawn_row : Value} {f__law_service_of : Addr} {od__law_service_of an__law_service_of : Option Addr} {sl__law_service_of : Array (Option Value)} {oc__law_service_of kV__law_service_of dc__law_service_of pm__law_service_of ct__law_service_of : Value} {cd__law_service_of : Value} {f__law_some : Addr} {od__law_some an__law_some : Option Addr} {sl__law_some : Array (Option Value)} {oc__law_some kV__law_some dc__law_some pm__law_some ct__law_some : Value} {cd__law_some : Value} {f__law_any_service : Addr} {od__law_any_service an__law_any_service : Option Addr} {sl__law_any_service : Array (Option Value)} {oc__law_any_service kV__law_any_service dc__law_any_service pm__law_any_service ct__law_any_service : Value} {cd__law_any_service : Value} {f__law_first : Addr} {od__law_first an__law_first : Option Addr} {sl__law_first : Array (Option Value)} {oc__law_first kV__law_first dc__law_first pm__law_first ct__law_first : Value} {cd__law_first : Value} {f__law_begun : Addr} {od__law_begun an__law_begun : Option Addr} {sl__law_begun : Array (Option Value)} {oc__law_begun kV__law_begun dc__law_begun pm__law_begun ct__law_begun : Value} {cd__law_begun : Value} {f__law_sent : Addr} {od__law_sent an__law_sent : Option Addr} {sl__law_sent : Array (Option Value)} {oc__law_sent kV__law_sent dc__law_sent pm__law_sent ct__law_sent : Value} {cd__law_sent : Value} {f__law_after : Addr} {od__law_after an__law_after : Option Addr} {sl__law_after : Array (Option Value)} {oc__law_after kV__law_after dc__law_after pm__law_after ct__law_after : Value} {cd__law_after : Value} {f__law_ended : Addr} {od__law_ended an__law_ended : Option Addr} {sl__law_ended : Array (Option Value)} {oc__law_ended kV__law_ended dc__law_ended pm__law_ended ct__law_ended : Value} {cd__law_ended : Value} {f_law : Addr} {od_law an_law : Option Addr} {sl_law : Array (Option Value)} {oc_law kV_law dc_law pm_law ct_law : Value} {cd_law : Value} {k_LETTERS : Tok} {k_BARRED : Addr} {kc_BARRED : Option Addr} {kn_BARRED : Nat} {ks_BARRED : Array (Option Value)} {kt_BARRED_0 kt_BARRED_1 kt_BARRED_2 kt_BARRED_3 kt_BARRED_4 kt_BARRED_5 kt_BARRED_6 kt_BARRED_7 kt_BARRED_8 kt_BARRED_9 : Tok} {k_MOST_LETTERS : Tok} {k_CALM : Tok} {cdd_CBegin : ClassData} {cdd_CSend : ClassData} {cdd_CBack : ClassData} {cdd_CEnd : ClassData} {kdd_Row : ClassData}
    (aC_Row : PySem.W.nsIn K mainGlobals "Row" = some (some (.ref C_Row)))
    (aC_Begin : PySem.W.nsIn K mainGlobals "Begin" = some (some (.ref C_Begin)))
    (aC_Send : PySem.W.nsIn K mainGlobals "Send" = some (some (.ref C_Send)))
    (aC_Back : PySem.W.nsIn K mainGlobals "Back" = some (some (.ref C_Back)))
    (aC_End : PySem.W.nsIn K mainGlobals "End" = some (some (.ref C_End)))
    (aC_Service : PySem.W.nsIn K mainGlobals "Service" = some (some (.ref C_Service)))
    (a_is_name : PySem.W.nsIn K mainGlobals "is_name" = some (some (.ref f_is_name)))
    (l_is_name : K.lookup f_is_name = some ⟨oc_is_name, od_is_name, .func (PySem.W.fnOf "is_name" "is_name" (defArgs s_is_name) (defBody s_is_name) (defScope s_is_name) .none kV_is_name dc_is_name pm_is_name an_is_name cd_is_name ct_is_name), sl_is_name⟩)
    (c_is_name : PySem.W.codeIn K cd_is_name "is_name" = true)
    (k_is_name : PySem.W.keepIn K (.ref f_is_name) = true)
    (a_is_word : PySem.W.nsIn K mainGlobals "is_word" = some (some (.ref f_is_word)))
    (l_is_word : K.lookup f_is_word = some ⟨oc_is_word, od_is_word, .func (PySem.W.fnOf "is_word" "is_word" (defArgs s_is_word) (defBody s_is_word) (defScope s_is_word) .none kV_is_word dc_is_word pm_is_word an_is_word cd_is_word ct_is_word), sl_is_word⟩)
    (c_is_word : PySem.W.codeIn K cd_is_word "is_word" = true)
    (k_is_word : PySem.W.keepIn K (.ref f_is_word) = true)
    (a_is_mark : PySem.W.nsIn K mainGlobals "is_mark" = some (some (.ref f_is_mark)))
    (l_is_mark : K.lookup f_is_mark = some ⟨oc_is_mark, od_is_mark, .func (PySem.W.fnOf "is_mark" "is_mark" (defArgs s_is_mark) (defBody s_is_mark) (defScope s_is_mark) .none kV_is_mark dc_is_mark pm_is_mark an_is_mark cd_is_mark ct_is_mark), sl_is_mark⟩)
    (c_is_mark : PySem.W.codeIn K cd_is_mark "is_mark" = true)
    (k_is_mark : PySem.W.keepIn K (.ref f_is_mark) = true)
    (a_is_sign : PySem.W.nsIn K mainGlobals "is_sign" = some (some (.ref f_is_sign)))
    (l_is_sign : K.lookup f_is_sign = some ⟨oc_is_sign, od_is_sign, .func (PySem.W.fnOf "is_sign" "is_sign" (defArgs s_is_sign) (defBody s_is_sign) (defScope s_is_sign) .none kV_is_sign dc_is_sign pm_is_sign an_is_sign cd_is_sign ct_is_sign), sl_is_sign⟩)
    (c_is_sign : PySem.W.codeIn K cd_is_sign "is_sign" = true)
    (k_is_sign : PySem.W.keepIn K (.ref f_is_sign) = true)
    (a_is_sequence : PySem.W.nsIn K mainGlobals "is_sequence" = some (some (.ref f_is_sequence)))
    (l_is_sequence : K.lookup f_is_sequence = some ⟨oc_is_sequence, od_is_sequence, .func (PySem.W.fnOf "is_sequence" "is_sequence" (defArgs s_is_sequence) (defBody s_is_sequence) (defScope s_is_sequence) .none kV_is_sequence dc_is_sequence pm_is_sequence an_is_sequence cd_is_sequence ct_is_sequence), sl_is_sequence⟩)
    (c_is_sequence : PySem.W.codeIn K cd_is_sequence "is_sequence" = true)
    (k_is_sequence : PySem.W.keepIn K (.ref f_is_sequence) = true)
    (a_are_names : PySem.W.nsIn K mainGlobals "are_names" = some (some (.ref f_are_names)))
    (l_are_names : K.lookup f_are_names = some ⟨oc_are_names, od_are_names, .func (PySem.W.fnOf "are_names" "are_names" (defArgs s_are_names) (defBody s_are_names) (defScope s_are_names) .none kV_are_names dc_are_names pm_are_names an_are_names cd_are_names ct_are_names), sl_are_names⟩)
    (c_are_names : PySem.W.codeIn K cd_are_names "are_names" = true)
    (k_are_names : PySem.W.keepIn K (.ref f_are_names) = true)
    (a_Row_init : PySem.W.findIn K (.ref C_Row) "__init__" = some (some (.ref f_Row_init)))
    (i_Row_init : PySem.W.isFn K (.ref f_Row_init) = true)
    (l_Row_init : K.lookup f_Row_init = some ⟨oc_Row_init, od_Row_init, .func (PySem.W.fnOf "__init__" "Row.__init__" (defArgs s_Row_init) (defBody s_Row_init) (defScope s_Row_init) .none kV_Row_init dc_Row_init pm_Row_init an_Row_init cd_Row_init ct_Row_init), sl_Row_init⟩)
    (c_Row_init : PySem.W.codeIn K cd_Row_init "Row.__init__" = true)
    (k_Row_init : PySem.W.keepIn K (.ref f_Row_init) = true)
    (a_Row_str : PySem.W.findIn K (.ref C_Row) "__str__" = some (some (.ref f_Row_str)))
    (i_Row_str : PySem.W.isFn K (.ref f_Row_str) = true)
    (l_Row_str : K.lookup f_Row_str = some ⟨oc_Row_str, od_Row_str, .func (PySem.W.fnOf "__str__" "Row.__str__" (defArgs s_Row_str) (defBody s_Row_str) (defScope s_Row_str) .none kV_Row_str dc_Row_str pm_Row_str an_Row_str cd_Row_str ct_Row_str), sl_Row_str⟩)
    (c_Row_str : PySem.W.codeIn K cd_Row_str "Row.__str__" = true)
    (k_Row_str : PySem.W.keepIn K (.ref f_Row_str) = true)
    (a_need : PySem.W.nsIn K mainGlobals "need_rows" = some (some (.ref f_need)))
    (l_need : K.lookup f_need = some ⟨oc_need, od_need, .func (PySem.W.fnOf "need" "need" (defArgs s_need) (defBody s_need) (defScope s_need) .none kV_need dc_need pm_need an_need cd_need ct_need), sl_need⟩)
    (c_need : PySem.W.codeIn K cd_need "need" = true)
    (k_need : PySem.W.keepIn K (.ref f_need) = true)
    (a_Begin_init : PySem.W.findIn K (.ref C_Begin) "__init__" = some (some (.ref f_Begin_init)))
    (i_Begin_init : PySem.W.isFn K (.ref f_Begin_init) = true)
    (l_Begin_init : K.lookup f_Begin_init = some ⟨oc_Begin_init, od_Begin_init, .func (PySem.W.ksFn "__init__" "Begin.__init__" (defArgs s_Begin_init) (defBody s_Begin_init) (defScope s_Begin_init) .none kV_Begin_init dc_Begin_init pm_Begin_init an_Begin_init (.ref ca_Begin_init) ct_Begin_init cc_Begin_init), sl_Begin_init⟩)
    (c_Begin_init : PySem.W.codeIn K (.ref ca_Begin_init) "Begin.__init__" = true)
    (k_Begin_init : PySem.W.keepIn K (.ref f_Begin_init) = true)
    (fi_Begin_init : PySem.W.fnIn K f_Begin_init = true)
    (ce_Begin_init : K.lookup cc_Begin_init = some ⟨cl_Begin_init, cld_Begin_init, .cell (some (.ref C_Begin)), csl_Begin_init⟩)
    (co_Begin_init : K.lookup ca_Begin_init = some ⟨cv_Begin_init, cdd_Begin_init, .fields vs_Begin_init, ccs_Begin_init⟩)
    (cf_Begin_init : vs_Begin_init[2]? = some (.str file_Begin_init tf_Begin_init))
    (cft_Begin_init : ((PG.main.file : Str) == file_Begin_init) = true)
    (a_Send_init : PySem.W.findIn K (.ref C_Send) "__init__" = some (some (.ref f_Send_init)))
    (i_Send_init : PySem.W.isFn K (.ref f_Send_init) = true)
    (l_Send_init : K.lookup f_Send_init = some ⟨oc_Send_init, od_Send_init, .func (PySem.W.ksFn "__init__" "Send.__init__" (defArgs s_Send_init) (defBody s_Send_init) (defScope s_Send_init) .none kV_Send_init dc_Send_init pm_Send_init an_Send_init (.ref ca_Send_init) ct_Send_init cc_Send_init), sl_Send_init⟩)
    (c_Send_init : PySem.W.codeIn K (.ref ca_Send_init) "Send.__init__" = true)
    (k_Send_init : PySem.W.keepIn K (.ref f_Send_init) = true)
    (fi_Send_init : PySem.W.fnIn K f_Send_init = true)
    (ce_Send_init : K.lookup cc_Send_init = some ⟨cl_Send_init, cld_Send_init, .cell (some (.ref C_Send)), csl_Send_init⟩)
    (co_Send_init : K.lookup ca_Send_init = some ⟨cv_Send_init, cdd_Send_init, .fields vs_Send_init, ccs_Send_init⟩)
    (cf_Send_init : vs_Send_init[2]? = some (.str file_Send_init tf_Send_init))
    (cft_Send_init : ((PG.main.file : Str) == file_Send_init) = true)
    (a_Back_init : PySem.W.findIn K (.ref C_Back) "__init__" = some (some (.ref f_Back_init)))
    (i_Back_init : PySem.W.isFn K (.ref f_Back_init) = true)
    (l_Back_init : K.lookup f_Back_init = some ⟨oc_Back_init, od_Back_init, .func (PySem.W.ksFn "__init__" "Back.__init__" (defArgs s_Back_init) (defBody s_Back_init) (defScope s_Back_init) .none kV_Back_init dc_Back_init pm_Back_init an_Back_init (.ref ca_Back_init) ct_Back_init cc_Back_init), sl_Back_init⟩)
    (c_Back_init : PySem.W.codeIn K (.ref ca_Back_init) "Back.__init__" = true)
    (k_Back_init : PySem.W.keepIn K (.ref f_Back_init) = true)
    (fi_Back_init : PySem.W.fnIn K f_Back_init = true)
    (ce_Back_init : K.lookup cc_Back_init = some ⟨cl_Back_init, cld_Back_init, .cell (some (.ref C_Back)), csl_Back_init⟩)
    (co_Back_init : K.lookup ca_Back_init = some ⟨cv_Back_init, cdd_Back_init, .fields vs_Back_init, ccs_Back_init⟩)
    (cf_Back_init : vs_Back_init[2]? = some (.str file_Back_init tf_Back_init))
    (cft_Back_init : ((PG.main.file : Str) == file_Back_init) = true)
    (a_End_init : PySem.W.findIn K (.ref C_End) "__init__" = some (some (.ref f_End_init)))
    (i_End_init : PySem.W.isFn K (.ref f_End_init) = true)
    (l_End_init : K.lookup f_End_init = some ⟨oc_End_init, od_End_init, .func (PySem.W.ksFn "__init__" "End.__init__" (defArgs s_End_init) (defBody s_End_init) (defScope s_End_init) .none kV_End_init dc_End_init pm_End_init an_End_init (.ref ca_End_init) ct_End_init cc_End_init), sl_End_init⟩)
    (c_End_init : PySem.W.codeIn K (.ref ca_End_init) "End.__init__" = true)
    (k_End_init : PySem.W.keepIn K (.ref f_End_init) = true)
    (fi_End_init : PySem.W.fnIn K f_End_init = true)
    (ce_End_init : K.lookup cc_End_init = some ⟨cl_End_init, cld_End_init, .cell (some (.ref C_End)), csl_End_init⟩)
    (co_End_init : K.lookup ca_End_init = some ⟨cv_End_init, cdd_End_init, .fields vs_End_init, ccs_End_init⟩)
    (cf_End_init : vs_End_init[2]? = some (.str file_End_init tf_End_init))
    (cft_End_init : ((PG.main.file : Str) == file_End_init) = true)
    (a_need_24 : PySem.W.nsIn K mainGlobals "need_books" = some (some (.ref f_need_24)))
    (l_need_24 : K.lookup f_need_24 = some ⟨oc_need_24, od_need_24, .func (PySem.W.fnOf "need" "need" (defArgs s_need_24) (defBody s_need_24) (defScope s_need_24) .none kV_need_24 dc_need_24 pm_need_24 an_need_24 cd_need_24 ct_need_24), sl_need_24⟩)
    (c_need_24 : PySem.W.codeIn K cd_need_24 "need" = true)
    (k_need_24 : PySem.W.keepIn K (.ref f_need_24) = true)
    (a_moods_of : PySem.W.nsIn K mainGlobals "moods_of" = some (some (.ref f_moods_of)))
    (l_moods_of : K.lookup f_moods_of = some ⟨oc_moods_of, od_moods_of, .func (PySem.W.fnOf "moods_of" "moods_of" (defArgs s_moods_of) (defBody s_moods_of) (defScope s_moods_of) .none kV_moods_of dc_moods_of pm_moods_of an_moods_of cd_moods_of ct_moods_of), sl_moods_of⟩)
    (c_moods_of : PySem.W.codeIn K cd_moods_of "moods_of" = true)
    (k_moods_of : PySem.W.keepIn K (.ref f_moods_of) = true)
    (a_ascending : PySem.W.nsIn K mainGlobals "ascending" = some (some (.ref f_ascending)))
    (l_ascending : K.lookup f_ascending = some ⟨oc_ascending, od_ascending, .func (PySem.W.fnOf "ascending" "ascending" (defArgs s_ascending) (defBody s_ascending) (defScope s_ascending) .none kV_ascending dc_ascending pm_ascending an_ascending cd_ascending ct_ascending), sl_ascending⟩)
    (c_ascending : PySem.W.codeIn K cd_ascending "ascending" = true)
    (k_ascending : PySem.W.keepIn K (.ref f_ascending) = true)
    (a_Service_init : PySem.W.findIn K (.ref C_Service) "__init__" = some (some (.ref f_Service_init)))
    (i_Service_init : PySem.W.isFn K (.ref f_Service_init) = true)
    (l_Service_init : K.lookup f_Service_init = some ⟨oc_Service_init, od_Service_init, .func (PySem.W.fnOf "__init__" "Service.__init__" (defArgs s_Service_init) (defBody s_Service_init) (defScope s_Service_init) (.ref T_Service_init) kV_Service_init dc_Service_init pm_Service_init an_Service_init cd_Service_init ct_Service_init), sl_Service_init⟩)
    (c_Service_init : PySem.W.codeIn K cd_Service_init "Service.__init__" = true)
    (k_Service_init : PySem.W.keepIn K (.ref f_Service_init) = true)
    (lT_Service_init : K.lookup T_Service_init = some ⟨.type "tuple", Tc_Service_init, .seq #[.ref e_Service_init_0, .ref e_Service_init_1, .ref e_Service_init_2] Tn_Service_init, Ts_Service_init⟩)
    (le_Service_init_0 : K.lookup e_Service_init_0 = some ⟨.type "tuple", ec_Service_init_0, .seq #[] en_Service_init_0, es_Service_init_0⟩)
    (le_Service_init_1 : K.lookup e_Service_init_1 = some ⟨.type "tuple", ec_Service_init_1, .seq #[] en_Service_init_1, es_Service_init_1⟩)
    (le_Service_init_2 : K.lookup e_Service_init_2 = some ⟨.type "tuple", ec_Service_init_2, .seq #[] en_Service_init_2, es_Service_init_2⟩)
    (a_Service_first : PySem.W.findIn K (.ref C_Service) "first" = some (some (.ref f_Service_first)))
    (i_Service_first : PySem.W.isFn K (.ref f_Service_first) = true)
    (l_Service_first : K.lookup f_Service_first = some ⟨oc_Service_first, od_Service_first, .func (PySem.W.fnOf "first" "Service.first" (defArgs s_Service_first) (defBody s_Service_first) (defScope s_Service_first) .none kV_Service_first dc_Service_first pm_Service_first an_Service_first cd_Service_first ct_Service_first), sl_Service_first⟩)
    (c_Service_first : PySem.W.codeIn K cd_Service_first "Service.first" = true)
    (k_Service_first : PySem.W.keepIn K (.ref f_Service_first) = true)
    (a_Service_begin : PySem.W.findIn K (.ref C_Service) "begin" = some (some (.ref f_Service_begin)))
    (i_Service_begin : PySem.W.isFn K (.ref f_Service_begin) = true)
    (l_Service_begin : K.lookup f_Service_begin = some ⟨oc_Service_begin, od_Service_begin, .func (PySem.W.fnOf "begin" "Service.begin" (defArgs s_Service_begin) (defBody s_Service_begin) (defScope s_Service_begin) .none kV_Service_begin dc_Service_begin pm_Service_begin an_Service_begin cd_Service_begin ct_Service_begin), sl_Service_begin⟩)
    (c_Service_begin : PySem.W.codeIn K cd_Service_begin "Service.begin" = true)
    (k_Service_begin : PySem.W.keepIn K (.ref f_Service_begin) = true)
    (a_Service_send : PySem.W.findIn K (.ref C_Service) "send" = some (some (.ref f_Service_send)))
    (i_Service_send : PySem.W.isFn K (.ref f_Service_send) = true)
    (l_Service_send : K.lookup f_Service_send = some ⟨oc_Service_send, od_Service_send, .func (PySem.W.fnOf "send" "Service.send" (defArgs s_Service_send) (defBody s_Service_send) (defScope s_Service_send) .none kV_Service_send dc_Service_send pm_Service_send an_Service_send cd_Service_send ct_Service_send), sl_Service_send⟩)
    (c_Service_send : PySem.W.codeIn K cd_Service_send "Service.send" = true)
    (k_Service_send : PySem.W.keepIn K (.ref f_Service_send) = true)
    (a_Service_back : PySem.W.findIn K (.ref C_Service) "back" = some (some (.ref f_Service_back)))
    (i_Service_back : PySem.W.isFn K (.ref f_Service_back) = true)
    (l_Service_back : K.lookup f_Service_back = some ⟨oc_Service_back, od_Service_back, .func (PySem.W.fnOf "back" "Service.back" (defArgs s_Service_back) (defBody s_Service_back) (defScope s_Service_back) .none kV_Service_back dc_Service_back pm_Service_back an_Service_back cd_Service_back ct_Service_back), sl_Service_back⟩)
    (c_Service_back : PySem.W.codeIn K cd_Service_back "Service.back" = true)
    (k_Service_back : PySem.W.keepIn K (.ref f_Service_back) = true)
    (a_Service_end : PySem.W.findIn K (.ref C_Service) "end" = some (some (.ref f_Service_end)))
    (i_Service_end : PySem.W.isFn K (.ref f_Service_end) = true)
    (l_Service_end : K.lookup f_Service_end = some ⟨oc_Service_end, od_Service_end, .func (PySem.W.fnOf "end" "Service.end" (defArgs s_Service_end) (defBody s_Service_end) (defScope s_Service_end) .none kV_Service_end dc_Service_end pm_Service_end an_Service_end cd_Service_end ct_Service_end), sl_Service_end⟩)
    (c_Service_end : PySem.W.codeIn K cd_Service_end "Service.end" = true)
    (k_Service_end : PySem.W.keepIn K (.ref f_Service_end) = true)
    (a__law_box : PySem.W.nsIn K mainGlobals "_law_box" = some (some (.ref f__law_box)))
    (l__law_box : K.lookup f__law_box = some ⟨oc__law_box, od__law_box, .func (PySem.W.fnOf "_law_box" "_law_box" (defArgs s__law_box) (defBody s__law_box) (defScope s__law_box) .none kV__law_box dc__law_box pm__law_box an__law_box cd__law_box ct__law_box), sl__law_box⟩)
    (c__law_box : PySem.W.codeIn K cd__law_box "_law_box" = true)
    (k__law_box : PySem.W.keepIn K (.ref f__law_box) = true)
    (a__law_take : PySem.W.nsIn K mainGlobals "_law_take" = some (some (.ref f__law_take)))
    (l__law_take : K.lookup f__law_take = some ⟨oc__law_take, od__law_take, .func (PySem.W.fnOf "_law_take" "_law_take" (defArgs s__law_take) (defBody s__law_take) (defScope s__law_take) .none kV__law_take dc__law_take pm__law_take an__law_take cd__law_take ct__law_take), sl__law_take⟩)
    (c__law_take : PySem.W.codeIn K cd__law_take "_law_take" = true)
    (k__law_take : PySem.W.keepIn K (.ref f__law_take) = true)
    (a__law_pick : PySem.W.nsIn K mainGlobals "_law_pick" = some (some (.ref f__law_pick)))
    (l__law_pick : K.lookup f__law_pick = some ⟨oc__law_pick, od__law_pick, .func (PySem.W.fnOf "_law_pick" "_law_pick" (defArgs s__law_pick) (defBody s__law_pick) (defScope s__law_pick) .none kV__law_pick dc__law_pick pm__law_pick an__law_pick cd__law_pick ct__law_pick), sl__law_pick⟩)
    (c__law_pick : PySem.W.codeIn K cd__law_pick "_law_pick" = true)
    (k__law_pick : PySem.W.keepIn K (.ref f__law_pick) = true)
    (a__law_mixed : PySem.W.nsIn K mainGlobals "_law_mixed" = some (some (.ref f__law_mixed)))
    (l__law_mixed : K.lookup f__law_mixed = some ⟨oc__law_mixed, od__law_mixed, .func (PySem.W.fnOf "_law_mixed" "_law_mixed" (defArgs s__law_mixed) (defBody s__law_mixed) (defScope s__law_mixed) .none kV__law_mixed dc__law_mixed pm__law_mixed an__law_mixed cd__law_mixed ct__law_mixed), sl__law_mixed⟩)
    (c__law_mixed : PySem.W.codeIn K cd__law_mixed "_law_mixed" = true)
    (k__law_mixed : PySem.W.keepIn K (.ref f__law_mixed) = true)
    (a__law_names : PySem.W.nsIn K mainGlobals "_law_names" = some (some (.ref f__law_names)))
    (l__law_names : K.lookup f__law_names = some ⟨oc__law_names, od__law_names, .func (PySem.W.fnOf "_law_names" "_law_names" (defArgs s__law_names) (defBody s__law_names) (defScope s__law_names) .none kV__law_names dc__law_names pm__law_names an__law_names cd__law_names ct__law_names), sl__law_names⟩)
    (c__law_names : PySem.W.codeIn K cd__law_names "_law_names" = true)
    (k__law_names : PySem.W.keepIn K (.ref f__law_names) = true)
    (a__law_row : PySem.W.nsIn K mainGlobals "_law_row" = some (some (.ref f__law_row)))
    (l__law_row : K.lookup f__law_row = some ⟨oc__law_row, od__law_row, .func (PySem.W.fnOf "_law_row" "_law_row" (defArgs s__law_row) (defBody s__law_row) (defScope s__law_row) .none kV__law_row dc__law_row pm__law_row an__law_row cd__law_row ct__law_row), sl__law_row⟩)
    (c__law_row : PySem.W.codeIn K cd__law_row "_law_row" = true)
    (k__law_row : PySem.W.keepIn K (.ref f__law_row) = true)
    (a__law_words : PySem.W.nsIn K mainGlobals "_law_words" = some (some (.ref f__law_words)))
    (l__law_words : K.lookup f__law_words = some ⟨oc__law_words, od__law_words, .func (PySem.W.fnOf "_law_words" "_law_words" (defArgs s__law_words) (defBody s__law_words) (defScope s__law_words) .none kV__law_words dc__law_words pm__law_words an__law_words cd__law_words ct__law_words), sl__law_words⟩)
    (c__law_words : PySem.W.codeIn K cd__law_words "_law_words" = true)
    (k__law_words : PySem.W.keepIn K (.ref f__law_words) = true)
    (a__law_drawn_row : PySem.W.nsIn K mainGlobals "_law_drawn_row" = some (some (.ref f__law_drawn_row)))
    (l__law_drawn_row : K.lookup f__law_drawn_row = some ⟨oc__law_drawn_row, od__law_drawn_row, .func (PySem.W.fnOf "_law_drawn_row" "_law_drawn_row" (defArgs s__law_drawn_row) (defBody s__law_drawn_row) (defScope s__law_drawn_row) .none kV__law_drawn_row dc__law_drawn_row pm__law_drawn_row an__law_drawn_row cd__law_drawn_row ct__law_drawn_row), sl__law_drawn_row⟩)
    (c__law_drawn_row : PySem.W.codeIn K cd__law_drawn_row "_law_drawn_row" = true)
    (k__law_drawn_row : PySem.W.keepIn K (.ref f__law_drawn_row) = true)
    (a__law_service_of : PySem.W.nsIn K mainGlobals "_law_service_of" = some (some (.ref f__law_service_of)))
    (l__law_service_of : K.lookup f__law_service_of = some ⟨oc__law_service_of, od__law_service_of, .func (PySem.W.fnOf "_law_service_of" "_law_service_of" (defArgs s__law_service_of) (defBody s__law_service_of) (defScope s__law_service_of) .none kV__law_service_of dc__law_service_of pm__law_service_of an__law_service_of cd__law_service_of ct__law_service_of), sl__law_service_of⟩)
    (c__law_service_of : PySem.W.codeIn K cd__law_service_of "_law_service_of" = true)
    (k__law_service_of : PySem.W.keepIn K (.ref f__law_service_of) = true)
    (a__law_some : PySem.W.nsIn K mainGlobals "_law_some" = some (some (.ref f__law_some)))
    (l__law_some : K.lookup f__law_some = some ⟨oc__law_some, od__law_some, .func (PySem.W.fnOf "_law_some" "_law_some" (defArgs s__law_some) (defBody s__law_some) (defScope s__law_some) .none kV__law_some dc__law_some pm__law_some an__law_some cd__law_some ct__law_some), sl__law_some⟩)
    (c__law_some : PySem.W.codeIn K cd__law_some "_law_some" = true)
    (k__law_some : PySem.W.keepIn K (.ref f__law_some) = true)
    (a__law_any_service : PySem.W.nsIn K mainGlobals "_law_any_service" = some (some (.ref f__law_any_service)))
    (l__law_any_service : K.lookup f__law_any_service = some ⟨oc__law_any_service, od__law_any_service, .func (PySem.W.fnOf "_law_any_service" "_law_any_service" (defArgs s__law_any_service) (defBody s__law_any_service) (defScope s__law_any_service) .none kV__law_any_service dc__law_any_service pm__law_any_service an__law_any_service cd__law_any_service ct__law_any_service), sl__law_any_service⟩)
    (c__law_any_service : PySem.W.codeIn K cd__law_any_service "_law_any_service" = true)
    (k__law_any_service : PySem.W.keepIn K (.ref f__law_any_service) = true)
    (a__law_first : PySem.W.nsIn K mainGlobals "_law_first" = some (some (.ref f__law_first)))
    (l__law_first : K.lookup f__law_first = some ⟨oc__law_first, od__law_first, .func (PySem.W.fnOf "_law_first" "_law_first" (defArgs s__law_first) (defBody s__law_first) (defScope s__law_first) .none kV__law_first dc__law_first pm__law_first an__law_first cd__law_first ct__law_first), sl__law_first⟩)
    (c__law_first : PySem.W.codeIn K cd__law_first "_law_first" = true)
    (k__law_first : PySem.W.keepIn K (.ref f__law_first) = true)
    (a__law_begun : PySem.W.nsIn K mainGlobals "_law_begun" = some (some (.ref f__law_begun)))
    (l__law_begun : K.lookup f__law_begun = some ⟨oc__law_begun, od__law_begun, .func (PySem.W.fnOf "_law_begun" "_law_begun" (defArgs s__law_begun) (defBody s__law_begun) (defScope s__law_begun) .none kV__law_begun dc__law_begun pm__law_begun an__law_begun cd__law_begun ct__law_begun), sl__law_begun⟩)
    (c__law_begun : PySem.W.codeIn K cd__law_begun "_law_begun" = true)
    (k__law_begun : PySem.W.keepIn K (.ref f__law_begun) = true)
    (a__law_sent : PySem.W.nsIn K mainGlobals "_law_sent" = some (some (.ref f__law_sent)))
    (l__law_sent : K.lookup f__law_sent = some ⟨oc__law_sent, od__law_sent, .func (PySem.W.fnOf "_law_sent" "_law_sent" (defArgs s__law_sent) (defBody s__law_sent) (defScope s__law_sent) .none kV__law_sent dc__law_sent pm__law_sent an__law_sent cd__law_sent ct__law_sent), sl__law_sent⟩)
    (c__law_sent : PySem.W.codeIn K cd__law_sent "_law_sent" = true)
    (k__law_sent : PySem.W.keepIn K (.ref f__law_sent) = true)
    (a__law_after : PySem.W.nsIn K mainGlobals "_law_after" = some (some (.ref f__law_after)))
    (l__law_after : K.lookup f__law_after = some ⟨oc__law_after, od__law_after, .func (PySem.W.fnOf "_law_after" "_law_after" (defArgs s__law_after) (defBody s__law_after) (defScope s__law_after) .none kV__law_after dc__law_after pm__law_after an__law_after cd__law_after ct__law_after), sl__law_after⟩)
    (c__law_after : PySem.W.codeIn K cd__law_after "_law_after" = true)
    (k__law_after : PySem.W.keepIn K (.ref f__law_after) = true)
    (a__law_ended : PySem.W.nsIn K mainGlobals "_law_ended" = some (some (.ref f__law_ended)))
    (l__law_ended : K.lookup f__law_ended = some ⟨oc__law_ended, od__law_ended, .func (PySem.W.fnOf "_law_ended" "_law_ended" (defArgs s__law_ended) (defBody s__law_ended) (defScope s__law_ended) .none kV__law_ended dc__law_ended pm__law_ended an__law_ended cd__law_ended ct__law_ended), sl__law_ended⟩)
    (c__law_ended : PySem.W.codeIn K cd__law_ended "_law_ended" = true)
    (k__law_ended : PySem.W.keepIn K (.ref f__law_ended) = true)
    (a_law : PySem.W.nsIn K mainGlobals "law" = some (some (.ref f_law)))
    (l_law : K.lookup f_law = some ⟨oc_law, od_law, .func (PySem.W.fnOf "law" "law" (defArgs s_law) (defBody s_law) (defScope s_law) .none kV_law dc_law pm_law an_law cd_law ct_law), sl_law⟩)
    (c_law : PySem.W.codeIn K cd_law "law" = true)
    (k_law : PySem.W.keepIn K (.ref f_law) = true)
    (b_len : PySem.W.nsIn K mainGlobals "len" = some none)
    (b_abs : PySem.W.nsIn K mainGlobals "abs" = some none)
    (b_max : PySem.W.nsIn K mainGlobals "max" = some none)
    (b_min : PySem.W.nsIn K mainGlobals "min" = some none)
    (b_int : PySem.W.nsIn K mainGlobals "int" = some none)
    (b_str : PySem.W.nsIn K mainGlobals "str" = some none)
    (b_isinstance : PySem.W.nsIn K mainGlobals "isinstance" = some none)
    (b_all : PySem.W.nsIn K mainGlobals "all" = some none)
    (b_range : PySem.W.nsIn K mainGlobals "range" = some none)
    (b_list : PySem.W.nsIn K mainGlobals "list" = some none)
    (b_tuple : PySem.W.nsIn K mainGlobals "tuple" = some none)
    (b_sorted : PySem.W.nsIn K mainGlobals "sorted" = some none)
    (b_zip : PySem.W.nsIn K mainGlobals "zip" = some none)
    (b_repr : PySem.W.nsIn K mainGlobals "repr" = some none)
    (g_LETTERS : PySem.W.nsIn K mainGlobals "LETTERS" = some (some (.str "abcdefghijklmnopqrstuvwxyz" k_LETTERS)))
    (g_BARRED : PySem.W.nsIn K mainGlobals "BARRED" = some (some (.ref k_BARRED)))
    (gl_BARRED : K.lookup k_BARRED = some ⟨.type "tuple", kc_BARRED, .seq #[.str "none" kt_BARRED_0, .str "any" kt_BARRED_1, .str "same" kt_BARRED_2, .str "keep" kt_BARRED_3, .str "drop" kt_BARRED_4, .str "good" kt_BARRED_5, .str "bad" kt_BARRED_6, .str "old" kt_BARRED_7, .str "new" kt_BARRED_8, .str "both" kt_BARRED_9] kn_BARRED, ks_BARRED⟩)
    (g_MOST_LETTERS : PySem.W.nsIn K mainGlobals "MOST_LETTERS" = some (some (.int 4 k_MOST_LETTERS)))
    (g_CALM : PySem.W.nsIn K mainGlobals "CALM" = some (some (.str "calm" k_CALM)))
    (sup_t : (PG.main.scope.names.lookup ("super" : Str)).isSome = false)
    (sup_m : PySem.W.nsIn K mainGlobals "super" = some none)
    (sup_o : PySem.W.nsIn K cStatics "thirdparty.any" = some none)
    (pg_Row : PySem.W.plainGet K C_Row Str.empty = true)
    (hd_Row : PySem.W.hasDictIn K C_Row = true)
    (po_Row : PySem.W.plainOver K C_Row = true)
    (sa_Row : PySem.W.findIn K (.ref C_Row) "__setattr__" = some (some (.builtin "object.__setattr__")))
    (mk_Row : PySem.W.makesIn K C_Row = true)
    (kc_Row : PySem.W.keepIn K (.ref C_Row) = true)
    (ha_Row : PySem.W.findIn K (.ref C_Row) "__class__" = some (some (.builtin "object.__class__")))
    (hm_Row : PySem.W.mroIn K C_Row (.type "object") = some true)
    (hn_ : PySem.W.specialIn K (.builtin "object.__class__") "__get__" = some (some (.builtin "getset_descriptor.__get__")))
    (htk_ : PySem.W.takesIn K (.builtin "object.__class__") = some true)
    (in_Row : PySem.W.findIn K (.ref C_Row) "__init__" = some (some (.ref f_Row_init)))
    (na_Row_text : PySem.W.findIn K (.ref C_Row) "text" = some none)
    (pg_Begin : PySem.W.plainGet K C_Begin Str.empty = true)
    (hd_Begin : PySem.W.hasDictIn K C_Begin = true)
    (po_Begin : PySem.W.plainOver K C_Begin = true)
    (sa_Begin : PySem.W.findIn K (.ref C_Begin) "__setattr__" = some (some (.builtin "object.__setattr__")))
    (mk_Begin : PySem.W.makesIn K C_Begin = true)
    (kc_Begin : PySem.W.keepIn K (.ref C_Begin) = true)
    (ha_Begin : PySem.W.findIn K (.ref C_Begin) "__class__" = some (some (.builtin "object.__class__")))
    (hm_Begin : PySem.W.mroIn K C_Begin (.type "object") = some true)
    (in_Begin : PySem.W.findIn K (.ref C_Begin) "__init__" = some (some (.ref f_Begin_init)))
    (na_Begin_text : PySem.W.findIn K (.ref C_Begin) "text" = some none)
    (na_Begin_mark : PySem.W.findIn K (.ref C_Begin) "mark" = some none)
    (na_Begin_kind : PySem.W.findIn K (.ref C_Begin) "kind" = some none)
    (na_Begin_mood : PySem.W.findIn K (.ref C_Begin) "mood" = some none)
    (st_Begin : PySem.W.findIn K (.ref C_Begin) "__str__" = some (some (.ref f_Row_str)))
    (sb_Begin : PySem.W.mroIn K C_Begin (.ref C_Begin) = some true)
    (ss_Begin : PySem.W.ks_superIn K C_Begin C_Begin "__init__" = some (some (.ref f_Row_init)))
    (sy_Begin : PySem.W.typeIn K (.ref f_Row_init) = some (.type "function"))
    (sf_Begin : PySem.W.fnIn K f_Row_init = true)
    (sc_Begin : PySem.W.clsIn K C_Begin = some cdd_CBegin)
    (pg_Send : PySem.W.plainGet K C_Send Str.empty = true)
    (hd_Send : PySem.W.hasDictIn K C_Send = true)
    (po_Send : PySem.W.plainOver K C_Send = true)
    (sa_Send : PySem.W.findIn K (.ref C_Send) "__setattr__" = some (some (.builtin "object.__setattr__")))
    (mk_Send : PySem.W.makesIn K C_Send = true)
    (kc_Send : PySem.W.keepIn K (.ref C_Send) = true)
    (ha_Send : PySem.W.findIn K (.ref C_Send) "__class__" = some (some (.builtin "object.__class__")))
    (hm_Send : PySem.W.mroIn K C_Send (.type "object") = some true)
    (in_Send : PySem.W.findIn K (.ref C_Send) "__init__" = some (some (.ref f_Send_init)))
    (na_Send_text : PySem.W.findIn K (.ref C_Send) "text" = some none)
    (na_Send_mark : PySem.W.findIn K (.ref C_Send) "mark" = some none)
    (na_Send_mood : PySem.W.findIn K (.ref C_Send) "mood" = some none)
    (na_Send_service : PySem.W.findIn K (.ref C_Send) "service" = some none)
    (st_Send : PySem.W.findIn K (.ref C_Send) "__str__" = some (some (.ref f_Row_str)))
    (sb_Send : PySem.W.mroIn K C_Send (.ref C_Send) = some true)
    (ss_Send : PySem.W.ks_superIn K C_Send C_Send "__init__" = some (some (.ref f_Row_init)))
    (sy_Send : PySem.W.typeIn K (.ref f_Row_init) = some (.type "function"))
    (sf_Send : PySem.W.fnIn K f_Row_init = true)
    (sc_Send : PySem.W.clsIn K C_Send = some cdd_CSend)
    (pg_Back : PySem.W.plainGet K C_Back Str.empty = true)
    (hd_Back : PySem.W.hasDictIn K C_Back = true)
    (po_Back : PySem.W.plainOver K C_Back = true)
    (sa_Back : PySem.W.findIn K (.ref C_Back) "__setattr__" = some (some (.builtin "object.__setattr__")))
    (mk_Back : PySem.W.makesIn K C_Back = true)
    (kc_Back : PySem.W.keepIn K (.ref C_Back) = true)
    (ha_Back : PySem.W.findIn K (.ref C_Back) "__class__" = some (some (.builtin "object.__class__")))
    (hm_Back : PySem.W.mroIn K C_Back (.type "object") = some true)
    (in_Back : PySem.W.findIn K (.ref C_Back) "__init__" = some (some (.ref f_Back_init)))
    (na_Back_text : PySem.W.findIn K (.ref C_Back) "text" = some none)
    (na_Back_mood : PySem.W.findIn K (.ref C_Back) "mood" = some none)
    (na_Back_service : PySem.W.findIn K (.ref C_Back) "service" = some none)
    (na_Back_sign : PySem.W.findIn K (.ref C_Back) "sign" = some none)
    (na_Back_then : PySem.W.findIn K (.ref C_Back) "then" = some none)
    (st_Back : PySem.W.findIn K (.ref C_Back) "__str__" = some (some (.ref f_Row_str)))
    (sb_Back : PySem.W.mroIn K C_Back (.ref C_Back) = some true)
    (ss_Back : PySem.W.ks_superIn K C_Back C_Back "__init__" = some (some (.ref f_Row_init)))
    (sy_Back : PySem.W.typeIn K (.ref f_Row_init) = some (.type "function"))
    (sf_Back : PySem.W.fnIn K f_Row_init = true)
    (sc_Back : PySem.W.clsIn K C_Back = some cdd_CBack)
    (pg_End : PySem.W.plainGet K C_End Str.empty = true)
    (hd_End : PySem.W.hasDictIn K C_End = true)
    (po_End : PySem.W.plainOver K C_End = true)
    (sa_End : PySem.W.findIn K (.ref C_End) "__setattr__" = some (some (.builtin "object.__setattr__")))
    (mk_End : PySem.W.makesIn K C_End = true)
    (kc_End : PySem.W.keepIn K (.ref C_End) = true)
    (ha_End : PySem.W.findIn K (.ref C_End) "__class__" = some (some (.builtin "object.__class__")))
    (hm_End : PySem.W.mroIn K C_End (.type "object") = some true)
    (in_End : PySem.W.findIn K (.ref C_End) "__init__" = some (some (.ref f_End_init)))
    (na_End_text : PySem.W.findIn K (.ref C_End) "text" = some none)
    (na_End_mood : PySem.W.findIn K (.ref C_End) "mood" = some none)
    (na_End_sign : PySem.W.findIn K (.ref C_End) "sign" = some none)
    (na_End_outcome : PySem.W.findIn K (.ref C_End) "outcome" = some none)
    (na_End_part : PySem.W.findIn K (.ref C_End) "part" = some none)
    (st_End : PySem.W.findIn K (.ref C_End) "__str__" = some (some (.ref f_Row_str)))
    (sb_End : PySem.W.mroIn K C_End (.ref C_End) = some true)
    (ss_End : PySem.W.ks_superIn K C_End C_End "__init__" = some (some (.ref f_Row_init)))
    (sy_End : PySem.W.typeIn K (.ref f_Row_init) = some (.type "function"))
    (sf_End : PySem.W.fnIn K f_Row_init = true)
    (sc_End : PySem.W.clsIn K C_End = some cdd_CEnd)
    (pg_Service : PySem.W.plainGet K C_Service Str.empty = true)
    (hd_Service : PySem.W.hasDictIn K C_Service = true)
    (po_Service : PySem.W.plainOver K C_Service = true)
    (sa_Service : PySem.W.findIn K (.ref C_Service) "__setattr__" = some (some (.builtin "object.__setattr__")))
    (mk_Service : PySem.W.makesIn K C_Service = true)
    (kc_Service : PySem.W.keepIn K (.ref C_Service) = true)
    (ha_Service : PySem.W.findIn K (.ref C_Service) "__class__" = some (some (.builtin "object.__class__")))
    (hm_Service : PySem.W.mroIn K C_Service (.type "object") = some true)
    (in_Service : PySem.W.findIn K (.ref C_Service) "__init__" = some (some (.ref f_Service_init)))
    (na_Service_text : PySem.W.findIn K (.ref C_Service) "text" = some none)
    (na_Service_name : PySem.W.findIn K (.ref C_Service) "name" = some none)
    (na_Service_kinds : PySem.W.findIn K (.ref C_Service) "kinds" = some none)
    (na_Service_waits : PySem.W.findIn K (.ref C_Service) "waits" = some none)
    (na_Service_leaves : PySem.W.findIn K (.ref C_Service) "leaves" = some none)
    (na_Service_rows : PySem.W.findIn K (.ref C_Service) "rows" = some none)
    (na_Service_told : PySem.W.findIn K (.ref C_Service) "told" = some none)
    (na_Service_moods : PySem.W.findIn K (.ref C_Service) "moods" = some none)
    (ma_Service_first : PySem.W.findIn K (.ref C_Service) "first" = some (some (.ref f_Service_first)))
    (ma_Service_begin : PySem.W.findIn K (.ref C_Service) "begin" = some (some (.ref f_Service_begin)))
    (ma_Service_send : PySem.W.findIn K (.ref C_Service) "send" = some (some (.ref f_Service_send)))
    (ma_Service_back : PySem.W.findIn K (.ref C_Service) "back" = some (some (.ref f_Service_back)))
    (ma_Service_end : PySem.W.findIn K (.ref C_Service) "end" = some (some (.ref f_Service_end)))
    (kd_Row : PySem.W.clsIn K C_Row = some kdd_Row)
    (kt_Row : PySem.W.typeIn K (.ref C_Row) = some (.type "type"))
    (fk_Begin_Row : PySem.W.subIn K (.ref C_Begin) (.ref C_Row) = some true)
    (fk_Send_Row : PySem.W.subIn K (.ref C_Send) (.ref C_Row) = some true)
    (fk_Back_Row : PySem.W.subIn K (.ref C_Back) (.ref C_Row) = some true)
    (fk_End_Row : PySem.W.subIn K (.ref C_End) (.ref C_Row) = some true)
    : ∃ A : Ad, Tx K mg A := by
  have F_is_name := funD_mk (x := "is_name") (qual := "is_name") (st := s_is_name) l_is_name c_is_name k_is_name
  have F_is_word := funD_mk (x := "is_word") (qual := "is_word") (st := s_is_word) l_is_word c_is_word k_is_word
  have F_is_mark := funD_mk (x := "is_mark") (qual := "is_mark") (st := s_is_mark) l_is_mark c_is_mark k_is_mark
  have F_is_sign := funD_mk (x := "is_sign") (qual := "is_sign") (st := s_is_sign) l_is_sign c_is_sign k_is_sign
  have F_is_sequence := funD_mk (x := "is_sequence") (qual := "is_sequence") (st := s_is_sequence) l_is_sequence c_is_sequence k_is_sequence
  have F_are_names := funD_mk (x := "are_names") (qual := "are_names") (st := s_are_names) l_are_names c_are_names k_are_names
  have F_Row_init := funD_mk (x := "__init__") (qual := "Row.__init__") (st := s_Row_init) l_Row_init c_Row_init k_Row_init
  have F_Row_str := funD_mk (x := "__str__") (qual := "Row.__str__") (st := s_Row_str) l_Row_str c_Row_str k_Row_str
  have F_need := funD_mk (x := "need") (qual := "need") (st := s_need) l_need c_need k_need
  have bd_Begin_init : Binds K (PySem.W.ksFn "__init__" "Begin.__init__" (defArgs s_Begin_init) (defBody s_Begin_init) (defScope s_Begin_init) .none kV_Begin_init dc_Begin_init pm_Begin_init an_Begin_init (.ref ca_Begin_init) ct_Begin_init cc_Begin_init) ["self", "mark", "kind", "mood"] [] := .all fun us hl => match us, hl with | [_, _, _, _], _ => rfl
  have bd_Send_init : Binds K (PySem.W.ksFn "__init__" "Send.__init__" (defArgs s_Send_init) (defBody s_Send_init) (defScope s_Send_init) .none kV_Send_init dc_Send_init pm_Send_init an_Send_init (.ref ca_Send_init) ct_Send_init cc_Send_init) ["self", "mood", "service", "mark"] [] := .all fun us hl => match us, hl with | [_, _, _, _], _ => rfl
  have bd_Back_init : Binds K (PySem.W.ksFn "__init__" "Back.__init__" (defArgs s_Back_init) (defBody s_Back_init) (defScope s_Back_init) .none kV_Back_init dc_Back_init pm_Back_init an_Back_init (.ref ca_Back_init) ct_Back_init cc_Back_init) ["self", "mood", "service", "sign", "then"] [] := .all fun us hl => match us, hl with | [_, _, _, _, _], _ => rfl
  have bd_End_init : Binds K (PySem.W.ksFn "__init__" "End.__init__" (defArgs s_End_init) (defBody s_End_init) (defScope s_End_init) .none kV_End_init dc_End_init pm_End_init an_End_init (.ref ca_End_init) ct_End_init cc_End_init) ["self", "mood", "outcome", "sign", "part"] [] := .all fun us hl => match us, hl with | [_, _, _, _, _], _ => rfl
  have F_need_24 := funD_mk (x := "need") (qual := "need") (st := s_need_24) l_need_24 c_need_24 k_need_24
  have F_moods_of := funD_mk (x := "moods_of") (qual := "moods_of") (st := s_moods_of) l_moods_of c_moods_of k_moods_of
  have F_ascending := funD_mk (x := "ascending") (qual := "ascending") (st := s_ascending) l_ascending c_ascending k_ascending
  have F_Service_init := funD_mkD (x := "__init__") (qual := "Service.__init__") (st := s_Service_init) (dvs := [.ref e_Service_init_0, .ref e_Service_init_1, .ref e_Service_init_2]) (its := [.ref e_Service_init_0, .ref e_Service_init_1, .ref e_Service_init_2]) (by simp) l_Service_init c_Service_init k_Service_init lT_Service_init rfl (.cons rfl (.cons rfl (.cons rfl .nil)))
  have F_Service_first := funD_mk (x := "first") (qual := "Service.first") (st := s_Service_first) l_Service_first c_Service_first k_Service_first
  have F_Service_begin := funD_mk (x := "begin") (qual := "Service.begin") (st := s_Service_begin) l_Service_begin c_Service_begin k_Service_begin
  have F_Service_send := funD_mk (x := "send") (qual := "Service.send") (st := s_Service_send) l_Service_send c_Service_send k_Service_send
  have F_Service_back := funD_mk (x := "back") (qual := "Service.back") (st := s_Service_back) l_Service_back c_Service_back k_Service_back
  have F_Service_end := funD_mk (x := "end") (qual := "Service.end") (st := s_Service_end) l_Service_end c_Service_end k_Service_end
  have F__law_box := funD_mk (x := "_law_box") (qual := "_law_box") (st := s__law_box) l__law_box c__law_box k__law_box
  have F__law_take := funD_mk (x := "_law_take") (qual := "_law_take") (st := s__law_take) l__law_take c__law_take k__law_take
  have F__law_pick := funD_mk (x := "_law_pick") (qual := "_law_pick") (st := s__law_pick) l__law_pick c__law_pick k__law_pick
  have F__law_mixed := funD_mk (x := "_law_mixed") (qual := "_law_mixed") (st := s__law_mixed) l__law_mixed c__law_mixed k__law_mixed
  have F__law_names := funD_mk (x := "_law_names") (qual := "_law_names") (st := s__law_names) l__law_names c__law_names k__law_names
  have F__law_row := funD_mk (x := "_law_row") (qual := "_law_row") (st := s__law_row) l__law_row c__law_row k__law_row
  have F__law_words := funD_mk (x := "_law_words") (qual := "_law_words") (st := s__law_words) l__law_words c__law_words k__law_words
  have F__law_drawn_row := funD_mk (x := "_law_drawn_row") (qual := "_law_drawn_row") (st := s__law_drawn_row) l__law_drawn_row c__law_drawn_row k__law_drawn_row
  have F__law_service_of := funD_mk (x := "_law_service_of") (qual := "_law_service_of") (st := s__law_service_of) l__law_service_of c__law_service_of k__law_service_of
  have F__law_some := funD_mk (x := "_law_some") (qual := "_law_some") (st := s__law_some) l__law_some c__law_some k__law_some
  have F__law_any_service := funD_mk (x := "_law_any_service") (qual := "_law_any_service") (st := s__law_any_service) l__law_any_service c__law_any_service k__law_any_service
  have F__law_first := funD_mk (x := "_law_first") (qual := "_law_first") (st := s__law_first) l__law_first c__law_first k__law_first
  have F__law_begun := funD_mk (x := "_law_begun") (qual := "_law_begun") (st := s__law_begun) l__law_begun c__law_begun k__law_begun
  have F__law_sent := funD_mk (x := "_law_sent") (qual := "_law_sent") (st := s__law_sent) l__law_sent c__law_sent k__law_sent
  have F__law_after := funD_mk (x := "_law_after") (qual := "_law_after") (st := s__law_after) l__law_after c__law_after k__law_after
  have F__law_ended := funD_mk (x := "_law_ended") (qual := "_law_ended") (st := s__law_ended) l__law_ended c__law_ended k__law_ended
  have F_law := funD_mk (x := "law") (qual := "law") (st := s_law) l_law c_law k_law
  exact ⟨{ C_Row := C_Row, C_Begin := C_Begin, C_Send := C_Send, C_Back := C_Back, C_End := C_End, C_Service := C_Service, is_name := f_is_name, is_name_d := PySem.W.fnOf "is_name" "is_name" (defArgs s_is_name) (defBody s_is_name) (defScope s_is_name) .none kV_is_name dc_is_name pm_is_name an_is_name cd_is_name ct_is_name, is_word := f_is_word, is_word_d := PySem.W.fnOf "is_word" "is_word" (defArgs s_is_word) (defBody s_is_word) (defScope s_is_word) .none kV_is_word dc_is_word pm_is_word an_is_word cd_is_word ct_is_word, is_mark := f_is_mark, is_mark_d := PySem.W.fnOf "is_mark" "is_mark" (defArgs s_is_mark) (defBody s_is_mark) (defScope s_is_mark) .none kV_is_mark dc_is_mark pm_is_mark an_is_mark cd_is_mark ct_is_mark, is_sign := f_is_sign, is_sign_d := PySem.W.fnOf "is_sign" "is_sign" (defArgs s_is_sign) (defBody s_is_sign) (defScope s_is_sign) .none kV_is_sign dc_is_sign pm_is_sign an_is_sign cd_is_sign ct_is_sign, is_sequence := f_is_sequence, is_sequence_d := PySem.W.fnOf "is_sequence" "is_sequence" (defArgs s_is_sequence) (defBody s_is_sequence) (defScope s_is_sequence) .none kV_is_sequence dc_is_sequence pm_is_sequence an_is_sequence cd_is_sequence ct_is_sequence, are_names := f_are_names, are_names_d := PySem.W.fnOf "are_names" "are_names" (defArgs s_are_names) (defBody s_are_names) (defScope s_are_names) .none kV_are_names dc_are_names pm_are_names an_are_names cd_are_names ct_are_names, Row_init := f_Row_init, Row_init_d := PySem.W.fnOf "__init__" "Row.__init__" (defArgs s_Row_init) (defBody s_Row_init) (defScope s_Row_init) .none kV_Row_init dc_Row_init pm_Row_init an_Row_init cd_Row_init ct_Row_init, Row_str := f_Row_str, Row_str_d := PySem.W.fnOf "__str__" "Row.__str__" (defArgs s_Row_str) (defBody s_Row_str) (defScope s_Row_str) .none kV_Row_str dc_Row_str pm_Row_str an_Row_str cd_Row_str ct_Row_str, need := f_need, need_d := PySem.W.fnOf "need" "need" (defArgs s_need) (defBody s_need) (defScope s_need) .none kV_need dc_need pm_need an_need cd_need ct_need, Begin_init := f_Begin_init, Begin_init_d := PySem.W.ksFn "__init__" "Begin.__init__" (defArgs s_Begin_init) (defBody s_Begin_init) (defScope s_Begin_init) .none kV_Begin_init dc_Begin_init pm_Begin_init an_Begin_init (.ref ca_Begin_init) ct_Begin_init cc_Begin_init, Send_init := f_Send_init, Send_init_d := PySem.W.ksFn "__init__" "Send.__init__" (defArgs s_Send_init) (defBody s_Send_init) (defScope s_Send_init) .none kV_Send_init dc_Send_init pm_Send_init an_Send_init (.ref ca_Send_init) ct_Send_init cc_Send_init, Back_init := f_Back_init, Back_init_d := PySem.W.ksFn "__init__" "Back.__init__" (defArgs s_Back_init) (defBody s_Back_init) (defScope s_Back_init) .none kV_Back_init dc_Back_init pm_Back_init an_Back_init (.ref ca_Back_init) ct_Back_init cc_Back_init, End_init := f_End_init, End_init_d := PySem.W.ksFn "__init__" "End.__init__" (defArgs s_End_init) (defBody s_End_init) (defScope s_End_init) .none kV_End_init dc_End_init pm_End_init an_End_init (.ref ca_End_init) ct_End_init cc_End_init, need_24 := f_need_24, need_24_d := PySem.W.fnOf "need" "need" (defArgs s_need_24) (defBody s_need_24) (defScope s_need_24) .none kV_need_24 dc_need_24 pm_need_24 an_need_24 cd_need_24 ct_need_24, moods_of := f_moods_of, moods_of_d := PySem.W.fnOf "moods_of" "moods_of" (defArgs s_moods_of) (defBody s_moods_of) (defScope s_moods_of) .none kV_moods_of dc_moods_of pm_moods_of an_moods_of cd_moods_of ct_moods_of, ascending := f_ascending, ascending_d := PySem.W.fnOf "ascending" "ascending" (defArgs s_ascending) (defBody s_ascending) (defScope s_ascending) .none kV_ascending dc_ascending pm_ascending an_ascending cd_ascending ct_ascending, e_Service_init_0 := e_Service_init_0, e_Service_init_1 := e_Service_init_1, e_Service_init_2 := e_Service_init_2, Service_init := f_Service_init, Service_init_d := PySem.W.fnOf "__init__" "Service.__init__" (defArgs s_Service_init) (defBody s_Service_init) (defScope s_Service_init) (.ref T_Service_init) kV_Service_init dc_Service_init pm_Service_init an_Service_init cd_Service_init ct_Service_init, Service_first := f_Service_first, Service_first_d := PySem.W.fnOf "first" "Service.first" (defArgs s_Service_first) (defBody s_Service_first) (defScope s_Service_first) .none kV_Service_first dc_Service_first pm_Service_first an_Service_first cd_Service_first ct_Service_first, Service_begin := f_Service_begin, Service_begin_d := PySem.W.fnOf "begin" "Service.begin" (defArgs s_Service_begin) (defBody s_Service_begin) (defScope s_Service_begin) .none kV_Service_begin dc_Service_begin pm_Service_begin an_Service_begin cd_Service_begin ct_Service_begin, Service_send := f_Service_send, Service_send_d := PySem.W.fnOf "send" "Service.send" (defArgs s_Service_send) (defBody s_Service_send) (defScope s_Service_send) .none kV_Service_send dc_Service_send pm_Service_send an_Service_send cd_Service_send ct_Service_send, Service_back := f_Service_back, Service_back_d := PySem.W.fnOf "back" "Service.back" (defArgs s_Service_back) (defBody s_Service_back) (defScope s_Service_back) .none kV_Service_back dc_Service_back pm_Service_back an_Service_back cd_Service_back ct_Service_back, Service_end := f_Service_end, Service_end_d := PySem.W.fnOf "end" "Service.end" (defArgs s_Service_end) (defBody s_Service_end) (defScope s_Service_end) .none kV_Service_end dc_Service_end pm_Service_end an_Service_end cd_Service_end ct_Service_end, _law_box := f__law_box, _law_box_d := PySem.W.fnOf "_law_box" "_law_box" (defArgs s__law_box) (defBody s__law_box) (defScope s__law_box) .none kV__law_box dc__law_box pm__law_box an__law_box cd__law_box ct__law_box, _law_take := f__law_take, _law_take_d := PySem.W.fnOf "_law_take" "_law_take" (defArgs s__law_take) (defBody s__law_take) (defScope s__law_take) .none kV__law_take dc__law_take pm__law_take an__law_take cd__law_take ct__law_take, _law_pick := f__law_pick, _law_pick_d := PySem.W.fnOf "_law_pick" "_law_pick" (defArgs s__law_pick) (defBody s__law_pick) (defScope s__law_pick) .none kV__law_pick dc__law_pick pm__law_pick an__law_pick cd__law_pick ct__law_pick, _law_mixed := f__law_mixed, _law_mixed_d := PySem.W.fnOf "_law_mixed" "_law_mixed" (defArgs s__law_mixed) (defBody s__law_mixed) (defScope s__law_mixed) .none kV__law_mixed dc__law_mixed pm__law_mixed an__law_mixed cd__law_mixed ct__law_mixed, _law_names := f__law_names, _law_names_d := PySem.W.fnOf "_law_names" "_law_names" (defArgs s__law_names) (defBody s__law_names) (defScope s__law_names) .none kV__law_names dc__law_names pm__law_names an__law_names cd__law_names ct__law_names, _law_row := f__law_row, _law_row_d := PySem.W.fnOf "_law_row" "_law_row" (defArgs s__law_row) (defBody s__law_row) (defScope s__law_row) .none kV__law_row dc__law_row pm__law_row an__law_row cd__law_row ct__law_row, _law_words := f__law_words, _law_words_d := PySem.W.fnOf "_law_words" "_law_words" (defArgs s__law_words) (defBody s__law_words) (defScope s__law_words) .none kV__law_words dc__law_words pm__law_words an__law_words cd__law_words ct__law_words, _law_drawn_row := f__law_drawn_row, _law_drawn_row_d := PySem.W.fnOf "_law_drawn_row" "_law_drawn_row" (defArgs s__law_drawn_row) (defBody s__law_drawn_row) (defScope s__law_drawn_row) .none kV__law_drawn_row dc__law_drawn_row pm__law_drawn_row an__law_drawn_row cd__law_drawn_row ct__law_drawn_row, _law_service_of := f__law_service_of, _law_service_of_d := PySem.W.fnOf "_law_service_of" "_law_service_of" (defArgs s__law_service_of) (defBody s__law_service_of) (defScope s__law_service_of) .none kV__law_service_of dc__law_service_of pm__law_service_of an__law_service_of cd__law_service_of ct__law_service_of, _law_some := f__law_some, _law_some_d := PySem.W.fnOf "_law_some" "_law_some" (defArgs s__law_some) (defBody s__law_some) (defScope s__law_some) .none kV__law_some dc__law_some pm__law_some an__law_some cd__law_some ct__law_some, _law_any_service := f__law_any_service, _law_any_service_d := PySem.W.fnOf "_law_any_service" "_law_any_service" (defArgs s__law_any_service) (defBody s__law_any_service) (defScope s__law_any_service) .none kV__law_any_service dc__law_any_service pm__law_any_service an__law_any_service cd__law_any_service ct__law_any_service, _law_first := f__law_first, _law_first_d := PySem.W.fnOf "_law_first" "_law_first" (defArgs s__law_first) (defBody s__law_first) (defScope s__law_first) .none kV__law_first dc__law_first pm__law_first an__law_first cd__law_first ct__law_first, _law_begun := f__law_begun, _law_begun_d := PySem.W.fnOf "_law_begun" "_law_begun" (defArgs s__law_begun) (defBody s__law_begun) (defScope s__law_begun) .none kV__law_begun dc__law_begun pm__law_begun an__law_begun cd__law_begun ct__law_begun, _law_sent := f__law_sent, _law_sent_d := PySem.W.fnOf "_law_sent" "_law_sent" (defArgs s__law_sent) (defBody s__law_sent) (defScope s__law_sent) .none kV__law_sent dc__law_sent pm__law_sent an__law_sent cd__law_sent ct__law_sent, _law_after := f__law_after, _law_after_d := PySem.W.fnOf "_law_after" "_law_after" (defArgs s__law_after) (defBody s__law_after) (defScope s__law_after) .none kV__law_after dc__law_after pm__law_after an__law_after cd__law_after ct__law_after, _law_ended := f__law_ended, _law_ended_d := PySem.W.fnOf "_law_ended" "_law_ended" (defArgs s__law_ended) (defBody s__law_ended) (defScope s__law_ended) .none kV__law_ended dc__law_ended pm__law_ended an__law_ended cd__law_ended ct__law_ended, law := f_law, law_d := PySem.W.fnOf "law" "law" (defArgs s_law) (defBody s_law) (defScope s_law) .none kV_law dc_law pm_law an_law cd_law ct_law, k_LETTERS := k_LETTERS, k_BARRED := k_BARRED, k_MOST_LETTERS := k_MOST_LETTERS, k_CALM := k_CALM }, { is_name := ⟨F_is_name, PySem.W.mg_of X G a_is_name⟩, is_word := ⟨F_is_word, PySem.W.mg_of X G a_is_word⟩, is_mark := ⟨F_is_mark, PySem.W.mg_of X G a_is_mark⟩, is_sign := ⟨F_is_sign, PySem.W.mg_of X G a_is_sign⟩, is_sequence := ⟨F_is_sequence, PySem.W.mg_of X G a_is_sequence⟩, are_names := ⟨F_are_names, PySem.W.mg_of X G a_are_names⟩, Row_init := ⟨F_Row_init, i_Row_init⟩, Row_str := ⟨F_Row_str, i_Row_str⟩, need := ⟨F_need, PySem.W.mg_of X G a_need⟩, Begin_init := ⟨⟨oc_Begin_init, od_Begin_init, kV_Begin_init, dc_Begin_init, pm_Begin_init, an_Begin_init, ca_Begin_init, ct_Begin_init, sl_Begin_init, cc_Begin_init, cl_Begin_init, cld_Begin_init, csl_Begin_init, cv_Begin_init, cdd_Begin_init, vs_Begin_init, ccs_Begin_init, file_Begin_init, tf_Begin_init, rfl, l_Begin_init, c_Begin_init, ce_Begin_init, co_Begin_init, cf_Begin_init, cft_Begin_init⟩, bd_Begin_init, i_Begin_init, k_Begin_init, fi_Begin_init⟩, Send_init := ⟨⟨oc_Send_init, od_Send_init, kV_Send_init, dc_Send_init, pm_Send_init, an_Send_init, ca_Send_init, ct_Send_init, sl_Send_init, cc_Send_init, cl_Send_init, cld_Send_init, csl_Send_init, cv_Send_init, cdd_Send_init, vs_Send_init, ccs_Send_init, file_Send_init, tf_Send_init, rfl, l_Send_init, c_Send_init, ce_Send_init, co_Send_init, cf_Send_init, cft_Send_init⟩, bd_Send_init, i_Send_init, k_Send_init, fi_Send_init⟩, Back_init := ⟨⟨oc_Back_init, od_Back_init, kV_Back_init, dc_Back_init, pm_Back_init, an_Back_init, ca_Back_init, ct_Back_init, sl_Back_init, cc_Back_init, cl_Back_init, cld_Back_init, csl_Back_init, cv_Back_init, cdd_Back_init, vs_Back_init, ccs_Back_init, file_Back_init, tf_Back_init, rfl, l_Back_init, c_Back_init, ce_Back_init, co_Back_init, cf_Back_init, cft_Back_init⟩, bd_Back_init, i_Back_init, k_Back_init, fi_Back_init⟩, End_init := ⟨⟨oc_End_init, od_End_init, kV_End_init, dc_End_init, pm_End_init, an_End_init, ca_End_init, ct_End_init, sl_End_init, cc_End_init, cl_End_init, cld_End_init, csl_End_init, cv_End_init, cdd_End_init, vs_End_init, ccs_End_init, file_End_init, tf_End_init, rfl, l_End_init, c_End_init, ce_End_init, co_End_init, cf_End_init, cft_End_init⟩, bd_End_init, i_End_init, k_End_init, fi_End_init⟩, need_24 := ⟨F_need_24, PySem.W.mg_of X G a_need_24⟩, moods_of := ⟨F_moods_of, PySem.W.mg_of X G a_moods_of⟩, ascending := ⟨F_ascending, PySem.W.mg_of X G a_ascending⟩, e_Service_init_0 := fun H => .inr ⟨_, _, _, le_Service_init_0, rfl, rfl, Nat.zero_le _, .nil⟩, e_Service_init_1 := fun H => .inr ⟨_, _, _, le_Service_init_1, rfl, rfl, Nat.zero_le _, .nil⟩, e_Service_init_2 := fun H => .inr ⟨_, _, _, le_Service_init_2, rfl, rfl, Nat.zero_le _, .nil⟩, Service_init := ⟨F_Service_init, i_Service_init⟩, Service_first := ⟨F_Service_first, i_Service_first⟩, Service_begin := ⟨F_Service_begin, i_Service_begin⟩, Service_send := ⟨F_Service_send, i_Service_send⟩, Service_back := ⟨F_Service_back, i_Service_back⟩, Service_end := ⟨F_Service_end, i_Service_end⟩, _law_box := ⟨F__law_box, PySem.W.mg_of X G a__law_box⟩, _law_take := ⟨F__law_take, PySem.W.mg_of X G a__law_take⟩, _law_pick := ⟨F__law_pick, PySem.W.mg_of X G a__law_pick⟩, _law_mixed := ⟨F__law_mixed, PySem.W.mg_of X G a__law_mixed⟩, _law_names := ⟨F__law_names, PySem.W.mg_of X G a__law_names⟩, _law_row := ⟨F__law_row, PySem.W.mg_of X G a__law_row⟩, _law_words := ⟨F__law_words, PySem.W.mg_of X G a__law_words⟩, _law_drawn_row := ⟨F__law_drawn_row, PySem.W.mg_of X G a__law_drawn_row⟩, _law_service_of := ⟨F__law_service_of, PySem.W.mg_of X G a__law_service_of⟩, _law_some := ⟨F__law_some, PySem.W.mg_of X G a__law_some⟩, _law_any_service := ⟨F__law_any_service, PySem.W.mg_of X G a__law_any_service⟩, _law_first := ⟨F__law_first, PySem.W.mg_of X G a__law_first⟩, _law_begun := ⟨F__law_begun, PySem.W.mg_of X G a__law_begun⟩, _law_sent := ⟨F__law_sent, PySem.W.mg_of X G a__law_sent⟩, _law_after := ⟨F__law_after, PySem.W.mg_of X G a__law_after⟩, _law_ended := ⟨F__law_ended, PySem.W.mg_of X G a__law_ended⟩, law := ⟨F_law, PySem.W.mg_of X G a_law⟩, b_len := PySem.W.mg_none_of X G b_len, b_abs := PySem.W.mg_none_of X G b_abs, b_max := PySem.W.mg_none_of X G b_max, b_min := PySem.W.mg_none_of X G b_min, b_int := PySem.W.mg_none_of X G b_int, b_str := PySem.W.mg_none_of X G b_str, b_isinstance := PySem.W.mg_none_of X G b_isinstance, b_all := PySem.W.mg_none_of X G b_all, b_range := PySem.W.mg_none_of X G b_range, b_list := PySem.W.mg_none_of X G b_list, b_tuple := PySem.W.mg_none_of X G b_tuple, b_sorted := PySem.W.mg_none_of X G b_sorted, b_zip := PySem.W.mg_none_of X G b_zip, b_repr := PySem.W.mg_none_of X G b_repr, c_LETTERS := PySem.W.mg_of X G g_LETTERS, c_BARRED := PySem.W.mg_of X G g_BARRED, t_BARRED := fun H => .inr ⟨_, _, _, gl_BARRED, rfl, rfl, (show 10 ≤ sizeLine from by decide), (.cons ⟨_, rfl⟩ (.cons ⟨_, rfl⟩ (.cons ⟨_, rfl⟩ (.cons ⟨_, rfl⟩ (.cons ⟨_, rfl⟩ (.cons ⟨_, rfl⟩ (.cons ⟨_, rfl⟩ (.cons ⟨_, rfl⟩ (.cons ⟨_, rfl⟩ (.cons ⟨_, rfl⟩ .nil))))))))))⟩, c_MOST_LETTERS := PySem.W.mg_of X G g_MOST_LETTERS, c_CALM := PySem.W.mg_of X G g_CALM, sup := ⟨sup_t, PySem.W.mg_none_of X G sup_m, sup_o⟩, C_Row := ⟨PySem.W.mg_of X G aC_Row, ⟨⟨pg_Row, hd_Row, po_Row, sa_Row⟩, ha_Row, hn_, htk_, hm_Row⟩, ⟨mk_Row, in_Row, i_Row_init, kc_Row⟩⟩, na_Row_text := na_Row_text, C_Begin := ⟨PySem.W.mg_of X G aC_Begin, ⟨⟨pg_Begin, hd_Begin, po_Begin, sa_Begin⟩, ha_Begin, hn_, htk_, hm_Begin⟩, ⟨mk_Begin, in_Begin, i_Begin_init, kc_Begin⟩⟩, na_Begin_text := na_Begin_text, na_Begin_mark := na_Begin_mark, na_Begin_kind := na_Begin_kind, na_Begin_mood := na_Begin_mood, st_Begin := st_Begin, su_Begin := ⟨sb_Begin, ss_Begin, sy_Begin, sf_Begin⟩, cd_Begin := ⟨_, sc_Begin⟩, C_Send := ⟨PySem.W.mg_of X G aC_Send, ⟨⟨pg_Send, hd_Send, po_Send, sa_Send⟩, ha_Send, hn_, htk_, hm_Send⟩, ⟨mk_Send, in_Send, i_Send_init, kc_Send⟩⟩, na_Send_text := na_Send_text, na_Send_mark := na_Send_mark, na_Send_mood := na_Send_mood, na_Send_service := na_Send_service, st_Send := st_Send, su_Send := ⟨sb_Send, ss_Send, sy_Send, sf_Send⟩, cd_Send := ⟨_, sc_Send⟩, C_Back := ⟨PySem.W.mg_of X G aC_Back, ⟨⟨pg_Back, hd_Back, po_Back, sa_Back⟩, ha_Back, hn_, htk_, hm_Back⟩, ⟨mk_Back, in_Back, i_Back_init, kc_Back⟩⟩, na_Back_text := na_Back_text, na_Back_mood := na_Back_mood, na_Back_service := na_Back_service, na_Back_sign := na_Back_sign, na_Back_then := na_Back_then, st_Back := st_Back, su_Back := ⟨sb_Back, ss_Back, sy_Back, sf_Back⟩, cd_Back := ⟨_, sc_Back⟩, C_End := ⟨PySem.W.mg_of X G aC_End, ⟨⟨pg_End, hd_End, po_End, sa_End⟩, ha_End, hn_, htk_, hm_End⟩, ⟨mk_End, in_End, i_End_init, kc_End⟩⟩, na_End_text := na_End_text, na_End_mood := na_End_mood, na_End_sign := na_End_sign, na_End_outcome := na_End_outcome, na_End_part := na_End_part, st_End := st_End, su_End := ⟨sb_End, ss_End, sy_End, sf_End⟩, cd_End := ⟨_, sc_End⟩, C_Service := ⟨PySem.W.mg_of X G aC_Service, ⟨⟨pg_Service, hd_Service, po_Service, sa_Service⟩, ha_Service, hn_, htk_, hm_Service⟩, ⟨mk_Service, in_Service, i_Service_init, kc_Service⟩⟩, na_Service_text := na_Service_text, na_Service_name := na_Service_name, na_Service_kinds := na_Service_kinds, na_Service_waits := na_Service_waits, na_Service_leaves := na_Service_leaves, na_Service_rows := na_Service_rows, na_Service_told := na_Service_told, na_Service_moods := na_Service_moods, me_Service_first := ⟨ma_Service_first, i_Service_first, k_Service_first⟩, me_Service_begin := ⟨ma_Service_begin, i_Service_begin, k_Service_begin⟩, me_Service_send := ⟨ma_Service_send, i_Service_send, k_Service_send⟩, me_Service_back := ⟨ma_Service_back, i_Service_back, k_Service_back⟩, me_Service_end := ⟨ma_Service_end, i_Service_end, k_Service_end⟩, ki_Begin_Row := kit_ownT kd_Row kt_Row fk_Begin_Row, ki_Send_Row := kit_ownT kd_Row kt_Row fk_Send_Row, ki_Back_Row := kit_ownT kd_Row kt_Row fk_Back_Row, ki_End_Row := kit_ownT kd_Row kt_Row fk_End_Row }⟩
theorem law_binds {K : PySem.W.Frag} {f : Addr} {fd : FuncData} (F : FunD K "law" "law" (defArgs s_law) (defBody s_law) (defScope s_law) [] [] f fd) (s : Shared) (u : Value) : BindsTo s fd ⟨[u], []⟩ [("_law_script", u)] := by
  obtain ⟨oc, od, dV, kV, doc, pm, an, cdv, ct, osl, rfl, lk, hcd, hD, hK⟩ := F.ex
  rcases hD with ⟨_, rfl⟩ | ⟨e, _⟩
  · exact .of_eq rfl
  · exact absurd rfl e
theorem walk {l : PySem.W.OpenLaw} {q : Program} {loose : List Str} {XP : (Str → Option Value) → Heap → Prop} {YP : World → Heap → Prop} {d : DefRec} {K : Params → PySem.W.Frag} (hp : l.prog = PG) (hn : l.most = some 63) (hdf : d.params.defaults = []) (hdn : d.name = "law")
    (hY : ∀ (w : World) (h : Heap), YP w h → (K w.params).In h) (F : ∀ (w : World) (mg : Str → Option Value) (h : Heap), (K w.params).In h → h.Ns mainGlobals mg → ∃ A : Ad, Tx (K w.params) mg A) :
    PySem.W.WalkO q loose XP YP l.row.toRowW d [] (fun f vs => PySem.call f vs) := by
  refine S.lawSG (n := 63) (k := 8) (x := "_law_script") (F := f_law) (K := K) hp hn (by decide) hdf ⟨rfl, by decide, by decide⟩ hY (fun w mg fa h KX G hmg => ?_) law_true
  obtain ⟨A, T⟩ := F w mg h KX G
  have e : fa = A.law := by
    have g := T.law.g
    rw [← hdn, hmg] at g
    cases g
    rfl
  subst e
  exact ⟨A.law_d, A.G, law_binds T.law.F, fun base => ok_law T⟩
end K
open PySem PySem.W PyProof.Rows
set_option maxRecDepth 100000 in
set_option maxHeartbeats 0 in
theorem PySem.Challenge.cw_wholetraces_k11_what_rows_tell_holds : PySem.Challenge.rw_wholetraces_k11_what_rows_tell.Holds := by
  w_on; o_law; k_head; (case hw => w_witness2)
  k_fill
  refine K.walk (l := PySem.Challenge.rw_wholetraces_k11_what_rows_tell) rfl rfl rfl rfl (fun w h Y => PySem.W.kIn_of Y) ?F
  case F =>
    intro w mg h KX G
    refine' K.all_mk KX G ?aC_Row ?aC_Begin ?aC_Send ?aC_Back ?aC_End ?aC_Service ?a_is_name ?l_is_name ?c_is_name ?k_is_name ?a_is_word ?l_is_word ?c_is_word ?k_is_word ?a_is_mark ?l_is_mark ?c_is_mark ?k_is_mark ?a_is_sign ?l_is_sign ?c_is_sign ?k_is_sign ?a_is_sequence ?l_is_sequence ?c_is_sequence ?k_is_sequence ?a_are_names ?l_are_names ?c_are_names ?k_are_names ?a_Row_init ?i_Row_init ?l_Row_init ?c_Row_init ?k_Row_init ?a_Row_str ?i_Row_str ?l_Row_str ?c_Row_str ?k_Row_str ?a_need ?l_need ?c_need ?k_need ?a_Begin_init ?i_Begin_init ?l_Begin_init ?c_Begin_init ?k_Begin_init ?fi_Begin_init ?ce_Begin_init ?co_Begin_init ?cf_Begin_init ?cft_Begin_init ?a_Send_init ?i_Send_init ?l_Send_init ?c_Send_init ?k_Send_init ?fi_Send_init ?ce_Send_init ?co_Send_init ?cf_Send_init ?cft_Send_init ?a_Back_init ?i_Back_init ?l_Back_init ?c_Back_init ?k_Back_init ?fi_Back_init ?ce_Back_init ?co_Back_init ?cf_Back_init ?cft_Back_init ?a_End_init ?i_End_init ?l_End_init ?c_End_init ?k_End_init ?fi_End_init ?ce_End_init ?co_End_init ?cf_End_init ?cft_End_init ?a_need_24 ?l_need_24 ?c_need_24 ?k_need_24 ?a_moods_of ?l_moods_of ?c_moods_of ?k_moods_of ?a_ascending ?l_ascending ?c_ascending ?k_ascending ?a_Service_init ?i_Service_init ?l_Service_init ?c_Service_init ?k_Service_init ?lT_Service_init ?le_Service_init_0 ?le_Service_init_1 ?le_Service_init_2 ?a_Service_first ?i_Service_first ?l_Service_first ?c_Service_first ?k_Service_first ?a_Service_begin ?i_Service_begin ?l_Service_begin ?c_Service_begin ?k_Service_begin ?a_Service_send ?i_Service_send ?l_Service_send ?c_Service_send ?k_Service_send ?a_Service_back ?i_Service_back ?l_Service_back ?c_Service_back ?k_Service_back ?a_Service_end ?i_Service_end ?l_Service_end ?c_Service_end ?k_Service_end ?a__law_box ?l__law_box ?c__law_box ?k__law_box ?a__law_take ?l__law_take ?c__law_take ?k__law_take ?a__law_pick ?l__law_pick ?c__law_pick ?k__law_pick ?a__law_mixed ?l__law_mixed ?c__law_mixed ?k__law_mixed ?a__law_names ?l__law_names ?c__law_names ?k__law_names ?a__law_row ?l__law_row ?c__law_row ?k__law_row ?a__law_words ?l__law_words ?c__law_words ?k__law_words ?a__law_drawn_row ?l__law_drawn_row ?c__law_drawn_row ?k__law_drawn_row ?a__law_service_of ?l__law_service_of ?c__law_service_of ?k__law_service_of ?a__law_some ?l__law_some ?c__law_some ?k__law_some ?a__law_any_service ?l__law_any_service ?c__law_any_service ?k__law_any_service ?a__law_first ?l__law_first ?c__law_first ?k__law_first ?a__law_begun ?l__law_begun ?c__law_begun ?k__law_begun ?a__law_sent ?l__law_sent ?c__law_sent ?k__law_sent ?a__law_after ?l__law_after ?c__law_after ?k__law_after ?a__law_ended ?l__law_ended ?c__law_ended ?k__law_ended ?a_law ?l_law ?c_law ?k_law ?b_len ?b_abs ?b_max ?b_min ?b_int ?b_str ?b_isinstance ?b_all ?b_range ?b_list ?b_tuple ?b_sorted ?b_zip ?b_repr ?g_LETTERS ?g_BARRED ?gl_BARRED ?g_MOST_LETTERS ?g_CALM ?sup_t ?sup_m ?sup_o ?pg_Row ?hd_Row ?po_Row ?sa_Row ?mk_Row ?kc_Row ?ha_Row ?hm_Row ?hn_ ?htk_ ?in_Row ?na_Row_text ?pg_Begin ?hd_Begin ?po_Begin ?sa_Begin ?mk_Begin ?kc_Begin ?ha_Begin ?hm_Begin ?in_Begin ?na_Begin_text ?na_Begin_mark ?na_Begin_kind ?na_Begin_mood ?st_Begin ?sb_Begin ?ss_Begin ?sy_Begin ?sf_Begin ?sc_Begin ?pg_Send ?hd_Send ?po_Send ?sa_Send ?mk_Send ?kc_Send ?ha_Send ?hm_Send ?in_Send ?na_Send_text ?na_Send_mark ?na_Send_mood ?na_Send_service ?st_Send ?sb_Send ?ss_Send ?sy_Send ?sf_Send ?sc_Send ?pg_Back ?hd_Back ?po_Back ?sa_Back ?mk_Back ?kc_Back ?ha_Back ?hm_Back ?in_Back ?na_Back_text ?na_Back_mood ?na_Back_service ?na_Back_sign ?na_Back_then ?st_Back ?sb_Back ?ss_Back ?sy_Back ?sf_Back ?sc_Back ?pg_End ?hd_End ?po_End ?sa_End ?mk_End ?kc_End ?ha_End ?hm_End ?in_End ?na_End_text ?na_End_mood ?na_End_sign ?na_End_outcome ?na_End_part ?st_End ?sb_End ?ss_End ?sy_End ?sf_End ?sc_End ?pg_Service ?hd_Service ?po_Service ?sa_Service ?mk_Service ?kc_Service ?ha_Service ?hm_Service ?in_Service ?na_Service_text ?na_Service_name ?na_Service_kinds ?na_Service_waits ?na_Service_leaves ?na_Service_rows ?na_Service_told ?na_Service_moods ?ma_Service_first ?ma_Service_begin ?ma_Service_send ?ma_Service_back ?ma_Service_end ?kd_Row ?kt_Row ?fk_Begin_Row ?fk_Send_Row ?fk_Back_Row ?fk_End_Row
    (case aC_Row => k_is)
    (case aC_Begin => k_is)
    (case aC_Send => k_is)
    (case aC_Back => k_is)
    (case aC_End => k_is)
    (case aC_Service => k_is)
    (case a_is_name => k_is)
    (case l_is_name => k_is)
    (case c_is_name => k_is)
    (case k_is_name => k_is)
    (case a_is_word => k_is)
    (case l_is_word => k_is)
    (case c_is_word => k_is)
    (case k_is_word => k_is)
    (case a_is_mark => k_is)
    (case l_is_mark => k_is)
    (case c_is_mark => k_is)
    (case k_is_mark => k_is)
    (case a_is_sign => k_is)
    (case l_is_sign => k_is)
    (case c_is_sign => k_is)
    (case k_is_sign => k_is)
    (case a_is_sequence => k_is)
    (case l_is_sequence => k_is)
    (case c_is_sequence => k_is)
    (case k_is_sequence => k_is)
    (case a_are_names => k_is)
    (case l_are_names => k_is)
    (case c_are_names => k_is)
    (case k_are_names => k_is)
    (case a_Row_init => k_is)
    (case i_Row_init => k_is)
    (case l_Row_init => k_is)
    (case c_Row_init => k_is)
    (case k_Row_init => k_is)
    (case a_Row_str => k_is)
    (case i_Row_str => k_is)
    (case l_Row_str => k_is)
    (case c_Row_str => k_is)
    (case k_Row_str => k_is)
    (case a_need => k_is)
    (case l_need => k_is)
    (case c_need => k_is)
    (case k_need => k_is)
    (case a_Begin_init => k_is)
    (case i_Begin_init => k_is)
    (case l_Begin_init => k_is)
    (case c_Begin_init => k_is)
    (case k_Begin_init => k_is)
    (case fi_Begin_init => k_is)
    (case ce_Begin_init => k_is)
    (case co_Begin_init => k_is)
    (case cf_Begin_init => rfl)
    (case cft_Begin_init => first | rfl | decide +kernel)
    (case a_Send_init => k_is)
    (case i_Send_init => k_is)
    (case l_Send_init => k_is)
    (case c_Send_init => k_is)
    (case k_Send_init => k_is)
    (case fi_Send_init => k_is)
    (case ce_Send_init => k_is)
    (case co_Send_init => k_is)
    (case cf_Send_init => rfl)
    (case cft_Send_init => first | rfl | decide +kernel)
    (case a_Back_init => k_is)
    (case i_Back_init => k_is)
    (case l_Back_init => k_is)
    (case c_Back_init => k_is)
    (case k_Back_init => k_is)
    (case fi_Back_init => k_is)
    (case ce_Back_init => k_is)
    (case co_Back_init => k_is)
    (case cf_Back_init => rfl)
    (case cft_Back_init => first | rfl | decide +kernel)
    (case a_End_init => k_is)
    (case i_End_init => k_is)
    (case l_End_init => k_is)
    (case c_End_init => k_is)
    (case k_End_init => k_is)
    (case fi_End_init => k_is)
    (case ce_End_init => k_is)
    (case co_End_init => k_is)
    (case cf_End_init => rfl)
    (case cft_End_init => first | rfl | decide +kernel)
    (case a_need_24 => k_is)
    (case l_need_24 => k_is)
    (case c_need_24 => k_is)
    (case k_need_24 => k_is)
    (case a_moods_of => k_is)
    (case l_moods_of => k_is)
    (case c_moods_of => k_is)
    (case k_moods_of => k_is)
    (case a_ascending => k_is)
    (case l_ascending => k_is)
    (case c_ascending => k_is)
    (case k_ascending => k_is)
    (case a_Service_init => k_is)
    (case i_Service_init => k_is)
    (case l_Service_init => k_is)
    (case c_Service_init => k_is)
    (case k_Service_init => k_is)
    (case lT_Service_init => k_is)
    (case le_Service_init_0 => k_is)
    (case le_Service_init_1 => k_is)
    (case le_Service_init_2 => k_is)
    (case a_Service_first => k_is)
    (case i_Service_first => k_is)
    (case l_Service_first => k_is)
    (case c_Service_first => k_is)
    (case k_Service_first => k_is)
    (case a_Service_begin => k_is)
    (case i_Service_begin => k_is)
    (case l_Service_begin => k_is)
    (case c_Service_begin => k_is)
    (case k_Service_begin => k_is)
    (case a_Service_send => k_is)
    (case i_Service_send => k_is)
    (case l_Service_send => k_is)
    (case c_Service_send => k_is)
    (case k_Service_send => k_is)
    (case a_Service_back => k_is)
    (case i_Service_back => k_is)
    (case l_Service_back => k_is)
    (case c_Service_back => k_is)
    (case k_Service_back => k_is)
    (case a_Service_end => k_is)
    (case i_Service_end => k_is)
    (case l_Service_end => k_is)
    (case c_Service_end => k_is)
    (case k_Service_end => k_is)
    (case a__law_box => k_is)
    (case l__law_box => k_is)
    (case c__law_box => k_is)
    (case k__law_box => k_is)
    (case a__law_take => k_is)
    (case l__law_take => k_is)
    (case c__law_take => k_is)
    (case k__law_take => k_is)
    (case a__law_pick => k_is)
    (case l__law_pick => k_is)
    (case c__law_pick => k_is)
    (case k__law_pick => k_is)
    (case a__law_mixed => k_is)
    (case l__law_mixed => k_is)
    (case c__law_mixed => k_is)
    (case k__law_mixed => k_is)
    (case a__law_names => k_is)
    (case l__law_names => k_is)
    (case c__law_names => k_is)
    (case k__law_names => k_is)
    (case a__law_row => k_is)
    (case l__law_row => k_is)
    (case c__law_row => k_is)
    (case k__law_row => k_is)
    (case a__law_words => k_is)
    (case l__law_words => k_is)
    (case c__law_words => k_is)
    (case k__law_words => k_is)
    (case a__law_drawn_row => k_is)
    (case l__law_drawn_row => k_is)
    (case c__law_drawn_row => k_is)
    (case k__law_drawn_row => k_is)
    (case a__law_service_of => k_is)
    (case l__law_service_of => k_is)
    (case c__law_service_of => k_is)
    (case k__law_service_of => k_is)
    (case a__law_some => k_is)
    (case l__law_some => k_is)
    (case c__law_some => k_is)
    (case k__law_some => k_is)
    (case a__law_any_service => k_is)
    (case l__law_any_service => k_is)
    (case c__law_any_service => k_is)
    (case k__law_any_service => k_is)
    (case a__law_first => k_is)
    (case l__law_first => k_is)
    (case c__law_first => k_is)
    (case k__law_first => k_is)
    (case a__law_begun => k_is)
    (case l__law_begun => k_is)
    (case c__law_begun => k_is)
    (case k__law_begun => k_is)
    (case a__law_sent => k_is)
    (case l__law_sent => k_is)
    (case c__law_sent => k_is)
    (case k__law_sent => k_is)
    (case a__law_after => k_is)
    (case l__law_after => k_is)
    (case c__law_after => k_is)
    (case k__law_after => k_is)
    (case a__law_ended => k_is)
    (case l__law_ended => k_is)
    (case c__law_ended => k_is)
    (case k__law_ended => k_is)
    (case a_law => k_is)
    (case l_law => k_is)
    (case c_law => k_is)
    (case k_law => k_is)
    (case b_len => k_is)
    (case b_abs => k_is)
    (case b_max => k_is)
    (case b_min => k_is)
    (case b_int => k_is)
    (case b_str => k_is)
    (case b_isinstance => k_is)
    (case b_all => k_is)
    (case b_range => k_is)
    (case b_list => k_is)
    (case b_tuple => k_is)
    (case b_sorted => k_is)
    (case b_zip => k_is)
    (case b_repr => k_is)
    (case g_LETTERS => k_is)
    (case g_BARRED => k_is)
    (case gl_BARRED => k_is)
    (case g_MOST_LETTERS => k_is)
    (case g_CALM => k_is)
    (case sup_t => decide +kernel)
    (case sup_m => k_is)
    (case sup_o => k_is)
    (case pg_Row => k_is)
    (case hd_Row => k_is)
    (case po_Row => k_is)
    (case sa_Row => k_is)
    (case mk_Row => k_is)
    (case kc_Row => k_is)
    (case ha_Row => k_is)
    (case hm_Row => k_is)
    (case hn_ => k_is)
    (case htk_ => k_is)
    (case in_Row => k_is)
    (case na_Row_text => k_is)
    (case pg_Begin => k_is)
    (case hd_Begin => k_is)
    (case po_Begin => k_is)
    (case sa_Begin => k_is)
    (case mk_Begin => k_is)
    (case kc_Begin => k_is)
    (case ha_Begin => k_is)
    (case hm_Begin => k_is)
    (case in_Begin => k_is)
    (case na_Begin_text => k_is)
    (case na_Begin_mark => k_is)
    (case na_Begin_kind => k_is)
    (case na_Begin_mood => k_is)
    (case st_Begin => k_is)
    (case sb_Begin => k_is)
    (case ss_Begin => first | k_is | ks_is)
    (case sy_Begin => k_is)
    (case sf_Begin => k_is)
    (case sc_Begin => k_is)
    (case pg_Send => k_is)
    (case hd_Send => k_is)
    (case po_Send => k_is)
    (case sa_Send => k_is)
    (case mk_Send => k_is)
    (case kc_Send => k_is)
    (case ha_Send => k_is)
    (case hm_Send => k_is)
    (case in_Send => k_is)
    (case na_Send_text => k_is)
    (case na_Send_mark => k_is)
    (case na_Send_mood => k_is)
    (case na_Send_service => k_is)
    (case st_Send => k_is)
    (case sb_Send => k_is)
    (case ss_Send => first | k_is | ks_is)
    (case sy_Send => k_is)
    (case sf_Send => k_is)
    (case sc_Send => k_is)
    (case pg_Back => k_is)
    (case hd_Back => k_is)
    (case po_Back => k_is)
    (case sa_Back => k_is)
    (case mk_Back => k_is)
    (case kc_Back => k_is)
    (case ha_Back => k_is)
    (case hm_Back => k_is)
    (case in_Back => k_is)
    (case na_Back_text => k_is)
    (case na_Back_mood => k_is)
    (case na_Back_service => k_is)
    (case na_Back_sign => k_is)
    (case na_Back_then => k_is)
    (case st_Back => k_is)
    (case sb_Back => k_is)
    (case ss_Back => first | k_is | ks_is)
    (case sy_Back => k_is)
    (case sf_Back => k_is)
    (case sc_Back => k_is)
    (case pg_End => k_is)
    (case hd_End => k_is)
    (case po_End => k_is)
    (case sa_End => k_is)
    (case mk_End => k_is)
    (case kc_End => k_is)
    (case ha_End => k_is)
    (case hm_End => k_is)
    (case in_End => k_is)
    (case na_End_text => k_is)
    (case na_End_mood => k_is)
    (case na_End_sign => k_is)
    (case na_End_outcome => k_is)
    (case na_End_part => k_is)
    (case st_End => k_is)
    (case sb_End => k_is)
    (case ss_End => first | k_is | ks_is)
    (case sy_End => k_is)
    (case sf_End => k_is)
    (case sc_End => k_is)
    (case pg_Service => k_is)
    (case hd_Service => k_is)
    (case po_Service => k_is)
    (case sa_Service => k_is)
    (case mk_Service => k_is)
    (case kc_Service => k_is)
    (case ha_Service => k_is)
    (case hm_Service => k_is)
    (case in_Service => k_is)
    (case na_Service_text => k_is)
    (case na_Service_name => k_is)
    (case na_Service_kinds => k_is)
    (case na_Service_waits => k_is)
    (case na_Service_leaves => k_is)
    (case na_Service_rows => k_is)
    (case na_Service_told => k_is)
    (case na_Service_moods => k_is)
    (case ma_Service_first => k_is)
    (case ma_Service_begin => k_is)
    (case ma_Service_send => k_is)
    (case ma_Service_back => k_is)
    (case ma_Service_end => k_is)
    (case kd_Row => k_is)
    (case kt_Row => k_is)
    (case fk_Begin_Row => k_is)
    (case fk_Send_Row => k_is)
    (case fk_Back_Row => k_is)
    (case fk_End_Row => k_is)
