import PyProof.Rows.All
import Wide.All
import OpenK.AllK
import Wide.FinOn
import HandS.Exc
import HandS.ExcInit
import KE.KExcInit
import KE.KExcIs
import KE.KTryMore
import HandS.TryOnly
import HandS.ForMost
import HandS.Evl
import HandS.Wide
import HandS.IsInst
import HandS.Flow
import HandS.DictComp
import HandS.EndBits
import HandS.DictEq
import HandS.TupAny
import HandS.Words
import HandS.Style
import HandS.Small
import HandS.Zip
import HandS.SetFor
import HandS.WordsDict
import HandS.SortInts
import HandS.DictTup
import HandS.Strs
import HandS.Comp
import HandS.Ends
import HandS.HeadEnd
import HandS.Defaults
import HandS.HeadHook1
import HandS.HeadHook2
import HandS.Conv
import PyProof.ReprRoads
import HandS.Deep
import HandS.RaiseMore
import KE.KRevSl
import KE.KAnyBase
import HandS.SortRule
import KE.GoesEnum
import KE.KDictMeth
import HandS.More
import HandS.TupLe
import HandS.Text
import HandS.HeadHook4
import HandS.Iter
import KE.KUnpackStar
import Lean
import HandS.ExcValue
import HandS.Head0
import HandS.Head1
import HandS.Head2
import KE.KStateDown
import HandS.Codes
import PySem.Challenge.RW_treethaw_k70_whole_moving_over_a_bad_lin
set_option Elab.async false
set_option linter.all false
set_option maxRecDepth 100000
set_option maxHeartbeats 4000000
namespace EX
open PySem PySem.Spec PyProof.Rows L2
/-- an own exception class: C; fI its __init__; bm, new: its built-in base's; f: the field -/
structure XC (K : PySem.W.Frag) (C fI : Addr) (bm : List Value) (new : String) (f : Str) : Prop where
  q : PySem.W.excInitIn K C bm new = true
  ov : PySem.W.excOver K C bm = true
  hd : PySem.W.hasDictIn K C = true
  sa : PySem.W.findIn K (.ref C) "__setattr__" = some (some (.builtin "object.__setattr__"))
  exC : PySem.W.subIn K (.ref C) (.type "BaseException") = some true
  tyC : PySem.W.typeIn K (.ref C) = some (.type "type")
  kC : PySem.W.keepIn K (.ref C) = true
  iC : PySem.W.findIn K (.ref C) "__init__" = some (some (.ref fI))
  tI : PySem.W.typeIn K (.ref fI) = some (.type "function")
  no : PySem.W.findIn K (.ref C) f = some none
  tk : PySem.W.takerIn K C f = some none
  ga : PySem.W.findIn K (.ref C) "__getattribute__" = some (some (.builtin "BaseException.__getattribute__"))
  gg : PySem.W.findIn K (.ref C) "__getattr__" = some none
  hc : PySem.W.findIn K (.ref C) "__class__" = some (some (.builtin "object.__class__"))
  hn : PySem.W.specialIn K (.builtin "object.__class__") "__get__" = some (some (.builtin "getset_descriptor.__get__"))
  ht : PySem.W.takesIn K (.builtin "object.__class__") = some true
  hm : PySem.W.mroIn K C (.type "object") = some true
def xcB (K : PySem.W.Frag) (C fI : Addr) (bm : List Value) (new : String) (f : Str) : Bool :=
  PySem.W.excInitIn K C bm new && (PySem.W.excOver K C bm && (PySem.W.hasDictIn K C && (decide (PySem.W.findIn K (.ref C) "__setattr__" = some (some (.builtin "object.__setattr__"))) && (decide (PySem.W.subIn K (.ref C) (.type "BaseException") = some true) &&
  (decide (PySem.W.typeIn K (.ref C) = some (.type "type")) && (PySem.W.keepIn K (.ref C) && (decide (PySem.W.findIn K (.ref C) "__init__" = some (some (.ref fI))) && (decide (PySem.W.typeIn K (.ref fI) = some (.type "function")) && (decide (PySem.W.findIn K (.ref C) f = some none) &&
  (decide (PySem.W.takerIn K C f = some none) && (decide (PySem.W.findIn K (.ref C) "__getattribute__" = some (some (.builtin "BaseException.__getattribute__"))) && (decide (PySem.W.findIn K (.ref C) "__getattr__" = some none) && (decide (PySem.W.findIn K (.ref C) "__class__" = some (some (.builtin "object.__class__"))) &&
  (decide (PySem.W.specialIn K (.builtin "object.__class__") "__get__" = some (some (.builtin "getset_descriptor.__get__"))) && (decide (PySem.W.takesIn K (.builtin "object.__class__") = some true) && decide (PySem.W.mroIn K C (.type "object") = some true))))))))))))))))
theorem xcB_ok {K : PySem.W.Frag} {C fI : Addr} {bm : List Value} {new : String} {f : Str} (h : xcB K C fI bm new f = true) : XC K C fI bm new f := by
  unfold xcB at h
  simp only [Bool.and_eq_true, decide_eq_true_eq] at h
  obtain ⟨h1, h2, h3, h4, h5, h6, h7, h8, h9, h10, h11, h12, h13, h14, h15, h16, h17⟩ := h
  exact ⟨h1, h2, h3, h4, h5, h6, h7, h8, h9, h10, h11, h12, h13, h14, h15, h16, h17⟩
section
open Builtin Builtin.ObjectAttr
variable {prog : Program} {w : World} {A : Around} {R : Result → Shared → Prop} {hp : Heap} {g : Array GenState} {d : Drawn} {t : Nat} {os : OsState}
/-- the first field of such an exception -/
theorem xset {K : PySem.W.Frag} {nam : Str} {tk : Tok} {val : Value} {e C : Addr} {fv : Array Value} {bm : List Value} {B : String} (SF : StoreFacts B bm "object.__setattr__" "object") (KX : K.In hp) (he : hp.get? e = some { cls := .ref C, data := .fields fv })
    (hov : PySem.W.excOver K C bm = true) (htk : PySem.W.takerIn K C nam = some none) (hdd : PySem.W.hasDictIn K C = true)
    (goal : ∀ h' tk' dx, (∀ b o, b ≠ e → hp.get? b = some o → h'.get? b = some o) → hp.objs.size ≤ dx → dx ≠ e → h'.get? e = some { cls := .ref C, dict := some dx, data := .fields fv } →
      h'.Ns1 dx (fun y => if y = nam then some val else none) → R (.ok (.ret .none)) ⟨h', g, d, tk', os⟩) :
    codeAny (model prog w) A (.call (.builtin "object.__setattr__") ⟨[.ref e, .str nam tk, val], []⟩) R ⟨hp, g, d, t, os⟩ := by
  have J : PySem.W.InstAt hp e { cls := .ref C, data := .fields fv } C none := ⟨he, rfl, rfl, trivial⟩
  have nes : e ≠ hp.objs.size := Nat.ne_of_lt (Heap.lt_size he)
  refine PySem.W.osa_openX (s := ⟨hp, g, d, t, os⟩) SF KX J hov htk fun b => ?_
  dsimp only
  obtain ⟨cd, hcd, hh⟩ := PySem.W.any_some hdd
  have kcls : PySem.W.Looks (model prog w) hp (classData C) cd := PySem.W.looks_clsIn KX hcd
  obtain ⟨nm, bs, mro, ns, qn, hd, sn, sb, ab, col, del⟩ := cd
  dsimp only at hh
  subst hh
  unfold storeInOwnDict ownDictForStores
  repeat (first | with_reducible refine HandSPX.store_in_new ?_ ?_ | with_reducible refine wpAny_loadPart_at he ?_ | with_reducible refine kcls.at ?_ | wp_step)
  · exact ⟨_, #[], _, (Heap.get?_update_ne _ _ _ _ nes.symm).trans (Heap.get?_push_at rfl rfl), rfl, fun y hy => absurd hy (by simp), fun _ => rfl⟩
  · intro h' tk' hn' sb'
    have he2 : (hp.push { cls := .type "dict", data := .dict #[] }).get? e = some { cls := .ref C, data := .fields fv } := Heap.get?_push_of_some _ he
    refine goal h' tk' hp.objs.size (fun b o hb ho => ?_) (Nat.le_refl _) nes.symm ?_ hn'
    · exact (sb'.2 b (Nat.ne_of_lt (Heap.lt_size ho))).trans ((Heap.get?_update_ne _ _ _ _ hb).trans (Heap.get?_push_of_some _ ho))
    · exact (sb'.2 e nes).trans (Heap.get?_update_self _ he2 rfl)
end
section
variable {X : Cx} {pins : List (Addr × Obj)} {σ : L2.St} {H : Hp} {s : Shared} {a C fI : Addr} {f : Str} {y : V} {u : Value} {bm : List Value} {new B init : String} {E : Value → Shared → Prop} {A : Around}
/-- self.f = y -/
theorem set_new {Q : Unit → Shared → Prop} (T : XC X.K C fI bm new f) (SF : StoreFacts B bm "object.__setattr__" "object") (I : Inv X pins σ H s) (e : H a = some (exo a C none)) (ry : RelV y u)
    (goal : ∀ dx s', H dx = none → dx ≠ a → Inv X pins σ (upd (upd H dx (exd dx [(f, y)])) a (exo a C (some dx))) s' → Q () s') : wpAny (model X.prog X.w) A (setAttr (.ref a) f u) Q E s := by
  obtain ⟨t1, oa⟩ := exo_at I.hok e
  obtain ⟨hp, g, d, t, os⟩ := s
  refine PySem.W.set_plain I.kIn (ox := { cls := .ref C, dict := none, data := .fields #[.ref t1, .none, .none, .none, .bool false, .none] }) (od := none) ⟨oa, rfl, rfl, trivial⟩ T.sa ?_
  refine xset SF I.kIn oa T.ov T.tk T.hd (fun h' tk' dx k ldx ndx ea edx => ?_)
  have fdx : H dx = none := I.hok.fresh ldx
  have old : ∀ {b : Addr} {o : Obj}, hp.get? b = some o → b ≠ dx := fun {b o} z => Nat.ne_of_lt (Nat.lt_of_lt_of_le (Heap.lt_size z) ldx)
  have other : ∀ {b : Addr}, H b = none → b ≠ a := fun {b} n z => by
    rw [z, e] at n; cases n
  have Un1 : Un X.fs [] H (upd (upd H dx (exd dx [(f, y)])) a (exo a C (some dx))) hp h' := {
    keep := fun b o z n _ _ => k b o (other n) z
    slot := fun b o z n _ _ => ⟨o.slots, k b o (other n) z⟩
    free := fun b o z n _ => by rw [upd_ne (other n), upd_ne (old z)]; exact n
    there := fun b o z _ => by
      by_cases hb : b = a
      · subst hb; exact ⟨_, ea⟩
      · exact ⟨o, k b o hb z⟩
    tups := fun b xs z => by rw [upd_ne (at_ne e z exo_tup), upd_ne (ne_of_none z fdx)]; exact z
    frzs := fun b o v z => by rw [upd_ne (at_ne e z exo_frz), upd_ne (ne_of_none z fdx)]; exact z
    tbls := fun b ps z => ⟨#[], by rw [upd_ne (at_ne e z exo_tbl), upd_ne (ne_of_none z fdx), z]; simp⟩ }
  refine goal dx _ fdx ndx (I.un (t' := tk') Un1 fun b o z => ?_)
  by_cases hb : b = a
  · subst hb
    rw [upd_same] at z; cases z
    exact exo_ok ea
  · rw [upd_ne hb] at z
    by_cases hd : b = dx
    · subst hd
      rw [upd_same] at z; cases z
      exact exd_ok edx (relO_put (fs := []) ry fun g => True.intro)
    · rw [upd_ne hd] at z
      refine (I.hok b o z).stay (fun c v hc r => k c v ?_ r) (fun c hc => ?_) fun c xs hc => ?_
      · rcases hc with hc | hc
        · rw [hc]; exact hb
        · exact at_ne e hc exo_own
      · rw [upd_ne (at_ne e hc exo_own), upd_ne (ne_of_none hc fdx)]; exact hc
      · rw [upd_ne (at_ne e hc exo_tup), upd_ne (ne_of_none hc fdx)]; exact hc
/-- B.__init__(self, ..) -/
theorem init_any {us : List Value} {Q : Value → Shared → Prop} (T : XC X.K C fI bm new f) (F : ExcBaseFacts B new init bm) (I : Inv X pins σ H s) (e : H a = some (exo a C none)) (hl : us.length ≤ sizeLine) (goal : ∀ s', Inv X pins σ H s' → Q .none s') :
    wpAny (model X.prog X.w) A (call (.builtin init) (.ref a :: us)) Q E s := by
  obtain ⟨nm, N, qn, bs, bm', hdct, sn, sub, ab, col, dd, k0, k1, k2, k3, k5, hC, hT⟩ := PySem.W.excInit_of I.kIn T.q
  obtain ⟨t1, oa⟩ := exo_at I.hok e
  obtain ⟨hp, g, d, t, os⟩ := s
  refine wpAny_call (PySem.HandSPX.init_base F hT hC oa hl fun h' t2 k hx => ?_)
  have J := I.write (t' := t) (x := a) (e := a) (o := exo a C none) (by rw [e]; exact True.intro) (.inl rfl) k ⟨_, hx⟩ (exo_ok hx)
  have same : upd H a (exo a C none) = H := by
    funext b
    by_cases hb : b = a
    · subst hb; rw [upd_same, e]
    · rw [upd_ne hb]
  rw [same] at J
  exact goal _ J
end
def tBi (K : PySem.W.Frag) (C : Addr) (ta : TA) : TE := fun σ H Q => ta σ H fun vs H1 => ∃ (a : Addr) (ws : List V), vs = .ref a :: ws ∧ ws.length ≤ 1000 ∧ H1 a = some (exo a C none) ∧ Q .non H1
def tSt (C : Addr) (f : Str) (to te : TE) : TS := fun D σ H => te σ H fun y H1 => to σ H1 fun x H2 => ∃ a : Addr, x = .ref a ∧ H2 a = some (exo a C none) ∧ ∀ dx, H2 dx = none → dx ≠ a → D.nx σ (upd (upd H2 dx (exd dx [(f, y)])) a (exo a C (some dx)))
section
variable {X : Cx} {o e : Expr} {es : List Expr} {to te : TE} {ta : TA} {f nb : Str} {p p' p1 p2 pos : Pos} {C fI : Addr} {bm : List Value} {new B init : String}
/-- a built-in base: its name, its facts -/
structure Bs (nb : Str) (B new init : String) (bm : List Value) : Prop where
  F : ExcBaseFacts B new init bm
  SF : StoreFacts B bm "object.__setattr__" "object"
  boot : bootBuiltins nb = some (.type B)
  ty : typeOf (.type B) = pure (.type "type")
  stub : Manifest.isStub B = false
  hand : PySem.W.handedIn (.builtin init) = true
  nn : nb ≠ "__name__"
  nd : (nb == ("__debug__" : Str)) = false
theorem pe_bi {pl : Sem Bool} (T : XC X.K C fI bm new f) (Z : Bs nb B new init bm) (hg : Gl X nb) (hm : X.mg nb = none) (vV : PySem.W.findCls X.K (.type B) (.type "type") "__init__" = some (.val (.builtin init))) (ha : PA X (e :: es) ta)
    (hc : eval (.Call (.Attribute (.Name nb p1) "__init__" p2) (e :: es) [] pos) X.env = (do
      let ov ← eval (.Name nb p1) X.env
      standAt p2.atName
      let (f, first) ← holding [ov] (getMethod ov "__init__" pl)
      callWith pos f first (backTo pos (starEach (e :: es) X.env)) (backToKw pos (keywordEach [] X.env))) := by rfl)
    (he : starEach (e :: es) X.env = (false, eval e X.env) :: starEach es X.env := by rfl) (hpl : (backTo pos (starEach es X.env)).any (·.1) = false := by rfl) :
    PE X (.Call (.Attribute (.Name nb p1) "__init__" p2) (e :: es) [] pos) (tBi X.K C ta) := by
  refine ⟨fun pins s σ H Q I h => ?_⟩
  refine PySem.W.methodCall_KW (ld_blt I hg hm Z.boot ?_ Z.nn Z.nd) hc
  obtain ⟨m, fr⟩ := I.fr
  refine PySem.W.method_type fr I.ok.mod.kin Z.ty Z.stub vV Z.hand ?_
  show wpAny _ _ (callWith pos (Value.builtin init) [] (backTo pos (starEach (e :: es) X.env)) []) _ _ _
  refine PyProof.Rows.callWith_method1 (thn (ha.run pos pins _ σ H _ (I.tok _) h) fun us s1 ⟨vs, H1, I1, r1, a, ws, ev, hl, ea, q⟩ => ?_) he hpl
  subst ev
  cases r1 with
  | @cons _ u0 _ ur ra rr =>
    obtain rfl : u0 = Value.ref a := ra
    refine init_any T Z.F I1 ea ?_ fun s' J => ⟨.non, H1, J, rfl, q⟩
    rw [← Paired.length rr, sizeLine_eq]
    omega
theorem ps_st (T : XC X.K C fI bm new f) (SF : StoreFacts B bm "object.__setattr__" "object") (ho : PE X o to) (he : PE X e te) (hs : swapsWith e (some (.Attribute o f p')) pos.line X.env = pure false := by rfl) : PS X (.Assign [.Attribute o f p'] e pos) (tSt C f to te) := by
  refine ⟨fun pins s σ H D I h => ?_⟩
  refine plainObj_wpAny_Assign_Attribute (thn (he.run pins s σ H _ I h) fun v s1 ⟨y, H1, I1, r1, q1⟩ => thn (ho.run pins s1 σ H1 _ I1 q1) fun u s2 ⟨x, H2, I2, r2, a, ex, ea, q⟩ => ?_) hs
  subst ex
  obtain rfl : u = Value.ref a := r2
  exact set_new T SF I2 ea r1 fun dx s' n ne J => ⟨σ, _, J, q dx n ne⟩
/-- what such an __init__ does: args self, y -/
def xSp (C : Addr) (f : Str) : Sp := fun vs H Q _ => ∃ a y, vs = [.ref a, y] ∧ H a = some (exo a C none) ∧ ∀ dx, H dx = none → dx ≠ a → Q .non (upd (upd H dx (exd dx [(f, y)])) a (exo a C (some dx)))
end
end EX
namespace EX
open PySem PySem.Spec PyProof.Rows L2
/-- an exception object of class cls at a, its dict d, wherever it has been -/
def exv (a : Addr) (cls : Value) (d : Option Addr) : HO := .ext fun h => ∃ (oe : Obj) (vs : Array Value), h.get? a = some oe ∧ Zc cls d oe ∧ oe.data = .fields vs
theorem exv_ok {P : Program} {w : World} {H : Hp} {h : Heap} {a : Addr} {cls : Value} {d : Option Addr} {oe : Obj} {vs : Array Value} (e : h.get? a = some oe) (z : Zc cls d oe) (q : oe.data = .fields vs) : ObjOk P w H h a (exv a cls d) :=
  ⟨⟨oe, vs, e, z, q⟩, ⟨oe, e⟩, fun _ _ ⟨o, v, r, t⟩ k => ⟨o, v, k o r, t⟩⟩
theorem exv_at {P : Program} {w : World} {H : Hp} {h : Heap} {a : Addr} {cls : Value} {d : Option Addr} (hok : HOk P w H h) (e : H a = some (exv a cls d)) : ∃ (oe : Obj) (vs : Array Value), h.get? a = some oe ∧ Zc cls d oe ∧ oe.data = .fields vs := by
  have x : ObjOk P w H h a (exv a cls d) := hok a _ e
  exact x.1
section
variable {X : Cx} {pins : List (Addr × Obj)} {σ : L2.St} {H : Hp} {s : Shared} {a : Addr} {o : HO}
/-- an object that was not tracked, and is no one's at the entry, is tracked from now on -/
theorem track (I : Inv X pins σ H s) (n0 : X.s_0.heap.get? a = none) (na : H a = none) (nL : a ≠ X.env.locals) (nC : ∀ x c, X.env.cells.lookup x = some c → c ≠ a) (nP : ∀ p ∈ X.pn ++ pins, p.1 ≠ a) (new : ObjOk X.prog X.w (upd H a o) s.heap a o) :
    Inv X pins σ (upd H a o) s := by
  have old : ∀ {b : Addr} {u : Obj}, X.s_0.heap.get? b = some u → b ≠ a := fun {b u} z e => by rw [e, n0] at z; cases z
  refine ⟨I.ok, I.os, I.bare, ⟨I.base.keep, I.base.slot, fun b u z n hx => ?_, I.base.there, fun b xs z => ?_, fun b u v z => ?_, fun b ps z => ?_⟩, I.loc, I.cell, ?_, fun x c z => ?_, fun p hp => ?_, fun b u z => ?_, I.len⟩
  · rw [upd_ne (old z)]; exact I.base.free b u z n hx
  · have r := I.base.tups b xs z
    rw [upd_ne (ne_of_none r na)]; exact r
  · have r := I.base.frzs b u v z
    rw [upd_ne (ne_of_none r na)]; exact r
  · obtain ⟨m, r⟩ := I.base.tbls b ps z
    exact ⟨m, by rw [upd_ne (ne_of_none r na)]; exact r⟩
  · rw [upd_ne nL.symm]; exact I.free
  · rw [upd_ne (nC x c z)]; exact I.freeC x c z
  · obtain ⟨r1, r2, r3, r4, r5⟩ := I.pin p hp
    exact ⟨r1, by rw [upd_ne (nP p hp)]; exact r2, r3, r4, r5⟩
  · by_cases hb : b = a
    · subst hb
      rw [upd_same] at z; cases z
      exact new
    · rw [upd_ne hb] at z
      exact (I.hok b u z).stay (fun _ _ _ r => r) (fun c hc => by rw [upd_ne (ne_of_none hc na)]; exact hc) fun c xs hc => by rw [upd_ne (ne_of_none hc na)]; exact hc
end
/-- what an except clause names is tried at an exception of class cls -/
def Tst (X : Cx) (ce : Expr) (cls : Value) (b : Bool) : Prop := ∀ (e : Addr) (oe : Obj) (pn pins : List (Addr × Obj)) (σ : L2.St) (H : Hp) (s : Shared) (Q : Bool → Shared → Prop) (E : Value → Shared → Prop), Inv (X.suite e ((e, oe) :: pn)) pins σ H s →
  PySem.W.Looks (model X.prog X.w) s.heap (typeOf (.ref e)) cls → (∀ h', (∀ q o, s.heap.get? q = some o → h'.get? q = some o) → Q b { s with heap := h' }) →
    wpAny (model X.prog X.w) (X.A.mark (some (.ref e))) (eval ce X.env) (fun c s1 => wpAny (model X.prog X.w) (X.A.mark (some (.ref e))) (excMatches (.ref e) c) Q E s1) E s
theorem tst_name {X : Cx} {x : Str} {np : Pos} {c cls : Value} {b : Bool} (hc : Names X x c) (hx : PySem.W.exmOne X.K cls c = some b) : Tst X (.Name x np) cls b := fun e oe pn pins σ H s Q E I LT goal => by
  have LM := PySem.W.exm_one (M := model X.prog X.w) I.kIn LT hx
  obtain ⟨hg, hdbg, hm | ⟨hm, hv, hnn⟩⟩ := hc
  · exact ld_glob (X := X.suite e ((e, oe) :: pn)) I hg hm (LM.here (goal s.heap fun _ _ z => z)) hdbg
  · exact ld_blt (X := X.suite e ((e, oe) :: pn)) I hg hm hv (LM.here (goal s.heap fun _ _ z => z)) hnn hdbg
theorem tst_two {X : Cx} {x y : Str} {p1 p2 tp : Pos} {kk : Nat} {c1 c2 cls : Value} {b : Bool} (hc : Names X x c1) (hc2 : Names X y c2) (hx : PySem.W.exmAny X.K cls [c1, c2] = some b) : Tst X (.Tuple [.Name x p1, .Name y p2] kk tp) cls b := fun e oe pn pins σ H s Q E I LT goal => by
  have nam : ∀ {z : Str} {p : Pos} {c : Value} {Q : Value → Shared → Prop}, Names X z c → Q c s → wpAny (model X.prog X.w) (X.A.mark (some (.ref e))) (eval (.Name z p) X.env) Q E s := fun {z p c Q} hz q => by
    obtain ⟨hg, hdbg, hm | ⟨hm, hv, hnn⟩⟩ := hz
    · exact ld_glob (X := X.suite e ((e, oe) :: pn)) I hg hm q hdbg
    · exact ld_blt (X := X.suite e ((e, oe) :: pn)) I hg hm hv q hnn hdbg
  refine wpAny_Tuple (wpAny_items_cons (nam hc (wpAny_items_cons (nam hc2 (wpAny_items_nil ⟨by size_fits, ?_⟩)))))
  have kp : ∀ q o, s.heap.get? q = some o → (s.heap.push { cls := .type "tuple", data := .seq [c1, c2].toArray }).get? q = some o := fun _ _ z => Heap.get?_push_of_some _ z
  exact (PySem.W.exm_tup2 (I.kIn.keeps kp) (LT.keeps kp) (Heap.get?_push_size s.heap rfl) hx).here (goal _ kp)
theorem flying_keeps {B h h' : Heap} {l : List Env} {e : Addr} {Z : Obj → Prop} (x : HandSPX.FlyingZ B l e Z h) (k : ∀ q o, h.get? q = some o → h'.get? q = some o) : HandSPX.FlyingZ B l e Z h' := by
  obtain ⟨k1, k2, k3, oe, vs, T, oT, ts, a1, a2, a3, a4, a5, a6, a7, a8⟩ := x
  exact ⟨fun b o z => k b o (k1 b o z), k2, Heap.FunFrames.of_keeps (fun b o z _ => ⟨o, k b o z, rfl⟩) k3, oe, vs, T, oT, ts, k _ _ a1, a2, a3, a4, a5, a6, k _ _ a7, a8⟩
/-- what 'except ce as n: k = n' wishes of the body's exceptions: they are of the classes Wc; n has slot i, k slot j -/
def wKp (i j : Nat) (Wc : Value → Prop) (D : Ends) : WX := fun cls d σ H => Wc cls ∧ ∀ a, H a = none → D.nx (((σ.set i (some (.ref a))).set j (some (.ref a))).set i none) (upd H a (exv a cls d))
section
variable {X : Cx} {n : Str} {i j : Nat} {ce : Expr} {body suite : List Stmt} {b0 : Stmt} {pos pos' : Pos} {tb : WX → TS} {Wc : Value → Prop}
theorem ps_try_keep (hs : X.stack = X.env :: X.outer) (hf : X.env.frame = some X.env.locals) (hex : X.ex = []) (hN : X.N.Nodup) (hi : X.N[i]? = some n) (hln : X.env.kindOf n = some .local) (ht : ∀ cls, Wc cls → Tst X ce cls true)
    (hb : ∀ (W : WX) (pn : List (Addr × Obj)) (xe : Value → Shared → Prop), Takes (X.tr pn xe) W → PassesOwn (model X.prog X.w) X.A X.env xe → PSs (X.tr pn xe) body (tb W))
    (hsu : ∀ (a : Addr) (oe : Obj) (pn : List (Addr × Obj)), PSs (X.suite a ((a, oe) :: pn)) (b0 :: suite) (tAsg (tVar i) (gName j))) :
    PS X (.Try body [.ExceptHandler (some ce) (some n) (b0 :: suite) pos'] [] [] pos) (fun D σ H => tb (wKp i j Wc D) D σ H) := by
  refine ⟨fun pins s σ H D I h => ?_⟩
  have ok := I.ok
  have frm : X.A.frames = some (X.env :: X.outer) := by rw [ok.frames, hs]
  have lcn : Loc X.env.scope n := .inl hln
  refine wpAny_Try_except ?_
  refine wpAny_mono ((hb (wKp i j Wc D) (X.pn ++ pins) (fun e t1 => wpAny (model X.prog X.w) X.A (noteFrame e X.env) (fun _ t2 => wpAny (model X.prog X.w) X.A (setFlight e none) (fun _ t3 =>
    wpAny (model X.prog X.w) X.A (handleBy e X.env [.ExceptHandler (some ce) (some n) (b0 :: suite) pos']) (SP X pins D) X.xe t3) X.xe t2) X.xe t1) (fun u s' xx => ?_) PassesOwn.looking).run [] s σ H D (I.toTry _) h) (fun f s1 hsp => ?_) (fun e s1 he => he)
  · obtain ⟨a, B, sI, pins', σ', H', cls, d, rfl, J', nb, up, sky, na, os, ag, hw, goal⟩ := xx
    have J : Inv X pins σ' H' sI := J'.ofTry ok
    rw [show (X.tr (X.pn ++ pins) _).stack = X.env :: X.outer from hs] at sky
    show wpAny (model X.prog X.w) X.A (noteFrame (.ref a) X.env) _ _ _
    refine Sky.land Zc.steady frm hf sky fun h3 fl3 up3 => ?_
    have J3 : Inv X pins σ' H' { s' with heap := h3 } := J.landed nb fl3.1 (up.trans up3) os ag
    obtain ⟨oe3, vs3, he3, hz3, hd3⟩ := fl3.there
    have nfr : a ∉ frs (X.env :: X.outer) := fun hm => by
      obtain ⟨_, o', e', hnf⟩ := fl3.2.2.1.mem hm
      rw [he3] at e'; cases e'
      exact hnf _ hd3
    have nL : a ≠ X.env.locals := fun z => nfr (List.mem_filterMap.mpr ⟨X.env, List.mem_cons_self, by rw [hf, z]⟩)
    have nF : a ∉ X.fs := fun hm => by
      obtain ⟨e, he, r⟩ := List.mem_filterMap.mp hm
      exact nfr (List.mem_filterMap.mpr ⟨e, List.mem_cons_of_mem _ he, r⟩)
    -- a is nowhere in the state without the exception
    have nI : sI.heap.get? a = none := by
      cases q : sI.heap.get? a with
      | none => rfl
      | some o =>
        have z := nb a o q (by rw [hs]; exact nfr)
        rw [fl3.2.1] at z; cases z
    have n0 : X.s_0.heap.get? a = none := by
      cases q : X.s_0.heap.get? a with
      | none => rfl
      | some o =>
        obtain ⟨o', z⟩ := J.base.there a o q (by rw [hex]; exact fun z => nomatch z)
        rw [nI] at z; cases z
    have nC : ∀ x c, X.env.cells.lookup x = some c → c ≠ a := fun x c z e => by
      obtain ⟨v, o, r, _⟩ := J.cell x c z
      rw [e, nI] at r; cases r
    have nP : ∀ p ∈ X.pn ++ pins, p.1 ≠ a := fun p hp e => by
      have r := (J.pin p hp).1
      rw [e, nI] at r; cases r
    have S3 := J3.suite he3 hd3 na nL nF
    refine wpAny_handleBy_cons (codeAny_handlers_test ?_) (by intro q; cases q)
    have LT : PySem.W.Looks (model X.prog X.w) h3 (typeOf (.ref a)) cls := fun A Q E s k q => wpAny_typeOf_ref (k _ _ he3) (by rw [hz3.1]; exact q)
    refine ht cls hw a oe3 (X.pn ++ pins) [] σ' H' { s' with heap := h3 } _ _ S3 LT fun h3' kk => ?_
    have fl3' := flying_keeps fl3 kk
    have up3' : s'.heap.UpToSlots h3' := up3.trans (Heap.UpToSlots.of_keeps kk)
    refine codeAny_handlers_suite_as ?_
    refine HandSPX.lands_againZ fl3' fun h4 fl4 up4 => ?_
    have J4 : Inv X pins σ' H' { s' with heap := h4 } := J.landed nb fl4.1 ((up.trans up3').trans up4) os ag
    obtain ⟨oe4, vs4, he4, hz4, hd4⟩ := fl4.there
    have S4 := J4.suite he4 hd4 na nL nF
    refine store_ok (X := X.suite a ((a, oe4) :: (X.pn ++ pins))) (v := .ref a) S4 hN hi lcn rfl (fun s5 S5 => ?_) (.inr hln)
    have ilt : i < σ'.length := by
      rw [J.len]; exact (List.getElem?_eq_some_iff.mp hi).1
    refine wpAny_mono ((hsu a oe4 (X.pn ++ pins)).run [] s5 _ H' { nx := fun σ6 H6 => σ6 = (σ'.set i (some (.ref a))).set j (some (.ref a)) ∧ H6 = H', rt := fun _ _ => False } S5 ⟨.ref a, List.getElem?_set_self ilt, rfl, rfl⟩) (fun f s6 hsp => ?_) (fun _ _ z => False.elim z)
    cases f with
    | brk => obtain ⟨_, _, _, z⟩ := hsp; exact False.elim z
    | cont => obtain ⟨_, _, _, z⟩ := hsp; exact False.elim z
    | ret u => obtain ⟨_, _, _, _, _, z⟩ := hsp; exact False.elim z
    | next =>
      obtain ⟨σ6, H6, S6, rfl, rfl⟩ := hsp
      refine gone_ok (X := X.suite a ((a, oe4) :: (X.pn ++ pins))) S6 hN hi hln fun s7 S7 => ?_
      have p7 := (S7.pin (a, oe4) (List.mem_append_left _ List.mem_cons_self)).1
      exact ⟨_, _, track (S7.unsuite ok) n0 na nL nC nP (exv_ok p7 hz4 hd4), goal a na⟩
  · cases f with
    | next =>
      obtain ⟨σ2, H2, J2, q⟩ := hsp
      exact wpAny_execs_nil ⟨σ2, H2, J2.ofTry ok, q⟩
    | brk =>
      obtain ⟨σ2, H2, J2, q⟩ := hsp
      exact ⟨σ2, H2, J2.ofTry ok, q⟩
    | cont =>
      obtain ⟨σ2, H2, J2, q⟩ := hsp
      exact ⟨σ2, H2, J2.ofTry ok, q⟩
    | ret u =>
      obtain ⟨v, σ2, H2, J2, r, q⟩ := hsp
      exact ⟨v, σ2, H2, J2.ofTry ok, r, q⟩
end
def tXv (C : Addr) (f : Str) (te : TE) : TE := fun σ H Q => te σ H fun x H1 => ∃ (a dd : Addr) (fs : List (Str × V)) (v : V), x = .ref a ∧ H1 a = some (exv a (.ref C) (some dd)) ∧ H1 dd = some (.xd fs) ∧ fs.lookup f = some v ∧ Q v H1
theorem exv_inst {X : Cx} {pins : List (Addr × Obj)} {σ : L2.St} {H : Hp} {s : Shared} {a C dd : Addr} {fs : List (Str × V)} (I : Inv X pins σ H s) (ea : H a = some (exv a (.ref C) (some dd))) (ed : H dd = some (.xd fs)) :
    ∃ (oe od : Obj), PySem.W.InstAt s.heap a oe C (some od) ∧ ∀ n : Str, ∃ r, PySem.W.lookIn n od = some r ∧ RelO (fs.lookup n) r := by
  obtain ⟨oe, vs, he, hz, hv⟩ := exv_at I.hok ea
  have hx : ObjOk X.prog X.w H s.heap dd (.xd fs) := I.hok dd _ ed
  obtain ⟨mA, hns, hr⟩ := hx
  obtain ⟨od, ho, hl⟩ := lookIn_ns hns
  exact ⟨oe, od, ⟨he, hz.1, by unfold PySem.W.notCls; rw [hv] <;> rfl, by rw [hz.2]; exact ho⟩, fun n => ⟨_, hl n, hr n⟩⟩
theorem pe_xv {X : Cx} {C fI : Addr} {bm : List Value} {new : String} {f : Str} {e : Expr} {te : TE} {pos : Pos} (T : XC X.K C fI bm new f) (he : PE X e te) (hb : attributeBase e f X.env (eval e X.env) = eval e X.env := by rfl) : PE X (.Attribute e f pos) (tXv C f te) := by
  refine ⟨fun pins s σ H Q I h => ?_⟩
  refine attr_of hb (thn (he.run pins s σ H _ I h) fun u s1 hh => ?_)
  obtain ⟨x, H1, I1, rx, a, dd, fs, v, ex, ea, ed, l, q⟩ := hh
  subst ex
  obtain rfl : u = Value.ref a := rx
  obtain ⟨oe, od, J, hl⟩ := exv_inst I1 ea ed
  obtain ⟨r, h1, h2⟩ := hl f
  obtain ⟨u, hu, ru⟩ := RelO.some_of (v := v) (o := r) (by rw [← l]; exact h2)
  subst hu
  exact HandSPX.exc_get I1.kIn J T.ga T.gg T.exC (PySem.W.findObj_own T.hd T.no rfl h1) (handed_of ru) ⟨v, H1, I1.tok _, ru, q⟩
/-- isinstance(e, c), e such an exception -/
theorem exv_is {X : Cx} {pins : List (Addr × Obj)} {σ : L2.St} {H : Hp} {s : Shared} {a C fI dd : Addr} {fs : List (Str × V)} {bm : List Value} {new : String} {f : Str} {cv : Value} {b : Bool} {Q : Value → Shared → Prop} {E : Value → Shared → Prop} {A : Around} (T : XC X.K C fI bm new f) (I : Inv X pins σ H s)
    (ea : H a = some (exv a (.ref C) (some dd))) (ed : H dd = some (.xd fs)) (ec : PySem.W.kitOne X.K (.ref C) cv = some b) (goal : ∀ tk, Q (.bool b) { s with toks := tk }) : wpAny (model X.prog X.w) A (call (.builtin "isinstance") [.ref a, cv]) Q E s := by
  obtain ⟨oe, od, J, _⟩ := exv_inst I ea ed
  obtain ⟨cd, hcd, _⟩ := PySem.W.any_some T.hd
  exact PySem.W.kia_one (PySem.W.kitx_exc (by rw [hcd]; rfl) T.ga T.gg T.exC T.hc T.hn T.ht T.hm) I.kIn J ec (fun z => nomatch z) goal
end EX
namespace DL
open PySem PySem.Spec PyProof.Rows L2
/-- a value: data as trees (ktup: a tuple written at the top); ref: an object of the store (or any other address) -/
inductive DV where
  | non | bl (b : Bool) | int (i : Int) | str (x : Str) | ref (a : Addr)
  | lst (xs : List DV) | tup (xs : List DV) | ktup (xs : List DV) | klst (xs : List DV)
/-- an object that may change -/
inductive MO where
  | lst (xs : List DV) | dct (kvs : List (Key × DV)) | dcT (kvs : List (List Key × DV)) | ins (c : Nat) (fs : List (Nat × DV))
  /-- a dict that is being walked -/
  | lck (o : Obj) (kv : List (Key × V)) (kvs : List (Key × DV))
  /-- an exception of class c at a, its dict at dd; its dict -/
  | exo (a : Addr) (c : Nat) (dd : Addr) | exd (fs : List (Nat × DV))
  /-- an exception without a dict -/
  | exn (a : Addr) (c : Nat)
abbrev Sto := Addr → Option MO
def put (m : Sto) (a : Addr) (o : MO) : Sto := fun b => if b = a then some o else m b
def rmv (m : Sto) (a : Addr) : Sto := fun b => if b = a then none else m b
theorem put_same {m : Sto} {a : Addr} {o : MO} : put m a o a = some o := if_pos rfl
theorem put_ne {m : Sto} {a b : Addr} {o : MO} (h : b ≠ a) : put m a o b = m b := if_neg h
theorem rmv_ne {m : Sto} {a b : Addr} (h : b ≠ a) : rmv m a b = m b := if_neg h
theorem rmv_same {m : Sto} {a : Addr} : rmv m a a = none := if_pos rfl
theorem put_put {m : Sto} {a : Addr} {o u : MO} : put (put m a o) a u = put m a u := by
  funext b; unfold put; split <;> rfl
theorem put_comm {m : Sto} {a b : Addr} {o u : MO} (h : a ≠ b) : put (put m a o) b u = put (put m b u) a o := by
  funext c; unfold put
  by_cases h1 : c = a
  · subst h1; rw [if_neg h, if_pos rfl, if_pos rfl]
  · by_cases h2 : c = b
    · subst h2; rw [if_pos rfl, if_neg h1, if_pos rfl]
    · rw [if_neg h2, if_neg h1, if_neg h1, if_neg h2]
theorem rmv_put {m : Sto} {a : Addr} {o : MO} (h : m a = none) : rmv (put m a o) a = m := by
  funext b; unfold rmv put
  by_cases h1 : b = a
  · subst h1; rw [if_pos rfl, h]
  · rw [if_neg h1, if_neg h1]
theorem put_self {m : Sto} {a : Addr} {o : MO} (h : m a = some o) : put m a o = m := by
  funext b; unfold put
  by_cases h1 : b = a
  · subst h1; rw [if_pos rfl, h]
  · rw [if_neg h1]
/-- what is told of the classes and the names of fields -/
structure Gam where
  K : PySem.W.Frag
  cls : Nat → Addr
  fld : Nat → Str
  /-- data that have been known all the while -/
  flo : Addr → Option HO := fun _ => none
mutual
inductive VR (K : PySem.W.Frag) (F : Hp) : V → DV → Prop
  | non : VR K F .non .non
  | bl (b : Bool) : VR K F (.bl b) (.bl b)
  | int (i : Int) : VR K F (.int i) (.int i)
  | str (x : Str) : VR K F (.str x) (.str x)
  | ref (a : Addr) : VR K F (.ref a) (.ref a)
  | lst {a : Addr} {vs : List V} {ds : List DV} : Rd F a (.lst vs) → VRs K F vs ds → VR K F (.ref a) (.lst ds)
  | tup {a : Addr} {vs : List V} {ds : List DV} : F a = some (.tup vs) → VRs K F vs ds → VR K F (.ref a) (.tup ds)
  | ktup {a : Addr} {vs : List V} {ds : List DV} : SqT K (fun _ => none) a vs → VRs K F vs ds → VR K F (.ref a) (.ktup ds)
  | klst {a : Addr} {vs : List V} {ds : List DV} : SqL K (fun _ => none) a vs → VRs K F vs ds → VR K F (.ref a) (.klst ds)
inductive VRs (K : PySem.W.Frag) (F : Hp) : List V → List DV → Prop
  | nil : VRs K F [] []
  | cons {v : V} {vs : List V} {d : DV} {ds : List DV} : VR K F v d → VRs K F vs ds → VRs K F (v :: vs) (d :: ds)
end
abbrev Ex (F F' : Hp) : Prop := ∀ a o, F a = some o → F' a = some o
theorem Ex.refl (F : Hp) : Ex F F := fun _ _ h => h
theorem Ex.trans {F F1 F2 : Hp} (a : Ex F F1) (b : Ex F1 F2) : Ex F F2 := fun x o h => b x o (a x o h)
theorem ex_none {F : Hp} : Ex (fun _ => none) F := fun a o e => by
  have e' : (none : Option HO) = some o := e
  cases e'
theorem Ex.rd {F F' : Hp} {a : Addr} {u : HO} (e : Ex F F') (h : Rd F a u) : Rd F' a u := by
  rcases h with h | ⟨o, h⟩
  · exact Or.inl (e a _ h)
  · exact Or.inr ⟨o, e a _ h⟩
theorem Ex.sqL {K : PySem.W.Frag} {F F' : Hp} {a : Addr} {xs : List V} (e : Ex F F') (h : SqL K F a xs) : SqL K F' a xs := by
  rcases h with h | h
  · exact Or.inl (e.rd h)
  · exact Or.inr h
theorem Ex.sqT {K : PySem.W.Frag} {F F' : Hp} {a : Addr} {xs : List V} (e : Ex F F') (h : SqT K F a xs) : SqT K F' a xs := by
  rcases h with h | h
  · exact Or.inl (e.rd h)
  · exact Or.inr h
theorem Ex.new {F : Hp} {p : Addr} {o : HO} (h : F p = none) : Ex F (upd F p o) := fun a u e => by
  rw [upd_ne (ne_of_none e h)]
  exact e
mutual
theorem VR.mono {K : PySem.W.Frag} {F F' : Hp} (e : Ex F F') : ∀ {v : V} {d : DV}, VR K F v d → VR K F' v d
  | _, _, .non => .non
  | _, _, .bl b => .bl b
  | _, _, .int i => .int i
  | _, _, .str x => .str x
  | _, _, .ref a => .ref a
  | _, _, .lst h r => .lst (e.rd h) (VRs.mono e r)
  | _, _, .tup h r => .tup (e _ _ h) (VRs.mono e r)
  | _, _, .ktup h r => .ktup h (VRs.mono e r)
  | _, _, .klst h r => .klst h (VRs.mono e r)
theorem VRs.mono {K : PySem.W.Frag} {F F' : Hp} (e : Ex F F') : ∀ {vs : List V} {ds : List DV}, VRs K F vs ds → VRs K F' vs ds
  | _, _, .nil => .nil
  | _, _, .cons h r => .cons (VR.mono e h) (VRs.mono e r)
end
section
variable {K : PySem.W.Frag} {F : Hp}
theorem VRs.length : ∀ {vs : List V} {ds : List DV}, VRs K F vs ds → vs.length = ds.length
  | _, _, .nil => rfl
  | _, _, .cons _ r => by rw [List.length_cons, List.length_cons, r.length]
theorem VRs.get : ∀ {vs : List V} {ds : List DV} {i : Nat} {d : DV}, VRs K F vs ds → ds[i]? = some d → ∃ v, vs[i]? = some v ∧ VR K F v d
  | _, _, _, _, .nil, e => by simp at e
  | _, _, 0, _, .cons r _, e => by simp at e; subst e; exact ⟨_, rfl, r⟩
  | _, _, i + 1, d, .cons _ t, e => by
    obtain ⟨u, h1, h2⟩ := VRs.get (i := i) (d := d) t (by simpa using e)
    exact ⟨u, by simpa using h1, h2⟩
theorem VRs.getV : ∀ {vs : List V} {ds : List DV} {i : Nat} {v : V}, VRs K F vs ds → vs[i]? = some v → ∃ d, ds[i]? = some d ∧ VR K F v d
  | _, _, _, _, .nil, e => by simp at e
  | _, _, 0, _, .cons r _, e => by simp at e; subst e; exact ⟨_, rfl, r⟩
  | _, _, i + 1, v, .cons _ t, e => by
    obtain ⟨u, h1, h2⟩ := VRs.getV (i := i) (v := v) t (by simpa using e)
    exact ⟨u, by simpa using h1, h2⟩
theorem VRs.append : ∀ {vs ws : List V} {ds es : List DV}, VRs K F vs ds → VRs K F ws es → VRs K F (vs ++ ws) (ds ++ es)
  | _, _, _, _, .nil, s => s
  | _, _, _, _, .cons r t, s => .cons r (VRs.append t s)
theorem VRs.set {v : V} {d : DV} (r : VR K F v d) : ∀ {vs : List V} {ds : List DV} (i : Nat), VRs K F vs ds → VRs K F (vs.set i v) (ds.set i d)
  | _, _, _, .nil => .nil
  | _, _, 0, .cons _ t => .cons r t
  | _, _, i + 1, .cons q t => .cons q (VRs.set r i t)
theorem VRs.take : ∀ {vs : List V} {ds : List DV} (n : Nat), VRs K F vs ds → VRs K F (vs.take n) (ds.take n)
  | _, _, 0, _ => .nil
  | _, _, _ + 1, .nil => .nil
  | _, _, n + 1, .cons r t => .cons r (VRs.take n t)
theorem VRs.drop : ∀ {vs : List V} {ds : List DV} (n : Nat), VRs K F vs ds → VRs K F (vs.drop n) (ds.drop n)
  | _, _, 0, r => r
  | _, _, _ + 1, .nil => .nil
  | _, _, n + 1, .cons _ t => VRs.drop n t
theorem VRs.one {v : V} {d : DV} (r : VR K F v d) : VRs K F [v] [d] := .cons r .nil
theorem VRs.ints : ∀ {vs : List V} {ns : List Int}, VRs K F vs (ns.map DV.int) → vs = ns.map V.int
  | _, [], h => by cases h; rfl
  | _, n :: ns, h => by
    cases h with
    | cons r t => cases r; rw [VRs.ints t]; rfl
theorem VRs.of_ints : ∀ (ns : List Int), VRs K F (ns.map V.int) (ns.map DV.int)
  | [] => .nil
  | n :: ns => .cons (.int n) (VRs.of_ints ns)
theorem VRs.strs : ∀ {vs : List V} {ns : List Str}, VRs K F vs (ns.map DV.str) → vs = ns.map V.str
  | _, [], h => by cases h; rfl
  | _, n :: ns, h => by
    cases h with
    | cons r t => cases r; rw [VRs.strs t]; rfl
end
/-- pairs of a dict, of fields -/
def KR {κ : Type} (K : PySem.W.Frag) (F : Hp) : List (κ × V) → List (κ × DV) → Prop := Paired fun p q => p.1 = q.1 ∧ VR K F p.2 q.2
def FR (G : Gam) (F : Hp) : List (Str × V) → List (Nat × DV) → Prop := Paired fun p q => p.1 = G.fld q.1 ∧ VR G.K F p.2 q.2
theorem KR.mono {κ : Type} {K : PySem.W.Frag} {F F' : Hp} (e : Ex F F') {a : List (κ × V)} {b : List (κ × DV)} (h : KR K F a b) : KR K F' a b := Paired.mapP h fun _ _ z => ⟨z.1, z.2.mono e⟩
theorem FR.mono {G : Gam} {F F' : Hp} (e : Ex F F') {a : List (Str × V)} {b : List (Nat × DV)} (h : FR G F a b) : FR G F' a b := Paired.mapP h fun _ _ z => ⟨z.1, z.2.mono e⟩
def MR (G : Gam) (F : Hp) : MO → HO → Prop
  | .lst xs, u => ∃ vs, u = .lst vs ∧ VRs G.K F vs xs
  | .dct kvs, u => ∃ kv, u = .dK kv ∧ KR G.K F kv kvs
  | .dcT kvs, u => ∃ kv, u = .dT kv ∧ KR G.K F kv kvs
  | .ins c fs, u => ∃ dx fv, u = .ins (G.cls c) dx fv ∧ FR G F fv fs
  | .lck o kv kvs, u => u = .frz o (.dK kv) ∧ KR G.K F kv kvs
  | .exo a c dd, u => u = EX.exv a (.ref (G.cls c)) (some dd)
  | .exd fs, u => ∃ fv, u = .xd fv ∧ FR G F fv fs
  | .exn a c, u => u = EX.exv a (.ref (G.cls c)) none
theorem MR.mono {G : Gam} {F F' : Hp} (e : Ex F F') : ∀ {o : MO} {u : HO}, MR G F o u → MR G F' o u
  | .lst _, _, ⟨vs, h, r⟩ => ⟨vs, h, r.mono e⟩
  | .dct _, _, ⟨vs, h, r⟩ => ⟨vs, h, KR.mono e r⟩
  | .dcT _, _, ⟨vs, h, r⟩ => ⟨vs, h, KR.mono e r⟩
  | .ins _ _, _, ⟨dx, fv, h, r⟩ => ⟨dx, fv, h, FR.mono e r⟩
  | .lck _ _ _, _, ⟨h, r⟩ => ⟨h, KR.mono e r⟩
  | .exo _ _ _, _, h => h
  | .exd _, _, ⟨fv, h, r⟩ => ⟨fv, h, FR.mono e r⟩
  | .exn _ _, _, h => h
/-- the abstract heap bears the data F and the store m -/
structure Rel (G : Gam) (F : Hp) (m : Sto) (H : Hp) : Prop where
  ex : Ex F H
  mo : ∀ a o, m a = some o → F a = none ∧ ∃ u, H a = some u ∧ MR G F o u
  fl : Ex G.flo F
section
variable {G : Gam} {F F' H H' : Hp} {m : Sto} {a p : Addr} {o : MO} {u : HO}
theorem Rel.freeM (r : Rel G F m H) (h : H p = none) : m p = none := by
  cases e : m p with
  | none => rfl
  | some o =>
    obtain ⟨_, u, hu, _⟩ := r.mo p o e
    rw [h] at hu; cases hu
theorem Rel.freeF (r : Rel G F m H) (h : H p = none) : F p = none := by
  cases e : F p with
  | none => rfl
  | some o => rw [r.ex p o e] at h; cases h
/-- more may be known of the heap -/
theorem Rel.grow (r : Rel G F m H) (e : Ex H H') : Rel G F m H' := ⟨r.ex.trans e, fun a o h => let ⟨n, u, hu, q⟩ := r.mo a o h; ⟨n, u, e a u hu, q⟩, r.fl⟩
/-- new data -/
theorem Rel.data (r : Rel G F m H) (h : H p = none) : Rel G (upd F p u) m (upd H p u) where
  fl := r.fl.trans (Ex.new (r.freeF h))
  ex := fun b o e => by
    by_cases hb : b = p
    · subst hb; rw [upd_same] at e ⊢; exact e
    · rw [upd_ne hb] at e ⊢; exact r.ex b o e
  mo := fun b o e => by
    obtain ⟨n, w, hw, q⟩ := r.mo b o e
    have hb : b ≠ p := ne_of_none hw h
    exact ⟨by rw [upd_ne hb]; exact n, w, by rw [upd_ne hb]; exact hw, q.mono (Ex.new (r.freeF h))⟩
/-- a new object -/
theorem Rel.newM (r : Rel G F m H) (h : H p = none) (q : MR G F o u) : Rel G F (put m p o) (upd H p u) where
  fl := r.fl
  ex := fun b w e => by
    have hb : b ≠ p := ne_of_none (r.ex b w e) h
    rw [upd_ne hb]; exact r.ex b w e
  mo := fun b w e => by
    by_cases hb : b = p
    · subst hb
      rw [put_same] at e; cases e
      exact ⟨r.freeF h, u, upd_same, q⟩
    · rw [put_ne hb] at e
      obtain ⟨n, w, hw, q⟩ := r.mo b w e
      exact ⟨n, w, by rw [upd_ne hb]; exact hw, q⟩
/-- an object changes -/
theorem Rel.write (r : Rel G F m H) {o' : MO} (h : m p = some o') (q : MR G F o u) : Rel G F (put m p o) (upd H p u) where
  fl := r.fl
  ex := fun b w e => by
    have hb : b ≠ p := ne_of_none e (r.mo p o' h).1
    rw [upd_ne hb]; exact r.ex b w e
  mo := fun b w e => by
    by_cases hb : b = p
    · subst hb
      rw [put_same] at e; cases e
      exact ⟨(r.mo _ o' h).1, u, upd_same, q⟩
    · rw [put_ne hb] at e
      obtain ⟨n, w, hw, q⟩ := r.mo b w e
      exact ⟨n, w, by rw [upd_ne hb]; exact hw, q⟩
/-- an object becomes data -/
theorem Rel.freeze (r : Rel G F m H) (h : m p = some o) (hu : H p = some u) : Rel G (upd F p u) (rmv m p) H where
  fl := r.fl.trans (Ex.new (r.mo p o h).1)
  ex := fun b w e => by
    by_cases hb : b = p
    · subst hb; rw [upd_same] at e; rw [hu]; exact e
    · rw [upd_ne hb] at e; exact r.ex b w e
  mo := fun b w e => by
    by_cases hb : b = p
    · subst hb; rw [rmv_same] at e; cases e
    · rw [rmv_ne hb] at e
      obtain ⟨n, w, hw, q⟩ := r.mo b w e
      exact ⟨by rw [upd_ne hb]; exact n, w, hw, q.mono (Ex.new (r.mo p o h).1)⟩
end
abbrev Slots := List (Option DV)
/-- the values by slot -/
structure SR (K : PySem.W.Frag) (F : Hp) (σ : L2.St) (δ : Slots) : Prop where
  len : σ.length = δ.length
  at_ : ∀ (i : Nat) (d : DV), δ[i]? = some (some d) → ∃ v, σ[i]? = some (some v) ∧ VR K F v d
theorem SR.mono {K : PySem.W.Frag} {F F' : Hp} {σ : L2.St} {δ : Slots} (e : Ex F F') (h : SR K F σ δ) : SR K F' σ δ :=
  ⟨h.len, fun i d q => let ⟨v, a, b⟩ := h.at_ i d q; ⟨v, a, b.mono e⟩⟩
theorem SR.set {K : PySem.W.Frag} {F : Hp} {σ : L2.St} {δ : Slots} {v : V} {d : DV} (i : Nat) (h : SR K F σ δ) (r : VR K F v d) : SR K F (σ.set i (some v)) (δ.set i (some d)) := by
  refine ⟨by simp [h.len], fun j c q => ?_⟩
  by_cases e : i = j
  · subst e
    by_cases hl : i < δ.length
    · rw [List.getElem?_set_self hl] at q
      cases q
      exact ⟨v, by rw [List.getElem?_set_self (by rw [h.len]; exact hl)], r⟩
    · rw [List.getElem?_eq_none (by simp; omega)] at q; cases q
  · rw [List.getElem?_set_ne e] at q
    obtain ⟨w, a, b⟩ := h.at_ j c q
    exact ⟨w, by rw [List.getElem?_set_ne e]; exact a, b⟩
abbrev DK := DV → Sto → Prop
abbrev DE := Slots → Sto → DK → Prop
abbrev DT := Slots → Sto → (Bool → Sto → Prop) → Prop
abbrev DA := Slots → Sto → (List DV → Sto → Prop) → Prop
structure DEnds where
  nx : Slots → Sto → Prop
  rt : DK
  bk : Slots → Sto → Prop := fun _ _ => False
  ct : Slots → Sto → Prop := fun _ _ => False
abbrev DS := DEnds → Slots → Sto → Prop
/-- what follows, told of data, serves what follows, told of values -/
def Kt (G : Gam) (F : Hp) (Q0 : DK) (Q : VK) : Prop := ∀ d m' v F' H', Q0 d m' → Ex F F' → Rel G F' m' H' → VR G.K F' v d → Q v H'
def KtB (G : Gam) (F : Hp) (Q0 : Bool → Sto → Prop) (Q : Bool → Hp → Prop) : Prop := ∀ b m' F' H', Q0 b m' → Ex F F' → Rel G F' m' H' → Q b H'
def KtA (G : Gam) (F : Hp) (Q0 : List DV → Sto → Prop) (Q : List V → Hp → Prop) : Prop := ∀ ds m' vs F' H', Q0 ds m' → Ex F F' → Rel G F' m' H' → VRs G.K F' vs ds → Q vs H'
def KtS (G : Gam) (F : Hp) (Q0 : Slots → Sto → Prop) (Q : L2.St → Hp → Prop) : Prop := ∀ δ' m' σ' F' H', Q0 δ' m' → Ex F F' → Rel G F' m' H' → SR G.K F' σ' δ' → Q σ' H'
theorem Kt.mono {G : Gam} {F F' : Hp} {Q0 : DK} {Q : VK} (k : Kt G F Q0 Q) (e : Ex F F') : Kt G F' Q0 Q := fun d m v F1 H1 h e1 => k d m v F1 H1 h (e.trans e1)
theorem KtB.mono {G : Gam} {F F' : Hp} {Q0 : Bool → Sto → Prop} {Q : Bool → Hp → Prop} (k : KtB G F Q0 Q) (e : Ex F F') : KtB G F' Q0 Q := fun d m F1 H1 h e1 => k d m F1 H1 h (e.trans e1)
theorem KtA.mono {G : Gam} {F F' : Hp} {Q0 : List DV → Sto → Prop} {Q : List V → Hp → Prop} (k : KtA G F Q0 Q) (e : Ex F F') : KtA G F' Q0 Q := fun d m v F1 H1 h e1 => k d m v F1 H1 h (e.trans e1)
theorem KtS.mono {G : Gam} {F F' : Hp} {Q0 : Slots → Sto → Prop} {Q : L2.St → Hp → Prop} (k : KtS G F Q0 Q) (e : Ex F F') : KtS G F' Q0 Q := fun d m v F1 H1 h e1 => k d m v F1 H1 h (e.trans e1)
structure KtD (G : Gam) (F : Hp) (D0 : DEnds) (D : Ends) : Prop where
  nx : KtS G F D0.nx D.nx
  rt : Kt G F D0.rt D.rt
  bk : KtS G F D0.bk D.bk
  ct : KtS G F D0.ct D.ct
theorem KtD.mono {G : Gam} {F F' : Hp} {D0 : DEnds} {D : Ends} (k : KtD G F D0 D) (e : Ex F F') : KtD G F' D0 D := ⟨k.nx.mono e, k.rt.mono e, k.bk.mono e, k.ct.mono e⟩
/-- the readings over data as readings over the abstract heap -/
def LE (G : Gam) (w : DE) : TE := fun σ H Q => ∃ F m δ Q0, Rel G F m H ∧ SR G.K F σ δ ∧ w δ m Q0 ∧ Kt G F Q0 Q
def LT (G : Gam) (w : DT) : TT := fun σ H Q => ∃ F m δ Q0, Rel G F m H ∧ SR G.K F σ δ ∧ w δ m Q0 ∧ KtB G F Q0 Q
def LA (G : Gam) (w : DA) : TA := fun σ H Q => ∃ F m δ Q0, Rel G F m H ∧ SR G.K F σ δ ∧ w δ m Q0 ∧ KtA G F Q0 Q
def LS (G : Gam) (w : DS) : TS := fun D σ H => ∃ F m δ D0, Rel G F m H ∧ SR G.K F σ δ ∧ w D0 δ m ∧ KtD G F D0 D
theorem PE.imp {X : Cx} {e : Expr} {t t' : TE} (h : PE X e t) (k : ∀ σ H Q, t' σ H Q → t σ H Q) : PE X e t' := ⟨fun pins s σ H Q I q => h.run pins s σ H Q I (k σ H Q q)⟩
theorem PT.imp {X : Cx} {e : Expr} {t t' : TT} (h : PT X e t) (k : ∀ σ H Q, t' σ H Q → t σ H Q) : PT X e t' := ⟨fun pins s σ H Q I q => h.run pins s σ H Q I (k σ H Q q)⟩
theorem PW.imp {X : Cx} {e : Expr} {t t' : TT} (h : PW X e t) (k : ∀ σ H Q, t' σ H Q → t σ H Q) : PW X e t' := ⟨fun wh pins s σ H Q I q => h.run wh pins s σ H Q I (k σ H Q q)⟩
theorem PA.imp {X : Cx} {e : List Expr} {t t' : TA} (h : PA X e t) (k : ∀ σ H Q, t' σ H Q → t σ H Q) : PA X e t' := ⟨fun pos pins s σ H Q I q => h.run pos pins s σ H Q I (k σ H Q q)⟩
theorem PK.imp {X : Cx} {e : List Keyword} {t t' : TA} (h : PK X e t) (k : ∀ σ H Q, t' σ H Q → t σ H Q) : PK X e t' := ⟨fun pos pins s σ H Q I q => h.run pos pins s σ H Q I (k σ H Q q)⟩
theorem PS.imp {X : Cx} {e : Stmt} {t t' : TS} (h : PS X e t) (k : ∀ D σ H, t' D σ H → t D σ H) : PS X e t' := ⟨fun pins s σ H D I q => h.run pins s σ H D I (k D σ H q)⟩
theorem PSs.imp {X : Cx} {e : List Stmt} {t t' : TS} (h : PSs X e t) (k : ∀ D σ H, t' D σ H → t D σ H) : PSs X e t' := ⟨fun pins s σ H D I q => h.run pins s σ H D I (k D σ H q)⟩
end DL
namespace DL
open PySem PySem.Spec PyProof.Rows L2
def asL (m : Sto) : DV → Option (List DV)
  | .lst xs => some xs
  | .klst xs => some xs
  | .ref p => match m p with
    | some (.lst xs) => some xs
    | _ => none
  | _ => none
def asT : DV → Option (List DV)
  | .tup xs => some xs
  | .ktup xs => some xs
  | _ => none
def asQ (m : Sto) : DV → Option (List DV)
  | .tup xs => some xs
  | .ktup xs => some xs
  | d => asL m d
section
variable {G : Gam} {F H : Hp} {m : Sto} {x : V} {d : DV} {xs : List DV}
theorem asL_ok (r : Rel G F m H) (v : VR G.K F x d) (h : asL m d = some xs) : ∃ a vs, x = .ref a ∧ SqL G.K H a vs ∧ VRs G.K F vs xs := by
  cases v with
  | @lst a vs ds hs hr =>
    cases h
    exact ⟨a, vs, rfl, .inl (r.ex.rd hs), hr⟩
  | @klst a vs ds hs hr =>
    cases h
    exact ⟨a, vs, rfl, Ex.sqL ex_none hs, hr⟩
  | ref a =>
    simp only [asL] at h
    cases e : m a with
    | none => rw [e] at h; cases h
    | some o =>
      rw [e] at h
      cases o with
      | lst ys =>
        cases h
        obtain ⟨_, u, hu, vs, rfl, hr⟩ := r.mo a _ e
        exact ⟨a, vs, rfl, SqL.of hu, hr⟩
      | _ => cases h
  | _ => cases h
theorem asT_ok (r : Rel G F m H) (v : VR G.K F x d) (h : asT d = some xs) : ∃ a vs, x = .ref a ∧ SqT G.K H a vs ∧ VRs G.K F vs xs := by
  cases v with
  | @tup a vs ds hs hr =>
    cases h
    exact ⟨a, vs, rfl, SqT.of (r.ex _ _ hs), hr⟩
  | @ktup a vs ds hs hr =>
    cases h
    exact ⟨a, vs, rfl, Ex.sqT ex_none hs, hr⟩
  | _ => cases h
theorem asQ_ok (r : Rel G F m H) (v : VR G.K F x d) (h : asQ m d = some xs) : ∃ a vs, x = .ref a ∧ (SqL G.K H a vs ∨ SqT G.K H a vs) ∧ VRs G.K F vs xs := by
  cases v with
  | @tup a vs ds hs hr =>
    cases h
    exact ⟨a, vs, rfl, .inr (SqT.of (r.ex _ _ hs)), hr⟩
  | @ktup a vs ds hs hr =>
    cases h
    exact ⟨a, vs, rfl, .inr (Ex.sqT ex_none hs), hr⟩
  | lst hs hr =>
    obtain ⟨a, vs, e, q, t⟩ := asL_ok r (.lst hs hr) h
    exact ⟨a, vs, e, .inl q, t⟩
  | klst hs hr =>
    obtain ⟨a, vs, e, q, t⟩ := asL_ok r (.klst hs hr) h
    exact ⟨a, vs, e, .inl q, t⟩
  | ref a =>
    obtain ⟨a, vs, e, q, t⟩ := asL_ok r (.ref a) h
    exact ⟨a, vs, e, .inl q, t⟩
  | _ => cases h
end
/-- a new list: data, or (mu) an object of the store -/
def newL (mu : Bool) (xs : List DV) (m : Sto) (Q : DK) : Prop := if mu = true then ∀ p, m p = none → Q (.ref p) (put m p (.lst xs)) else Q (.lst xs) m
theorem newL_data {xs : List DV} {m : Sto} {Q : DK} : newL false xs m Q = Q (.lst xs) m := rfl
theorem newL_own {xs : List DV} {m : Sto} {Q : DK} : newL true xs m Q = ∀ p, m p = none → Q (.ref p) (put m p (.lst xs)) := rfl
theorem newL_ok {G : Gam} {F H : Hp} {m : Sto} {mu : Bool} {xs : List DV} {vs : List V} {Q0 : DK} {Q : VK} (r : Rel G F m H) (h : newL mu xs m Q0) (k : Kt G F Q0 Q) (v : VRs G.K F vs xs) :
    ∀ p, H p = none → Q (.ref p) (upd H p (.lst vs)) := fun p hp => by
  cases mu with
  | true => exact k _ _ _ F _ (h p (r.freeM hp)) (Ex.refl F) (r.newM hp ⟨vs, rfl, v⟩) (.ref p)
  | false => exact k _ _ _ (upd F p (.lst vs)) _ h (Ex.new (r.freeF hp)) (r.data hp) (.lst (.inl upd_same) (v.mono (Ex.new (r.freeF hp))))
theorem newT_ok {G : Gam} {F H : Hp} {m : Sto} {xs : List DV} {vs : List V} {Q0 : DK} {Q : VK} (r : Rel G F m H) (h : Q0 (.tup xs) m) (k : Kt G F Q0 Q) (v : VRs G.K F vs xs) :
    ∀ p, H p = none → Q (.ref p) (upd H p (.tup vs)) := fun p hp =>
  k _ _ _ (upd F p (.tup vs)) _ h (Ex.new (r.freeF hp)) (r.data hp) (.tup upd_same (v.mono (Ex.new (r.freeF hp))))
/-- a two-place operation, told of data -/
abbrev D2 := DV → DV → Sto → DK → Prop
def LR2 (G : Gam) (R : D2) : R2 := fun x y H Q => ∃ F m d1 d2 Q0, Rel G F m H ∧ VR G.K F x d1 ∧ VR G.K F y d2 ∧ R d1 d2 m Q0 ∧ Kt G F Q0 Q
def wOp (R : D2) (wa wb : DE) : DE := fun δ m Q => wa δ m fun x m1 => wb δ m1 fun y m2 => R x y m2 Q
theorem le_op {G : Gam} {R : D2} {wa wb : DE} {σ : L2.St} {H : Hp} {Q : VK} (h : LE G (wOp R wa wb) σ H Q) : tOp (LR2 G R) (LE G wa) (LE G wb) σ H Q := by
  obtain ⟨F, m, δ, Q0, r, s, h, k⟩ := h
  refine ⟨F, m, δ, _, r, s, h, fun d1 m1 x F1 H1 h1 e1 r1 v1 => ⟨F1, m1, δ, _, r1, s.mono e1, h1, fun d2 m2 y F2 H2 h2 e2 r2 v2 => ?_⟩⟩
  exact ⟨F2, m2, d1, d2, Q0, r2, v1.mono e2, v2, h2, k.mono (e1.trans e2)⟩
theorem pd_op {X : Cx} {G : Gam} {op : Operator} {R : D2} {wa wb : DE} {a b : Expr} {pos : Pos} (ho : OpR X (binaryOp op) (LR2 G R)) (ha : PE X a (LE G wa)) (hb : PE X b (LE G wb)) : PE X (.BinOp a op b pos) (LE G (wOp R wa wb)) :=
  PE.imp (pe_op ho ha hb) fun _ _ _ h => le_op h
theorem pd_cmp {X : Cx} {G : Gam} {op : CmpOp} {R : D2} {wa wb : DE} {a b : Expr} {pos : Pos} (ho : OpR X (compareOp op) (LR2 G R)) (ha : PE X a (LE G wa)) (hb : PE X b (LE G wb)) (hm : behindInMarks op b = false) : PE X (.Compare a [op] [b] pos) (LE G (wOp R wa wb)) :=
  PE.imp (pe_cmpR ho ha hb hm) fun _ _ _ h => le_op h
/-- lists of any provenance joined -/
def rCatL (K : PySem.W.Frag) : R2 := fun x y H Q => ∃ l b xs zs, x = .ref l ∧ y = .ref b ∧ SqL K H l xs ∧ SqL K H b zs ∧ xs.length + zs.length ≤ sizeLine ∧ ∀ p, H p = none → Q (.ref p) (upd H p (.lst (xs ++ zs)))
theorem op_catL {X : Cx} : OpR X (binaryOp .Add) (rCatL X.K) := by
  intro pins s σ H x y v u Q I rx ry h
  obtain ⟨l, b, xs, zs, rfl, rfl, hH, hB, hz, q⟩ := h
  cases rx
  cases ry
  obtain ⟨its, r, ⟨o, n, e, c1, c2, c3⟩, z⟩ := I.list hH
  obtain ⟨its2, r2, ⟨o2, n2, e2, d1, d2, d3⟩, z2⟩ := I.list hB
  obtain ⟨oc, od, dt, sl⟩ := o
  obtain ⟨oc2, od2, dt2, sl2⟩ := o2
  simp only at c1 c2 c3 d1 d2 d3
  subst c1 c2 c3 d1 d2 d3
  have hl := r.length
  have hl2 := r2.length
  refine concat_meets ⟨_, e, rfl⟩ ⟨_, e2, rfl⟩ noFill_list_add seq_list_add PySem.F.slot_list_add PySem.F.entry_list_add (PySem.F.args_list_add_2 _ _) (list_addW l b its.toArray its2.toArray n n2 none none sl sl2 (by simp only [List.size_toArray]; omega)) ⟨e, e2, ?_⟩
  have ea : its.toArray ++ its2.toArray = (its ++ its2).toArray := by simp
  rw [ea]
  exact ⟨.ref _, _, I.lnew (t' := s.toks) (r.append r2) (by rw [List.length_append]; omega), rfl, q _ I.fresh⟩
def dAdd (mu : Bool) : D2 := fun x y m Q => match x, y with
  | .int i, .int j => Q (.int (i + j)) m
  | .int i, .bl k => Q (.int (i + b2i k)) m
  | .str a, .str b => a.length + b.length ≤ sizeLine ∧ Q (.str (a ++ b)) m
  | .tup xs, .tup ys => xs ≠ [] ∧ xs.length + ys.length ≤ sizeLine ∧ Q (.tup (xs ++ ys)) m
  | x, y => ∃ xs ys, asL m x = some xs ∧ asL m y = some ys ∧ xs.length + ys.length ≤ sizeLine ∧ newL mu (xs ++ ys) m Q
theorem dAdd_list {mu : Bool} {x y : DV} {m : Sto} {Q : DK} {xs ys : List DV} (hx : asL m x = some xs) (hy : asL m y = some ys) (h : xs.length + ys.length ≤ sizeLine) (q : newL mu (xs ++ ys) m Q) : dAdd mu x y m Q := by
  cases x <;> first
    | exact ⟨xs, ys, hx, hy, h, q⟩
    | (simp only [asL] at hx; cases hx)
theorem catL_ok {G : Gam} {F H : Hp} {m : Sto} {x y : V} {d1 d2 : DV} {mu : Bool} {Q0 : DK} {Q : VK} (r : Rel G F m H) (v1 : VR G.K F x d1) (v2 : VR G.K F y d2) (k : Kt G F Q0 Q)
    (h : ∃ xs ys, asL m d1 = some xs ∧ asL m d2 = some ys ∧ xs.length + ys.length ≤ sizeLine ∧ newL mu (xs ++ ys) m Q0) : rCatL G.K x y H Q := by
  obtain ⟨xs, ys, hx, hy, hz, q⟩ := h
  obtain ⟨a, vs, rfl, ha, ra⟩ := asL_ok r v1 hx
  obtain ⟨b, ws, rfl, hb, rb⟩ := asL_ok r v2 hy
  exact ⟨a, b, vs, ws, rfl, rfl, ha, hb, by rw [ra.length, rb.length]; exact hz, newL_ok r q k (ra.append rb)⟩
theorem od_add {X : Cx} {G : Gam} (hK : X.K = G.K) (mu : Bool) : OpR X (binaryOp .Add) (LR2 G (dAdd mu)) := by
  intro pins s σ H x y v u Q I rx ry h
  obtain ⟨F, m, d1, d2, Q0, r, v1, v2, h, k⟩ := h
  have viaL : (∃ xs ys, asL m d1 = some xs ∧ asL m d2 = some ys ∧ xs.length + ys.length ≤ sizeLine ∧ newL mu (xs ++ ys) m Q0) → wpAny (model X.prog X.w) X.A (binaryOp .Add v u) (EP X pins σ Q) X.xe s := fun z => by
    refine op_catL pins s σ H x y v u Q I rx ry ?_
    rw [hK]
    exact catL_ok r v1 v2 k z
  cases v1 with
  | int i =>
    cases v2 with
    | int j => exact op_add pins s σ H _ _ v u Q I rx ry ⟨i, j, rfl, rfl, k _ _ _ _ _ h (Ex.refl F) r (.int _)⟩
    | bl j => exact op_add_ib pins s σ H _ _ v u Q I rx ry ⟨i, j, rfl, rfl, k _ _ _ _ _ h (Ex.refl F) r (.int _)⟩
    | _ => exact viaL h
  | str a =>
    cases v2 with
    | str b => exact op_add_str pins s σ H _ _ v u Q I rx ry ⟨a, b, rfl, rfl, h.1, k _ _ _ _ _ h.2 (Ex.refl F) r (.str _)⟩
    | _ => exact viaL h
  | @tup a vs ds hs hr =>
    cases v2 with
    | @tup b ws es ht hq =>
      obtain ⟨h1, h2, h3⟩ := h
      refine op_catT pins s σ H _ _ v u Q I rx ry ⟨a, b, vs, ws, rfl, rfl, ?_, ?_, fun z => h1 ?_, by rw [hr.length, hq.length]; exact h2, fun z => ?_, fun z => newT_ok r h3 k (hr.append hq)⟩
      · rw [hK]; exact SqT.of (r.ex _ _ hs)
      · rw [hK]; exact SqT.of (r.ex _ _ ht)
      · subst z; cases hr; rfl
      · subst z
        cases hq
        have h3' : Q0 (.tup ds) m := by rw [List.append_nil] at h3; exact h3
        exact k _ _ _ _ _ h3' (Ex.refl F) r (.tup hs hr)
    | _ => exact viaL h
  | _ => exact viaL (by cases v2 <;> exact h)
end DL
namespace DL
open PySem PySem.Spec PyProof.Rows L2
def dSub : D2 := fun x y m Q => match x, y with
  | .int i, .int j => Q (.int (i - j)) m
  | _, _ => False
theorem od_sub {X : Cx} {G : Gam} : OpR X (binaryOp .Sub) (LR2 G dSub) := by
  intro pins s σ H x y v u Q I rx ry h
  obtain ⟨F, m, d1, d2, Q0, r, v1, v2, h, k⟩ := h
  cases v1 with
  | int i =>
    cases v2 with
    | int j => exact op_sub pins s σ H _ _ v u Q I rx ry ⟨i, j, rfl, rfl, k _ _ _ _ _ h (Ex.refl F) r (.int _)⟩
    | _ => exact False.elim h
  | _ => exact False.elim (by cases v2 <;> exact h)
/-- a list k times over -/
def rRepL (K : PySem.W.Frag) : R2 := fun x y H Q => ∃ l k xs, x = .ref l ∧ y = .int k ∧ SqL K H l xs ∧ -(2 ^ 63) ≤ k ∧ k < 2 ^ 63 ∧ xs.length * k.toNat ≤ sizeLine ∧ ∀ p, H p = none → Q (.ref p) (upd H p (.lst (List.replicate k.toNat xs).flatten))
theorem op_repL {X : Cx} : OpR X (binaryOp .Mult) (rRepL X.K) := by
  intro pins s σ H x y v u Q I rx ry h
  obtain ⟨l, k, xs, rfl, rfl, hH, h1, h2, hz, q⟩ := h
  cases rx
  obtain ⟨t, rfl⟩ := ry
  obtain ⟨its, r, ⟨o, n, e, c1, c2, c3⟩, z⟩ := I.list hH
  obtain ⟨oc, od, dt, sl⟩ := o
  simp only at c1 c2 c3
  subst c1 c2 c3
  have hl := r.length
  have hlen : its.toArray.size * k.toNat ≤ sizeLine := by rw [List.size_toArray, ← hl]; exact hz
  have hcap : ¬ its.toArray.size * k.toNat > (2 ^ 63 - 1) / 8 := by
    have : (sizeLine : Nat) ≤ (2 ^ 63 - 1) / 8 := by decide
    omega
  have hfit : ¬ (!Builtin.List.listFitsIndex k) = true := by
    rw [fitsIndex_both h1 h2]
    exact Bool.false_ne_true
  have hlong : ¬ Builtin.List.listTooLong (its.toArray.size * k.toNat) = true := by
    rw [notLongL hlen]
    exact Bool.false_ne_true
  have hnew : List.foldl (fun x1 x2 => x1 ++ x2) #[] (List.replicate (if its.toArray.isEmpty = true then 0 else k.toNat) its.toArray) = (List.replicate k.toNat its).flatten.toArray := by
    have f0 : ∀ m : Nat, List.foldl (fun x1 x2 => x1 ++ x2) #[] (List.replicate m its.toArray) = (List.replicate m its).flatten.toArray := fun m => by
      have := foldl_rep its m []
      rw [List.nil_append] at this
      exact this
    rw [f0]
    cases its with
    | nil => simp
    | cons a r' => rw [if_neg (by simp)]
  refine wpAny_binaryOp_repeat_ref (T := "list") (U := "int") (by decide) ⟨_, e, rfl⟩ (fun s' => typeIs_int s' k t) noFill_list_mul F.fills_int_mul F.slot_int_rmul repeat_list F.slot_int_index.lookup
    (call_meets F.slot_int_rmul (typeIs_int s k t) F.entry_int_rmul (F.args_int_rmul_2 _ _) (lm_int_rmul_list_any k t l its.toArray n none sl)
      ⟨e, rfl, ⟨_, e, rfl⟩, call_meets F.slot_list_mul ⟨_, e, rfl⟩ F.entry_list_mul (F.args_list_mul_2 _ _) (lm_list_mul_any l its.toArray n none sl k t hfit hcap hlong) ⟨e, ?_⟩⟩)
  rw [hnew]
  exact ⟨.ref _, _, I.lnew (t' := s.toks) (r.rep k.toNat) (by rw [PyProof.Rows.lm_len_rep_flat, Nat.mul_comm]; exact hz), rfl, q _ I.fresh⟩
theorem VRs.rep {K : PySem.W.Frag} {F : Hp} {vs : List V} {ds : List DV} (h : VRs K F vs ds) : ∀ n : Nat, VRs K F (List.replicate n vs).flatten (List.replicate n ds).flatten
  | 0 => .nil
  | n + 1 => by
    rw [List.replicate_succ, List.replicate_succ, List.flatten_cons, List.flatten_cons]
    exact h.append (VRs.rep h n)
/-- * of two factors of which one is short, or which are together of less than a million bits -/
def CMulD (i j : Int) : Prop := ((-(2 ^ 64) < i ∧ i < 2 ^ 64) ∨ (-(2 ^ 64) < j ∧ j < 2 ^ 64)) ∨ i.natAbs.log2 + j.natAbs.log2 < 1000000
theorem short_bits {i : Int} (h : -(2 ^ 64) < i ∧ i < 2 ^ 64) : Builtin.Int.intBits i ≤ 64 := PyProof.Rows.intBits_le (by
  have e : (2 : Int) ^ 64 = 18446744073709551616 := by decide
  have e2 : (2 : Nat) ^ 64 = 18446744073709551616 := by decide
  rw [e2]; rw [e] at h; omega)
theorem CMulD.ok {i j : Int} (h : CMulD i j) : IntMulOk i j := by
  rcases h with (h | h) | h
  · exact .of_left (short_bits h)
  · exact .of_right (short_bits h)
  · exact CMulW.ok h
theorem op_mulD {X : Cx} : OpR X (binaryOp .Mult) (rI CMulD fun i j => .int (i * j)) := opI fun _ _ _ _ _ _ _ hc q => mul_int q hc.ok
def dMul (mu : Bool) : D2 := fun x y m Q => match x, y with
  | .int i, .int j => CMulD i j ∧ Q (.int (i * j)) m
  | x, .int k => ∃ xs, asL m x = some xs ∧ -(2 ^ 63) ≤ k ∧ k < 2 ^ 63 ∧ xs.length * k.toNat ≤ sizeLine ∧ newL mu (List.replicate k.toNat xs).flatten m Q
  | _, _ => False
theorem od_mul {X : Cx} {G : Gam} (hK : X.K = G.K) (mu : Bool) : OpR X (binaryOp .Mult) (LR2 G (dMul mu)) := by
  intro pins s σ H x y v u Q I rx ry h
  obtain ⟨F, m, d1, d2, Q0, r, v1, v2, h, k⟩ := h
  cases v2 with
  | int j =>
    have viaL : (∃ xs, asL m d1 = some xs ∧ -(2 ^ 63) ≤ j ∧ j < 2 ^ 63 ∧ xs.length * j.toNat ≤ sizeLine ∧ newL mu (List.replicate j.toNat xs).flatten m Q0) → wpAny (model X.prog X.w) X.A (binaryOp .Mult v u) (EP X pins σ Q) X.xe s := fun z => by
      obtain ⟨xs, hx, h1, h2, h3, q⟩ := z
      obtain ⟨a, vs, rfl, ha, ra⟩ := asL_ok r v1 hx
      exact op_repL pins s σ H _ _ v u Q I rx ry ⟨a, j, vs, rfl, rfl, by rw [hK]; exact ha, h1, h2, by rw [ra.length]; exact h3, newL_ok r q k (ra.rep _)⟩
    cases v1 with
    | int i => exact op_mulD pins s σ H _ _ v u Q I rx ry ⟨i, j, rfl, rfl, h.1, k _ _ _ _ _ h.2 (Ex.refl F) r (.int _)⟩
    | _ => exact viaL h
  | _ => exact False.elim (by cases v1 <;> exact h)
def dDiv : D2 := fun x y m Q => match x, y with
  | .int i, .int j => 0 < j ∧ j.natAbs.log2 < 9000 ∧ Q (.int (i / j)) m
  | _, _ => False
theorem od_div {X : Cx} {G : Gam} : OpR X (binaryOp .FloorDiv) (LR2 G dDiv) := by
  intro pins s σ H x y v u Q I rx ry h
  obtain ⟨F, m, d1, d2, Q0, r, v1, v2, h, k⟩ := h
  cases v1 with
  | int i =>
    cases v2 with
    | int j => exact op_fdivW pins s σ H _ _ v u Q I rx ry ⟨i, j, rfl, rfl, ⟨h.1, h.2.1⟩, k _ _ _ _ _ h.2.2 (Ex.refl F) r (.int _)⟩
    | _ => exact False.elim h
  | _ => exact False.elim (by cases v2 <;> exact h)
def dMod : D2 := fun x y m Q => match x, y with
  | .int i, .int j => 0 < j ∧ Q (.int (i % j)) m
  | _, _ => False
theorem od_mod {X : Cx} {G : Gam} : OpR X (binaryOp .Mod) (LR2 G dMod) := by
  intro pins s σ H x y v u Q I rx ry h
  obtain ⟨F, m, d1, d2, Q0, r, v1, v2, h, k⟩ := h
  cases v1 with
  | int i =>
    cases v2 with
    | int j => exact op_mod pins s σ H _ _ v u Q I rx ry ⟨i, j, rfl, rfl, h.1, k _ _ _ _ _ h.2 (Ex.refl F) r (.int _)⟩
    | _ => exact False.elim h
  | _ => exact False.elim (by cases v2 <;> exact h)
def dPow : D2 := fun x y m Q => match x, y with
  | .int i, .int j => 0 ≤ j ∧ j ≤ 1000000 ∧ i.natAbs < 2 ^ 64 ∧ Q (.int (i ^ j.toNat)) m
  | _, _ => False
theorem od_pow {X : Cx} {G : Gam} : OpR X (binaryOp .Pow) (LR2 G dPow) := by
  intro pins s σ H x y v u Q I rx ry h
  obtain ⟨F, m, d1, d2, Q0, r, v1, v2, h, k⟩ := h
  cases v1 with
  | int i =>
    cases v2 with
    | int j => exact op_pow pins s σ H _ _ v u Q I rx ry ⟨i, j, rfl, rfl, ⟨h.1, h.2.1, h.2.2.1⟩, k _ _ _ _ _ h.2.2.2 (Ex.refl F) r (.int _)⟩
    | _ => exact False.elim h
  | _ => exact False.elim (by cases v2 <;> exact h)
def dRel (p : Int → Int → Bool) : D2 := fun x y m Q => match x, y with
  | .int i, .int j => Q (.bl (p i j)) m
  | _, _ => False
theorem od_rel {X : Cx} {G : Gam} {op : CmpOp} {p : Int → Int → Bool} (ho : OpR X (compareOp op) (rI0 fun i j => .bl (p i j))) : OpR X (compareOp op) (LR2 G (dRel p)) := by
  intro pins s σ H x y v u Q I rx ry h
  obtain ⟨F, m, d1, d2, Q0, r, v1, v2, h, k⟩ := h
  cases v1 with
  | int i =>
    cases v2 with
    | int j => exact ho pins s σ H _ _ v u Q I rx ry ⟨i, j, rfl, rfl, k _ _ _ _ _ h (Ex.refl F) r (.bl _)⟩
    | _ => exact False.elim h
  | _ => exact False.elim (by cases v2 <;> exact h)
mutual
def py : DV → Option PyData
  | .non => some .none
  | .bl b => some (.bool b)
  | .int i => some (.int i)
  | .str x => some (.str x)
  | .ref _ => none
  | .lst xs => (pys xs).map .list
  | .tup xs => (pys xs).map .tuple
  | .ktup xs => (pys xs).map .tuple
  | .klst xs => (pys xs).map .list
def pys : List DV → Option (List PyData)
  | [] => some []
  | x :: xs => match py x, pys xs with
    | some a, some b => some (a :: b)
    | _, _ => none
end
mutual
theorem py_ok {K : PySem.W.Frag} {F : Hp} : ∀ {v : V} {d : DV} {p : PyData}, VR K F v d → py d = some p → Dp K F v p
  | _, _, _, .non, h => by simp only [py] at h; cases h; exact .non
  | _, _, _, .bl b, h => by simp only [py] at h; cases h; exact .bl b
  | _, _, _, .int i, h => by simp only [py] at h; cases h; exact .int i
  | _, _, _, .str x, h => by simp only [py] at h; cases h; exact .str x
  | _, _, _, .ref a, h => by simp only [py] at h; cases h
  | _, _, _, .lst (ds := ds) hs hr, h => by
    simp only [py] at h
    cases e : pys ds with
    | none => rw [e] at h; cases h
    | some ps => rw [e] at h; cases h; exact .lst (.inl hs) (pys_ok hr e)
  | _, _, _, .tup (ds := ds) hs hr, h => by
    simp only [py] at h
    cases e : pys ds with
    | none => rw [e] at h; cases h
    | some ps => rw [e] at h; cases h; exact .tup (SqT.of hs) (pys_ok hr e)
  | _, _, _, .ktup (ds := ds) hs hr, h => by
    simp only [py] at h
    cases e : pys ds with
    | none => rw [e] at h; cases h
    | some ps => rw [e] at h; cases h; exact .tup (Ex.sqT ex_none hs) (pys_ok hr e)
  | _, _, _, .klst (ds := ds) hs hr, h => by
    simp only [py] at h
    cases e : pys ds with
    | none => rw [e] at h; cases h
    | some ps => rw [e] at h; cases h; exact .lst (Ex.sqL ex_none hs) (pys_ok hr e)
theorem pys_ok {K : PySem.W.Frag} {F : Hp} : ∀ {vs : List V} {ds : List DV} {ps : List PyData}, VRs K F vs ds → pys ds = some ps → DpAll K F vs ps
  | _, _, _, .nil, h => by simp only [pys] at h; cases h; exact .nil
  | _, _, _, .cons (d := d) (ds := ds) hv hr, h => by
    simp only [pys] at h
    cases e1 : py d with
    | none => rw [e1] at h; cases h
    | some a =>
      cases e2 : pys ds with
      | none => rw [e1, e2] at h; cases h
      | some b => rw [e1, e2] at h; cases h; exact .cons (py_ok hv e1) (pys_ok hr e2)
end
mutual
theorem dp_mono {K : PySem.W.Frag} {F F' : Hp} (e : Ex F F') : ∀ {v : V} {p : PyData}, Dp K F v p → Dp K F' v p
  | _, _, .non => .non
  | _, _, .bl b => .bl b
  | _, _, .int i => .int i
  | _, _, .str x => .str x
  | _, _, .lst h r => .lst (e.sqL h) (dps_mono e r)
  | _, _, .tup h r => .tup (e.sqT h) (dps_mono e r)
theorem dps_mono {K : PySem.W.Frag} {F F' : Hp} (e : Ex F F') : ∀ {vs : List V} {ps : List PyData}, DpAll K F vs ps → DpAll K F' vs ps
  | _, _, .nil => .nil
  | _, _, .cons h r => .cons (dp_mono e h) (dps_mono e r)
end
/-- a value, or a list of the store whose items are data -/
def asPy (m : Sto) (d : DV) : Option PyData := match asL m d with
  | some xs => (pys xs).map .list
  | none => py d
theorem asPy_ok {G : Gam} {F H : Hp} {m : Sto} {x : V} {d : DV} {p : PyData} (r : Rel G F m H) (v : VR G.K F x d) (h : asPy m d = some p) : Dp G.K H x p := by
  unfold asPy at h
  cases e : asL m d with
  | none => rw [e] at h; exact dp_mono r.ex (py_ok v h)
  | some xs =>
    rw [e] at h
    obtain ⟨a, vs, rfl, hs, hr⟩ := asL_ok r v e
    dsimp only at h
    cases e2 : pys xs with
    | none => rw [e2] at h; cases h
    | some ps => rw [e2] at h; cases h; exact .lst hs (dps_mono r.ex (pys_ok hr e2))
/-- == of what is told apart at sight -/
def scEq : DV → DV → Option Bool
  | .non, .non => some true
  | .non, .int _ => some false | .int _, .non => some false
  | .non, .bl _ => some false | .bl _, .non => some false
  | .non, .str _ => some false | .str _, .non => some false
  | .int i, .int j => some (decide (i = j))
  | .bl i, .bl j => some (decide (i = j))
  | .str i, .str j => some (decide (i = j))
  | .int _, .str _ => some false | .str _, .int _ => some false
  | .bl _, .str _ => some false | .str _, .bl _ => some false
  | _, _ => none
/-- a dict beside an empty one -/
def emptyD (m : Sto) : DV → DV → Option Bool
  | .ref a, .ref b => match m a, m b with
    | some (.dct ks), some (.dct []) => some ks.isEmpty
    | _, _ => none
  | _, _ => none
def dEq (neg : Bool) : D2 := fun x y m Q => match scEq x y with
  | some b => Q (.bl (xor neg b)) m
  | none => match emptyD m x y with
    | some b => Q (.bl (xor neg b)) m
    | none => ∃ a b, asPy m x = some a ∧ asPy m y = some b ∧ SeqAt.shaped a = true ∧ SeqAt.shaped b = true ∧ Q (.bl (xor neg (PyData.eqv a b))) m
theorem sc_ok {K : PySem.W.Frag} {F : Hp} {x y : V} {d e : DV} {b : Bool} (v : VR K F x d) (u : VR K F y e) (h : scEq d e = some b) : scal x y = true ∧ decide (x = y) = b := by
  cases v <;> cases u <;> simp only [scEq, Option.some.injEq, reduceCtorEq] at h <;> subst h <;> refine ⟨rfl, ?_⟩ <;> simp
theorem od_eq {X : Cx} {G : Gam} (hK : X.K = G.K) (hu : X.A.units + 65 < cLine) (neg : Bool) {op : CmpOp} (ho : op = if neg = true then .NotEq else .Eq) : OpR X (compareOp op) (LR2 G (dEq neg)) := by
  intro pins s σ H x y v u Q I rx ry h
  obtain ⟨F, m, d1, d2, Q0, r, v1, v2, h, k⟩ := h
  unfold dEq at h
  cases e : scEq d1 d2 with
  | some b =>
    rw [e] at h
    obtain ⟨h1, h2⟩ := sc_ok v1 v2 e
    cases neg with
    | true =>
      subst ho
      refine op_ne pins s σ H x y v u Q I rx ry ⟨h1, ?_⟩
      rw [h2]
      have h' : Q0 (.bl (!b)) m := by cases b <;> exact h
      exact k _ _ _ _ _ h' (Ex.refl F) r (.bl _)
    | false =>
      subst ho
      refine op_eq pins s σ H x y v u Q I rx ry ⟨h1, ?_⟩
      rw [h2]
      have h' : Q0 (.bl b) m := by cases b <;> exact h
      exact k _ _ _ _ _ h' (Ex.refl F) r (.bl _)
  | none =>
    rw [e] at h
    cases e2 : emptyD m d1 d2 with
    | some b =>
      rw [e2] at h
      cases v1 <;> simp only [emptyD, reduceCtorEq] at e2
      cases v2 <;> simp only [emptyD, reduceCtorEq] at e2
      rename_i a c
      cases ea : m a with
      | none => rw [ea] at e2; cases e2
      | some oa =>
        cases ec : m c with
        | none => rw [ea, ec] at e2; cases oa <;> cases e2
        | some oc =>
          rw [ea, ec] at e2
          cases oa with
          | dct ks =>
            cases oc with
            | dct ls =>
              cases ls with
              | cons _ _ => cases e2
              | nil =>
                have eb : ks.isEmpty = b := Option.some.inj e2
                obtain ⟨_, ua, hua, ka, rfl, ra⟩ := r.mo a _ ea
                obtain ⟨_, uc, huc, kc, rfl, rc⟩ := r.mo c _ ec
                cases rc
                obtain rfl : v = Value.ref a := rx
                obtain rfl : u = Value.ref c := ry
                obtain ⟨_, ya, va, qa, da⟩ := (show ObjOk X.prog X.w H s.heap a (.dK ka) from I.hok a _ hua)
                obtain ⟨_, yb, vb, qb, db⟩ := (show ObjOk X.prog X.w H s.heap c (.dK []) from I.hok c _ huc)
                cases qb
                have hl : va.length = ks.length := by rw [← qa.length]; exact Paired.length ra
                have hb : (va.length == ([] : List (Key × Value)).length && true) = b := by
                  rw [Bool.and_true, ← eb, hl]
                  cases ks <;> rfl
                have hits : va.length = ([] : List (Key × Value)).length → PySem.W.KeqHits X.A.in1 s ([] : List (Key × Value)) va true := fun z => by
                  cases va with
                  | nil => exact .nil
                  | cons _ _ => cases z
                cases neg with
                | true =>
                  subst ho
                  have h' : Q0 (.bl (!b)) m := by cases b <;> exact h
                  exact PySem.W.keq_ne (knd := mixKind X.prog X.w) (r := true) ya yb da db (by omega) hits (fin_bl I (k _ _ _ _ _ h' (Ex.refl F) r (.bl _)) (by rw [hb]))
                | false =>
                  subst ho
                  have h' : Q0 (.bl b) m := by cases b <;> exact h
                  exact PySem.W.keq_eq (knd := mixKind X.prog X.w) (r := true) ya yb da db (by omega) hits (fin_bl I (k _ _ _ _ _ h' (Ex.refl F) r (.bl _)) (by rw [hb]))
            | _ => cases e2
          | _ => cases oc <;> cases e2
    | none =>
      rw [e2] at h
      obtain ⟨a, b, ha, hb, sa, sb, q⟩ := h
      have pa := asPy_ok r v1 ha
      have pb := asPy_ok r v2 hb
      cases neg with
      | true =>
        subst ho
        have q' : Q0 (.bl (!PyData.eqv a b)) m := by cases z : PyData.eqv a b <;> (rw [z] at q; exact q)
        exact op_neD (by omega) pins s σ H x y v u Q I rx ry ⟨a, b, by rw [hK]; exact pa, by rw [hK]; exact pb, sa, sb, k _ _ _ _ _ q' (Ex.refl F) r (.bl _)⟩
      | false =>
        subst ho
        have q' : Q0 (.bl (PyData.eqv a b)) m := by cases z : PyData.eqv a b <;> (rw [z] at q; exact q)
        exact op_eqD (by omega) pins s σ H x y v u Q I rx ry ⟨a, b, by rw [hK]; exact pa, by rw [hK]; exact pb, sa, sb, k _ _ _ _ _ q' (Ex.refl F) r (.bl _)⟩
end DL
namespace DL
open PySem PySem.Spec PyProof.Rows L2
section
variable {κ : Type} [DecidableEq κ]
def lookD (kvs : List (κ × DV)) (k : κ) : Option DV := match kvs with
  | [] => none
  | (j, d) :: r => if j = k then some d else lookD r k
def putD (kvs : List (κ × DV)) (k : κ) (d : DV) : List (κ × DV) := match kvs with
  | [] => [(k, d)]
  | (j, e) :: r => if j = k then (j, d) :: r else (j, e) :: putD r k d
def dropD (kvs : List (κ × DV)) (k : κ) : List (κ × DV) := kvs.filter fun kv => decide (kv.1 ≠ k)
variable {K : PySem.W.Frag} {F : Hp}
theorem KR.look {vs : List (κ × V)} {ds : List (κ × DV)} (h : KR K F vs ds) (k : κ) : (∀ d, lookD ds k = some d → ∃ v, valV vs k = some v ∧ VR K F v d) ∧ (lookD ds k = none → valV vs k = none) := by
  unfold KR at h
  induction h with
  | nil => exact ⟨fun d e => (by simp only [lookD] at e; cases e), fun _ => rfl⟩
  | @cons p q ps qs h t ih =>
    obtain ⟨h1, h2⟩ := h
    obtain ⟨j, d⟩ := q
    by_cases e : p.1 = k
    · have e' : j = k := h1.symm.trans e
      refine ⟨fun x hx => ⟨p.2, valV_pos e, ?_⟩, fun hx => ?_⟩
      · simp only [lookD, if_pos e'] at hx; cases hx; exact h2
      · simp only [lookD, if_pos e'] at hx; cases hx
    · have e' : ¬ j = k := fun z => e (h1.trans z)
      refine ⟨fun x hx => ?_, fun hx => ?_⟩
      · simp only [lookD, if_neg e'] at hx; rw [valV_neg e]; exact ih.1 x hx
      · simp only [lookD, if_neg e'] at hx; rw [valV_neg e]; exact ih.2 hx
theorem KR.isSome {vs : List (κ × V)} {ds : List (κ × DV)} (h : KR K F vs ds) (k : κ) : (valV vs k).isSome = (lookD ds k).isSome := by
  obtain ⟨h1, h2⟩ := KR.look h k
  cases e : lookD ds k with
  | none => rw [h2 e]; rfl
  | some d => obtain ⟨v, hv, _⟩ := h1 d e; rw [hv]; rfl
theorem KR.put {vs : List (κ × V)} {ds : List (κ × DV)} (h : KR K F vs ds) (hn : (vs.map (·.1)).Nodup) (k : κ) {v : V} {d : DV} (r : VR K F v d) : KR K F (putK vs k v) (putD ds k d) := by
  unfold KR at h ⊢
  induction h with
  | nil => exact .cons ⟨rfl, r⟩ .nil
  | @cons p q ps qs h t ih =>
    obtain ⟨j, e⟩ := q
    obtain ⟨h1, h2⟩ := h
    rw [List.map_cons, List.nodup_cons] at hn
    by_cases z : p.1 = k
    · have z' : j = k := h1.symm.trans z
      have hk : ∀ kv ∈ ps, ¬ kv.1 = k := fun kv hkv w => hn.1 (List.mem_map.mpr ⟨kv, hkv, by rw [w, z]⟩)
      have e1 : putK (p :: ps) k v = (p.1, v) :: ps := by
        unfold putK
        rw [List.any_cons, decide_eq_true z, Bool.true_or, if_pos rfl, List.map_cons, if_pos z]
        congr 1
        have : ∀ l : List (κ × V), (∀ kv ∈ l, ¬ kv.1 = k) → l.map (fun kv => if kv.1 = k then (kv.1, v) else kv) = l := by
          intro l
          induction l with
          | nil => intro _; rfl
          | cons a b ih2 =>
            intro hl
            rw [List.map_cons, if_neg (hl a List.mem_cons_self), ih2 fun kv hkv => hl kv (List.mem_cons_of_mem _ hkv)]
        exact this ps hk
      rw [e1]
      simp only [putD, if_pos z']
      exact .cons ⟨h1, r⟩ t
    · have z' : ¬ j = k := fun w => z (h1.trans w)
      have e1 : putK (p :: ps) k v = p :: putK ps k v := by
        unfold putK
        rw [List.any_cons, decide_eq_false z, Bool.false_or]
        by_cases w : (ps.any fun kv => decide (kv.1 = k)) = true
        · rw [if_pos w, if_pos w, List.map_cons, if_neg z]
        · rw [if_neg w, if_neg w, List.cons_append]
      rw [e1]
      simp only [putD, if_neg z']
      exact .cons ⟨h1, h2⟩ (ih hn.2)
theorem KR.drop {vs : List (κ × V)} {ds : List (κ × DV)} (h : KR K F vs ds) (k : κ) : KR K F (dropK vs k) (dropD ds k) := by
  unfold KR at h ⊢
  unfold dropK dropD
  induction h with
  | nil => exact .nil
  | @cons p q ps qs h t ih =>
    obtain ⟨h1, h2⟩ := h
    rw [List.filter_cons, List.filter_cons]
    by_cases e : p.1 = k
    · have a : ¬ decide (p.1 ≠ k) = true := by simp [e]
      have b : ¬ decide (q.1 ≠ k) = true := by simp [h1.symm.trans e]
      rw [if_neg a, if_neg b]; exact ih
    · have e' : ¬ q.1 = k := fun z => e (h1.trans z)
      have a : decide (p.1 ≠ k) = true := by simp [e]
      have b : decide (q.1 ≠ k) = true := by simp [e']
      rw [if_pos a, if_pos b]; exact .cons ⟨h1, h2⟩ ih
theorem KR.keys {vs : List (κ × V)} {ds : List (κ × DV)} (h : KR K F vs ds) : vs.map (·.1) = ds.map (·.1) := by
  unfold KR at h
  induction h with
  | nil => rfl
  | cons h t ih => rw [List.map_cons, List.map_cons, ih, h.1]
theorem KR.length {vs : List (κ × V)} {ds : List (κ × DV)} (h : KR K F vs ds) : vs.length = ds.length := Paired.length h
theorem lookD_put {kvs : List (κ × DV)} {k j : κ} {d : DV} : lookD (putD kvs k d) j = if j = k then some d else lookD kvs j := by
  induction kvs with
  | nil =>
    by_cases e : j = k
    · subst e; simp [putD, lookD]
    · have e' : ¬ k = j := fun z => e z.symm
      simp [putD, lookD, e, e']
  | cons p r ih =>
    obtain ⟨i, e⟩ := p
    by_cases z : i = k
    · subst z
      simp only [putD, if_pos]
      by_cases y : i = j
      · subst y; simp [lookD]
      · have y' : ¬ j = i := fun w => y w.symm
        simp [lookD, y, y']
    · simp only [putD, if_neg z]
      by_cases y : i = j
      · subst y; simp [lookD, z]
      · simp only [lookD, if_neg y]; exact ih
end
theorem paired_keys {κ α β : Type} {R : κ × α → κ × β → Prop} {as : List (κ × α)} {bs : List (κ × β)} (h : Paired R as bs) (k : ∀ a b, R a b → a.1 = b.1) : as.map (·.1) = bs.map (·.1) := by
  induction h with
  | nil => rfl
  | cons h t ih => rw [List.map_cons, List.map_cons, ih, k _ _ h]
/-- the keys of a dict that is tracked stand once -/
theorem dk_nodup {X : Cx} {pins : List (Addr × Obj)} {σ : L2.St} {H : Hp} {s : Shared} {a : Addr} {kvs : List (Key × V)} (I : Inv X pins σ H s) (h : H a = some (.dK kvs)) : (kvs.map (·.1)).Nodup := by
  obtain ⟨_, _, vs, rel, o, es, ep, _, _, _, hp⟩ := dk_of I.hok h
  rw [rel.keys]
  exact hp.2.2
theorem dt_nodup {X : Cx} {pins : List (Addr × Obj)} {σ : L2.St} {H : Hp} {s : Shared} {a : Addr} {kvs : List (List Key × V)} (I : Inv X pins σ H s) (h : H a = some (.dT kvs)) : (kvs.map (·.1)).Nodup := by
  obtain ⟨_, _, xs, rel, o, es, ep, _, _, _, hp⟩ := I.hok a _ h
  rw [paired_keys rel fun _ _ z => z.1]
  exact hp.2
def kD : Key → DV
  | .inl i => .int i
  | .inr x => .str x
def dK? : DV → Option Key
  | .int i => some (.inl i)
  | .str x => some (.inr x)
  | _ => none
def dKs? : List DV → Option (List Key)
  | [] => some []
  | d :: r => match dK? d, dKs? r with
    | some k, some ks => some (k :: ks)
    | _, _ => none
section
variable {K : PySem.W.Frag} {F : Hp}
theorem vr_key {v : V} {d : DV} {k : Key} (h : VR K F v d) (e : dK? d = some k) : v = kV k := by
  cases h <;> simp only [dK?, Option.some.injEq, reduceCtorEq] at e <;> subst e <;> rfl
theorem vr_keys : ∀ {vs : List V} {ds : List DV} {ks : List Key}, VRs K F vs ds → dKs? ds = some ks → vs = ks.map kV
  | _, _, _, .nil, e => by simp only [dKs?] at e; cases e; rfl
  | _, _, _, .cons (d := d) (ds := ds) h t, e => by
    simp only [dKs?] at e
    cases e1 : dK? d with
    | none => rw [e1] at e; cases e
    | some k =>
      cases e2 : dKs? ds with
      | none => rw [e1, e2] at e; cases e
      | some ks => rw [e1, e2] at e; cases e; rw [vr_key h e1, vr_keys t e2]; rfl
end
/-- what a dict of the store gives at a key: none if this is no such look -/
def dictAt (m : Sto) (x y : DV) : Option (Option DV) := match x with
  | .ref p => match m p with
    | some (.dct kvs) => (dK? y).map fun k => lookD kvs k
    | some (.lck _ _ kvs) => (dK? y).map fun k => lookD kvs k
    | some (.dcT kvs) => match y with
      | .tup ds => (dKs? ds).map fun k => lookD kvs k
      | _ => none
    | _ => none
  | _ => none
theorem dictAt_ok {G : Gam} {F H : Hp} {m : Sto} {x y : V} {d e : DV} {o : Option DV} (r : Rel G F m H) (v : VR G.K F x d) (u : VR G.K F y e) (h : dictAt m d e = some o) :
    ∃ a o', x = .ref a ∧ DGet H a y o' ∧ (∀ z, o = some z → ∃ w, o' = some w ∧ VR G.K F w z) ∧ (o = none → o' = none) ∧ o'.isSome = o.isSome := by
  cases v <;> simp only [dictAt, reduceCtorEq] at h
  rename_i p
  cases em : m p with
  | none => rw [em] at h; cases h
  | some ob =>
    rw [em] at h
    cases ob with
    | dct kvs =>
      dsimp only at h
      cases ek : dK? e with
      | none => rw [ek] at h; cases h
      | some k =>
        rw [ek] at h
        obtain ⟨_, w, hw, kv, rfl, hr⟩ := r.mo p _ em
        have eo : lookD kvs k = o := Option.some.inj h
        subst eo
        refine ⟨p, valV kv k, rfl, ?_, fun z hz => (KR.look hr k).1 z hz, fun hz => (KR.look hr k).2 hz, KR.isSome hr k⟩
        rw [vr_key u ek]
        exact DGet.k hw
    | lck o1 kv kvs =>
      dsimp only at h
      cases ek : dK? e with
      | none => rw [ek] at h; cases h
      | some k =>
        rw [ek] at h
        obtain ⟨_, w, hw, rfl, hr⟩ := r.mo p _ em
        have eo : lookD kvs k = o := Option.some.inj h
        subst eo
        refine ⟨p, valV kv k, rfl, ?_, fun z hz => (KR.look hr k).1 z hz, fun hz => (KR.look hr k).2 hz, KR.isSome hr k⟩
        rw [vr_key u ek]
        exact .inl ⟨kv, k, .inr ⟨o1, hw⟩, rfl, rfl⟩
    | dcT kvs =>
      dsimp only at h
      cases u <;> simp only [reduceCtorEq] at h
      rename_i b vs ds hb hv
      cases ek : dKs? ds with
      | none => rw [ek] at h; cases h
      | some k =>
        rw [ek] at h
        obtain ⟨_, w, hw, kv, rfl, hr⟩ := r.mo p _ em
        have eo : lookD kvs k = o := Option.some.inj h
        subst eo
        refine ⟨p, valV kv k, rfl, ?_, fun z hz => (KR.look hr k).1 z hz, fun hz => (KR.look hr k).2 hz, KR.isSome hr k⟩
        rw [vr_keys hv ek] at hb
        exact DGet.t hw (r.ex _ _ hb)
    | _ => cases h
def flatD : DV → Bool
  | .non => true | .bl _ => true | .int _ => true | .str _ => true
  | _ => false
def eqF : DV → DV → Bool
  | .non, .non => true
  | .bl a, .bl b => a == b
  | .bl a, .int b => (if a then 1 else 0) == b
  | .int a, .bl b => a == (if b then 1 else 0)
  | .int a, .int b => a == b
  | .str a, .str b => a == b
  | _, _ => false
section
variable {K : PySem.W.Frag} {F : Hp}
theorem flat_ok {v : V} {d : DV} (h : VR K F v d) (f : flatD d = true) : flatV v = true := by
  cases h <;> first | rfl | cases f
theorem flats_ok : ∀ {vs : List V} {ds : List DV}, VRs K F vs ds → ds.all flatD = true → vs.all flatV = true
  | _, _, .nil, _ => rfl
  | _, _, .cons h t, f => by
    rw [List.all_cons, Bool.and_eq_true] at f ⊢
    exact ⟨flat_ok h f.1, flats_ok t f.2⟩
theorem eqF_ok {v w : V} {d e : DV} (h : VR K F v d) (g : VR K F w e) (f : flatD d = true) (f' : flatD e = true) : eqV v w = eqF d e := by
  cases h <;> first
    | (cases g <;> first | rfl | cases f')
    | cases f
theorem any_ok {w : V} {e : DV} (g : VR K F w e) (f' : flatD e = true) : ∀ {vs : List V} {ds : List DV}, VRs K F vs ds → ds.all flatD = true → (vs.any fun y => eqV y w) = ds.any fun y => eqF y e
  | _, _, .nil, _ => rfl
  | _, _, .cons h t, f => by
    rw [List.all_cons, Bool.and_eq_true] at f
    rw [List.any_cons, List.any_cons, eqF_ok h g f.1 f', any_ok g f' t f.2]
end
/-- x in y: flat items of a list or tuple; the keys of a dict; one sign of a text -/
def dIn (neg : Bool) : D2 := fun x y m Q => match dictAt m y x with
  | some o => Q (.bl (xor neg o.isSome)) m
  | none => match asQ m y with
    | some ys => (flatD x && ys.all flatD) = true ∧ Q (.bl (xor neg (ys.any fun z => eqF z x))) m
    | none => match x, y with
      | .str w, .str z => ∃ c : Nat, w = ⟨#[c]⟩ ∧ Q (.bl (xor neg (decide (c ∈ z.cps.toList)))) m
      | _, _ => False
theorem od_in {X : Cx} {G : Gam} (hK : X.K = G.K) (hu : X.A.units + 1 < cLine) (neg : Bool) {op : CmpOp} (ho : op = if neg = true then .NotIn else .In) : OpR X (compareOp op) (LR2 G (dIn neg)) := by
  intro pins s σ H x y v u Q I rx ry h
  obtain ⟨F, m, d1, d2, Q0, r, v1, v2, h, k⟩ := h
  unfold dIn at h
  cases e : dictAt m d2 d1 with
  | some o =>
    rw [e] at h
    dsimp only at h
    obtain ⟨a, o', rfl, g, _, _, hs⟩ := dictAt_ok r v2 v1 e
    obtain rfl : u = Value.ref a := ry
    cases neg with
    | true =>
      subst ho
      have h' : Q0 (.bl (!o.isSome)) m := by cases z : o.isSome <;> (rw [z] at h; exact h)
      exact d_notIn hu I g rx fun s' I' => fin_bl I' (k _ _ _ _ _ h' (Ex.refl F) r (.bl _)) (by rw [hs])
    | false =>
      subst ho
      have h' : Q0 (.bl o.isSome) m := by cases z : o.isSome <;> (rw [z] at h; exact h)
      exact d_in hu I g rx fun s' I' => fin_bl I' (k _ _ _ _ _ h' (Ex.refl F) r (.bl _)) (by rw [hs])
  | none =>
    rw [e] at h
    dsimp only at h
    cases e2 : asQ m d2 with
    | some ys =>
      rw [e2] at h
      obtain ⟨f, q⟩ := h
      rw [Bool.and_eq_true] at f
      obtain ⟨a, vs, rfl, ha, ra⟩ := asQ_ok r v2 e2
      have ea : inV x vs = ys.any fun z => eqF z d1 := any_ok v1 f.1 ra f.2
      have go : ∀ b : Bool, Q0 (.bl (if b then !inV x vs else inV x vs)) m → Q (.bl (if b then !inV x vs else inV x vs)) H := fun b z => k _ _ _ _ _ z (Ex.refl F) r (.bl _)
      cases neg with
      | true =>
        subst ho
        refine op_notIn_seq pins s σ H _ _ v u Q I rx ry ⟨a, vs, rfl, by rw [hK]; exact ha, flat_ok v1 f.1, flats_ok ra f.2, go true ?_⟩
        rw [← ea] at q
        cases z : inV x vs <;> (rw [z] at q; exact q)
      | false =>
        subst ho
        refine op_in_seq pins s σ H _ _ v u Q I rx ry ⟨a, vs, rfl, by rw [hK]; exact ha, flat_ok v1 f.1, flats_ok ra f.2, go false ?_⟩
        rw [← ea] at q
        cases z : inV x vs <;> (rw [z] at q; exact q)
    | none =>
      rw [e2] at h
      dsimp only at h
      cases v1 <;> cases v2 <;> first
        | exact False.elim h
        | skip
      obtain ⟨c, rfl, q⟩ := h
      rename_i z
      cases neg with
      | true =>
        subst ho
        have q' : Q0 (.bl (!decide (c ∈ z.cps.toList))) m := by cases w : decide (c ∈ z.cps.toList) <;> (rw [w] at q; exact q)
        exact op_notIn_sign pins s σ H _ _ v u Q I rx ry ⟨c, z, rfl, rfl, k _ _ _ _ _ q' (Ex.refl F) r (.bl _)⟩
      | false =>
        subst ho
        have q' : Q0 (.bl (decide (c ∈ z.cps.toList))) m := by cases w : decide (c ∈ z.cps.toList) <;> (rw [w] at q; exact q)
        exact op_in_sign pins s σ H _ _ v u Q I rx ry ⟨c, z, rfl, rfl, k _ _ _ _ _ q' (Ex.refl F) r (.bl _)⟩
/-- is None, is not None -/
def dIsN (neg : Bool) : D2 := fun x y m Q => match y with
  | .non => match x with
    | .non => Q (.bl (!neg)) m
    | _ => Q (.bl neg) m
  | _ => False
theorem od_isN {X : Cx} {G : Gam} (neg : Bool) {op : CmpOp} (ho : op = if neg = true then .IsNot else .Is) : OpR X (compareOp op) (LR2 G (dIsN neg)) := by
  intro pins s σ H x y v u Q I rx ry h
  obtain ⟨F, m, d1, d2, Q0, r, v1, v2, h, k⟩ := h
  cases v2 <;> first | exact False.elim h | skip
  have key : ∀ b : Bool, Q0 (.bl b) m → Q (.bl b) H := fun b q => k _ _ _ _ _ q (Ex.refl F) r (.bl _)
  cases neg with
  | true =>
    subst ho
    refine op_notN pins s σ H _ _ v u Q I rx ry ⟨rfl, key _ ?_⟩
    cases v1 <;> exact h
  | false =>
    subst ho
    refine op_isN pins s σ H _ _ v u Q I rx ry ⟨rfl, key _ ?_⟩
    cases v1 <;> exact h
theorem plainIx_of {b : Expr} (h : ∀ lo hi st p, b ≠ .Slice lo hi st p) : PlainIx b := fun o i => by
  cases b <;> first
    | rfl
    | exact absurd rfl (h _ _ _ _)
theorem ix_dct {X : Cx} (hu : X.A.units + 1 < cLine) : IxR X (fun x y H Q => ∃ a v, x = .ref a ∧ DGet H a y (some v) ∧ Q v H) := by
  intro value slice pins s σ H x y v u Q I rx ry h hs
  obtain ⟨a, z, rfl, g, q⟩ := h
  obtain rfl : v = Value.ref a := rx
  exact tail_any (dict_typeIs I g) PySem.F.slot_dict_getitem.lookup (d_getItem hu I g ry fun w' s3 I3 rw' => ⟨z, H, I3, rw', q⟩) hs
def dIx : D2 := fun x y m Q => match dictAt m x y with
  | some o => match o with
    | some d => Q d m
    | none => False
  | none => match asQ m x with
    | some xs => match y with
      | .int i => match atI xs i with
        | some d => Q d m
        | none => False
      | _ => False
    | none => match x, y with
      | .str z, .int i => z.length ≤ sizeLine ∧ ∃ c, atI z.cps.toList i = some c ∧ Q (.str ⟨#[c]⟩) m
      | _, _ => False
theorem atI_vr {K : PySem.W.Frag} {F : Hp} {vs : List V} {ds : List DV} {i : Int} {d : DV} (h : VRs K F vs ds) (e : atI ds i = some d) : ∃ v, atI vs i = some v ∧ VR K F v d := by
  unfold atI at e ⊢
  rw [h.length]
  cases q : ixN ds.length i with
  | none => rw [q] at e; cases e
  | some j =>
    rw [q] at e
    obtain ⟨v, hv, r⟩ := h.get (i := j) e
    exact ⟨v, hv, r⟩
theorem od_ix {X : Cx} {G : Gam} (hK : X.K = G.K) (hu : X.A.units + 1 < cLine) : IxR X (LR2 G dIx) := by
  intro value slice pins s σ H x y v u Q I rx ry h hs
  obtain ⟨F, m, d1, d2, Q0, r, v1, v2, h, k⟩ := h
  unfold dIx at h
  cases e : dictAt m d1 d2 with
  | some o =>
    rw [e] at h
    cases o with
    | none => exact False.elim h
    | some d =>
      obtain ⟨a, o', rfl, g, hv, _, _⟩ := dictAt_ok r v1 v2 e
      obtain ⟨w, rfl, rw'⟩ := hv d rfl
      exact ix_dct hu value slice pins s σ H _ _ v u Q I rx ry ⟨a, w, rfl, g, k _ _ _ _ _ h (Ex.refl F) r rw'⟩ hs
  | none =>
    rw [e] at h
    dsimp only at h
    cases e2 : asQ m d1 with
    | some xs =>
      rw [e2] at h
      dsimp only at h
      cases v2 <;> first | exact False.elim h | skip
      rename_i i
      dsimp only at h
      cases e3 : atI xs i with
      | none => rw [e3] at h; exact False.elim h
      | some d =>
        rw [e3] at h
        obtain ⟨a, vs, rfl, ha, ra⟩ := asQ_ok r v1 e2
        obtain ⟨w, hw, rw'⟩ := atI_vr ra e3
        have q := k _ _ _ _ _ h (Ex.refl F) r rw'
        rcases ha with ha | ha
        · exact ix_list value slice pins s σ H _ _ v u Q I rx ry ⟨a, vs, i, w, rfl, rfl, by rw [hK]; exact ha, hw, q⟩ hs
        · exact ix_tup value slice pins s σ H _ _ v u Q I rx ry ⟨a, vs, i, w, rfl, rfl, by rw [hK]; exact ha, hw, q⟩ hs
    | none =>
      rw [e2] at h
      dsimp only at h
      cases v1 <;> cases v2 <;> first | exact False.elim h | skip
      obtain ⟨hz, c, hc, q⟩ := h
      exact ix_str value slice pins s σ H _ _ v u Q I rx ry ⟨_, _, c, rfl, rfl, hz, hc, k _ _ _ _ _ q (Ex.refl F) r (.str _)⟩ hs
theorem pd_ix {X : Cx} {G : Gam} {wa wb : DE} {a b : Expr} {pos : Pos} (hK : X.K = G.K) (hu : X.A.units + 1 < cLine) (ha : PE X a (LE G wa)) (hb : PE X b (LE G wb)) (hs : ∀ lo hi st p, b ≠ .Slice lo hi st p) : PE X (.Subscript a b pos) (LE G (wOp dIx wa wb)) :=
  PE.imp (pe_ix (od_ix hK hu) ha hb (plainIx_of hs)) fun _ _ _ h => le_op h
/-- a part of a slice -/
def wPart (w : Option DE) : Slots → Sto → (Option Int → Sto → Prop) → Prop := match w with
  | none => fun _ m Q => Q none m
  | some w => fun δ m Q => w δ m fun d m1 => match d with
    | .int i => Q (some i) m1
    | _ => False
def cutD (xs : List DV) (lo hi : Option Int) : List DV := (xs.drop (HT.sIx xs.length 0 lo)).take (HT.sIx xs.length xs.length hi - HT.sIx xs.length 0 lo)
def dSl (mu : Bool) : DV → Option Int → Option Int → Sto → DK → Prop := fun x lo hi m Q => match x with
  | .tup xs => Q (.tup (cutD xs lo hi)) m
  | .str z => z.length ≤ sizeLine ∧ Q (.str (cutS z lo hi)) m
  | x => ∃ xs, asL m x = some xs ∧ newL mu (cutD xs lo hi) m Q
def wSl (mu : Bool) (w : DE) (lo hi : Option DE) : DE := fun δ m Q => w δ m fun x m1 => wPart lo δ m1 fun l m2 => wPart hi δ m2 fun u m3 => dSl mu x l u m3 Q
def LO (G : Gam) (w : Option DE) : TO := fun σ H Q => ∃ F m δ Q0, Rel G F m H ∧ SR G.K F σ δ ∧ wPart w δ m Q0 ∧ ∀ o m' F' H', Q0 o m' → Ex F F' → Rel G F' m' H' → Q o H'
theorem po_none' {X : Cx} {G : Gam} : PO X none (LO G none) := by
  have h : PO X none tNoPart := po_none
  exact ⟨fun pins s σ H Q I q => h.run pins s σ H Q I (by obtain ⟨F, m, δ, Q0, r, s, h, k⟩ := q; exact k _ _ _ _ h (Ex.refl F) r)⟩
theorem po_some' {X : Cx} {G : Gam} {e : Expr} {w : DE} (he : PE X e (LE G w)) : PO X (some e) (LO G (some w)) := by
  have h : PO X (some e) (tPart (LE G w)) := po_some he
  refine ⟨fun pins s σ H Q I q => h.run pins s σ H Q I ?_⟩
  obtain ⟨F, m, δ, Q0, r, s, h, k⟩ := q
  refine ⟨F, m, δ, _, r, s, h, fun d m' v F' H' hd e1 r1 v1 => ?_⟩
  cases v1 <;> first | exact False.elim hd | skip
  exact ⟨_, rfl, k _ _ _ _ hd e1 r1⟩
theorem cut_ok {K : PySem.W.Frag} {F : Hp} {vs : List V} {ds : List DV} (h : VRs K F vs ds) (lo hi : Option Int) : VRs K F (cutV vs lo hi) (cutD ds lo hi) := by
  unfold cutV cutD
  rw [h.length]
  exact (h.drop _).take _
def LR3 (G : Gam) (R : DV → Option Int → Option Int → Sto → DK → Prop) : V → Option Int → Option Int → Hp → VK → Prop := fun x lo hi H Q => ∃ F m d Q0, Rel G F m H ∧ VR G.K F x d ∧ R d lo hi m Q0 ∧ Kt G F Q0 Q
theorem od_sl {X : Cx} {G : Gam} (hK : X.K = G.K) (mu : Bool) : SlR X (LR3 G (dSl mu)) := by
  intro pins s σ H x v vl vu lo hi sl Q I rx hs pl pu h
  obtain ⟨F, m, d, Q0, r, v1, h, k⟩ := h
  have viaL : (∃ xs, asL m d = some xs ∧ newL mu (cutD xs lo hi) m Q0) → ∃ T id, typeLookup (.type T) "__getitem__" = pure (some (.builtin id)) ∧ s.TypeIs v T ∧ wpAny (model X.prog X.w) X.A (getItem v (.ref sl)) (EP X pins σ Q) X.xe s := fun z => by
    obtain ⟨xs, hx, q⟩ := z
    obtain ⟨a, vs, rfl, ha, ra⟩ := asL_ok r v1 hx
    exact sl_list pins s σ H _ v vl vu lo hi sl Q I rx hs pl pu ⟨a, vs, rfl, by rw [hK]; exact ha, newL_ok r q k (cut_ok ra lo hi)⟩
  cases v1 with
  | @tup a vs ds ht hr =>
    refine sl_tupA pins s σ H _ v vl vu lo hi sl Q I rx hs pl pu ⟨a, vs, rfl, by rw [hK]; exact SqT.of (r.ex _ _ ht), fun z => ?_, fun _ => newT_ok r h k (cut_ok hr lo hi)⟩
    have e : cutD ds lo hi = ds := by
      unfold cutD
      rw [← hr.length, z.1, z.2, List.drop_zero, Nat.sub_zero, hr.length, List.take_length]
    have h' : Q0 (.tup ds) m := by rw [← e]; exact h
    exact k _ _ _ _ _ h' (Ex.refl F) r (.tup ht hr)
  | str z => exact sl_str pins s σ H _ v vl vu lo hi sl Q I rx hs pl pu ⟨z, rfl, h.1, k _ _ _ _ _ h.2 (Ex.refl F) r (.str _)⟩
  | _ => exact viaL h
theorem pd_sl {X : Cx} {G : Gam} {mu : Bool} {w : DE} {lo hi : Option DE} {e : Expr} {l u : Option Expr} {pos p2 : Pos} (hK : X.K = G.K) (he : PE X e (LE G w)) (hl : PO X l (LO G lo)) (hu : PO X u (LO G hi)) : PE X (.Subscript e (.Slice l u none p2) pos) (LE G (wSl mu w lo hi)) := by
  refine PE.imp (pe_slice (od_sl hK mu) he hl hu) fun σ H Q h => ?_
  obtain ⟨F, m, δ, Q0, r, s, h, k⟩ := h
  refine ⟨F, m, δ, _, r, s, h, fun d1 m1 x F1 H1 h1 e1 r1 v1 => ⟨F1, m1, δ, _, r1, s.mono e1, h1, fun o m2 F2 H2 h2 e2 r2 => ⟨F2, m2, δ, _, r2, s.mono (e1.trans e2), h2, fun o' m3 F3 H3 h3 e3 r3 => ?_⟩⟩⟩
  exact ⟨F3, m3, d1, Q0, r3, v1.mono (e2.trans e3), h3, k.mono ((e1.trans e2).trans e3)⟩
end DL
namespace DL
open PySem PySem.Spec PyProof.Rows L2
structure FnG (P : Program) (w : World) (K : PySem.W.Frag) (mg : Str → Option Value) (base : Heap) (CX : CXT) (k : Nat) (f : Addr) (fd : FuncData) (ps : List Str) (sp : Sp) : Prop where
  len : ∀ vs H Q E, sp vs H Q E → vs.length = ps.length
  run : ∀ (A : Around) (outer : List Env) (s : Shared) (H : Hp) (args : Args) (us : List Value) (vs : List V) (Q : VK) (E : XK), Room k A → A.guards = some [] → Env0 P w K mg base A outer s H → BindsTo s fd args (ps.zip us) → Vals vs us → sp vs H Q E →
    codeAny (model P w) A (.call (.ref f) args) (CR CX outer P w H s Q E) s
section
variable {P : Program} {w : World} {K : PySem.W.Frag} {mg : Str → Option Value} {base : Heap} {CX : CXT} {j k : Nat} {f : Addr} {fd : FuncData} {ps : List Str} {sp sp' : Sp}
theorem FnG.of (F : FnOk P w K mg base CX k f fd ps sp) : FnG P w K mg base CX k f fd ps sp := ⟨F.len, fun A outer s H args us vs Q E hr _ => F.run A outer s H args us vs Q E hr⟩
theorem FnG.mono (F : FnG P w K mg base CX j f fd ps sp) (h : j ≤ k) : FnG P w K mg base CX k f fd ps sp := ⟨F.len, fun A outer s H args us vs Q E hr => F.run A outer s H args us vs Q E (hr.mono h)⟩
theorem FnG.imp (F : FnG P w K mg base CX k f fd ps sp) (h : ∀ vs H Q E, sp' vs H Q E → sp vs H Q E) : FnG P w K mg base CX k f fd ps sp' :=
  ⟨fun vs H Q E q => F.len vs H Q E (h _ _ _ _ q), fun A outer s H args us vs Q E hr hg he hb hv hs => F.run A outer s H args us vs Q E hr hg he hb hv (h _ _ _ _ hs)⟩
end
theorem guards_make {A : Around} {C : Addr} {us : List Value} {kw : List (Str × Value)} (h : A.guards = some []) : (A.under (.builtin "type.__call__" ⟨.ref C :: us, kw⟩)).guards = some [] := by
  have e : (Code.builtin "type.__call__" ⟨.ref C :: us, kw⟩).guards = [] := rfl
  simp only [Around.under, e, h]
  rfl
section
variable {X : Cx} {CX : CXT} {k : Nat} {f C : Addr} {fd : FuncData} {ps ks : List Str} {sp : Sp} {dvs : List V} {ds : List Value} {E : XK} {x m : Str} {p pos apos : Pos} {e o : Expr} {es : List Expr} {kws : List Keyword} {ta : TE} {t tk : TA}
theorem run_fnG {pins : List (Addr × Obj)} {σ : L2.St} {H : Hp} {s : Shared} {Q : VK} {us : List Value} {vs : List V} (F : FnG X.prog X.w X.K X.mg X.base CX k f fd ps sp) (hr : Room k X.A) (hG : X.A.guards = some []) (hb : Binds X.K fd ps ds) (hd : Vals dvs ds) (hx : Passes CX X E)
    (I : Inv X pins σ H s) (r : Vals vs us) (h : sp (vs ++ dvs) H Q E) : wpAny (model X.prog X.w) X.A (call (.ref f) us) (EP X pins σ Q) X.xe s := by
  have r2 : Vals (vs ++ dvs) (us ++ ds) := r.append hd
  have hl : (us ++ ds).length = ps.length := by rw [← r2.length]; exact F.len _ _ _ _ h
  refine wpAny_call (codeAny_mono (F.run X.A X.stack s H ⟨us, []⟩ (us ++ ds) (vs ++ dvs) Q E hr hG I.env0 (hb s us I.kIn hl) r2 h) fun r s' hq => ?_)
  cases r with
  | error e => exact hx pins σ H s e s' I hq
  | ok fl =>
    cases fl with
    | ret u => exact I.after hq
    | next => exact False.elim hq
    | brk => exact False.elim hq
    | cont => exact False.elim hq
theorem pe_callG (F : FnG X.prog X.w X.K X.mg X.base CX k f fd ps sp) (hr : Room k X.A) (hG : X.A.guards = some []) (hg : Gl X x) (hm : X.mg x = some (.ref f)) (hk : PySem.W.keepIn X.K (.ref f) = true) (hb : Binds X.K fd ps ds) (hd : Vals dvs ds) (hx : Passes CX X E)
    (ha : PA X (e :: es) t) (hdb : (x == ("__debug__" : Str)) = false := by decide) (he : starEach (e :: es) X.env = (false, eval e X.env) :: starEach es X.env := by rfl) (hpl : (backTo pos (starEach es X.env)).any (·.1) = false := by rfl) :
    PE X (.Call (.Name x p) (e :: es) [] pos) (tCall sp dvs E t) := by
  refine ⟨fun pins s σ H Q I h => ?_⟩
  refine wpAny_Call_Name_kw (ld_glob I hg hm ?_ hdb)
  refine PySem.W.callWith_K (h₀ := X.base) I.ok.mod.kin hk (thn (ha.run pos pins s σ H _ I h) fun us s1 ⟨vs, H1, I1, r, q⟩ => ⟨I1.kIn, ?_⟩) he hpl
  exact run_fnG F hr hG hb hd hx I1 r q
theorem pe_callG0 (F : FnG X.prog X.w X.K X.mg X.base CX k f fd ps sp) (hr : Room k X.A) (hG : X.A.guards = some []) (hg : Gl X x) (hm : X.mg x = some (.ref f)) (hk : PySem.W.keepIn X.K (.ref f) = true) (hb : Binds X.K fd ps ds) (hd : Vals dvs ds) (hx : Passes CX X E)
    (hdb : (x == ("__debug__" : Str)) = false := by decide) : PE X (.Call (.Name x p) [] [] pos) (tCall sp dvs E tNil) := by
  refine ⟨fun pins s σ H Q I h => ?_⟩
  refine wpAny_Call_Name_kw (ld_glob I hg hm ?_ hdb)
  exact PySem.W.callWith_K0 I.kIn hk (run_fnG (us := []) F hr hG hb hd hx I .nil h)
theorem pe_methG {pl : Sem Bool} (he : PE X o ta) (c : Cls X.K C) (hm : Meth X.K C m f) (F : FnG X.prog X.w X.K X.mg X.base CX k f fd ps sp) (hr : Room k X.A) (hG : X.A.guards = some []) (hb : Binds X.K fd ps ds) (hd : Vals dvs ds) (hx : Passes CX X E) (ha : PA X (e :: es) t)
    (hst : starEach (e :: es) X.env = (false, eval e X.env) :: starEach es X.env := by rfl) (hpl : (backTo pos (starEach es X.env)).any (·.1) = false := by rfl)
    (ht : eval (.Call (.Attribute o m apos) (e :: es) [] pos) X.env = (do
      let ov ← eval o X.env
      standAt apos.atName
      let (f, first) ← holding [ov] (getMethod ov m pl)
      callWith pos f first (backTo pos (starEach (e :: es) X.env)) (backToKw pos (keywordEach [] X.env))) := by rfl) :
    PE X (.Call (.Attribute o m apos) (e :: es) [] pos) (tMeth C m sp dvs E ta t) := by
  refine ⟨fun pins s σ H Q I h => ?_⟩
  refine PySem.W.methodCall_KW (pl := pl) (thn (he.run pins s σ H _ I h) fun u s1 ⟨x, H1, I1, rx, a, dx, fs, ex, ea, l, q⟩ => ?_) ht
  subst ex
  obtain rfl : u = Value.ref a := rx
  refine getmeth_ok I1 ea c hm l ?_
  refine PySem.W.callWith_K (first := [.ref a]) (h₀ := X.base) I.ok.mod.kin hm.kp (thn (ha.run pos pins s1 σ H1 _ I1 q) fun us s2 ⟨vs, H2, I2, r, q2⟩ => ⟨I2.kIn, ?_⟩) hst hpl
  exact run_fnG (us := .ref a :: us) (vs := .ref a :: vs) F hr hG hb hd hx I2 (.cons rfl r) q2
theorem pe_methG0 {pl : Sem Bool} (he : PE X o ta) (c : Cls X.K C) (hm : Meth X.K C m f) (F : FnG X.prog X.w X.K X.mg X.base CX k f fd ps sp) (hr : Room k X.A) (hG : X.A.guards = some []) (hb : Binds X.K fd ps ds) (hd : Vals dvs ds) (hx : Passes CX X E)
    (ht : eval (.Call (.Attribute o m apos) [] [] pos) X.env = (do
      let ov ← eval o X.env
      standAt apos.atName
      let (f, first) ← holding [ov] (getMethod ov m pl)
      callWith pos f first (backTo pos (starEach [] X.env)) (backToKw pos (keywordEach [] X.env))) := by rfl) :
    PE X (.Call (.Attribute o m apos) [] [] pos) (tMeth C m sp dvs E ta tNil) := by
  refine ⟨fun pins s σ H Q I h => ?_⟩
  refine PySem.W.methodCall_KW (pl := pl) (thn (he.run pins s σ H _ I h) fun u s1 ⟨x, H1, I1, rx, a, dx, fs, ex, ea, l, q⟩ => ?_) ht
  subst ex
  obtain rfl : u = Value.ref a := rx
  refine getmeth_ok I1 ea c hm l ?_
  exact PySem.W.callWith_K0 (first := [.ref a]) I1.kIn hm.kp (run_fnG (us := [.ref a]) (vs := [.ref a]) F hr hG hb hd hx I1 (.cons rfl .nil) q)
theorem run_makeG {pins : List (Addr × Obj)} {σ : L2.St} {H : Hp} {s : Shared} {Q : VK} {us : List Value} {vs : List V} (M : Mk X.K C f) (F : FnG X.prog X.w X.K X.mg X.base CX k f fd ps sp) (hr : Room (k + 1) X.A) (hG : X.A.guards = some []) (hb : Binds X.K fd ps ds) (hd : Vals dvs ds)
    (hx : Passes CX X E) (I : Inv X pins σ H s) (r : Vals vs us)
    (h : ∀ x dx, H x = none → H dx = none → dx ≠ x → sp (.ref x :: (vs ++ dvs)) (upd (upd H dx (.own x)) x (.ins C dx [])) (fun v H2 => v = .non ∧ Q (.ref x) H2) E) :
    wpAny (model X.prog X.w) X.A (call (.ref C) us) (EP X pins σ Q) X.xe s := by
  have hq := h (s.heap.objs.size + 1) s.heap.objs.size (I.hok.fresh (Nat.le_succ _)) (I.hok.fresh (Nat.le_refl _)) (Nat.ne_of_lt (Nat.lt_succ_self _))
  have I2 := Inv.made (C := C) I
  have r2 : Vals (V.ref (s.heap.objs.size + 1) :: (vs ++ dvs)) (Value.ref (s.heap.objs.size + 1) :: (us ++ ds)) := .cons rfl (r.append hd)
  have hl : (Value.ref (s.heap.objs.size + 1) :: us ++ ds).length = ps.length := by
    have e := r2.length
    rw [F.len _ _ _ _ hq] at e
    exact e.symm
  refine wpAny_call (make_map (f := f) I.kIn M.makes M.init (beq_iff_eq.mp M.fn) (codeAny_mono (F.run _ X.stack _ _ ⟨Value.ref (s.heap.objs.size + 1) :: us, []⟩ (Value.ref (s.heap.objs.size + 1) :: (us ++ ds)) _ _ E (hr.make C us []) (guards_make hG)
    (I2.env0.make C us []) (hb _ (Value.ref (s.heap.objs.size + 1) :: us) I2.kIn hl) r2 hq) fun r s' hq' => ?_))
  cases r with
  | error e => exact hx pins σ _ _ e s' I2 hq'
  | ok fl =>
    cases fl with
    | ret u =>
      obtain ⟨v, H', I3, rv, ev, q3⟩ := I2.after hq'
      subst ev
      exact ⟨rv, ⟨V.ref (s.heap.objs.size + 1), H', I3, rfl, q3⟩⟩
    | next => exact False.elim hq'
    | brk => exact False.elim hq'
    | cont => exact False.elim hq'
theorem pe_makeG (M : Mk X.K C f) (F : FnG X.prog X.w X.K X.mg X.base CX k f fd ps sp) (hr : Room (k + 1) X.A) (hG : X.A.guards = some []) (hg : Gl X x) (hm : X.mg x = some (.ref C)) (hb : Binds X.K fd ps ds) (hd : Vals dvs ds) (hx : Passes CX X E)
    (ha : PA X (e :: es) t) (hdb : (x == ("__debug__" : Str)) = false := by decide) (he : starEach (e :: es) X.env = (false, eval e X.env) :: starEach es X.env := by rfl) (hpl : (backTo pos (starEach es X.env)).any (·.1) = false := by rfl) :
    PE X (.Call (.Name x p) (e :: es) [] pos) (tMake C sp dvs E t) := by
  refine ⟨fun pins s σ H Q I h => ?_⟩
  refine wpAny_Call_Name_kw (ld_glob I hg hm ?_ hdb)
  refine PySem.W.callWith_K (h₀ := X.base) I.ok.mod.kin M.kp (thn (ha.run pos pins s σ H _ I h) fun us s1 ⟨vs, H1, I1, r, q⟩ => ⟨I1.kIn, ?_⟩) he hpl
  exact run_makeG M F hr hG hb hd hx I1 r q
theorem pe_makeG0 (M : Mk X.K C f) (F : FnG X.prog X.w X.K X.mg X.base CX k f fd ps sp) (hr : Room (k + 1) X.A) (hG : X.A.guards = some []) (hg : Gl X x) (hm : X.mg x = some (.ref C)) (hb : Binds X.K fd ps ds) (hd : Vals dvs ds) (hx : Passes CX X E)
    (hdb : (x == ("__debug__" : Str)) = false := by decide) : PE X (.Call (.Name x p) [] [] pos) (tMake C sp dvs E tNil) := by
  refine ⟨fun pins s σ H Q I h => ?_⟩
  refine wpAny_Call_Name_kw (ld_glob I hg hm ?_ hdb)
  exact PySem.W.callWith_K0 I.kIn M.kp (run_makeG (us := []) M F hr hG hb hd hx I .nil h)
variable {g : List Value → List Value → List Value} {gV : List V → List V → List V}
theorem run_fnkG {pins : List (Addr × Obj)} {σ : L2.St} {H : Hp} {s : Shared} {Q : VK} {us ws : List Value} {vs zs : List V} (F : FnG X.prog X.w X.K X.mg X.base CX k f fd ps sp) (hr : Room k X.A) (hG : X.A.guards = some []) (hb : KBinds X.K fd ps ks g gV) (hx : Passes CX X E)
    (I : Inv X pins σ H s) (r : Vals vs us) (rz : Vals zs ws) (h : sp (gV vs zs) H Q E) : wpAny (model X.prog X.w) X.A (call (.ref f) us (ks.zip ws)) (EP X pins σ Q) X.xe s := by
  have r2 := hb.rel r rz
  have hl : (g us ws).length = ps.length := by rw [← r2.length]; exact F.len _ _ _ _ h
  refine wpAny_call (codeAny_mono (F.run X.A X.stack s H ⟨us, ks.zip ws⟩ (g us ws) (gV vs zs) Q E hr hG I.env0 (hb.to s us ws I.kIn hl) r2 h) fun r s' hq => ?_)
  cases r with
  | error e => exact hx pins σ H s e s' I hq
  | ok fl =>
    cases fl with
    | ret u => exact I.after hq
    | next => exact False.elim hq
    | brk => exact False.elim hq
    | cont => exact False.elim hq
theorem pe_callGK (F : FnG X.prog X.w X.K X.mg X.base CX k f fd ps sp) (hr : Room k X.A) (hG : X.A.guards = some []) (hg : Gl X x) (hm : X.mg x = some (.ref f)) (hk : PySem.W.keepIn X.K (.ref f) = true) (hb : KBinds X.K fd ps ks g gV) (hx : Passes CX X E)
    (ha : PA X (e :: es) t) (hkw : PK X kws tk) (hall : (backToKw pos (keywordEach kws X.env)).all (·.1.isSome) = true := by rfl) (hks : (backToKw pos (keywordEach kws X.env)).filterMap (·.1) = ks := by rfl)
    (hdb : (x == ("__debug__" : Str)) = false := by decide) (he : starEach (e :: es) X.env = (false, eval e X.env) :: starEach es X.env := by rfl)
    (hpl : ((backTo pos (starEach (e :: es) X.env)).any (·.1) || (backToKw pos (keywordEach kws X.env)).any (·.1.isNone)) = false := by rfl) :
    PE X (.Call (.Name x p) (e :: es) kws pos) (tCallK sp gV E t tk) := by
  refine ⟨fun pins s σ H Q I h => ?_⟩
  refine wpAny_Call_Name_kw (ld_glob I hg hm ?_ hdb)
  refine PySem.W.callWith_KW (h₀ := X.base) I.ok.mod.kin hk hall (thn (ha.run pos pins s σ H _ I h) fun us s1 ⟨vs, H1, I1, r, q⟩ => ?_) hpl he
  refine thn (hkw.run pos pins s1 σ H1 _ I1 q) fun ws s2 ⟨zs, H2, I2, rz, q2⟩ => ⟨I2.kIn, ?_⟩
  rw [hks]
  exact run_fnkG F hr hG hb hx I2 r rz q2
end
/-- a def by its body -/
theorem fn_ofG {CX : CXT} {P : Program} {w : World} {K : PySem.W.Frag} {mg : Str → Option Value} {base : Heap} {k : Nat} {f : Addr} {name qual : Str} {params : Arguments} {body : List Stmt} {scope : Scope} {dV kV doc pm cdv ct oc : Value} {an od : Option Addr}
    {osl : Array (Option Value)} {N ps : List Str} {sp : Sp} (lk : K.lookup f = some ⟨oc, od, .func (PySem.W.fnOf name qual params body scope dV kV doc pm an cdv ct), osl⟩) (hcd : PySem.W.codeIn K cdv qual = true) (S : FnScope N ps scope)
    (len : ∀ vs H Q E, sp vs H Q E → vs.length = ps.length)
    (hbody : ∀ (A : Around) (outer : List Env) (s : Shared) (H : Hp) (vs : List V) (Q : VK) (E : XK), Room k (A.deeper (envOfC qual scope s.heap.objs.size f cdv)) → A.guards = some [] → sp vs H Q E →
      ∃ t, PSs (cxOf CX P w K mg base N qual scope f cdv A outer s H E) body t ∧ t { nx := fun _ H' => Q .non H', rt := Q } (start N vs) H) :
    FnG P w K mg base CX (k + 1) f (PySem.W.fnOf name qual params body scope dV kV doc pm an cdv ct) ps sp := by
  refine ⟨len, fun A outer s H args us vs Q E hr hG e0 hb r hsp => ?_⟩
  have hl := len _ _ _ _ hsp
  have KX : K.In s.heap := e0.mod.kin.keeps fun b o e => (e0.bs b o e).1
  have lim : s.heap.NoLimit := e0.mod.nolimit.keeps fun b o e => (e0.bs b o e).1
  have hkind : ∀ y ∈ ps.zip us, scope.names.lookup y.1 = some .local ∨ (scope.names.lookup y.1 = some .cell ∧ ((cellsFrom (s.heap.objs.size + 1) scope.names []).lookup y.1).isSome = true) := fun ⟨n, v⟩ hy => by
    rcases S.par n (List.of_mem_zip hy).1 with q | q
    · exact .inl q
    · exact .inr ⟨q, PySem.W.cellsFrom_some _ _ _ (.inl q)⟩
  refine codeAny_call_function hr.depth (KX _ _ lk) rfl S.co S.gen rfl (PySem.W.codeRec_of KX hcd) (hb _ _ _ _ ?_)
  refine wpAny_newFunctionEnv_cells S.kind hkind fun env he s1 x => ?_
  subst he
  refine ⟨lim.keeps x.toInCall.keep, codeAny_func ?_⟩
  obtain ⟨t, ht, hq⟩ := hbody A outer s H vs Q E (hr.deeper _) hG hsp
  have I : Inv (cxOf CX P w K mg base N qual scope f cdv A outer s H E) [] (start N vs) H s1 := inv_start S hr.hd e0 hl r x
  refine wpAny_mono (ht.run [] s1 (start N vs) H _ I hq) (fun fl s' hs => ?_) fun e s' hs => hs
  have fin : ∀ {σ' : L2.St} {H' : Hp} {v : V} {u : Value}, Inv (cxOf CX P w K mg base N qual scope f cdv A outer s H E) [] σ' H' s' → RelV v u → Q v H' → CE outer P w H s Q u s' :=
    fun {σ' H' v u} J rv q => ⟨v, H', J.os, J.bare, J.base, J.hok, rv, q⟩
  cases fl with
  | ret u =>
    obtain ⟨v, σ', H', J, rv, q⟩ := hs
    exact fin J rv q
  | next =>
    obtain ⟨σ', H', J, q⟩ := hs
    exact fin (v := V.non) (u := Value.none) J rfl q
  | brk =>
    obtain ⟨_, _, _, q⟩ := hs
    exact False.elim q
  | cont =>
    obtain ⟨_, _, _, q⟩ := hs
    exact False.elim q
abbrev DSp := List DV → Sto → DK → Prop
def spL (G : Gam) (S : DSp) : Sp := fun vs H Q _ => ∃ F m ds Q0, Rel G F m H ∧ VRs G.K F vs ds ∧ S ds m Q0 ∧ Kt G F Q0 Q
/-- n arguments -/
def arD (n : Nat) (S : DSp) : DSp := fun ds m Q => ds.length = n ∧ S ds m Q
theorem spL_len {G : Gam} {S : DSp} {n : Nat} {vs : List V} {H : Hp} {Q : VK} {E : XK} (h : spL G (arD n S) vs H Q E) : vs.length = n := by
  obtain ⟨F, m, ds, Q0, _, r, ⟨e, _⟩, _⟩ := h
  rw [r.length, e]
def startD (n : Nat) (ds : List DV) : Slots := ds.map some ++ List.replicate (n - ds.length) none
theorem sr_start {K : PySem.W.Frag} {F : Hp} {N : List Str} {vs : List V} {ds : List DV} (r : VRs K F vs ds) : SR K F (start N vs) (startD N.length ds) := by
  refine ⟨by simp [L2.start, startD, r.length], fun i d h => ?_⟩
  unfold startD at h
  unfold L2.start
  by_cases hi : i < ds.length
  · rw [List.getElem?_append_left (by simpa using hi), List.getElem?_map] at h
    cases e : ds[i]? with
    | none => rw [e] at h; cases h
    | some c =>
      rw [e] at h; cases h
      obtain ⟨v, hv, rv⟩ := r.get e
      refine ⟨v, ?_, rv⟩
      rw [List.getElem?_append_left (by simp [r.length]; exact hi), List.getElem?_map, hv]; rfl
  · rw [List.getElem?_append_right (by simpa using hi), List.getElem?_replicate] at h
    split at h <;> cases h
def runD (n : Nat) (w : DS) : DSp := fun ds m Q => w { nx := fun _ m' => Q .non m', rt := Q } (startD n ds) m
theorem runD_ok {G : Gam} {N : List Str} {w : DS} {vs : List V} {H : Hp} {Q : VK} {E : XK} {n : Nat} (h : spL G (arD n (runD N.length w)) vs H Q E) : LS G w { nx := fun _ H' => Q .non H', rt := Q } (start N vs) H := by
  obtain ⟨F, m, ds, Q0, r, rv, ⟨_, h⟩, k⟩ := h
  refine ⟨F, m, startD N.length ds, _, r, sr_start rv, h, ⟨fun δ' m' σ' F' H' q e r' s' => k _ _ _ _ _ q e r' .non, k, fun _ _ _ _ _ q => False.elim q, fun _ _ _ _ _ q => False.elim q⟩⟩
/-- a def over data, by its body -/
theorem Fun.okD {P : Program} {w : World} {K : PySem.W.Frag} {mg : Str → Option Value} {base : Heap} {G : Gam} {x qual : Str} {st : Stmt} {f : Addr} {fd : FuncData} {N ps : List Str} {k : Nat} {W : DS} (F : Fun K x qual st f fd) (S : FnScope N ps (defScope st))
    (hbody : ∀ (cdv : Value) (A : Around) (outer : List Env) (s : Shared) (H : Hp) (E : XK), Room k (A.deeper (envOfC qual (defScope st) s.heap.objs.size f cdv)) → A.guards = some [] →
      PSs (cxOf CX0 P w K mg base N qual (defScope st) f cdv A outer s H E).nox (defBody st) (LS G W)) : FnG P w K mg base CX0 (k + 1) f fd ps (spL G (arD ps.length (runD N.length W))) := by
  obtain ⟨oc, od, kV, doc, pm, an, cdv, ct, osl, rfl, lk, hcd⟩ := F.ex
  exact fn_ofG lk hcd S (fun vs H Q E h => spL_len h) fun A outer s H vs Q E hr hG hsp => ⟨_, (hbody cdv A outer s H E hr hG).nox, runD_ok hsp⟩
structure DX (X : Cx) (G : Gam) (k : Nat) : Prop where
  K : X.K = G.K
  room : Room k X.A
  gd : X.A.guards = some []
  calm : X.calm = true
  pas : PassesOwn (model X.prog X.w) X.A X.env X.xe
  nd : X.N.Nodup
section
variable {X : Cx} {G : Gam} {k j : Nat} {f C : Addr} {c : Nat} {fd : FuncData} {ps ks : List Str} {S : DSp} {dvs : List V} {dds : List DV} {ds : List Value} {x m : Str} {p pos apos : Pos} {e o : Expr} {es : List Expr} {kws : List Keyword} {w : DE} {wa wb : DA}
def wNil : DA := fun _ m Q => Q [] m
def wCons (a : DE) (r : DA) : DA := fun δ m Q => a δ m fun d m1 => r δ m1 fun ds m2 => Q (d :: ds) m2
theorem la_nil {σ : L2.St} {H : Hp} {Q : List V → Hp → Prop} (h : LA G wNil σ H Q) : tNil σ H Q := by
  obtain ⟨F, m, δ, Q0, r, s, h, k⟩ := h
  exact k _ _ _ _ _ h (Ex.refl F) r .nil
theorem la_cons {σ : L2.St} {H : Hp} {Q : List V → Hp → Prop} (h : LA G (wCons w wa) σ H Q) : tCons (LE G w) (LA G wa) σ H Q := by
  obtain ⟨F, m, δ, Q0, r, s, h, k⟩ := h
  exact ⟨F, m, δ, _, r, s, h, fun d1 m1 v1 F1 H1 h1 e1 r1 v1r => ⟨F1, m1, δ, _, r1, s.mono e1, h1, fun ds m2 vs F2 H2 h2 e2 r2 v2 => k _ _ _ _ _ h2 (e1.trans e2) r2 (.cons (v1r.mono e2) v2)⟩⟩
theorem qa_nil : PA X [] (LA G wNil) := PA.imp pa_nil fun _ _ _ h => la_nil h
theorem qa_cons (ha : PE X e (LE G w)) (hr : PA X es (LA G wa)) (hs : starEach (e :: es) X.env = (false, eval e X.env) :: starEach es X.env := by rfl) : PA X (e :: es) (LA G (wCons w wa)) :=
  PA.imp (pa_cons ha hr hs) fun _ _ _ h => la_cons h
theorem qk_nil : PK X [] (LA G wNil) := PK.imp pk_nil fun _ _ _ h => la_nil h
theorem qk_cons {nm : Option Str} {kpos : Pos} (ha : PE X e (LE G w)) (hr : PK X kws (LA G wa)) : PK X (⟨nm, e, kpos⟩ :: kws) (LA G (wCons w wa)) :=
  PK.imp (pk_cons ha hr) fun _ _ _ h => la_cons h
/-- f(..) -/
def wCall (S : DSp) (dds : List DV) (t : DA) : DE := fun δ m Q => t δ m fun ds m1 => S (ds ++ dds) m1 Q
theorem le_call {σ : L2.St} {H : Hp} {Q : VK} (hdd : ∀ F, VRs G.K F dvs dds) (h : LE G (wCall S dds wa) σ H Q) : tCall (spL G S) dvs E0 (LA G wa) σ H Q := by
  obtain ⟨F, m, δ, Q0, r, s, h, k⟩ := h
  exact ⟨F, m, δ, _, r, s, h, fun ds m1 vs F1 H1 h1 e1 r1 v1 => ⟨F1, m1, _, Q0, r1, v1.append (hdd F1), h1, k.mono e1⟩⟩
theorem qe_call (F : FnG X.prog X.w X.K X.mg X.base CX0 k f fd ps (spL G S)) (dx : DX X G j) (hj : k ≤ j) (hg : Gl X x) (hm : X.mg x = some (.ref f)) (hk : PySem.W.keepIn X.K (.ref f) = true) (hb : Binds X.K fd ps ds) (hd : Vals dvs ds) (hdd : ∀ F, VRs G.K F dvs dds)
    (ha : PA X (e :: es) (LA G wa)) (hdb : (x == ("__debug__" : Str)) = false := by decide) (he : starEach (e :: es) X.env = (false, eval e X.env) :: starEach es X.env := by rfl) (hpl : (backTo pos (starEach es X.env)).any (·.1) = false := by rfl) :
    PE X (.Call (.Name x p) (e :: es) [] pos) (LE G (wCall S dds wa)) :=
  PE.imp (pe_callG F (dx.room.mono hj) dx.gd hg hm hk hb hd pass0 ha hdb he hpl) fun _ _ _ h => le_call hdd h
theorem qe_call0 (F : FnG X.prog X.w X.K X.mg X.base CX0 k f fd ps (spL G S)) (dx : DX X G j) (hj : k ≤ j) (hg : Gl X x) (hm : X.mg x = some (.ref f)) (hk : PySem.W.keepIn X.K (.ref f) = true) (hb : Binds X.K fd ps ds) (hd : Vals dvs ds) (hdd : ∀ F, VRs G.K F dvs dds)
    (hdb : (x == ("__debug__" : Str)) = false := by decide) : PE X (.Call (.Name x p) [] [] pos) (LE G (wCall S dds wNil)) :=
  PE.imp (pe_callG0 F (dx.room.mono hj) dx.gd hg hm hk hb hd pass0 hdb) fun σ H Q h => by
    obtain ⟨F, m, δ, Q0, r, s, h, k⟩ := h
    exact ⟨F, m, dds, Q0, r, hdd F, h, k⟩
/-- f(.., k = ..): gD tells where the values go -/
def wCallK (S : DSp) (gD : List DV → List DV → List DV) (t tk : DA) : DE := fun δ m Q => t δ m fun ds m1 => tk δ m1 fun es m2 => S (gD ds es) m2 Q
theorem qe_callK {g : List Value → List Value → List Value} {gV : List V → List V → List V} {gD : List DV → List DV → List DV} (F : FnG X.prog X.w X.K X.mg X.base CX0 k f fd ps (spL G S)) (dx : DX X G j) (hj : k ≤ j) (hg : Gl X x) (hm : X.mg x = some (.ref f)) (hk : PySem.W.keepIn X.K (.ref f) = true) (hb : KBinds X.K fd ps ks g gV)
    (hgd : ∀ F vs ds ws es, VRs G.K F vs ds → VRs G.K F ws es → VRs G.K F (gV vs ws) (gD ds es))
    (ha : PA X (e :: es) (LA G wa)) (hkw : PK X kws (LA G wb)) (hall : (backToKw pos (keywordEach kws X.env)).all (·.1.isSome) = true := by rfl) (hks : (backToKw pos (keywordEach kws X.env)).filterMap (·.1) = ks := by rfl)
    (hdb : (x == ("__debug__" : Str)) = false := by decide) (he : starEach (e :: es) X.env = (false, eval e X.env) :: starEach es X.env := by rfl)
    (hpl : ((backTo pos (starEach (e :: es) X.env)).any (·.1) || (backToKw pos (keywordEach kws X.env)).any (·.1.isNone)) = false := by rfl) :
    PE X (.Call (.Name x p) (e :: es) kws pos) (LE G (wCallK S gD wa wb)) :=
  PE.imp (pe_callGK F (dx.room.mono hj) dx.gd hg hm hk hb pass0 ha hkw hall hks hdb he hpl) fun σ H Q h => by
    obtain ⟨F, m, δ, Q0, r, s, h, k⟩ := h
    exact ⟨F, m, δ, _, r, s, h, fun ds m1 vs F1 H1 h1 e1 r1 v1 => ⟨F1, m1, δ, _, r1, s.mono e1, h1, fun es m2 ws F2 H2 h2 e2 r2 v2 => ⟨F2, m2, _, Q0, r2, hgd _ _ _ _ _ (v1.mono e2) v2, h2, k.mono (e1.trans e2)⟩⟩⟩
/-- o.m(..) of an instance of class c -/
def hasF (m : Sto) (c : Nat) (d : DV) : Prop := match d with
  | .ref p => match m p with
    | some (.ins c' _) => c' = c
    | _ => False
  | _ => False
theorem hasF_ok {F : Hp} {mm : Sto} {v : V} {d : DV} (h : VR G.K F v d) (hf : hasF mm c d) : ∃ a fs, v = .ref a ∧ d = .ref a ∧ mm a = some (.ins c fs) := by
  cases h <;> first | exact False.elim hf | skip
  rename_i a
  unfold hasF at hf
  cases em : mm a with
  | none => simp only [em] at hf
  | some ob =>
    simp only [em] at hf
    cases ob <;> first | exact False.elim hf | skip
    rename_i c' fs
    have hf : c' = c := hf
    subst hf
    exact ⟨a, fs, rfl, rfl, em⟩
def wMeth (c : Nat) (S : DSp) (dds : List DV) (w : DE) (t : DA) : DE := fun δ m Q => w δ m fun x m1 => hasF m1 c x ∧ t δ m1 fun ds m2 => S (x :: (ds ++ dds)) m2 Q
theorem lookup_fr {F : Hp} {fv : List (Str × V)} {fs : List (Nat × DV)} {mm : Str} (h : FR G F fv fs) (hn : ∀ i, G.fld i ≠ mm) : fv.lookup mm = none := by
  unfold FR at h
  induction h with
  | nil => rfl
  | @cons a b as bs h t ih =>
    obtain ⟨n, v⟩ := a
    have e : n = G.fld b.1 := h.1
    rw [List.lookup_cons]
    have hb : (mm == n) = false := by
      rw [e]; exact beq_eq_false_iff_ne.mpr fun q => hn b.1 q.symm
    rw [hb]; exact ih
theorem le_meth {σ : L2.St} {H : Hp} {Q : VK} (hC : G.cls c = C) (hn : ∀ i, G.fld i ≠ m) (hdd : ∀ F, VRs G.K F dvs dds) (h : LE G (wMeth c S dds w wa) σ H Q) : tMeth C m (spL G S) dvs E0 (LE G w) (LA G wa) σ H Q := by
  obtain ⟨F, mm, δ, Q0, r, s, h, k⟩ := h
  refine ⟨F, mm, δ, _, r, s, h, fun d m1 v F1 H1 ⟨hf, h1⟩ e1 r1 v1 => ?_⟩
  obtain ⟨a, fs, rfl, rfl, em⟩ := hasF_ok v1 hf
  obtain ⟨_, u, hu, dx, fv, rfl, hfr⟩ := r1.mo a _ em
  refine ⟨a, dx, fv, rfl, by rw [← hC]; exact hu, lookup_fr hfr hn, F1, m1, δ, _, r1, s.mono e1, h1, fun ds m2 vs F2 H2 h2 e2 r2 v2 => ?_⟩
  exact ⟨F2, m2, _, Q0, r2, .cons (.ref a) (v2.append (hdd F2)), h2, k.mono (e1.trans e2)⟩
theorem qe_meth {pl : Sem Bool} (he : PE X o (LE G w)) (cl : Cls X.K C) (hC : G.cls c = C) (hn : ∀ i, G.fld i ≠ m) (hm : Meth X.K C m f) (F : FnG X.prog X.w X.K X.mg X.base CX0 k f fd ps (spL G S)) (dx : DX X G j) (hj : k ≤ j) (hb : Binds X.K fd ps ds) (hd : Vals dvs ds) (hdd : ∀ F, VRs G.K F dvs dds)
    (ha : PA X (e :: es) (LA G wa)) (hst : starEach (e :: es) X.env = (false, eval e X.env) :: starEach es X.env := by rfl) (hpl : (backTo pos (starEach es X.env)).any (·.1) = false := by rfl)
    (ht : eval (.Call (.Attribute o m apos) (e :: es) [] pos) X.env = (do
      let ov ← eval o X.env
      standAt apos.atName
      let (f, first) ← holding [ov] (getMethod ov m pl)
      callWith pos f first (backTo pos (starEach (e :: es) X.env)) (backToKw pos (keywordEach [] X.env))) := by rfl) :
    PE X (.Call (.Attribute o m apos) (e :: es) [] pos) (LE G (wMeth c S dds w wa)) :=
  PE.imp (pe_methG (pl := pl) he cl hm F (dx.room.mono hj) dx.gd hb hd pass0 ha hst hpl ht) fun _ _ _ h => le_meth hC hn hdd h
theorem qe_meth0 {pl : Sem Bool} (he : PE X o (LE G w)) (cl : Cls X.K C) (hC : G.cls c = C) (hn : ∀ i, G.fld i ≠ m) (hm : Meth X.K C m f) (F : FnG X.prog X.w X.K X.mg X.base CX0 k f fd ps (spL G S)) (dx : DX X G j) (hj : k ≤ j) (hb : Binds X.K fd ps ds) (hd : Vals dvs ds) (hdd : ∀ F, VRs G.K F dvs dds)
    (ht : eval (.Call (.Attribute o m apos) [] [] pos) X.env = (do
      let ov ← eval o X.env
      standAt apos.atName
      let (f, first) ← holding [ov] (getMethod ov m pl)
      callWith pos f first (backTo pos (starEach [] X.env)) (backToKw pos (keywordEach [] X.env))) := by rfl) :
    PE X (.Call (.Attribute o m apos) [] [] pos) (LE G (wMeth c S dds w wNil)) :=
  PE.imp (pe_methG0 (pl := pl) he cl hm F (dx.room.mono hj) dx.gd hb hd pass0 ht) fun σ H Q h => by
    obtain ⟨a, b, c, d, e⟩ := le_meth hC hn hdd h
    exact ⟨a, b, c, d, e.1, e.2.1, e.2.2.1, fun d m v F1 H1 h1 e1 r1 v1 => by
      obtain ⟨a1, dx1, fs1, q1, q2, q3, q4⟩ := e.2.2.2 d m v F1 H1 h1 e1 r1 v1
      exact ⟨a1, dx1, fs1, q1, q2, q3, la_nil q4⟩⟩
/-- C(..) -/
def wMake (c : Nat) (S : DSp) (dds : List DV) (t : DA) : DE := fun δ m Q => t δ m fun ds m1 => ∀ x, m1 x = none → S (.ref x :: (ds ++ dds)) (put m1 x (.ins c [])) fun v m2 => v = .non ∧ Q (.ref x) m2
theorem make_ok {F : Hp} {mm : Sto} {H : Hp} {vs : List V} {dd : List DV} {Q0 : DK} {Q : VK} (hC : G.cls c = C) (r : Rel G F mm H) (v : VRs G.K F vs dd) (h : ∀ x, mm x = none → S (.ref x :: dd) (put mm x (.ins c [])) fun v m2 => v = .non ∧ Q0 (.ref x) m2) (k : Kt G F Q0 Q) :
    ∀ x dx, H x = none → H dx = none → dx ≠ x → spL G S (.ref x :: vs) (upd (upd H dx (.own x)) x (.ins C dx [])) (fun v H2 => v = .non ∧ Q (.ref x) H2) E0 := fun x dx hx hdx ne => by
  have r1 : Rel G F mm (upd H dx (.own x)) := r.grow (Ex.new hdx)
  have r2 : Rel G F (put mm x (.ins c [])) (upd (upd H dx (.own x)) x (.ins C dx [])) := r1.newM (by rw [upd_ne (fun z => ne z.symm)]; exact hx) ⟨dx, [], by rw [hC], .nil⟩
  exact ⟨F, _, _, _, r2, .cons (.ref x) v, h x (r.freeM hx), fun d m' v F' H' ⟨q1, q2⟩ e' r' v' => by subst q1; cases v'; exact ⟨rfl, k _ _ _ _ _ q2 e' r' (.ref x)⟩⟩
theorem qe_make (M : Mk X.K C f) (hC : G.cls c = C) (F : FnG X.prog X.w X.K X.mg X.base CX0 k f fd ps (spL G S)) (dx : DX X G j) (hj : k + 1 ≤ j) (hg : Gl X x) (hm : X.mg x = some (.ref C)) (hb : Binds X.K fd ps ds) (hd : Vals dvs ds) (hdd : ∀ F, VRs G.K F dvs dds)
    (ha : PA X (e :: es) (LA G wa)) (hdb : (x == ("__debug__" : Str)) = false := by decide) (he : starEach (e :: es) X.env = (false, eval e X.env) :: starEach es X.env := by rfl) (hpl : (backTo pos (starEach es X.env)).any (·.1) = false := by rfl) :
    PE X (.Call (.Name x p) (e :: es) [] pos) (LE G (wMake c S dds wa)) :=
  PE.imp (pe_makeG M F (dx.room.mono hj) dx.gd hg hm hb hd pass0 ha hdb he hpl) fun σ H Q h => by
    obtain ⟨F, mm, δ, Q0, r, s, h, k⟩ := h
    exact ⟨F, mm, δ, _, r, s, h, fun ds m1 vs F1 H1 h1 e1 r1 v1 => make_ok hC r1 (v1.append (hdd F1)) h1 (k.mono e1)⟩
theorem qe_make0 (M : Mk X.K C f) (hC : G.cls c = C) (F : FnG X.prog X.w X.K X.mg X.base CX0 k f fd ps (spL G S)) (dx : DX X G j) (hj : k + 1 ≤ j) (hg : Gl X x) (hm : X.mg x = some (.ref C)) (hb : Binds X.K fd ps ds) (hd : Vals dvs ds) (hdd : ∀ F, VRs G.K F dvs dds)
    (hdb : (x == ("__debug__" : Str)) = false := by decide) : PE X (.Call (.Name x p) [] [] pos) (LE G (wMake c S dds wNil)) :=
  PE.imp (pe_makeG0 M F (dx.room.mono hj) dx.gd hg hm hb hd pass0 hdb) fun σ H Q h => by
    obtain ⟨F, mm, δ, Q0, r, s, h, k⟩ := h
    exact make_ok hC r (hdd F) h k
end
end DL
namespace DL
open PySem PySem.Spec PyProof.Rows L2
theorem DX.u65 {X : Cx} {G : Gam} {k : Nat} (d : DX X G k) : X.A.units + 65 < cLine := by
  have := d.room.un
  omega
theorem DX.u1 {X : Cx} {G : Gam} {k : Nat} (d : DX X G k) : X.A.units + 1 < cLine := by
  have := d.room.un
  omega
theorem DX.u0 {X : Cx} {G : Gam} {k : Nat} (d : DX X G k) : X.A.units < cLine := by
  have := d.room.un
  omega
section
variable {X : Cx} {G : Gam} {k : Nat} {a b e : Expr} {es : List Expr} {pos : Pos} {x : Str} {w wa wb : DE} {wt wu : DT} {wl : DA}
def wVar (i : Nat) : DE := fun δ m Q => match δ[i]? with
  | some (some d) => Q d m
  | _ => False
theorem qe_var {i : Nat} (hN : X.N[i]? = some x) (hv : Vis X.env.scope x) (hd : (x == ("__debug__" : Str)) = false := by decide) (hcd : (x == ("__classdict__" : Str)) = false := by decide) : PE X (.Name x pos) (LE G (wVar i)) :=
  PE.imp (pe_var hN hv hd hcd) fun σ H Q h => by
    obtain ⟨F, m, δ, Q0, r, s, h, k⟩ := h
    unfold wVar at h
    cases e : δ[i]? with
    | none => rw [e] at h; exact False.elim h
    | some o =>
      rw [e] at h
      cases o with
      | none => exact False.elim h
      | some d =>
        obtain ⟨v, hv, rv⟩ := s.at_ i d e
        exact ⟨v, hv, k _ _ _ _ _ h (Ex.refl F) r rv⟩
/-- a list of the store becomes data -/
def frzL (d : DV) (m : Sto) (Q : DK) : Prop := match d with
  | .ref p => match m p with
    | some (.lst xs) => Q (.lst xs) (rmv m p)
    | _ => Q d m
  | _ => Q d m
theorem frz_ok {F H : Hp} {m : Sto} {v : V} {d : DV} {Q0 : DK} {Q : VK} (r : Rel G F m H) (rv : VR G.K F v d) (h : frzL d m Q0) (k : Kt G F Q0 Q) : Q v H := by
  have pl : Q0 d m → Q v H := fun h => k _ _ _ _ _ h (Ex.refl F) r rv
  cases rv <;> first | exact pl h | skip
  rename_i a
  unfold frzL at h
  dsimp only at h
  cases e : m a with
  | none => rw [e] at h; exact pl h
  | some o =>
    rw [e] at h
    cases o <;> first | exact pl h | skip
    rename_i xs
    obtain ⟨hn, u, hu, vs, rfl, hr⟩ := r.mo a _ e
    have r' := r.freeze e hu
    exact k _ _ _ _ _ h (Ex.new hn) r' (.lst (.inl upd_same) (hr.mono (Ex.new hn)))
def wVarZ (i : Nat) : DE := fun δ m Q => match δ[i]? with
  | some (some d) => frzL d m Q
  | _ => False
theorem qe_varZ {i : Nat} (hN : X.N[i]? = some x) (hv : Vis X.env.scope x) (hd : (x == ("__debug__" : Str)) = false := by decide) (hcd : (x == ("__classdict__" : Str)) = false := by decide) : PE X (.Name x pos) (LE G (wVarZ i)) :=
  PE.imp (pe_var hN hv hd hcd) fun σ H Q h => by
    obtain ⟨F, m, δ, Q0, r, s, h, k⟩ := h
    unfold wVarZ at h
    cases e : δ[i]? with
    | none => rw [e] at h; exact False.elim h
    | some o =>
      rw [e] at h
      cases o with
      | none => exact False.elim h
      | some d =>
        obtain ⟨v, hv, rv⟩ := s.at_ i d e
        exact ⟨v, hv, frz_ok r rv h k⟩
def wC (d : DV) : DE := fun _ m Q => Q d m
theorem le_c {v : V} {d : DV} (hv : ∀ F, VR G.K F v d) {σ : L2.St} {H : Hp} {Q : VK} (h : LE G (wC d) σ H Q) : tC v σ H Q := by
  obtain ⟨F, m, δ, Q0, r, s, h, k⟩ := h
  exact k _ _ _ _ _ h (Ex.refl F) r (hv F)
theorem qe_int {i j} : PE X (.Constant (.int i) j pos) (LE G (wC (.int i))) := PE.imp pe_int fun _ _ _ h => le_c (fun _ => .int i) h
theorem qe_bl {i j} : PE X (.Constant (.bool i) j pos) (LE G (wC (.bl i))) := PE.imp pe_bl fun _ _ _ h => le_c (fun _ => .bl i) h
theorem qe_non {j} : PE X (.Constant .none j pos) (LE G (wC .non)) := PE.imp pe_non fun _ _ _ h => le_c (fun _ => .non) h
theorem qe_str {y : Str} {j} : PE X (.Constant (.str y) j pos) (LE G (wC (.str y))) := PE.imp pe_str fun _ _ _ h => le_c (fun _ => .str y) h
theorem qe_glob {v : V} {u : Value} {d : DV} (hg : Gl X x) (hm : X.mg x = some u) (r : RelV v u) (hv : ∀ F, VR G.K F v d) (hd : (x == ("__debug__" : Str)) = false := by decide) : PE X (.Name x pos) (LE G (wC d)) :=
  PE.imp (pe_glob hg hm r hd) fun _ _ _ h => le_c hv h
def wTup (t : DA) : DE := fun δ m Q => t δ m fun ds m1 => ds.length ≤ sizeLine ∧ Q (.tup ds) m1
theorem qe_tup {x1} (h : PA X es (LA G wl)) : PE X (.Tuple es x1 pos) (LE G (wTup wl)) :=
  PE.imp (pe_tup h) fun σ H Q h => by
    obtain ⟨F, m, δ, Q0, r, s, h, k⟩ := h
    exact ⟨F, m, δ, _, r, s, h, fun ds m1 vs F1 H1 ⟨h1, h2⟩ e1 r1 v1 => ⟨by rw [v1.length]; exact h1, newT_ok r1 h2 (k.mono e1) v1⟩⟩
def wLst (mu : Bool) (t : DA) : DE := fun δ m Q => t δ m fun ds m1 => ds.length ≤ sizeLine ∧ newL mu ds m1 Q
theorem qe_lst (mu : Bool) (h : PA X es (LA G wl)) : PE X (.List es pos) (LE G (wLst mu wl)) :=
  PE.imp (pe_lst h) fun σ H Q h => by
    obtain ⟨F, m, δ, Q0, r, s, h, k⟩ := h
    exact ⟨F, m, δ, _, r, s, h, fun ds m1 vs F1 H1 ⟨h1, h2⟩ e1 r1 v1 => ⟨by rw [v1.length]; exact h1, newL_ok r1 h2 (k.mono e1) v1⟩⟩
def wNeg (w : DE) : DE := fun δ m Q => w δ m fun d m1 => match d with
  | .int i => Q (.int (-i)) m1
  | _ => False
theorem qe_neg (he : PE X e (LE G w)) : PE X (.UnaryOp .USub e pos) (LE G (wNeg w)) :=
  PE.imp (pe_un un_neg he) fun σ H Q h => by
    obtain ⟨F, m, δ, Q0, r, s, h, k⟩ := h
    refine ⟨F, m, δ, _, r, s, h, fun d m1 v F1 H1 h1 e1 r1 v1 => ?_⟩
    cases v1 <;> first | exact False.elim h1 | skip
    exact ⟨_, rfl, k _ _ _ _ _ h1 e1 r1 (.int _)⟩
/-- the truth of a value -/
def truD (m : Sto) (d : DV) (Q : Bool → Prop) : Prop := match d with
  | .non => Q false
  | .bl b => Q b
  | .int i => Q (i != 0)
  | .str y => y.length ≤ sizeLine ∧ Q ((y.length : Int) != 0)
  | .lst xs => Q (!xs.isEmpty)
  | .tup xs => Q (!xs.isEmpty)
  | .ktup xs => Q (!xs.isEmpty)
  | .klst xs => Q (!xs.isEmpty)
  | .ref p => match m p with
    | some (.lst xs) => Q (!xs.isEmpty)
    | some (.dct kvs) => Q (!kvs.isEmpty)
    | _ => False
theorem isEmpty_vrs {K : PySem.W.Frag} {F : Hp} {vs : List V} {ds : List DV} (h : VRs K F vs ds) : vs.isEmpty = ds.isEmpty := by cases h <;> rfl
theorem tru_vr {F H : Hp} {m : Sto} {v : V} {d : DV} {Q : Bool → Prop} (r : Rel G F m H) (rv : VR G.K F v d) (h : truD m d Q) : ∃ b, TruV G.K v H b ∧ Q b := by
  cases rv with
  | non => exact ⟨_, rfl, h⟩
  | bl b => exact ⟨_, rfl, h⟩
  | int i => exact ⟨_, rfl, h⟩
  | str y => exact ⟨_, ⟨h.1, rfl⟩, h.2⟩
  | lst hs hr => exact ⟨_, .inl ⟨_, .inl (r.ex.rd hs), rfl⟩, by rw [isEmpty_vrs hr]; exact h⟩
  | tup hs hr => exact ⟨_, .inr (.inl ⟨_, SqT.of (r.ex _ _ hs), rfl⟩), by rw [isEmpty_vrs hr]; exact h⟩
  | ktup hs hr => exact ⟨_, .inr (.inl ⟨_, Ex.sqT ex_none hs, rfl⟩), by rw [isEmpty_vrs hr]; exact h⟩
  | klst hs hr => exact ⟨_, .inl ⟨_, Ex.sqL ex_none hs, rfl⟩, by rw [isEmpty_vrs hr]; exact h⟩
  | ref a =>
    unfold truD at h
    dsimp only at h
    cases e : m a with
    | none => rw [e] at h; exact False.elim h
    | some o =>
      rw [e] at h
      cases o <;> first | exact False.elim h | skip
      · obtain ⟨_, u, hu, vs, rfl, hr⟩ := r.mo a _ e
        exact ⟨_, .inl ⟨_, SqL.of hu, rfl⟩, by rw [isEmpty_vrs hr]; exact h⟩
      · rename_i kvs
        obtain ⟨_, u, hu, kv, rfl, hr⟩ := r.mo a _ e
        have hh : kv.isEmpty = kvs.isEmpty := by
          unfold KR at hr
          cases hr <;> rfl
        exact ⟨_, .inr (.inr ⟨_, hu, rfl⟩), by rw [hh]; exact h⟩
def wTru (w : DE) : DT := fun δ m Q => w δ m fun d m1 => truD m1 d fun b => Q b m1
theorem qt_truth (hK : X.K = G.K) (ha : PE X a (LE G w)) (he : ∀ whole, isTrue a X.env whole = (do let v ← whole; standAt a.pos; holding [v] (truthy v)) := by intro _; rfl) : PT X a (LT G (wTru w)) :=
  PT.imp (pt_truth ha he) fun σ H Q h => by
    obtain ⟨F, m, δ, Q0, r, s, h, k⟩ := h
    refine ⟨F, m, δ, _, r, s, h, fun d m1 v F1 H1 h1 e1 r1 v1 => ?_⟩
    obtain ⟨b, t, q⟩ := tru_vr r1 v1 h1
    exact ⟨b, by rw [hK]; exact t, k _ _ _ _ q e1 r1⟩
/-- the truth of a bool -/
def wBl (w : DE) : DT := fun δ m Q => w δ m fun d m1 => match d with
  | .bl b => Q b m1
  | _ => False
theorem lt_bl {σ : L2.St} {H : Hp} {Q : Bool → Hp → Prop} (h : LT G (wBl w) σ H Q) : tTest (LE G w) σ H Q := by
  obtain ⟨F, m, δ, Q0, r, s, h, k⟩ := h
  refine ⟨F, m, δ, _, r, s, h, fun d m1 v F1 H1 h1 e1 r1 v1 => ?_⟩
  cases v1 <;> first | exact False.elim h1 | skip
  exact ⟨_, rfl, k _ _ _ _ h1 e1 r1⟩
theorem qt_cmp {op : CmpOp} {R : D2} (ho : OpR X (compareOp op) (LR2 G R)) (ha : PE X a (LE G wa)) (hb : PE X b (LE G wb)) (hm : behindInMarks op b = false) : PT X (.Compare a [op] [b] pos) (LT G (wBl (wOp R wa wb))) :=
  PT.imp (pt_cmpR ho ha hb hm) fun σ H Q h => by
    obtain ⟨F, m, δ, Q0, r, s, h, k⟩ := lt_bl h
    exact le_op ⟨F, m, δ, Q0, r, s, h, k⟩
/-- x op y op' z -/
def wChain (R R' : D2) (wa wb wc : DE) : DE := fun δ m Q => wa δ m fun x m1 => wb δ m1 fun y m2 => R x y m2 fun z m3 => match z with
  | .bl true => wc δ m3 fun u m4 => R' y u m4 Q
  | .bl false => Q (.bl false) m3
  | _ => False
theorem le_chain {R R' : D2} {wc : DE} {σ : L2.St} {H : Hp} {Q : VK} (h : LE G (wChain R R' wa wb wc) σ H Q) : tChain (LR2 G R) (LR2 G R') (LE G wa) (LE G wb) (LE G wc) σ H Q := by
  obtain ⟨F, m, δ, Q0, r, s, h, k⟩ := h
  refine ⟨F, m, δ, _, r, s, h, fun d1 m1 v1 F1 H1 h1 e1 r1 q1 => ⟨F1, m1, δ, _, r1, s.mono e1, h1, fun d2 m2 v2 F2 H2 h2 e2 r2 q2 => ⟨F2, m2, d1, d2, _, r2, q1.mono e2, q2, h2, fun d3 m3 v3 F3 H3 h3 e3 r3 q3 => ?_⟩⟩⟩
  cases q3 <;> first | exact False.elim h3 | skip
  rename_i b
  refine ⟨b, rfl, ?_⟩
  cases b with
  | true =>
    rw [if_pos rfl]
    exact ⟨F3, m3, δ, _, r3, s.mono ((e1.trans e2).trans e3), h3, fun d4 m4 v4 F4 H4 h4 e4 r4 q4 => ⟨F4, m4, d2, d4, Q0, r4, q2.mono (e3.trans e4), q4, h4, k.mono (((e1.trans e2).trans e3).trans e4)⟩⟩
  | false =>
    rw [if_neg Bool.false_ne_true]
    exact k _ _ _ _ _ h3 ((e1.trans e2).trans e3) r3 (.bl false)
theorem qe_chain {op op' : CmpOp} {R R' : D2} {c : Expr} {wc : DE} (ho : OpR X (compareOp op) (LR2 G R)) (ho' : OpR X (compareOp op') (LR2 G R')) (ha : PE X a (LE G wa)) (hb : PE X b (LE G wb)) (hc : PE X c (LE G wc)) (hm : lastMarks [op, op'] [b, c] = false := by with_unfolding_all rfl) :
    PE X (.Compare a [op, op'] [b, c] pos) (LE G (wChain R R' wa wb wc)) := PE.imp (pe_chain ho ho' ha hb hc hm) fun _ _ _ h => le_chain h
theorem qt_chain {op op' : CmpOp} {R R' : D2} {c : Expr} {wc : DE} (ho : OpR X (compareOp op) (LR2 G R)) (ho' : OpR X (compareOp op') (LR2 G R')) (ha : PE X a (LE G wa)) (hb : PE X b (LE G wb)) (hc : PE X c (LE G wc)) (hm : lastMarks [op, op'] [b, c] = false := by with_unfolding_all rfl) :
    PT X (.Compare a [op, op'] [b, c] pos) (LT G (wBl (wChain R R' wa wb wc))) := PT.imp (pt_chain ho ho' ha hb hc hm) fun σ H Q h => by
    obtain ⟨F, m, δ, Q0, r, s, h, k⟩ := lt_bl h
    exact le_chain ⟨F, m, δ, Q0, r, s, h, k⟩
/-- and, or, not as tests -/
def wAndT (t u : DT) : DT := fun δ m Q => t δ m fun b m1 => if b = true then u δ m1 Q else Q false m1
def wOrT (t u : DT) : DT := fun δ m Q => t δ m fun b m1 => if b = true then Q true m1 else u δ m1 Q
def wNotT (t : DT) : DT := fun δ m Q => t δ m fun b m1 => Q (!b) m1
theorem qw_and1 (ha : PT X a (LT G wt)) : PW X (.BoolOp .And [a] pos) (LT G wt) := pw_and1 ha
theorem qw_or1 (ha : PT X a (LT G wt)) : PW X (.BoolOp .Or [a] pos) (LT G wt) := pw_or1 ha
theorem qw_and {rest : List Expr} (ha : PT X a (LT G wt)) (hb : PW X (.BoolOp .And (b :: rest) pos) (LT G wu)) : PW X (.BoolOp .And (a :: b :: rest) pos) (LT G (wAndT wt wu)) :=
  PW.imp (pw_and ha hb) fun σ H Q h => by
    obtain ⟨F, m, δ, Q0, r, s, h, k⟩ := h
    refine ⟨F, m, δ, _, r, s, h, fun c m1 F1 H1 h1 e1 r1 => ?_⟩
    cases c with
    | true => exact ⟨F1, m1, δ, Q0, r1, s.mono e1, h1, k.mono e1⟩
    | false => exact k _ _ _ _ h1 e1 r1
theorem qw_or {rest : List Expr} (ha : PT X a (LT G wt)) (hb : PW X (.BoolOp .Or (b :: rest) pos) (LT G wu)) : PW X (.BoolOp .Or (a :: b :: rest) pos) (LT G (wOrT wt wu)) :=
  PW.imp (pw_or ha hb) fun σ H Q h => by
    obtain ⟨F, m, δ, Q0, r, s, h, k⟩ := h
    refine ⟨F, m, δ, _, r, s, h, fun c m1 F1 H1 h1 e1 r1 => ?_⟩
    cases c with
    | false => exact ⟨F1, m1, δ, Q0, r1, s.mono e1, h1, k.mono e1⟩
    | true => exact k _ _ _ _ h1 e1 r1
theorem qt_not (ha : PT X a (LT G wt)) : PT X (.UnaryOp .Not a pos) (LT G (wNotT wt)) :=
  PT.imp (pt_not ha) fun σ H Q h => by
    obtain ⟨F, m, δ, Q0, r, s, h, k⟩ := h
    exact ⟨F, m, δ, _, r, s, h, fun c m1 F1 H1 h1 e1 r1 => k _ _ _ _ h1 e1 r1⟩
/-- and, or, not as values -/
def wAnd (wa wb : DE) : DE := fun δ m Q => wa δ m fun x m1 => truD m1 x fun b => if b = true then wb δ m1 Q else Q x m1
def wOr (wa wb : DE) : DE := fun δ m Q => wa δ m fun x m1 => truD m1 x fun b => if b = true then Q x m1 else wb δ m1 Q
def wNot (wa : DE) : DE := fun δ m Q => wa δ m fun x m1 => truD m1 x fun b => Q (.bl (!b)) m1
theorem qe_one {op} (h : PE X a (LE G w)) : PE X (.BoolOp op [a] pos) (LE G w) := pe_one h
theorem qe_and {rest : List Expr} (hK : X.K = G.K) (ha : PE X a (LE G wa)) (hb : PE X (.BoolOp .And (b :: rest) pos) (LE G wb)) : PE X (.BoolOp .And (a :: b :: rest) pos) (LE G (wAnd wa wb)) :=
  PE.imp (pe_andT ha hb) fun σ H Q h => by
    obtain ⟨F, m, δ, Q0, r, s, h, k⟩ := h
    refine ⟨F, m, δ, _, r, s, h, fun d m1 v F1 H1 h1 e1 r1 v1 => ?_⟩
    obtain ⟨b, t, q⟩ := tru_vr r1 v1 h1
    refine ⟨b, by rw [hK]; exact t, ?_⟩
    cases b with
    | true => exact ⟨F1, m1, δ, Q0, r1, s.mono e1, q, k.mono e1⟩
    | false => exact k _ _ _ _ _ q e1 r1 v1
theorem qe_or {rest : List Expr} (hK : X.K = G.K) (ha : PE X a (LE G wa)) (hb : PE X (.BoolOp .Or (b :: rest) pos) (LE G wb)) : PE X (.BoolOp .Or (a :: b :: rest) pos) (LE G (wOr wa wb)) :=
  PE.imp (pe_orT ha hb) fun σ H Q h => by
    obtain ⟨F, m, δ, Q0, r, s, h, k⟩ := h
    refine ⟨F, m, δ, _, r, s, h, fun d m1 v F1 H1 h1 e1 r1 v1 => ?_⟩
    obtain ⟨b, t, q⟩ := tru_vr r1 v1 h1
    refine ⟨b, by rw [hK]; exact t, ?_⟩
    cases b with
    | false => exact ⟨F1, m1, δ, Q0, r1, s.mono e1, q, k.mono e1⟩
    | true => exact k _ _ _ _ _ q e1 r1 v1
theorem qe_not (hK : X.K = G.K) (ha : PE X a (LE G wa)) : PE X (.UnaryOp .Not a pos) (LE G (wNot wa)) :=
  PE.imp (pe_notT ha) fun σ H Q h => by
    obtain ⟨F, m, δ, Q0, r, s, h, k⟩ := h
    refine ⟨F, m, δ, _, r, s, h, fun d m1 v F1 H1 h1 e1 r1 v1 => ?_⟩
    obtain ⟨b, t, q⟩ := tru_vr r1 v1 h1
    exact ⟨b, by rw [hK]; exact t, k _ _ _ _ _ q e1 r1 (.bl _)⟩
/-- a if c else b -/
def wIf (t : DT) (wa wb : DE) : DE := fun δ m Q => t δ m fun b m1 => if b = true then wa δ m1 Q else wb δ m1 Q
theorem qe_if {c : Expr} (hc : PT X c (LT G wt)) (ha : PE X a (LE G wa)) (hb : PE X b (LE G wb)) : PE X (.IfExp c a b pos) (LE G (wIf wt wa wb)) :=
  PE.imp (pe_ifExp hc ha hb) fun σ H Q h => by
    obtain ⟨F, m, δ, Q0, r, s, h, k⟩ := h
    refine ⟨F, m, δ, _, r, s, h, fun c m1 F1 H1 h1 e1 r1 => ?_⟩
    cases c with
    | true => exact ⟨F1, m1, δ, Q0, r1, s.mono e1, h1, k.mono e1⟩
    | false => exact ⟨F1, m1, δ, Q0, r1, s.mono e1, h1, k.mono e1⟩
def lookN (fs : List (Nat × DV)) (i : Nat) : Option DV := match fs with
  | [] => none
  | (j, d) :: r => if j = i then some d else lookN r i
def putN (i : Nat) (d : DV) : List (Nat × DV) → List (Nat × DV)
  | [] => [(i, d)]
  | (j, e) :: r => if j = i then (j, d) :: r else (j, e) :: putN i d r
def Gam.Inj (G : Gam) : Prop := ∀ i j, G.fld i = G.fld j → i = j
theorem FR.look {F : Hp} (hi : G.Inj) {i : Nat} {d : DV} {fv : List (Str × V)} {fs : List (Nat × DV)} (h : FR G F fv fs) (e : lookN fs i = some d) : ∃ v, fv.lookup (G.fld i) = some v ∧ VR G.K F v d := by
  unfold FR at h
  induction h with
  | nil => cases e
  | @cons a b as bs h t ih =>
    obtain ⟨n, v⟩ := a
    obtain ⟨j, c⟩ := b
    have en : n = G.fld j := h.1
    subst en
    rw [List.lookup_cons]
    unfold lookN at e
    by_cases z : j = i
    · subst z
      rw [if_pos rfl] at e; cases e
      rw [beq_self_eq_true]
      exact ⟨v, rfl, h.2⟩
    · rw [if_neg z] at e
      have hb : (G.fld i == G.fld j) = false := beq_eq_false_iff_ne.mpr fun q => z (hi _ _ q).symm
      rw [hb]
      exact ih e
theorem FR.put {F : Hp} (hi : G.Inj) {i : Nat} {v : V} {d : DV} (rv : VR G.K F v d) {fv : List (Str × V)} {fs : List (Nat × DV)} (h : FR G F fv fs) : FR G F (putF (G.fld i) v fv) (putN i d fs) := by
  unfold FR at h ⊢
  induction h with
  | nil => exact .cons ⟨rfl, rv⟩ .nil
  | @cons a b as bs h t ih =>
    obtain ⟨n, v'⟩ := a
    obtain ⟨j, c⟩ := b
    have en : n = G.fld j := h.1
    subst en
    unfold putF putN
    by_cases z : j = i
    · subst z
      rw [if_pos rfl, if_pos rfl]
      exact .cons ⟨rfl, rv⟩ t
    · rw [if_neg z, if_neg fun q => z (hi _ _ q)]
      exact .cons h ih
/-- a field of an instance of the class c -/
def fldD (c i : Nat) (d : DV) (m : Sto) (Q : DK) : Prop := match d with
  | .ref p => match m p with
    | some (.ins c' fs) => c' = c ∧ match lookN fs i with
      | some x => Q x m
      | none => False
    | _ => False
  | _ => False
theorem fld_ok {F H : Hp} {m : Sto} {v : V} {d : DV} {c i : Nat} {Q0 : DK} {Q : VK} (hi : G.Inj) (r : Rel G F m H) (rv : VR G.K F v d) (h : fldD c i d m Q0) (k : Kt G F Q0 Q) :
    ∃ a dx fs x, v = .ref a ∧ H a = some (.ins (G.cls c) dx fs) ∧ fs.lookup (G.fld i) = some x ∧ Q x H := by
  cases rv <;> first | exact False.elim h | skip
  rename_i a
  unfold fldD at h
  dsimp only at h
  cases e : m a with
  | none => rw [e] at h; exact False.elim h
  | some o =>
    rw [e] at h
    cases o <;> first | exact False.elim h | skip
    dsimp only at h
    obtain ⟨rfl, h⟩ := h
    rename_i fs
    cases e2 : lookN fs i with
    | none => rw [e2] at h; exact False.elim h
    | some x =>
      rw [e2] at h
      obtain ⟨_, u, hu, dx, fv, rfl, hf⟩ := r.mo a _ e
      obtain ⟨w, hw, rw'⟩ := FR.look hi hf e2
      exact ⟨a, dx, fv, w, rfl, hu, hw, k _ _ _ _ _ h (Ex.refl F) r rw'⟩
def wFld (c i : Nat) (w : DE) : DE := fun δ m Q => w δ m fun d m1 => fldD c i d m1 Q
theorem qe_fld {f : Str} {c i : Nat} (hi : G.Inj) (hf : G.fld i = f) (cl : Cls X.K (G.cls c)) (na : NoAttr X.K (G.cls c) f) (he : PE X e (LE G w)) (hb : attributeBase e f X.env (eval e X.env) = eval e X.env := by rfl) : PE X (.Attribute e f pos) (LE G (wFld c i w)) :=
  PE.imp (pe_fld he hb) fun σ H Q h => by
    obtain ⟨F, m, δ, Q0, r, s, h, k⟩ := h
    refine ⟨F, m, δ, _, r, s, h, fun d m1 v F1 H1 h1 e1 r1 v1 => ?_⟩
    obtain ⟨a, dx, fs, x, h2, h3, h4, h5⟩ := fld_ok hi r1 v1 h1 (k.mono e1)
    exact ⟨a, G.cls c, dx, fs, x, h2, h3, cl, na, by rw [← hf]; exact h4, h5⟩
end
end DL
namespace DL
open PySem PySem.Spec PyProof.Rows L2 RZ
def UnlV (X : Cx) (N : VK) : VK := fun v H => N v H ∨ ∃ d od u, H d = some (.frz od u) ∧ (∀ o' u', X.H_0 d ≠ some (.frz o' u')) ∧ N v (upd H d u)
def UnlS (X : Cx) (N : L2.St → Hp → Prop) : L2.St → Hp → Prop := fun σ H => N σ H ∨ ∃ d od u, H d = some (.frz od u) ∧ (∀ o' u', X.H_0 d ≠ some (.frz o' u')) ∧ N σ (upd H d u)
theorem PE.unl {X : Cx} {e : Expr} {t : TE} (h : PE X e t) : PE X e (fun σ H Q => t σ H (UnlV X Q)) := ⟨fun pins s σ H Q I q => thn (h.run pins s σ H _ I q) fun u s1 ⟨v, H1, I1, r1, q1⟩ => by
  rcases q1 with q1 | ⟨d, od, u', e, n, q1⟩
  · exact ⟨v, H1, I1, r1, q1⟩
  · exact ⟨v, _, I1.unlock e n, r1, q1⟩⟩
theorem PS.unl {X : Cx} {st : Stmt} {t : TS} (h : PS X st t) : PS X st (fun D σ H => t { nx := UnlS X D.nx, rt := UnlV X D.rt, bk := UnlS X D.bk, ct := UnlS X D.ct } σ H) := by
  have key : ∀ {pins : List (Addr × Obj)} {s : Shared} {σ : L2.St} {H : Hp} {N : L2.St → Hp → Prop}, Inv X pins σ H s → UnlS X N σ H → ∃ σ' H', Inv X pins σ' H' s ∧ N σ' H' := fun {pins s σ H N} I q => by
    rcases q with q | ⟨d, od, u', e, n, q⟩
    · exact ⟨σ, H, I, q⟩
    · exact ⟨σ, _, I.unlock e n, q⟩
  refine ⟨fun pins s σ H D I q => thn (h.run pins s σ H _ I q) fun f s1 q1 => ?_⟩
  cases f with
  | next => obtain ⟨σ1, H1, I1, q1⟩ := q1; exact key I1 q1
  | brk => obtain ⟨σ1, H1, I1, q1⟩ := q1; exact key I1 q1
  | cont => obtain ⟨σ1, H1, I1, q1⟩ := q1; exact key I1 q1
  | ret u =>
    obtain ⟨v, σ1, H1, I1, r1, q1⟩ := q1
    rcases q1 with q1 | ⟨d, od, u', e, n, q1⟩
    · exact ⟨v, σ1, H1, I1, r1, q1⟩
    · exact ⟨v, σ1, _, I1.unlock e n, r1, q1⟩
structure DIt where
  items : List DV
  st : Sto → Prop
  lk : Option (Addr × Obj × List (Key × V) × List (Key × DV)) := none
def DIt.fin (it : DIt) (m : Sto) (k : Sto → Prop) : Prop := match it.lk with
  | none => k m
  | some (p, o, kv, kvs) => m p = some (.lck o kv kvs) ∧ k (put m p (.dct kvs))
abbrev DI := Slots → Sto → (DIt → Sto → Prop) → Prop
def ItOk (G : Gam) (F0 : Hp) (J : It) (it : DIt) : Prop := ∀ (i : Nat) (F : Hp) (m : Sto) (H : Hp), Ex F0 F → Rel G F m H → it.st m →
  (∀ d, it.items[i]? = some d → J.go i H ∧ ∀ x H', J.yld i H x H' → ∃ F', Ex F F' ∧ Rel G F' m H' ∧ VR G.K F' x d) ∧ (it.items[i]? = none → J.stop i H)
def LI (X : Cx) (G : Gam) (w : DI) : TI := fun σ H R => ∃ F m δ R0, Rel G F m H ∧ SR G.K F σ δ ∧ w δ m R0 ∧ ∀ it m' F' H' J, R0 it m' → Ex F F' → Rel G F' m' H' → ItOk G F' J it → (∀ pk, it.lk = some pk → ∀ o u, X.H_0 pk.1 ≠ some (.frz o u)) → R J H'
theorem fin_ok {X : Cx} {G : Gam} {F H : Hp} {m : Sto} {it : DIt} {k : Sto → Prop} {N : Hp → Prop} (r : Rel G F m H) (hn : ∀ pk, it.lk = some pk → ∀ o u, X.H_0 pk.1 ≠ some (.frz o u)) (h : it.fin m k) (q : ∀ m' H', k m' → Rel G F m' H' → N H') :
    N H ∨ ∃ d od u, H d = some (.frz od u) ∧ (∀ o' u', X.H_0 d ≠ some (.frz o' u')) ∧ N (upd H d u) := by
  obtain ⟨items, st, lk⟩ := it
  unfold DIt.fin at h
  cases lk with
  | none => exact .inl (q _ _ h r)
  | some pk =>
    obtain ⟨p, o, kv, kvs⟩ := pk
    obtain ⟨e, h⟩ := h
    obtain ⟨_, u, hu, rfl, hr⟩ := r.mo p _ e
    exact .inr ⟨p, o, .dK kv, hu, hn _ rfl, q _ _ h (r.write e ⟨kv, rfl, hr⟩)⟩
/-- what a value gives when it is walked -/
def itOf (d : DV) (m : Sto) (R : DIt → Sto → Prop) : Prop := match asQ m d with
  | some xs => R ⟨xs, fun m' => asQ m' d = some xs, none⟩ m
  | none => match d with
    | .ref p => match m p with
      | some (.dct kvs) => ∀ o kv, R ⟨kvs.map fun kv => kD kv.1, fun m' => m' p = some (.lck o kv kvs), some (p, o, kv, kvs)⟩ (put m p (.lck o kv kvs))
      | some (.lck o kv kvs) => R ⟨kvs.map fun kv => kD kv.1, fun m' => m' p = some (.lck o kv kvs), none⟩ m
      | _ => False
    | _ => False
theorem vr_kD {K : PySem.W.Frag} {F : Hp} (k : Key) : VR K F (kV k) (kD k) := by
  cases k with
  | inl i => exact .int i
  | inr x => exact .str x
theorem itok_seq {G : Gam} {F : Hp} {a : Addr} {xs : List DV} {S : Hp → List V → Prop} {st : Sto → Prop} {J : It}
    (h : ∀ F' m H, Ex F F' → Rel G F' m H → st m → ∃ vs, S H vs ∧ VRs G.K F' vs xs)
    (go : ∀ i H vs x, S H vs → vs[i]? = some x → J.go i H) (yl : ∀ i H vs x H', S H vs → J.yld i H x H' → H' = H ∧ vs[i]? = some x) (sp : ∀ i H vs, S H vs → vs.length ≤ i → J.stop i H) : ItOk G F J ⟨xs, st, none⟩ := by
  intro i F' m H e r s
  obtain ⟨vs, hs, hv⟩ := h F' m H e r s
  refine ⟨fun d hd => ?_, fun hd => ?_⟩
  · obtain ⟨x, hx, rx⟩ := hv.get hd
    refine ⟨go i H vs x hs hx, fun y H' hy => ?_⟩
    obtain ⟨eH, hz⟩ := yl i H vs y H' hs hy
    rw [hx] at hz; cases hz
    rw [eH]
    exact ⟨F', Ex.refl F', r, rx⟩
  · refine sp i H vs hs ?_
    rw [hv.length]
    exact List.getElem?_eq_none_iff.mp hd
theorem SqL.inj {K : PySem.W.Frag} {H : Hp} {a : Addr} {xs ys : List V} {X : Cx} {pins : List (Addr × Obj)} {σ : L2.St} {s : Shared} (I : Inv X pins σ H s) (hK : X.K = K) (h : SqL K H a xs) (g : SqL K H a ys) : xs = ys := by
  subst hK; exact I.list_inj h g
def iAny (w : DE) : DI := fun δ m R => w δ m fun d m1 => itOf d m1 R
theorem itl_ok {G : Gam} {F : Hp} {a : Addr} {xs : List DV} {st : Sto → Prop} (h : ∀ F' m H, Ex F F' → Rel G F' m H → st m → ∃ vs, SqL G.K H a vs ∧ VRs G.K F' vs xs) : ItOk G F (Itl G.K a) ⟨xs, st, none⟩ := by
  refine itok_seq (a := a) (S := fun H vs => SqL G.K H a vs) h (fun i H vs x hs hx => ⟨vs, x, hs, hx⟩) (fun i H vs x H' hs hy => ⟨hy.1, hy.2 vs hs⟩) fun i H vs hs hl => ⟨vs, hs, hl⟩
theorem itt_ok {G : Gam} {F : Hp} {a : Addr} {xs : List DV} {st : Sto → Prop} (h : ∀ F' m H, Ex F F' → Rel G F' m H → st m → ∃ vs, SqT G.K H a vs ∧ VRs G.K F' vs xs) : ItOk G F (Itt G.K a) ⟨xs, st, none⟩ := by
  refine itok_seq (a := a) (S := fun H vs => SqT G.K H a vs) h (fun i H vs x hs hx => ⟨vs, x, hs, hx⟩) (fun i H vs x H' hs hy => ⟨hy.1, hy.2 vs hs⟩) fun i H vs hs hl => ⟨vs, hs, hl⟩
theorem itk_ok {G : Gam} {F : Hp} {p : Addr} {o : Obj} {kv : List (Key × V)} {kvs : List (Key × DV)} {lk} (hr : KR G.K F kv kvs) :
    ItOk G F (Itk p o kv) ⟨kvs.map fun kv => kD kv.1, fun m' => m' p = some (.lck o kv kvs), lk⟩ := by
  intro i F' m H e r s
  have hH : H p = some (.frz o (.dK kv)) := by
    obtain ⟨_, u, hu, rfl, _⟩ := r.mo p _ s
    exact hu
  have hl := KR.length hr
  have hk := KR.keys hr
  refine ⟨fun d hd => ?_, fun hd => ?_⟩
  · have hi : i < kvs.length := by
      have := List.getElem?_eq_some_iff.mp hd
      obtain ⟨z, _⟩ := this
      simpa using z
    refine ⟨⟨hH, by omega⟩, fun y H' hy => ?_⟩
    obtain ⟨rfl, k, v, e1, rfl⟩ := hy
    have e2 : (kv.map (·.1))[i]? = some k := by rw [List.getElem?_map, e1]; rfl
    rw [hk, List.getElem?_map] at e2
    dsimp only at hd
    rw [List.getElem?_map] at hd
    cases e3 : kvs[i]? with
    | none => rw [e3] at e2; cases e2
    | some q =>
      rw [e3] at e2 hd
      have e4 : q.1 = k := Option.some.inj e2
      have e5 : kD q.1 = d := Option.some.inj hd
      subst e5
      rw [e4]
      exact ⟨F', Ex.refl F', r, vr_kD k⟩
  · refine ⟨hH, ?_⟩
    have := List.getElem?_eq_none_iff.mp hd
    simp at this
    omega
theorem qi_any {X : Cx} {G : Gam} {tg e : Expr} {w : DE} (hK : X.K = G.K) (he : PE X e (LE G w)) : PI X tg e (LI X G (iAny w)) := by
  refine ⟨fun pins s σ H R I h => ?_⟩
  obtain ⟨F, m, δ, R0, r, sr, h, k⟩ := h
  refine thn (he.run pins s σ H (fun v H1 => ∃ F1 m1 d, Ex F F1 ∧ Rel G F1 m1 H1 ∧ VR G.K F1 v d ∧ itOf d m1 R0) I ⟨F, m, δ, _, r, sr, h, fun d m1 v F1 H1 q e1 r1 v1 => ⟨F1, m1, d, e1, r1, v1, q⟩⟩) fun v s1 ⟨x, H1, I1, rx, F1, m1, d, e1, r1, v1, q⟩ => ?_
  -- a list, a tuple
  have asList : ∀ a xs, x = .ref a → (∀ F' m H, Ex F1 F' → Rel G F' m H → asQ m d = some xs → ∃ vs, SqL G.K H a vs ∧ VRs G.K F' vs xs) → asQ m1 d = some xs → R0 ⟨xs, fun m' => asQ m' d = some xs, none⟩ m1 →
      wpAny (model X.prog X.w) X.A (pyIter v) (PIE X pins σ tg R) X.xe s1 := fun a xs ex hl ha hq => by
    subst ex
    cases rx
    obtain ⟨vs, hs, _⟩ := hl F1 m1 H1 (Ex.refl F1) r1 ha
    obtain ⟨its, rv, p, hz⟩ := I1.list (by rw [hK]; exact hs)
    refine wpAny_pyIter_list p.isList ?_
    refine ⟨s1.heap.objs.size, [s1.heap.objs.size], _, _, H1, rfl, I1.kept (t' := s1.toks) fun b o e => Heap.get?_push_of_some _ e, turn_list a _, ⟨_, Heap.get?_push_size _ rfl, rfl, rfl⟩, fun b hb => ?_,
      k _ _ _ _ _ hq e1 r1 (by rw [hK]; exact itl_ok hl) fun pk e => by cases e⟩
    have e : b = s1.heap.objs.size := by simpa using hb
    subst e
    exact I1.fpOk (Nat.le_refl _) (I1.hok.fresh (Nat.le_refl _))
  have asTup : ∀ a xs, x = .ref a → (∀ F' m H, Ex F1 F' → Rel G F' m H → asQ m d = some xs → ∃ vs, SqT G.K H a vs ∧ VRs G.K F' vs xs) → asQ m1 d = some xs → R0 ⟨xs, fun m' => asQ m' d = some xs, none⟩ m1 →
      wpAny (model X.prog X.w) X.A (pyIter v) (PIE X pins σ tg R) X.xe s1 := fun a xs ex hl ha hq => by
    subst ex
    cases rx
    obtain ⟨vs, hs, _⟩ := hl F1 m1 H1 (Ex.refl F1) r1 ha
    obtain ⟨its, rv, p, hz⟩ := I1.tuple (by rw [hK]; exact hs)
    refine wpAny_pyIter_tuple (show s1.heap.IsTuple a its.toArray from p) ?_
    refine ⟨s1.heap.objs.size, [s1.heap.objs.size], _, _, H1, rfl, I1.kept (t' := s1.toks) fun b o e => Heap.get?_push_of_some _ e, turn_tuple a _, ⟨_, Heap.get?_push_size _ rfl, rfl, rfl⟩, fun b hb => ?_,
      k _ _ _ _ _ hq e1 r1 (by rw [hK]; exact itt_ok hl) fun pk e => by cases e⟩
    have e : b = s1.heap.objs.size := by simpa using hb
    subst e
    exact I1.fpOk (Nat.le_refl _) (I1.hok.fresh (Nat.le_refl _))
  have dKeys : ∀ (p : Addr) (o : Obj) (kv : List (Key × V)) (H2 : Hp), v = .ref p → Inv X pins σ H2 s1 → H2 p = some (.frz o (.dK kv)) → R (Itk p o kv) H2 → wpAny (model X.prog X.w) X.A (pyIter v) (PIE X pins σ tg R) X.xe s1 := fun p o kv H2 ev I2 hd q => by
    subst ev
    obtain ⟨hs, hgd, hx, es, ep, vs, hdt, hsz, kv', hm⟩ := I2.frzK hd
    refine iter_keys hs hgd hx hdt (pi_one (tk := s1.toks) I2 _ (turn_keys _ hdt) ⟨_, Heap.get?_push_size _ rfl, rfl, ?_⟩ q)
    rw [hsz] <;> rfl
  unfold itOf at q
  cases ea : asQ m1 d with
  | some xs =>
    rw [ea] at q
    dsimp only at q
    cases v1 with
    | @lst a vs ds hs hr =>
      refine asList a xs rfl (fun F' m H e r h => ⟨vs, .inl ((e.trans r.ex).rd hs), ?_⟩) ea q
      have z : ds = xs := Option.some.inj h
      subst z
      exact hr.mono e
    | @klst a vs ds hs hr =>
      refine asList a xs rfl (fun F' m H e r h => ⟨vs, Ex.sqL ex_none hs, ?_⟩) ea q
      have z : ds = xs := Option.some.inj h
      subst z
      exact hr.mono e
    | @tup a vs ds hs hr =>
      refine asTup a xs rfl (fun F' m H e r h => ⟨vs, SqT.of ((e.trans r.ex) _ _ hs), ?_⟩) ea q
      have z : ds = xs := Option.some.inj h
      subst z
      exact hr.mono e
    | @ktup a vs ds hs hr =>
      refine asTup a xs rfl (fun F' m H e r h => ⟨vs, Ex.sqT ex_none hs, ?_⟩) ea q
      have z : ds = xs := Option.some.inj h
      subst z
      exact hr.mono e
    | ref a =>
      refine asList a xs rfl (fun F' m H e r h => ?_) ea q
      obtain ⟨a', vs, e1, e2, e3⟩ := asL_ok (G := G) (F := F') r (.ref a) h
      cases e1
      exact ⟨vs, e2, e3⟩
    | _ => cases ea
  | none =>
    rw [ea] at q
    dsimp only at q
    cases v1 <;> first | exact False.elim q | skip
    rename_i p
    dsimp only at q
    cases em : m1 p with
    | none => rw [em] at q; exact False.elim q
    | some ob =>
      rw [em] at q
      cases ob <;> first | exact False.elim q | skip
      · rename_i kvs
        dsimp only at q
        obtain ⟨hF, u, hu, kv, rfl, hr⟩ := r1.mo p _ em
        obtain ⟨od, I2⟩ := I1.lock hu trivial
        have r2 : Rel G F1 (put m1 p (.lck od kv kvs)) (upd H1 p (.frz od (.dK kv))) := r1.write em ⟨rfl, hr⟩
        exact dKeys p od kv _ rx I2 upd_same (k _ _ F1 _ _ (q od kv) e1 r2 (itk_ok hr) fun pk e => by cases e; exact I1.nofrz hu trivial)
      · rename_i o kv kvs
        dsimp only at q
        obtain ⟨hF, u, hu, rfl, hr⟩ := r1.mo p _ em
        exact dKeys p o kv _ rx I1 hu (k _ _ F1 _ _ q e1 r1 (itk_ok hr) fun pk e => by cases e)
section
variable {X : Cx} {G : Gam} {tg e e2 : Expr} {elts : List Expr} {kk : Nat} {p pos tpos : Pos} {wl : DA}
theorem asL_stay {G : Gam} {F F' H : Hp} {m : Sto} {a : Addr} {d : DV} {xs : List DV} (v : VR G.K F (.ref a) d) (e : Ex F F') (r : Rel G F' m H) (h : asL m d = some xs) : ∃ vs, SqL G.K H a vs ∧ VRs G.K F' vs xs := by
  obtain ⟨a', vs, e1, e2, e3⟩ := asL_ok r (v.mono e) h
  cases e1
  exact ⟨vs, e2, e3⟩
theorem asT_stay {G : Gam} {F F' H : Hp} {m : Sto} {a : Addr} {d : DV} {xs : List DV} (v : VR G.K F (.ref a) d) (e : Ex F F') (r : Rel G F' m H) (h : asT d = some xs) : ∃ vs, SqT G.K H a vs ∧ VRs G.K F' vs xs := by
  obtain ⟨a', vs, e1, e2, e3⟩ := asT_ok r (v.mono e) h
  cases e1
  exact ⟨vs, e2, e3⟩
/-- pairs of number and item -/
def enD (i : Nat) : List DV → List DV
  | [] => []
  | x :: r => .tup [.int i, x] :: enD (i + 1) r
theorem enD_get : ∀ (xs : List DV) (j i : Nat), (enD j xs)[i]? = xs[i]?.map fun x => .tup [.int ((j + i : Nat) : Int), x]
  | [], j, i => by simp [enD]
  | x :: r, j, 0 => by simp [enD]
  | x :: r, j, i + 1 => by
    show (enD (j + 1) r)[i]? = r[i]?.map _
    rw [enD_get r (j + 1) i]
    have : j + 1 + i = j + (i + 1) := by omega
    rw [this]
theorem ite_ok {G : Gam} {F : Hp} {a : Addr} {d : DV} {xs : List DV} (v : VR G.K F (.ref a) d) : ItOk G F (Ite G.K a) ⟨enD 0 xs, fun m => asL m d = some xs, none⟩ := by
  intro i F' m H e r s
  obtain ⟨vs, hs, hv⟩ := asL_stay v e r s
  refine ⟨fun x hx => ?_, fun hx => ?_⟩
  · dsimp only at hx
    rw [enD_get, Nat.zero_add] at hx
    cases ex : xs[i]? with
    | none => rw [ex] at hx; cases hx
    | some c =>
      rw [ex] at hx
      cases hx
      obtain ⟨u, hu, ru⟩ := hv.get ex
      refine ⟨⟨vs, u, hs, hu⟩, fun y H' hy => ?_⟩
      obtain ⟨T, z, rfl, hT, rfl, hz⟩ := hy
      have := hz vs hs
      rw [hu] at this; cases this
      have eF := Ex.new (o := .tup [.int (i : Nat), u]) (r.freeF hT)
      exact ⟨_, eF, r.data hT, .tup upd_same (.cons (.int _) (.cons (ru.mono eF) .nil))⟩
  · dsimp only at hx
    rw [enD_get] at hx
    cases ex : xs[i]? with
    | some c => rw [ex] at hx; cases hx
    | none => exact ⟨vs, hs, by rw [hv.length]; exact List.getElem?_eq_none_iff.mp ex⟩
def iEnumD (t : DA) : DI := fun δ m R => t δ m fun ds m1 => match ds with
  | [d] => match asL m1 d with
    | some xs => R ⟨enD 0 xs, fun m => asL m d = some xs, none⟩ m1
    | none => False
  | _ => False
theorem VRs.one_inv {K : PySem.W.Frag} {F : Hp} {vs : List V} {d : DV} (h : VRs K F vs [d]) : ∃ v, vs = [v] ∧ VR K F v d := by
  cases h with
  | cons a b => cases b; exact ⟨_, rfl, a⟩
theorem VRs.two_inv {K : PySem.W.Frag} {F : Hp} {vs : List V} {d e : DV} (h : VRs K F vs [d, e]) : ∃ v w, vs = [v, w] ∧ VR K F v d ∧ VR K F w e := by
  cases h with
  | cons a b =>
    obtain ⟨w, rfl, r⟩ := VRs.one_inv b
    exact ⟨_, _, rfl, a, r⟩
theorem VRs.three_inv {K : PySem.W.Frag} {F : Hp} {vs : List V} {d e f : DV} (h : VRs K F vs [d, e, f]) : ∃ v w u, vs = [v, w, u] ∧ VR K F v d ∧ VR K F w e ∧ VR K F u f := by
  cases h with
  | cons a b =>
    obtain ⟨w, u, rfl, r, s⟩ := VRs.two_inv b
    exact ⟨_, _, _, rfl, a, r, s⟩
theorem qi_enum (hK : X.K = G.K) (hg : Gl X "enumerate") (hm : X.mg "enumerate" = none) (ha : PA X [e] (LA G wl)) (hs : starEach [e] X.env = [(false, eval e X.env)] := by rfl) :
    PI X (.Tuple elts kk tpos) (.Call (.Name "enumerate" p) [e] [] pos) (LI X G (iEnumD wl)) := by
  have base : PI X (.Tuple elts kk tpos) (.Call (.Name "enumerate" p) [e] [] pos) (iEnum X.K (LA G wl)) := pi_enum hg hm ha hs
  refine ⟨fun pins s σ H R I h => base.run pins s σ H R I ?_⟩
  obtain ⟨F, m, δ, R0, r, sr, h, k⟩ := h
  refine ⟨F, m, δ, _, r, sr, h, fun ds m1 vs F1 H1 q e1 r1 v1 => ?_⟩
  match ds, q with
  | [d], q =>
    obtain ⟨v, rfl, rv⟩ := v1.one_inv
    dsimp only at q
    cases ea : asL m1 d with
    | none => rw [ea] at q; exact False.elim q
    | some xs =>
      rw [ea] at q
      obtain ⟨a, ws, rfl, hl, hr⟩ := asL_ok r1 rv ea
      rw [hK]
      exact ⟨a, ws, rfl, hl, k _ _ _ _ _ q e1 r1 (ite_ok rv) fun pk e => by cases e⟩
/-- pairs of the items of two -/
def zipD : List DV → List DV → List DV
  | x :: xs, y :: ys => .tup [x, y] :: zipD xs ys
  | _, _ => []
theorem zipD_get : ∀ (xs ys : List DV) (i : Nat), (zipD xs ys)[i]? = match xs[i]?, ys[i]? with
    | some x, some y => some (.tup [x, y])
    | _, _ => none
  | [], ys, i => by simp [zipD]
  | x :: xs, [], i => by
    simp [zipD]
  | x :: xs, y :: ys, 0 => by simp [zipD]
  | x :: xs, y :: ys, i + 1 => by
    show (zipD xs ys)[i]? = _
    rw [zipD_get xs ys i]
    simp
theorem zip_ok {G : Gam} {F : Hp} {S : Hp → Addr → List V → Prop} {a b : Addr} {xs ys : List DV} {st : Sto → Prop} {J : It}
    (h : ∀ F' m H, Ex F F' → Rel G F' m H → st m → ∃ vs ws, S H a vs ∧ S H b ws ∧ VRs G.K F' vs xs ∧ VRs G.K F' ws ys)
    (go : ∀ i H vs ws x y, S H a vs → S H b ws → vs[i]? = some x → ws[i]? = some y → J.go i H)
    (yl : ∀ i H vs ws v H', S H a vs → S H b ws → J.yld i H v H' → ∃ T x y, v = .ref T ∧ H T = none ∧ H' = upd H T (.tup [x, y]) ∧ vs[i]? = some x ∧ ws[i]? = some y)
    (sp : ∀ i H vs ws, S H a vs → S H b ws → (vs.length ≤ i ∨ ws.length ≤ i) → J.stop i H) : ItOk G F J ⟨zipD xs ys, st, none⟩ := by
  intro i F' m H e r s
  obtain ⟨vs, ws, h1, h2, r1, r2⟩ := h F' m H e r s
  refine ⟨fun d hd => ?_, fun hd => ?_⟩
  · dsimp only at hd
    rw [zipD_get] at hd
    cases e1 : xs[i]? with
    | none => rw [e1] at hd; cases hd
    | some x =>
      cases e2 : ys[i]? with
      | none => rw [e1, e2] at hd; cases hd
      | some y =>
        rw [e1, e2] at hd
        cases hd
        obtain ⟨u, hu, ru⟩ := r1.get e1
        obtain ⟨w, hw, rw'⟩ := r2.get e2
        refine ⟨go i H vs ws u w h1 h2 hu hw, fun v H' hv => ?_⟩
        obtain ⟨T, u', w', rfl, hT, rfl, hu', hw'⟩ := yl i H vs ws v H' h1 h2 hv
        rw [hu] at hu'; cases hu'
        rw [hw] at hw'; cases hw'
        have eF := Ex.new (o := .tup [u, w]) (r.freeF hT)
        exact ⟨_, eF, r.data hT, .tup upd_same (.cons (ru.mono eF) (.cons (rw'.mono eF) .nil))⟩
  · refine sp i H vs ws h1 h2 ?_
    rw [r1.length, r2.length]
    dsimp only at hd
    rw [zipD_get] at hd
    cases e1 : xs[i]? with
    | none => exact .inl (List.getElem?_eq_none_iff.mp e1)
    | some x =>
      cases e2 : ys[i]? with
      | none => exact .inr (List.getElem?_eq_none_iff.mp e2)
      | some y => rw [e1, e2] at hd; cases hd
def iZipD (t : DA) : DI := fun δ m R => t δ m fun ds m1 => match ds with
  | [c, d] => match asL m1 c, asL m1 d with
    | some xs, some ys => R ⟨zipD xs ys, fun m => asL m c = some xs ∧ asL m d = some ys, none⟩ m1
    | _, _ => match asT c, asT d with
      | some xs, some ys => R ⟨zipD xs ys, fun _ => True, none⟩ m1
      | _, _ => False
  | _ => False
theorem qi_zip (hK : X.K = G.K) (hg : Gl X "zip") (hm : X.mg "zip" = none) (ha : PA X [e, e2] (LA G wl))
    (hs : starEach [e, e2] X.env = (false, eval e X.env) :: starEach [e2] X.env := by rfl) (hpl : (backTo pos (starEach [e2] X.env)).any (·.1) = false := by rfl) :
    PI X (.Tuple elts kk tpos) (.Call (.Name "zip" p) [e, e2] [] pos) (LI X G (iZipD wl)) := by
  have base : PI X (.Tuple elts kk tpos) (.Call (.Name "zip" p) [e, e2] [] pos) (iZipA X.K (LA G wl)) := pi_zipA hg hm ha hs hpl
  refine ⟨fun pins s σ H R I h => base.run pins s σ H R I ?_⟩
  obtain ⟨F, m, δ, R0, r, sr, h, k⟩ := h
  refine ⟨F, m, δ, _, r, sr, h, fun ds m1 vs F1 H1 q e1 r1 v1 => ?_⟩
  match ds, q with
  | [c, d], q =>
    obtain ⟨v, w, rfl, rv, rw'⟩ := v1.two_inv
    dsimp only at q
    rw [hK]
    have tups : (match asT c, asT d with
      | some xs, some ys => R0 ⟨zipD xs ys, fun _ => True, none⟩ m1
      | _, _ => False) → ∃ a b xs ys, [v, w] = [V.ref a, V.ref b] ∧ ((SqL G.K H1 a xs ∧ SqL G.K H1 b ys ∧ R (Itz G.K a b) H1) ∨ (SqT G.K H1 a xs ∧ SqT G.K H1 b ys ∧ R (ItzT G.K a b) H1)) := fun q => by
      cases ec : asT c with
      | none => rw [ec] at q; exact False.elim q
      | some xs =>
        cases ed : asT d with
        | none => rw [ec, ed] at q; exact False.elim q
        | some ys =>
          rw [ec, ed] at q
          obtain ⟨a, us, rfl, hl, hr⟩ := asT_ok r1 rv ec
          obtain ⟨b, ws, rfl, hl2, hr2⟩ := asT_ok r1 rw' ed
          refine ⟨a, b, us, ws, rfl, .inr ⟨hl, hl2, k _ _ _ _ _ q e1 r1 ?_ fun pk e => by cases e⟩⟩
          refine zip_ok (S := fun H a vs => SqT G.K H a vs) (a := a) (b := b) (fun F' m H e r _ => ?_) (fun i H vs ws x y h1 h2 h3 h4 => ⟨vs, ws, x, y, h1, h2, h3, h4⟩) (fun i H vs ws v H' h1 h2 hy => ?_) fun i H vs ws h1 h2 h3 => ⟨vs, ws, h1, h2, h3⟩
          · obtain ⟨vs, g1, g2⟩ := asT_stay rv e r ec
            obtain ⟨ws, g3, g4⟩ := asT_stay rw' e r ed
            exact ⟨vs, ws, g1, g3, g2, g4⟩
          · obtain ⟨T, x, y, g1, g2, g3, g4, g5⟩ := hy
            exact ⟨T, x, y, g1, g2, g3, g4 _ h1, g5 _ h2⟩
    cases ec : asL m1 c with
    | none => rw [ec] at q; exact tups q
    | some xs =>
      cases ed : asL m1 d with
      | none => rw [ec, ed] at q; exact tups q
      | some ys =>
        rw [ec, ed] at q
        obtain ⟨a, us, rfl, hl, hr⟩ := asL_ok r1 rv ec
        obtain ⟨b, ws, rfl, hl2, hr2⟩ := asL_ok r1 rw' ed
        refine ⟨a, b, us, ws, rfl, .inl ⟨hl, hl2, k _ _ _ _ _ q e1 r1 ?_ fun pk e => by cases e⟩⟩
        refine zip_ok (S := fun H a vs => SqL G.K H a vs) (a := a) (b := b) (fun F' m H e r hst => ?_) (fun i H vs ws x y h1 h2 h3 h4 => ⟨vs, ws, x, y, h1, h2, h3, h4⟩) (fun i H vs ws v H' h1 h2 hy => ?_) fun i H vs ws h1 h2 h3 => ⟨vs, ws, h1, h2, h3⟩
        · obtain ⟨vs, g1, g2⟩ := asL_stay rv e r hst.1
          obtain ⟨ws, g3, g4⟩ := asL_stay rw' e r hst.2
          exact ⟨vs, ws, g1, g3, g2, g4⟩
        · obtain ⟨T, x, y, g1, g2, g3, g4, g5⟩ := hy
          exact ⟨T, x, y, g1, g2, g3, g4 _ h1, g5 _ h2⟩
/-- lo, lo + 1, .. -/
def rgD (lo : Int) (n : Nat) : List DV := (List.range n).map fun i : Nat => .int (lo + (i : Int))
theorem itr_ok {G : Gam} {F : Hp} {lo : Int} {n : Nat} : ItOk G F (Itr lo n) ⟨rgD lo n, fun _ => True, none⟩ := by
  intro i F' m H e r _
  refine ⟨fun d hd => ?_, fun hd => ?_⟩
  · dsimp only at hd
    unfold rgD at hd
    rw [List.getElem?_map] at hd
    by_cases hi : i < n
    · rw [List.getElem?_range hi] at hd
      cases hd
      refine ⟨hi, fun x H' hy => ?_⟩
      obtain ⟨rfl, rfl⟩ := hy
      exact ⟨F', Ex.refl F', r, .int _⟩
    · rw [List.getElem?_eq_none (by simpa using hi)] at hd
      cases hd
  · dsimp only at hd
    have := List.getElem?_eq_none_iff.mp hd
    unfold rgD at this
    show n ≤ i
    simpa using this
def iRngD (t : DA) : DI := fun δ m R => t δ m fun ds m1 => match ds with
  | [.int j] => -(2 ^ 62) ≤ j ∧ j < 2 ^ 62 ∧ R ⟨rgD 0 j.toNat, fun _ => True, none⟩ m1
  | _ => False
def iRngD2 (t : DA) : DI := fun δ m R => t δ m fun ds m1 => match ds with
  | [.int i, .int j] => (-(2 ^ 62) ≤ i ∧ i < 2 ^ 62 ∧ -(2 ^ 62) ≤ j ∧ j < 2 ^ 62) ∧ R ⟨rgD i (j - i).toNat, fun _ => True, none⟩ m1
  | _ => False
theorem qi_range1 (hg : Gl X "range") (hm : X.mg "range" = none) (ha : PA X [e] (LA G wl)) (hs : starEach [e] X.env = [(false, eval e X.env)] := by rfl) : PI X tg (.Call (.Name "range" p) [e] [] pos) (LI X G (iRngD wl)) := by
  have base : PI X tg (.Call (.Name "range" p) [e] [] pos) (iRng1 (LA G wl)) := pi_range1 hg hm ha hs
  refine ⟨fun pins s σ H R I h => base.run pins s σ H R I ?_⟩
  obtain ⟨F, m, δ, R0, r, sr, h, k⟩ := h
  refine ⟨F, m, δ, _, r, sr, h, fun ds m1 vs F1 H1 q e1 r1 v1 => ?_⟩
  match ds, q with
  | [.int j], q =>
    obtain ⟨v, rfl, rv⟩ := v1.one_inv
    cases rv
    exact ⟨j, rfl, q.1, q.2.1, k _ _ _ _ _ q.2.2 e1 r1 itr_ok fun pk e => by cases e⟩
theorem qi_range2 (hg : Gl X "range") (hm : X.mg "range" = none) (ha : PA X [e, e2] (LA G wl)) (hs : starEach [e, e2] X.env = [(false, eval e X.env), (false, eval e2 X.env)] := by rfl) (hs2 : starEach [e2] X.env = [(false, eval e2 X.env)] := by rfl) :
    PI X tg (.Call (.Name "range" p) [e, e2] [] pos) (LI X G (iRngD2 wl)) := by
  have base : PI X tg (.Call (.Name "range" p) [e, e2] [] pos) (iRng2 (LA G wl)) := pi_range2 hg hm ha hs hs2
  refine ⟨fun pins s σ H R I h => base.run pins s σ H R I ?_⟩
  obtain ⟨F, m, δ, R0, r, sr, h, k⟩ := h
  refine ⟨F, m, δ, _, r, sr, h, fun ds m1 vs F1 H1 q e1 r1 v1 => ?_⟩
  match ds, q with
  | [.int i, .int j], q =>
    obtain ⟨v, w, rfl, rv, rw'⟩ := v1.two_inv
    cases rv
    cases rw'
    exact ⟨i, j, rfl, q.1, k _ _ _ _ _ q.2 e1 r1 itr_ok fun pk e => by cases e⟩
end
end DL
namespace DL
open PySem PySem.Spec PyProof.Rows L2
def ChgIn (vs : List Nat) (σ σ' : L2.St) : Prop := σ'.length = σ.length ∧ ∀ i, i ∉ vs → σ'[i]? = σ[i]?
theorem ChgIn.refl (vs : List Nat) (σ : L2.St) : ChgIn vs σ σ := ⟨rfl, fun _ _ => rfl⟩
theorem ChgIn.comp {vs ws : List Nat} {a b c : L2.St} (h : ChgIn vs a b) (g : ChgIn ws b c) : ChgIn (vs ++ ws) a c :=
  ⟨g.1.trans h.1, fun i hi => (g.2 i fun z => hi (List.mem_append_right _ z)).trans (h.2 i fun z => hi (List.mem_append_left _ z))⟩
abbrev DG := DV → Slots → Sto → (Slots → Sto → Prop) → Prop
abbrev DGs := List DV → Slots → Sto → (Slots → Sto → Prop) → Prop
def KtG (G : Gam) (F : Hp) (vs : List Nat) (σ : L2.St) (Q0 : Slots → Sto → Prop) (Q : L2.St → Hp → Prop) : Prop := ∀ δ' m' σ' F' H', Q0 δ' m' → Ex F F' → Rel G F' m' H' → SR G.K F' σ' δ' → ChgIn vs σ σ' → Q σ' H'
def LG (G : Gam) (vs : List Nat) (g : DG) : TG := fun v σ H Q => ∃ F m δ d Q0, Rel G F m H ∧ SR G.K F σ δ ∧ VR G.K F v d ∧ g d δ m Q0 ∧ KtG G F vs σ Q0 Q
def LGs (G : Gam) (vs : List Nat) (g : DGs) : TGs := fun us σ H Q => ∃ F m δ ds Q0, Rel G F m H ∧ SR G.K F σ δ ∧ VRs G.K F us ds ∧ g ds δ m Q0 ∧ KtG G F vs σ Q0 Q
theorem PG.imp {X : Cx} {e : Expr} {t t' : TG} (h : PG X e t) (k : ∀ v σ H Q, t' v σ H Q → t v σ H Q) : PG X e t' := ⟨fun pins s σ H v u Q I r q => h.run pins s σ H v u Q I r (k v σ H Q q)⟩
theorem PGs.imp {X : Cx} {e : List Expr} {t t' : TGs} (h : PGs X e t) (k : ∀ v σ H Q, t' v σ H Q → t v σ H Q) : PGs X e t' := ⟨fun pins s σ H v u Q I r q => h.run pins s σ H v u Q I r (k v σ H Q q)⟩
section
variable {X : Cx} {G : Gam} {k : Nat} {e o i : Expr} {es : List Expr} {x : Str} {pos : Pos} {w wo wi : DE} {g : DG} {gs : DGs} {vs ws : List Nat}
def gN (i : Nat) : DG := fun d δ m Q => Q (δ.set i (some d)) m
theorem qg_name {i : Nat} (hN : X.N.Nodup) (hi : X.N[i]? = some x) (hx : Loc X.env.scope x) (hf : X.fn x = true ∨ X.env.scope.names.lookup x = some .local := by first | exact .inl rfl | exact .inr rfl | assumption) : PG X (.Name x pos) (LG G [i] (gN i)) :=
  PG.imp (pg_name hN hi hx hf) fun v σ H Q h => by
    obtain ⟨F, m, δ, d, Q0, r, s, rv, h, k⟩ := h
    exact k _ _ _ _ _ h (Ex.refl F) r (s.set i rv) ⟨by simp, fun j hj => by rw [List.getElem?_set_ne fun z => hj (by rw [z]; exact List.mem_cons_self)]⟩
def gNilD : DGs := fun ds δ m Q => ds = [] ∧ Q δ m
def gConsD (g : DG) (gs : DGs) : DGs := fun ds δ m Q => match ds with
  | d :: r => g d δ m fun δ1 m1 => gs r δ1 m1 Q
  | [] => False
theorem qgs_nil : PGs X [] (LGs G [] gNilD) := PGs.imp pgs_nil fun v σ H Q h => by
  obtain ⟨F, m, δ, d, Q0, r, s, rv, ⟨h1, h2⟩, k⟩ := h
  subst h1
  cases rv
  exact ⟨rfl, k _ _ _ _ _ h2 (Ex.refl F) r s (.refl _ _)⟩
theorem qgs_cons (h1 : PG X e (LG G vs g)) (h2 : PGs X es (LGs G ws gs)) (hs : (assignEach (e :: es) X.env).map (·.2) = assign e X.env :: (assignEach es X.env).map (·.2) := by rfl) : PGs X (e :: es) (LGs G (vs ++ ws) (gConsD g gs)) :=
  PGs.imp (pgs_cons h1 h2 hs) fun us σ H Q h => by
    obtain ⟨F, m, δ, ds, Q0, r, s, rv, h, k⟩ := h
    cases rv with
    | nil => exact False.elim h
    | cons rd rr =>
      refine ⟨_, _, rfl, F, m, δ, _, _, r, s, rd, h, fun δ1 m1 σ1 F1 H1 h1 e1 r1 s1 c1 => ?_⟩
      exact ⟨F1, m1, δ1, _, Q0, r1, s1, rr.mono e1, h1, fun δ2 m2 σ2 F2 H2 h2 e2 r2 s2 c2 => k _ _ _ _ _ h2 (e1.trans e2) r2 s2 (c1.comp c2)⟩
def gSeq (n : Nat) (gs : DGs) : DG := fun d δ m Q => match asQ m d with
  | some xs => xs.length = n ∧ gs xs δ m Q
  | none => False
theorem qg_tup {k n : Nat} (hK : X.K = G.K) (hc : X.calm = true) (h : PGs X es (LGs G vs gs)) (hn : (assignEach es X.env).length = n := by rfl) (hst : (assignEach es X.env).findIdx? (·.1) = none := by rfl) : PG X (.Tuple es k pos) (LG G vs (gSeq n gs)) := by
  refine ⟨fun pins s σ H v u Q I rv h => ?_⟩
  obtain ⟨F, m, δ, d, Q0, r, sr, rd, h, k⟩ := h
  unfold gSeq at h
  cases ea : asQ m d with
  | none => rw [ea] at h; exact False.elim h
  | some xs =>
    rw [ea] at h
    obtain ⟨hl, h⟩ := h
    obtain ⟨a, us, rfl, hs, hr⟩ := asQ_ok r rd ea
    have inner : LGs G vs gs us σ H Q := ⟨F, m, δ, xs, Q0, r, sr, hr, h, k⟩
    rcases hs with hs | hs
    · exact (pg_lst hc ‹PGs X es (LGs G vs gs)› hn hst).run pins s σ H _ u Q I rv ⟨a, us, rfl, by rw [hK]; exact hs, by rw [hr.length]; exact hl, inner⟩
    · exact (pg_tup hc ‹PGs X es (LGs G vs gs)› hn hst).run pins s σ H _ u Q I rv ⟨a, us, rfl, by rw [hK]; exact hs, by rw [hr.length]; exact hl, inner⟩
/-- o[i] = d -/
def setD (o i d : DV) (m : Sto) (Q : Sto → Prop) : Prop := match o with
  | .ref p => match m p with
    | some (.lst xs) => match i with
      | .int k => match ixN xs.length k with
        | some j => Q (put m p (.lst (xs.set j d)))
        | none => False
      | _ => False
    | some (.dct kvs) => match dK? i with
      | some k => kvs.length < sizeLine ∧ Q (put m p (.dct (putD kvs k d)))
      | none => False
    | some (.dcT kvs) => match i with
      | .tup ks => match dKs? ks with
        | some k => kvs.length < sizeLine ∧ Q (put m p (.dcT (putD kvs k d)))
        | none => False
      | _ => False
    | _ => False
  | _ => False
def LSet (G : Gam) : TSet := fun o i v H Q => ∃ F m do' di dv Q0, Rel G F m H ∧ VR G.K F o do' ∧ VR G.K F i di ∧ VR G.K F v dv ∧ setD do' di dv m Q0 ∧ ∀ m' H', Q0 m' → Rel G F m' H' → Q H'
theorem pset (hu : X.A.units + 1 < cLine) : PSet X (LSet G) := by
  intro pins s σ H o i v ov iv u Q I ro ri rv h
  obtain ⟨F, m, do', di, dv, Q0, r, r1, r2, r3, h, k⟩ := h
  cases r1 <;> first | exact False.elim h | skip
  rename_i p
  unfold setD at h
  dsimp only at h
  cases em : m p with
  | none => rw [em] at h; exact False.elim h
  | some ob =>
    rw [em] at h
    cases ob with
    | lst xs =>
      dsimp only at h
      cases r2 <;> first | exact False.elim h | skip
      rename_i j
      dsimp only at h
      cases ej : ixN xs.length j with
      | none => rw [ej] at h; exact False.elim h
      | some n =>
        rw [ej] at h
        obtain ⟨_, w, hw, us, rfl, hr⟩ := r.mo p _ em
        exact set_list pins s σ H _ _ v ov iv u Q I ro ri rv ⟨p, us, j, n, rfl, rfl, hw, by rw [hr.length]; exact ej, k _ _ h (r.write em ⟨_, rfl, hr.set r3 n⟩)⟩
    | dct kvs =>
      dsimp only at h
      cases ek : dK? di with
      | none => rw [ek] at h; exact False.elim h
      | some key =>
        rw [ek] at h
        obtain ⟨hz, h⟩ := h
        obtain ⟨_, w, hw, kv, rfl, hr⟩ := r.mo p _ em
        have ey := vr_key r2 ek
        subst ey
        exact set_dict hu pins s σ H _ _ v ov iv u Q I ro ri rv ⟨p, _, rfl, .inl ⟨kv, key, hw, rfl, by rw [KR.length hr]; exact hz, rfl⟩, k _ _ h (r.write em ⟨_, rfl, KR.put hr (dk_nodup I hw) key r3⟩)⟩
    | dcT kvs =>
      dsimp only at h
      cases r2 <;> first | exact False.elim h | skip
      rename_i b us ds hb hv
      dsimp only at h
      cases ek : dKs? ds with
      | none => rw [ek] at h; exact False.elim h
      | some key =>
        rw [ek] at h
        obtain ⟨hz, h⟩ := h
        obtain ⟨_, w, hw, kv, rfl, hr⟩ := r.mo p _ em
        have ey := vr_keys hv ek
        subst ey
        exact set_dict hu pins s σ H _ _ v ov iv u Q I ro ri rv ⟨p, _, rfl, .inr ⟨kv, key, b, hw, rfl, r.ex _ _ hb, by rw [KR.length hr]; exact hz, rfl⟩, k _ _ h (r.write em ⟨_, rfl, KR.put hr (dt_nodup I hw) key r3⟩)⟩
    | _ => exact False.elim h
def gSubD (wo wi : DE) : DG := fun d δ m Q => wo δ m fun o m1 => wi δ m1 fun i m2 => setD o i d m2 fun m3 => Q δ m3
theorem qg_sub (dx : DX X G k) (ho : PE X o (LE G wo)) (hi : PE X i (LE G wi)) (ha : ∀ v, assign (.Subscript o i pos) X.env v = (do
      let ov ← holding [v] (eval o X.env)
      let iv ← holding [v, ov] (eval i X.env)
      standAt pos
      holding [v, ov, iv] (setItem ov iv v)
      release [v, ov, iv] []) := by intro _; rfl) : PG X (.Subscript o i pos) (LG G vs (gSubD wo wi)) :=
  PG.imp (pg_sub ho hi (pset (G := G) dx.u1) ha) fun v σ H Q h => by
    obtain ⟨F, m, δ, d, Q0, r, s, rv, h, k⟩ := h
    exact ⟨F, m, δ, _, r, s, h, fun d1 m1 v1 F1 H1 h1 e1 r1 q1 => ⟨F1, m1, δ, _, r1, s.mono e1, h1, fun d2 m2 v2 F2 H2 h2 e2 r2 q2 =>
      ⟨F2, m2, d1, d2, d, _, r2, q1.mono e2, q2, rv.mono (e1.trans e2), h2, fun m' H' hq r' => k _ _ _ _ _ hq (e1.trans e2) r' (s.mono (e1.trans e2)) (.refl _ _)⟩⟩⟩
def wNext : DS := fun D δ m => D.nx δ m
def wSeq (t u : DS) : DS := fun D δ m => t { D with nx := u D } δ m
def wBreak : DS := fun D δ m => D.bk δ m
def wCont : DS := fun D δ m => D.ct δ m
def wDrop (w : DE) : DS := fun D δ m => w δ m fun _ m1 => D.nx δ m1
def wRet (w : DE) : DS := fun D δ m => w δ m D.rt
def wRetN : DS := fun D _ m => D.rt .non m
def wIfS (c : DT) (t u : DS) : DS := fun D δ m => c δ m fun b m1 => if b = true then t D δ m1 else u D δ m1
def wNever : DS := fun _ _ _ => False
variable {st : Stmt} {sts : List Stmt} {t u : DS} {wt : DT}
theorem kts_of {F : Hp} {D0 : DEnds} {D : Ends} (k : KtD G F D0 D) : KtS G F D0.nx D.nx := k.nx
theorem qss_nil : PSs X [] (LS G wNext) := PSs.imp pss_nil fun D σ H h => by
  obtain ⟨F, m, δ, D0, r, s, h, k⟩ := h
  exact k.nx _ _ _ _ _ h (Ex.refl F) r s
theorem qss_cons (h1 : PS X st (LS G t)) (h2 : PSs X sts (LS G u)) : PSs X (st :: sts) (LS G (wSeq t u)) := PSs.imp (pss_cons h1 h2) fun D σ H h => by
  obtain ⟨F, m, δ, D0, r, s, h, k⟩ := h
  exact ⟨F, m, δ, _, r, s, h, ⟨fun δ1 m1 σ1 F1 H1 h1 e1 r1 s1 => ⟨F1, m1, δ1, D0, r1, s1, h1, k.mono e1⟩, k.rt, k.bk, k.ct⟩⟩
theorem qss_one (h1 : PS X st (LS G t)) : PSs X [st] (LS G t) := pss_one h1
theorem qs_pass : PS X (.Pass pos) (LS G wNext) := PS.imp ps_pass fun D σ H h => by
  obtain ⟨F, m, δ, D0, r, s, h, k⟩ := h
  exact k.nx _ _ _ _ _ h (Ex.refl F) r s
theorem qs_break : PS X (.Break pos) (LS G wBreak) := PS.imp ps_break fun D σ H h => by
  obtain ⟨F, m, δ, D0, r, s, h, k⟩ := h
  exact k.bk _ _ _ _ _ h (Ex.refl F) r s
theorem qs_continue : PS X (.Continue pos) (LS G wCont) := PS.imp ps_continue fun D σ H h => by
  obtain ⟨F, m, δ, D0, r, s, h, k⟩ := h
  exact k.ct _ _ _ _ _ h (Ex.refl F) r s
theorem qs_expr (he : PE X e (LE G w)) (hs : swapsWith e none pos.line X.env = pure false := by rfl) : PS X (.Expr e pos) (LS G (wDrop w)) := PS.imp (ps_expr he hs) fun D σ H h => by
  obtain ⟨F, m, δ, D0, r, s, h, k⟩ := h
  exact ⟨F, m, δ, _, r, s, h, fun d m1 v F1 H1 h1 e1 r1 v1 => k.nx _ _ _ _ _ h1 e1 r1 (s.mono e1)⟩
theorem qs_ret (he : PE X e (LE G w)) : PS X (.Return (some e) pos) (LS G (wRet w)) := PS.imp (ps_ret he) fun D σ H h => by
  obtain ⟨F, m, δ, D0, r, s, h, k⟩ := h
  exact ⟨F, m, δ, _, r, s, h, k.rt⟩
theorem qs_retN : PS X (.Return none pos) (LS G wRetN) := PS.imp ps_retN fun D σ H h => by
  obtain ⟨F, m, δ, D0, r, s, h, k⟩ := h
  exact k.rt _ _ _ _ _ h (Ex.refl F) r .non
theorem qs_if {c : Expr} {a b : List Stmt} (hc : PT X c (LT G wt)) (ha : PSs X a (LS G t)) (hb : PSs X b (LS G u)) : PS X (.If c a b pos) (LS G (wIfS wt t u)) := PS.imp (ps_if hc ha hb) fun D σ H h => by
  obtain ⟨F, m, δ, D0, r, s, h, k⟩ := h
  refine ⟨F, m, δ, _, r, s, h, fun b m1 F1 H1 h1 e1 r1 => ?_⟩
  cases b with
  | true => exact ⟨F1, m1, δ, D0, r1, s.mono e1, h1, k.mono e1⟩
  | false => exact ⟨F1, m1, δ, D0, r1, s.mono e1, h1, k.mono e1⟩
theorem qs_never : PS X st (LS G wNever) := PS.imp ps_never fun D σ H h => by
  obtain ⟨F, m, δ, D0, r, s, h, k⟩ := h
  exact h
theorem qss_never : PSs X sts (LS G wNever) := PSs.imp pss_never fun D σ H h => by
  obtain ⟨F, m, δ, D0, r, s, h, k⟩ := h
  exact h
/-- target = e -/
def wAsg (w : DE) (g : DG) : DS := fun D δ m => w δ m fun d m1 => g d δ m1 D.nx
theorem ls_asg {D : Ends} {σ : L2.St} {H : Hp} (h : LS G (wAsg w g) D σ H) : tAsg (LE G w) (LG G vs g) D σ H := by
  obtain ⟨F, m, δ, D0, r, s, h, k⟩ := h
  exact ⟨F, m, δ, _, r, s, h, fun d m1 v F1 H1 h1 e1 r1 v1 => ⟨F1, m1, δ, d, _, r1, s.mono e1, v1, h1, fun δ' m' σ' F' H' q e' r' s' _ => k.nx _ _ _ _ _ q (e1.trans e') r' s'⟩⟩
theorem qs_asg {tg : Expr} (he : PE X e (LE G w)) (hg : PG X tg (LG G vs g)) (hs : swapsWithSole [tg] e pos.line X.env = pure false := by rfl) (hw : swappedStores [tg] e X.env = pure none := by rfl) (h1 : (assignEach [tg] X.env).map (·.2) = [assign tg X.env] := by rfl) : PS X (.Assign [tg] e pos) (LS G (wAsg w g)) :=
  PS.imp (ps_asg he hg hs hw h1) fun D σ H h => ls_asg h
theorem le_gname {D : Ends} {σ : L2.St} {H : Hp} {i : Nat} {te : TE} (hte : ∀ σ H Q, LE G w σ H Q → te σ H Q) (h : LS G (wAsg w (gN i)) D σ H) : tAsg te (gName i) D σ H := by
  obtain ⟨F, m, δ, D0, r, s, h, k⟩ := h
  exact hte _ _ _ ⟨F, m, δ, _, r, s, h, fun d m1 v F1 H1 h1 e1 r1 v1 => k.nx _ _ _ _ _ h1 e1 r1 ((s.mono e1).set i v1)⟩
theorem qs_set {i : Nat} {pos' : Pos} (hN : X.N.Nodup) (hi : X.N[i]? = some x) (hx : Loc X.env.scope x) (he : PE X e (LE G w)) (hs : swapsWith e (some (.Name x pos')) pos.line X.env = pure false := by rfl) (hf : X.fn x = true ∨ X.env.scope.names.lookup x = some .local := by first | exact .inl rfl | exact .inr rfl | assumption) :
    PS X (.Assign [.Name x pos'] e pos) (LS G (wAsg w (gN i))) := PS.imp (ps_set hN hi hx he hs hf) fun D σ H h => le_gname (fun _ _ _ h => h) h
def wPar (i j : Nat) (t : DA) : DS := fun D δ m => t δ m fun ds m1 => match ds with
  | [a, b] => D.nx ((δ.set i (some a)).set j (some b)) m1
  | _ => False
theorem qs_par {i j : Nat} {y : Str} {a b : Expr} {wl : DA} {px py pt : Pos} {kt k2 pt2} (hc : X.calm = true) (hN : X.N.Nodup) (hi : X.N[i]? = some x) (hj : X.N[j]? = some y) (hij : i ≠ j)
    (hx : X.env.scope.names.lookup x = some .local) (hy : X.env.scope.names.lookup y = some .local) (ha : PA X [a, b] (LA G wl))
    (hw : swappedStores [.Tuple [.Name x px, .Name y py] kt pt] (.Tuple [a, b] k2 pt2) X.env = pure (some [x, y]) := by rfl)
    (hs : swapsWithSole [.Tuple [.Name x px, .Name y py] kt pt] (.Tuple [a, b] k2 pt2) pos.line X.env = pure false := by rfl) : PS X (.Assign [.Tuple [.Name x px, .Name y py] kt pt] (.Tuple [a, b] k2 pt2) pos) (LS G (wPar i j wl)) :=
  PS.imp (ps_par hc hN hi hj hij hx hy ha hw hs) fun D σ H h => by
    obtain ⟨F, m, δ, D0, r, s, h, k⟩ := h
    refine ⟨F, m, δ, _, r, s, h, fun ds m1 vs F1 H1 h1 e1 r1 v1 => ?_⟩
    match ds, h1 with
    | [c, d], h1 =>
      obtain ⟨v, w, rfl, rv, rw'⟩ := v1.two_inv
      exact ⟨v, w, rfl, k.nx _ _ _ _ _ h1 e1 r1 (((s.mono e1).set i rv).set j rw')⟩
def wPar3 (i j l : Nat) (t : DA) : DS := fun D δ m => t δ m fun ds m1 => match ds with
  | [a, b, c] => D.nx (((δ.set i (some a)).set j (some b)).set l (some c)) m1
  | _ => False
theorem qs_par3 {i j l : Nat} {y z : Str} {a b c : Expr} {wl : DA} {px py pz pt : Pos} {kt k2 pt2} (hc : X.calm = true) (hN : X.N.Nodup) (hi : X.N[i]? = some x) (hj : X.N[j]? = some y) (hl : X.N[l]? = some z) (hij : i ≠ j) (hil : i ≠ l) (hjl : j ≠ l)
    (hx : X.env.scope.names.lookup x = some .local) (hy : X.env.scope.names.lookup y = some .local) (hz : X.env.scope.names.lookup z = some .local) (ha : PA X [a, b, c] (LA G wl))
    (hw : swappedStores [.Tuple [.Name x px, .Name y py, .Name z pz] kt pt] (.Tuple [a, b, c] k2 pt2) X.env = pure (some [x, y, z]) := by rfl)
    (hs : swapsWithSole [.Tuple [.Name x px, .Name y py, .Name z pz] kt pt] (.Tuple [a, b, c] k2 pt2) pos.line X.env = pure false := by rfl) : PS X (.Assign [.Tuple [.Name x px, .Name y py, .Name z pz] kt pt] (.Tuple [a, b, c] k2 pt2) pos) (LS G (wPar3 i j l wl)) :=
  PS.imp (ps_par3 hc hN hi hj hl hij hil hjl hx hy hz ha hw hs) fun D σ H h => by
    obtain ⟨F, m, δ, D0, r, s, h, k⟩ := h
    refine ⟨F, m, δ, _, r, s, h, fun ds m1 vs F1 H1 h1 e1 r1 v1 => ?_⟩
    match ds, h1 with
    | [c, d, f], h1 =>
      obtain ⟨v, w, u, rfl, rv, rw', ru⟩ := v1.three_inv
      exact ⟨v, w, u, rfl, k.nx _ _ _ _ _ h1 e1 r1 ((((s.mono e1).set i rv).set j rw').set l ru)⟩
/-- o.f = e -/
def setF (c i : Nat) (o d : DV) (m : Sto) (Q : Sto → Prop) : Prop := match o with
  | .ref p => match m p with
    | some (.ins c' fs) => c' = c ∧ fs.length < 1000 ∧ Q (put m p (.ins c (putN i d fs)))
    | _ => False
  | _ => False
theorem setF_ok {F H : Hp} {m : Sto} {v y : V} {d d' : DV} {c i : Nat} {Q0 : Sto → Prop} (hi : G.Inj) (r : Rel G F m H) (rv : VR G.K F v d) (ry : VR G.K F y d') (h : setF c i d d' m Q0) :
    ∃ a dx fs, v = .ref a ∧ H a = some (.ins (G.cls c) dx fs) ∧ fs.length < 1000 ∧ ∃ m', Q0 m' ∧ Rel G F m' (upd H a (.ins (G.cls c) dx (putF (G.fld i) y fs))) := by
  cases rv <;> first | exact False.elim h | skip
  rename_i a
  unfold setF at h
  dsimp only at h
  cases e : m a with
  | none => rw [e] at h; exact False.elim h
  | some ob =>
    rw [e] at h
    cases ob <;> first | exact False.elim h | skip
    dsimp only at h
    obtain ⟨rfl, hz, h⟩ := h
    rename_i fs
    obtain ⟨_, u, hu, dx, fv, rfl, hf⟩ := r.mo a _ e
    exact ⟨a, dx, fv, rfl, hu, by rw [Paired.length hf]; exact hz, _, h, r.write e ⟨dx, _, rfl, FR.put hi ry hf⟩⟩
def wSetF (c i : Nat) (wo w : DE) : DS := fun D δ m => w δ m fun d m1 => wo δ m1 fun o m2 => setF c i o d m2 fun m3 => D.nx δ m3
theorem qs_fld {f : Str} {c i : Nat} {pos' : Pos} (hi : G.Inj) (hf : G.fld i = f) (cl : Cls X.K (G.cls c)) (na : NoAttr X.K (G.cls c) f) (ho : PE X o (LE G wo)) (he : PE X e (LE G w)) (hs : swapsWith e (some (.Attribute o f pos')) pos.line X.env = pure false := by rfl) :
    PS X (.Assign [.Attribute o f pos'] e pos) (LS G (wSetF c i wo w)) := PS.imp (ps_fld ho he hs) fun D σ H h => by
  obtain ⟨F, m, δ, D0, r, s, h, k⟩ := h
  refine ⟨F, m, δ, _, r, s, h, fun d m1 v F1 H1 h1 e1 r1 v1 => ⟨F1, m1, δ, _, r1, s.mono e1, h1, fun d2 m2 v2 F2 H2 h2 e2 r2 q2 => ?_⟩⟩
  obtain ⟨a, dx, fs, rfl, h3, h4, m', h5, h6⟩ := setF_ok hi r2 q2 (v1.mono e2) h2
  exact ⟨a, G.cls c, dx, fs, rfl, h3, cl, na, h4, by rw [← hf]; exact k.nx _ _ _ _ _ h5 (e1.trans e2) h6 (s.mono (e1.trans e2))⟩
/-- x op= y: ints, texts, a list that grows -/
def dIAdd : D2 := fun x y m Q => match x, y with
  | .int i, .int j => Q (.int (i + j)) m
  | _, _ => False
theorem in_addD : InOp X .Add (LR2 G dIAdd) := by
  intro pins s σ H x y u v Q I rx ry h
  obtain ⟨F, m, d1, d2, Q0, r, v1, v2, h, k⟩ := h
  cases v1 with
  | int i =>
    cases v2 with
    | int j => exact in_add pins s σ H _ _ u v Q I rx ry ⟨i, j, rfl, rfl, k _ _ _ _ _ h (Ex.refl F) r (.int _)⟩
    | _ => exact False.elim h
  | _ => exact False.elim (by cases v2 <;> exact h)
def dISub : D2 := fun x y m Q => match x, y with
  | .int i, .int j => Q (.int (i - j)) m
  | _, _ => False
theorem in_subD : InOp X .Sub (LR2 G dISub) := by
  intro pins s σ H x y u v Q I rx ry h
  obtain ⟨F, m, d1, d2, Q0, r, v1, v2, h, k⟩ := h
  cases v1 with
  | int i =>
    cases v2 with
    | int j => exact in_sub pins s σ H _ _ u v Q I rx ry ⟨i, j, rfl, rfl, k _ _ _ _ _ h (Ex.refl F) r (.int _)⟩
    | _ => exact False.elim h
  | _ => exact False.elim (by cases v2 <;> exact h)
def wAug (i : Nat) (R : D2) (w : DE) : DS := fun D δ m => match δ[i]? with
  | some (some d) => w δ m fun d2 m1 => R d d2 m1 fun d3 m2 => D.nx (δ.set i (some d3)) m2
  | _ => False
theorem qs_aug {i : Nat} {op : Operator} {R : D2} {pos' : Pos} (hN : X.N.Nodup) (hi : X.N[i]? = some x) (hx : Loc X.env.scope x) (he : PE X e (LE G w)) (ho : InOp X op (LR2 G R)) (hf : X.fn x = true ∨ X.env.scope.names.lookup x = some .local := by first | exact .inl rfl | exact .inr rfl | assumption) :
    PS X (.AugAssign (.Name x pos') op e pos) (LS G (wAug i R w)) := PS.imp (ps_aug hN hi hx he ho hf) fun D σ H h => by
  obtain ⟨F, m, δ, D0, r, s, h, k⟩ := h
  unfold wAug at h
  cases ei : δ[i]? with
  | none => rw [ei] at h; exact False.elim h
  | some od =>
    rw [ei] at h
    cases od with
    | none => exact False.elim h
    | some d =>
      obtain ⟨v, hv, rv⟩ := s.at_ i d ei
      exact ⟨v, hv, F, m, δ, _, r, s, h, fun d2 m1 y F1 H1 h1 e1 r1 v1 => ⟨F1, m1, d, d2, _, r1, rv.mono e1, v1, h1, fun d3 m2 z F2 H2 h2 e2 r2 v2 => k.nx _ _ _ _ _ h2 (e1.trans e2) r2 ((s.mono (e1.trans e2)).set i v2)⟩⟩
def wAugF (c i : Nat) (R : D2) (wo w : DE) : DS := fun D δ m => wo δ m fun o m1 => fldD c i o m1 fun x m2 => w δ m2 fun y m3 => R x y m3 fun z m4 => setF c i o z m4 fun m5 => D.nx δ m5
theorem qs_fldaug {f : Str} {c i : Nat} {op : Operator} {R : D2} {tpos : Pos} (hi : G.Inj) (hf : G.fld i = f) (cl : Cls X.K (G.cls c)) (na : NoAttr X.K (G.cls c) f) (ho : PE X o (LE G wo)) (he : PE X e (LE G w)) (hop : InOp X op (LR2 G R)) :
    PS X (.AugAssign (.Attribute o f tpos) op e pos) (LS G (wAugF c i R wo w)) := PS.imp (ps_fldaug ho he hop) fun D σ H h => by
  obtain ⟨F, m, δ, D0, r, s, h, k⟩ := h
  refine ⟨F, m, δ, _, r, s, h, fun d m1 v F1 H1 h1 e1 r1 v1 => ?_⟩
  have kk : Kt G F1 (fun x m2 => w δ m2 fun y m3 => R x y m3 fun z m4 => setF c i d z m4 fun m5 => D0.nx δ m5) fun x H' => ∃ F2 m2 dd, Ex F1 F2 ∧ Rel G F2 m2 H' ∧ VR G.K F2 x dd ∧ w δ m2 fun y m3 => R dd y m3 fun z m4 => setF c i d z m4 fun m5 => D0.nx δ m5 :=
    fun dd m2 x F2 H2 h2 e2 r2 v2 => ⟨F2, m2, dd, e2, r2, v2, h2⟩
  obtain ⟨a, dx, fs, x, rfl, h3, h4, F2, m2, dd, e2, r2, v2, h5⟩ := fld_ok hi r1 v1 h1 kk
  refine ⟨a, G.cls c, dx, fs, x, rfl, h3, cl, na, by rw [← hf]; exact h4, F2, m2, δ, _, r2, s.mono (e1.trans e2), h5, fun y m3 vy F3 H3 h6 e3 r3 v3 => ⟨F3, m3, dd, y, _, r3, v2.mono e3, v3, h6, fun z m4 vz F4 H4 h7 e4 r4 v4 => ?_⟩⟩
  obtain ⟨a', dx', fs', h8, h9, h10, m', h11, h12⟩ := setF_ok hi r4 (v1.mono ((e2.trans e3).trans e4)) v4 h7
  cases h8
  exact ⟨dx', fs', h9, h10, by rw [← hf]; exact k.nx _ _ _ _ _ h11 (((e1.trans e2).trans e3).trans e4) h12 (s.mono (((e1.trans e2).trans e3).trans e4))⟩
def wWhile (c : DT) (tb : DS) : DS := fun D δ m => ∃ W : Nat → Slots → Sto → Prop, (∃ n, W n δ m) ∧ ∀ n δ m, W n δ m →
  c δ m fun b m1 => if b = true then tb { nx := fun δ' m' => ∃ n', n' < n ∧ W n' δ' m', rt := D.rt, bk := D.nx, ct := fun δ' m' => ∃ n', n' < n ∧ W n' δ' m' } δ m1 else D.nx δ m1
theorem qs_while {c : Expr} {body : List Stmt} (dx : DX X G k) (hc : PT X c (LT G wt)) (hb : PSs X body (LS G t)) : PS X (.While c body [] pos) (LS G (wWhile wt t)) := PS.imp (ps_while dx.pas hc hb) fun D σ H h => by
  obtain ⟨F, m, δ, D0, r, s, ⟨W, ⟨n0, h0⟩, hs⟩, k⟩ := h
  refine ⟨fun n σ' H' => ∃ F' m' δ', Ex F F' ∧ Rel G F' m' H' ∧ SR G.K F' σ' δ' ∧ W n δ' m', ⟨n0, F, m, δ, Ex.refl F, r, s, h0⟩, ?_⟩
  rintro n σ' H' ⟨F', m', δ', e', r', s', w'⟩
  refine ⟨F', m', δ', _, r', s', hs n δ' m' w', fun b m1 F1 H1 h1 e1 r1 => ?_⟩
  cases b with
  | false => exact k.nx _ _ _ _ _ h1 (e'.trans e1) r1 (s'.mono e1)
  | true =>
    refine ⟨fun σ2 H2 => ∃ n', n' < n ∧ ∃ F' m' δ', Ex F F' ∧ Rel G F' m' H2 ∧ SR G.K F' σ2 δ' ∧ W n' δ' m', fun _ _ q => q, F1, m1, δ', _, r1, s'.mono e1, h1, ?_⟩
    have nx : KtS G F1 (fun δ' m' => ∃ n', n' < n ∧ W n' δ' m') (fun σ2 H2 => ∃ n', n' < n ∧ ∃ F' m' δ', Ex F F' ∧ Rel G F' m' H2 ∧ SR G.K F' σ2 δ' ∧ W n' δ' m') := fun δ2 m2 σ2 F2 H2 ⟨n', hn, w2⟩ e2 r2 s2 => ⟨n', hn, F2, m2, δ2, (e'.trans e1).trans e2, r2, s2, w2⟩
    exact ⟨nx, (k.mono (e'.trans e1)).rt, (k.mono (e'.trans e1)).nx, nx⟩
def forGo (it : DIt) (g : DG) (tb : DS) (D : DEnds) : List DV → Slots → Sto → Prop
  | [], δ, m => it.st m ∧ it.fin m (D.nx δ)
  | x :: r, δ, m => it.st m ∧ g x δ m fun δ1 m1 => tb { nx := forGo it g tb D r, rt := fun v m' => it.fin m' (D.rt v), bk := fun δ' m' => it.fin m' (D.nx δ'), ct := forGo it g tb D r } δ1 m1
def wFor (wi : DI) (g : DG) (tb : DS) : DS := fun D δ m => wi δ m fun it m1 => forGo it g tb D it.items δ m1
theorem getElem_drop_cons {α : Type} {xs : List α} {i : Nat} {x : α} {r : List α} (h : xs.drop i = x :: r) : xs[i]? = some x ∧ xs.drop (i + 1) = r := by
  have h1 : (xs.drop i)[0]? = some x := by rw [h]; rfl
  rw [List.getElem?_drop, Nat.add_zero] at h1
  refine ⟨h1, ?_⟩
  have : xs.drop (i + 1) = (xs.drop i).drop 1 := by rw [List.drop_drop]
  rw [this, h]; rfl
theorem getElem_drop_nil {α : Type} {xs : List α} {i : Nat} (h : xs.drop i = []) : xs[i]? = none := by
  have := List.drop_eq_nil_iff.mp h
  exact List.getElem?_eq_none this
theorem qs_for {tg iter : Expr} {body : List Stmt} {wi : DI} (dx : DX X G k) (hi : PI X tg iter (LI X G wi)) (hg : PG X tg (LG G vs g)) (hb : PSs X body (LS G t)) (hs : ∀ x, foldedSetIterable iter X.env x = pure x := by intro _; rfl) :
    PS X (.For tg iter body [] pos) (LS G (wFor wi g t)) := PS.imp (PS.unl (ps_for dx.pas dx.calm hi hg hb hs)) fun D σ H h => by
  obtain ⟨F, m, δ, D0, r, s, h, k⟩ := h
  refine ⟨F, m, δ, _, r, s, h, fun it m1 F1 H1 J q e1 r1 ok hn => ?_⟩
  refine ⟨fun i n σ' H' => n = it.items.length - i ∧ i ≤ it.items.length ∧ ∃ F' m' δ', Ex F1 F' ∧ Rel G F' m' H' ∧ SR G.K F' σ' δ' ∧ forGo it g t D0 (it.items.drop i) δ' m', ⟨_, rfl, Nat.zero_le _, F1, m1, δ, Ex.refl F1, r1, s.mono e1, q⟩, ?_⟩
  rintro i n σ' H' ⟨rfl, hle, F', m', δ', e', r', s', w'⟩
  have nxOk : KtS G F' (fun δ m => it.fin m (D0.nx δ)) (UnlS X D.nx) := fun δ2 m2 σ2 F2 H2 h2 e2 r2 s2 =>
    fin_ok (N := fun H => D.nx σ2 H) r2 hn h2 fun m3 H3 h3 r3 => k.nx _ _ _ _ _ h3 ((e1.trans e').trans e2) r3 s2
  have rtOk : Kt G F' (fun v m => it.fin m (D0.rt v)) (UnlV X D.rt) := fun d2 m2 v2 F2 H2 h2 e2 r2 q2 =>
    fin_ok (N := fun H => D.rt v2 H) r2 hn h2 fun m3 H3 h3 r3 => k.rt _ _ _ _ _ h3 ((e1.trans e').trans e2) r3 q2
  cases ed : it.items.drop i with
  | nil =>
    rw [ed] at w'
    exact .inl ⟨(ok i F' m' H' e' r' w'.1).2 (getElem_drop_nil ed), nxOk _ _ _ _ _ w'.2 (Ex.refl F') r' s'⟩
  | cons x rest =>
    rw [ed] at w'
    obtain ⟨hx, hd⟩ := getElem_drop_cons ed
    obtain ⟨w1, w2⟩ := w'
    obtain ⟨go, yl⟩ := (ok i F' m' H' e' r' w1).1 x hx
    have hlt : i < it.items.length := by
      have := List.getElem?_eq_some_iff.mp hx
      obtain ⟨z, _⟩ := this
      exact z
    refine .inr ⟨go, fun σ2 H2 => ∃ F2 m2 δ2, Ex F1 F2 ∧ Rel G F2 m2 H2 ∧ SR G.K F2 σ2 δ2 ∧ forGo it g t D0 rest δ2 m2, fun σ2 H2 q2 => ⟨_, (by omega : it.items.length - (i + 1) < it.items.length - i), rfl, hlt, by rw [hd]; exact q2⟩, fun y H2 hy => ?_⟩
    obtain ⟨F2, e2, r2, v2⟩ := yl y H2 hy
    refine ⟨F2, m', δ', x, _, r2, s'.mono e2, v2, w2, fun δ3 m3 σ3 F3 H3 h3 e3 r3 s3 _ => ⟨F3, m3, δ3, _, r3, s3, h3, ?_⟩⟩
    have e13 : Ex F1 F3 := (e'.trans e2).trans e3
    have nx : KtS G F3 (forGo it g t D0 rest) (fun σ2 H2 => ∃ F2 m2 δ2, Ex F1 F2 ∧ Rel G F2 m2 H2 ∧ SR G.K F2 σ2 δ2 ∧ forGo it g t D0 rest δ2 m2) := fun δ4 m4 σ4 F4 H4 h4 e4 r4 s4 => ⟨F4, m4, δ4, e13.trans e4, r4, s4, h4⟩
    exact ⟨nx, rtOk.mono (e2.trans e3), nxOk.mono (e2.trans e3), nx⟩
end
end DL
namespace DL
open PySem PySem.Spec PyProof.Rows L2 RZ
section
variable {P : Program} {w : World} {A : Around} {E : Value → Shared → Prop} {s : Shared}
set_option maxRecDepth 100000 in
set_option maxHeartbeats 3200000 in
theorem call_set_listI {l : Addr} {items : Array Value} (ns : List Int) {Q : Value → Shared → Prop} (hh : A.handled = none) (hl : s.heap.IsList l items) (hit : IntsAre items.toList ns) (hb : ns.length + 1 < scanBound)
    (h : ∀ (h' : Heap) (tk c : Nat), SetR w h' s.heap.objs.size (fun j => decide (j ∈ ns)) c → c ≤ ns.length → (∀ b o, s.heap.get? b = some o → h'.get? b = some o) → Q (.ref s.heap.objs.size) { s with heap := h', toks := tk }) :
    wpAny (model P w) A (call (.type "set") [.ref l]) Q E s := by
  have hisz : items.size = ns.length := by
    have q := IntsAre.length hit
    rw [Array.length_toList] at q
    exact q
  obtain ⟨c, tl, hmro⟩ := F.called_set.mro
  have hmade := F.called_set.made
  have hsub := F.called_set.sub
  refine wpAny_call (codeAny_of_tree ?_)
  show wpAny _ _ (callAny (.type "set") _) _ _ _
  refine wpAny_pure ⟨Code.quiet_builtin _ (by decide +kernel), codeAny_builtin F.entry_type_call ?_⟩
  rw [Around.under_plain (weight_type_call_type "set" [.ref l] []) rfl]
  have h1 := F.called_set.notType
  have h2 := F.called_set.canCreate
  have hct := F.typeCall_set_1 (.ref l)
  repeat (any_goals (first | assumption | wp_step))
  refine codeAny_mono (code_set_led1 (.ref l) (E := E) (Q₁ := fun obj s₁ => obj = .ref s.heap.objs.size ∧ s₁ = { s with heap := s.heap.push { cls := .type "set", dict := none, data := .set #[] 0 (.fresh 0 0 (!w.params.followText "set-order")) } }) ⟨rfl, rfl⟩) fun r s₁ hr => ?_
  cases r with
  | error e => exact hr
  | ok fl =>
    cases fl with
    | ret obj =>
      obtain ⟨rfl, rfl⟩ := hr
      have hS : (s.heap.push { cls := .type "set", dict := none, data := .set #[] 0 (.fresh 0 0 (!w.params.followText "set-order")) }).get? s.heap.objs.size = some { cls := .type "set", dict := none, data := .set #[] 0 (.fresh 0 0 (!w.params.followText "set-order")) } := Heap.get?_push_size _ rfl
      have hT : Shared.TypeIs { s with heap := s.heap.push { cls := .type "set", dict := none, data := .set #[] 0 (.fresh 0 0 (!w.params.followText "set-order")) } } (.ref s.heap.objs.size) "set" := ⟨_, hS, rfl⟩
      have hli := F.called_set.init.lookup
      have hbi := F.called_set.init.bind (.ref s.heap.objs.size)
      repeat (any_goals (first | assumption | wp_step))
      refine codeAny_mono (codeAny_call_builtin (R := wants (fun r s₂ => r = .none ∧ ∃ h' tk c, s₂ = { s with heap := h', toks := tk } ∧ SetR w h' s.heap.objs.size (fun j => decide (j ∈ ns)) c ∧ c ≤ ns.length ∧
          (∀ b o, s.heap.get? b = some o → h'.get? b = some o)) E) F.called_set.init.plain F.entry_set_init (check_set_init_1 hT ?_)) fun r₂ s₂ hr₂ => ?_
      · obtain ⟨ol, hol, hcl, nl, hdl⟩ := hl
        obtain ⟨ocls, odict, odata, oslots⟩ := ol
        simp only at hcl hdl
        subst hcl; subst hdl
        have hol' : (s.heap.push { cls := .type "set", dict := none, data := .set #[] 0 (.fresh 0 0 (!w.params.followText "set-order")) }).get? l = some { cls := .type "list", dict := odict, data := .seq items nl, slots := oslots } := Heap.get?_push_of_some _ hol
        have hsls := F.sub_list_set
        have hslf := F.sub_list_frozenset
        have hne : (Value.type "tuple" == Value.type "dict") = false := by decide
        have hl1 : (s.heap.push { cls := .type "set", dict := none, data := .set #[] 0 (.fresh 0 0 (!w.params.followText "set-order")) }).IsList l items := ⟨_, hol', rfl, nl, rfl⟩
        unfold Builtin.«set.__init__» noKeywords Builtin.Frozenset.updateFrom
        generalize hPI : pyIter = PI
        wp_walk
        subst hPI
        refine wpAny_pyIter_list hl1 ?_
        refine wpAny_bind (wpAny_runValue ?_)
        have hlS : l < s.heap.objs.size := Heap.lt_size hol
        have hh3 : A.in1.in1.in1.handled = none := by simp [hh]
        have hz1 : (s.heap.push { cls := .type "set", dict := none, data := .set #[] 0 (.fresh 0 0 (!w.params.followText "set-order")) }).objs.size = s.heap.objs.size + 1 := Heap.size_push ..
        have hneI : l ≠ (s.heap.push { cls := .type "set", dict := none, data := .set #[] 0 (.fresh 0 0 (!w.params.followText "set-order")) }).objs.size := by
          rw [Heap.size_push]; exact Nat.ne_of_lt (Nat.lt_succ_of_lt hlS)
        have hSf : s.heap.objs.size ∉ [(s.heap.push { cls := .type "set", dict := none, data := .set #[] 0 (.fresh 0 0 (!w.params.followText "set-order")) }).objs.size, l] := by
          rw [Heap.size_push]; simp only [List.mem_cons, List.mem_singleton, List.not_mem_nil, or_false, not_or]
          exact ⟨Nat.ne_of_lt (Nat.lt_succ_self _), Nat.ne_of_gt hlS⟩
        have hval : ∀ (i : Nat) (v : Value), items[i]? = some v → ∃ k t, ns[i]? = some k ∧ v = .int k t := fun i v hv => by
          have hi : i < ns.length := by rw [← hisz]; exact (Array.getElem?_eq_some_iff.mp hv).1
          obtain ⟨t, e⟩ := PyProof.Rows.IntsAre.int_at hit i v (by rw [Array.getElem?_toList]; exact hv)
          refine ⟨ns[i], t, List.getElem?_eq_getElem hi, ?_⟩
          rw [e, List.getD_eq_getElem?_getD, List.getElem?_eq_getElem hi] <;> rfl
        refine set_update_ints ((Walks.list hh3 _ l hneI items).toS) s.heap.objs.size
          hSf ns hisz hb hval (items.size - 0) 0 _ (by omega) (Nat.zero_le _)
          ⟨⟨_, Heap.get?_push_size _ rfl, rfl, rfl⟩, (hl1.push _)⟩ ?hS0 ?hR
        case hS0 =>
          have hget : ((s.heap.push { cls := .type "set", dict := none, data := .set #[] 0 (.fresh 0 0 (!w.params.followText "set-order")) }).push { cls := .type "list_iterator", data := .fields #[.ref l, .int 0 0] }).get? s.heap.objs.size
              = some { cls := .type "set", dict := none, data := .set #[] 0 (.fresh 0 0 (!w.params.followText "set-order")) } := Heap.get?_push_of_some _ hS
          exact ⟨0, Nat.le_refl 0, setR_new_at hget⟩
        case hR =>
          intro s' c' hm hc' hS'
          obtain ⟨h', g2, d', tk', os'⟩ := s'
          have eg : g2 = s.gens := hm.gens
          have ed : d' = s.drawn := hm.drawn
          have eo : os' = s.os := hm.os
          subst eg; subst ed; subst eo
          show wpAny _ _ _ _ _ _
          refine wpAny_pure ?_
          show wpAny _ _ (ret Value.none) _ _ _
          rw [hisz] at hc'
          refine wpAny_pure ⟨rfl, h', tk', c', rfl, hS', hc', fun b o e => ?_⟩
          have hb0 : b < s.heap.objs.size := Heap.lt_size e
          have hb1 : b ≠ s.heap.objs.size := Nat.ne_of_lt hb0
          have hb2 : b ≠ (s.heap.push { cls := .type "set", dict := none, data := .set #[] 0 (.fresh 0 0 (!w.params.followText "set-order")) }).objs.size := by
            rw [Heap.size_push]; exact Nat.ne_of_lt (Nat.lt_succ_of_lt hb0)
          exact hm.heap b o (by simp only [List.mem_cons, List.mem_singleton, List.not_mem_nil, or_false, not_or]; exact ⟨hb1, hb2⟩) (Heap.get?_push_of_some _ (Heap.get?_push_of_some _ e))
      · cases r₂ with
        | error e => exact hr₂
        | ok fl₂ =>
          cases fl₂ with
          | ret r =>
            obtain ⟨rfl, h', tk, c', rfl, hS', hc', hk'⟩ := hr₂
            repeat (any_goals (first | assumption | wp_step))
            exact h _ _ _ hS' hc' hk'
          | _ => exact hr₂.elim
    | _ => exact hr.elim
end
def LC (G : Gam) (R : DSp) : List V → Hp → VK → Prop := fun vs H Q => ∃ F m ds Q0, Rel G F m H ∧ VRs G.K F vs ds ∧ R ds m Q0 ∧ Kt G F Q0 Q
def wB (R : DSp) (t : DA) : DE := fun δ m Q => t δ m fun ds m1 => R ds m1 Q
section
variable {X : Cx} {G : Gam} {k : Nat} {e : Expr} {es : List Expr} {x : Str} {p pos : Pos} {R : DSp} {wl : DA} {w : DE}
theorem le_b {σ : L2.St} {H : Hp} {Q : VK} (h : LE G (wB R wl) σ H Q) : tCB (LC G R) (LA G wl) σ H Q := by
  obtain ⟨F, m, δ, Q0, r, s, h, k⟩ := h
  exact ⟨F, m, δ, _, r, s, h, fun ds m1 vs F1 H1 h1 e1 r1 v1 => ⟨F1, m1, ds, Q0, r1, v1, h1, k.mono e1⟩⟩
theorem qe_callB {id : String} (hc : CallR X (.builtin id) (LC G R)) (hg : Gl X x) (hm : X.mg x = none) (hv : bootBuiltins x = some (.builtin id)) (ha : PA X (e :: es) (LA G wl)) (hn : x ≠ "__name__" := by decide) (hdb : (x == ("__debug__" : Str)) = false := by decide)
    (he : starEach (e :: es) X.env = (false, eval e X.env) :: starEach es X.env := by rfl) (hpl : (backTo pos (starEach es X.env)).any (·.1) = false := by rfl) : PE X (.Call (.Name x p) (e :: es) [] pos) (LE G (wB R wl)) :=
  PE.imp (pe_callB hc hg hm hv ha hn hdb he hpl) fun _ _ _ h => le_b h
theorem qe_callTy {T : String} (hc : CallR X (.type T) (LC G R)) (hg : Gl X x) (hm : X.mg x = none) (hv : bootBuiltins x = some (.type T)) (ha : PA X (e :: es) (LA G wl)) (hn : x ≠ "__name__" := by decide) (hdb : (x == ("__debug__" : Str)) = false := by decide)
    (he : starEach (e :: es) X.env = (false, eval e X.env) :: starEach es X.env := by rfl) (hpl : (backTo pos (starEach es X.env)).any (·.1) = false := by rfl) : PE X (.Call (.Name x p) (e :: es) [] pos) (LE G (wB R wl)) :=
  PE.imp (pe_callTy hc hg hm hv ha hn hdb he hpl) fun _ _ _ h => le_b h
theorem lc_one {vs : List V} {H : Hp} {Q : VK} (h : LC G R vs H Q) : ∃ F m ds Q0, Rel G F m H ∧ VRs G.K F vs ds ∧ R ds m Q0 ∧ Kt G F Q0 Q := h
def ints? : List DV → Option (List Int)
  | [] => some []
  | .int i :: r => (ints? r).map (i :: ·)
  | _ => none
theorem ints_ok {K : PySem.W.Frag} {F : Hp} : ∀ {vs : List V} {ds : List DV} {ns : List Int}, VRs K F vs ds → ints? ds = some ns → vs = ns.map V.int
  | _, _, _, .nil, h => by cases h; rfl
  | _, _, _, .cons (d := d) (ds := ds) rv t, h => by
    cases rv <;> first | (exfalso; simp [ints?] at h; done) | skip
    simp only [ints?] at h
    cases e : ints? ds with
    | none => rw [e] at h; cases h
    | some ms => rw [e] at h; cases h; rw [ints_ok t e]; rfl
theorem ints_of (ns : List Int) : ints? (ns.map DV.int) = some ns := by
  induction ns with
  | nil => rfl
  | cons n r ih => simp [ints?, ih]
def bls? : List DV → Option (List Bool)
  | [] => some []
  | .bl i :: r => (bls? r).map (i :: ·)
  | _ => none
theorem bls_ok {K : PySem.W.Frag} {F : Hp} : ∀ {vs : List V} {ds : List DV} {ns : List Bool}, VRs K F vs ds → bls? ds = some ns → vs = ns.map V.bl
  | _, _, _, .nil, h => by cases h; rfl
  | _, _, _, .cons (d := d) (ds := ds) rv t, h => by
    cases rv <;> first | (exfalso; simp [bls?] at h; done) | skip
    simp only [bls?] at h
    cases e : bls? ds with
    | none => rw [e] at h; cases h
    | some ms => rw [e] at h; cases h; rw [bls_ok t e]; rfl
theorem bls_of (ns : List Bool) : bls? (ns.map DV.bl) = some ns := by
  induction ns with
  | nil => rfl
  | cons n r ih => simp [bls?, ih]
def strs? : List DV → Option (List Str)
  | [] => some []
  | .str i :: r => (strs? r).map (i :: ·)
  | _ => none
theorem strs_ok {K : PySem.W.Frag} {F : Hp} : ∀ {vs : List V} {ds : List DV} {ns : List Str}, VRs K F vs ds → strs? ds = some ns → vs = ns.map V.str
  | _, _, _, .nil, h => by cases h; rfl
  | _, _, _, .cons (d := d) (ds := ds) rv t, h => by
    cases rv <;> first | (exfalso; simp [strs?] at h; done) | skip
    simp only [strs?] at h
    cases e : strs? ds with
    | none => rw [e] at h; cases h
    | some ms => rw [e] at h; cases h; rw [strs_ok t e]; rfl
theorem strs_of (ns : List Str) : strs? (ns.map DV.str) = some ns := by
  induction ns with
  | nil => rfl
  | cons n r ih => simp [strs?, ih]
theorem vrs_strs {K : PySem.W.Frag} {F : Hp} : ∀ ns : List Str, VRs K F (ns.map V.str) (ns.map DV.str)
  | [] => .nil
  | n :: r => .cons (.str n) (vrs_strs r)
/-- the size of a value -/
def lenD (m : Sto) (d : DV) (Q : Int → Prop) : Prop := match d with
  | .str z => z.length ≤ sizeLine ∧ Q (z.length : Int)
  | d => match asQ m d with
    | some xs => Q (xs.length : Int)
    | none => match d with
      | .ref p => match m p with
        | some (.dct kvs) => Q (kvs.length : Int)
        | _ => False
      | _ => False
def dLen : DSp := fun ds m Q => match ds with
  | [d] => lenD m d fun n => Q (.int n) m
  | _ => False
theorem cd_len (hK : X.K = G.K) : CallR X (.builtin "len") (LC G dLen) := by
  intro pins s σ H vs us Q I rr h
  obtain ⟨F, m, ds, Q0, r, rv, h, k⟩ := h
  match ds, h with
  | [d], h =>
    obtain ⟨v, rfl, rd⟩ := rv.one_inv
    have seq : ∀ xs, asQ m d = some xs → Q0 (.int (xs.length : Int)) m → wpAny (model X.prog X.w) X.A (call (.builtin "len") us) (EP X pins σ Q) X.xe s := fun xs ea q => by
      obtain ⟨a, ws, rfl, hs, hr⟩ := asQ_ok r rd ea
      refine call_len_seq pins s σ H _ us Q I rr ⟨a, ws, rfl, by rw [hK]; exact hs, ?_⟩
      rw [hr.length]
      exact k _ _ _ _ _ q (Ex.refl F) r (.int _)
    cases rd with
    | str z => exact call_len_str pins s σ H _ us Q I rr ⟨z, rfl, h.1, k _ _ _ _ _ h.2 (Ex.refl F) r (.int _)⟩
    | ref a =>
      simp only [dLen, lenD] at h
      cases ea : asQ m (.ref a) with
      | some xs => rw [ea] at h; exact seq xs ea h
      | none =>
        rw [ea] at h
        dsimp only at h
        cases em : m a with
        | none => rw [em] at h; exact False.elim h
        | some ob =>
          rw [em] at h
          cases ob <;> first | exact False.elim h | skip
          rename_i kvs
          obtain ⟨_, u, hu, kv, rfl, hr⟩ := r.mo a _ em
          exact call_lenD pins s σ H _ us Q I rr ⟨a, kv, rfl, hu, by rw [KR.length hr]; exact k _ _ _ _ _ h (Ex.refl F) r (.int _)⟩
    | lst hs hr => exact seq _ rfl h
    | tup hs hr => exact seq _ rfl h
    | ktup hs hr => exact seq _ rfl h
    | klst hs hr => exact seq _ rfl h
    | _ => exact False.elim h
def dAbs : DSp := fun ds m Q => match ds with
  | [.int i] => Q (.int (if i < 0 then -i else i)) m
  | _ => False
theorem cd_abs : CallR X (.builtin "abs") (LC G dAbs) := by
  intro pins s σ H vs us Q I rr h
  obtain ⟨F, m, ds, Q0, r, rv, h, k⟩ := h
  match ds, h with
  | [.int i], h =>
    obtain ⟨v, rfl, rd⟩ := rv.one_inv
    cases rd
    exact call_abs pins s σ H _ us Q I rr ⟨i, rfl, k _ _ _ _ _ h (Ex.refl F) r (.int _)⟩
def dInt : DSp := fun ds m Q => match ds with
  | [.int i] => Q (.int i) m
  | [.bl b] => Q (.int (if b then 1 else 0)) m
  | _ => False
theorem cd_int : CallR X (.type "int") (LC G dInt) := by
  intro pins s σ H vs us Q I rr h
  obtain ⟨F, m, ds, Q0, r, rv, h, k⟩ := h
  match ds, h with
  | [.int i], h =>
    obtain ⟨v, rfl, rd⟩ := rv.one_inv
    cases rd
    exact call_int1 pins s σ H _ us Q I rr (.inl ⟨i, rfl, k _ _ _ _ _ h (Ex.refl F) r (.int _)⟩)
  | [.bl b], h =>
    obtain ⟨v, rfl, rd⟩ := rv.one_inv
    cases rd
    exact call_int1 pins s σ H _ us Q I rr (.inr ⟨b, rfl, k _ _ _ _ _ h (Ex.refl F) r (.int _)⟩)
def minL : List Int → Int
  | [] => 0
  | [x] => x
  | x :: r => if x ≤ minL r then x else minL r
theorem minL_ok : ∀ (n : Int) (ns : List Int), minL (n :: ns) ∈ n :: ns ∧ ∀ y ∈ n :: ns, minL (n :: ns) ≤ y
  | n, [] => by simp [minL]
  | n, a :: r => by
    obtain ⟨h1, h2⟩ := minL_ok a r
    show (if n ≤ minL (a :: r) then n else minL (a :: r)) ∈ n :: a :: r ∧ ∀ y ∈ n :: a :: r, (if n ≤ minL (a :: r) then n else minL (a :: r)) ≤ y
    split
    · refine ⟨List.mem_cons_self, fun y hy => ?_⟩
      rcases List.mem_cons.mp hy with rfl | hy
      · exact Int.le_refl _
      · have := h2 y hy
        omega
    · refine ⟨List.mem_cons_of_mem _ h1, fun y hy => ?_⟩
      rcases List.mem_cons.mp hy with rfl | hy
      · omega
      · exact h2 y hy
def maxL : List Int → Int
  | [] => 0
  | [x] => x
  | x :: r => if maxL r ≤ x then x else maxL r
theorem maxL_ok : ∀ (n : Int) (ns : List Int), maxL (n :: ns) ∈ n :: ns ∧ ∀ y ∈ n :: ns, y ≤ maxL (n :: ns)
  | n, [] => by simp [maxL]
  | n, a :: r => by
    obtain ⟨h1, h2⟩ := maxL_ok a r
    show (if maxL (a :: r) ≤ n then n else maxL (a :: r)) ∈ n :: a :: r ∧ ∀ y ∈ n :: a :: r, y ≤ (if maxL (a :: r) ≤ n then n else maxL (a :: r))
    split
    · refine ⟨List.mem_cons_self, fun y hy => ?_⟩
      rcases List.mem_cons.mp hy with rfl | hy
      · exact Int.le_refl _
      · have := h2 y hy
        omega
    · refine ⟨List.mem_cons_of_mem _ h1, fun y hy => ?_⟩
      rcases List.mem_cons.mp hy with rfl | hy
      · omega
      · exact h2 y hy
def dMin : DSp := fun ds m Q => match ds with
  | [.int i, .int j] => Q (.int (if j < i then j else i)) m
  | [d] => match asL m d with
    | some xs => match ints? xs with
      | some ns => 0 < ns.length ∧ Q (.int (minL ns)) m
      | none => False
    | none => False
  | _ => False
theorem cd_min (hK : X.K = G.K) (hc : X.calm = true) : CallR X (.builtin "min") (LC G dMin) := by
  intro pins s σ H vs us Q I rr h
  obtain ⟨F, m, ds, Q0, r, rv, h, k⟩ := h
  unfold dMin at h
  split at h
  · obtain ⟨v, w, rfl, rd, re⟩ := rv.two_inv
    cases rd
    cases re
    exact call_min2 hc pins s σ H _ us Q I rr ⟨_, _, rfl, k _ _ _ _ _ h (Ex.refl F) r (.int _)⟩
  · obtain ⟨v, rfl, rd⟩ := rv.one_inv
    rename_i d
    cases ea : asL m d with
    | none => rw [ea] at h; exact False.elim h
    | some xs =>
      rw [ea] at h
      dsimp only at h
      cases ei : ints? xs with
      | none => rw [ei] at h; exact False.elim h
      | some ns =>
        rw [ei] at h
        obtain ⟨a, ws, rfl, hs, hr⟩ := asL_ok r rd ea
        have := ints_ok hr ei
        subst this
        refine cr_min hc pins s σ H _ us Q I rr ⟨a, ns, rfl, by rw [hK]; exact hs, h.1, fun z hz hle => ?_⟩
        have e : z = minL ns := by
          cases ns with
          | nil => cases hz
          | cons n r =>
            obtain ⟨h1, h2⟩ := minL_ok n r
            have := hle _ h1
            have := h2 _ hz
            omega
        subst e
        exact k _ _ _ _ _ h.2 (Ex.refl F) r (.int _)
  · exact False.elim h
def dMax : DSp := fun ds m Q => match ds with
  | [.int i, .int j] => Q (.int (if j > i then j else i)) m
  | [d] => match asL m d with
    | some xs => match ints? xs with
      | some ns => 0 < ns.length ∧ Q (.int (maxL ns)) m
      | none => False
    | none => False
  | _ => False
theorem cd_max (hK : X.K = G.K) (hc : X.calm = true) : CallR X (.builtin "max") (LC G dMax) := by
  intro pins s σ H vs us Q I rr h
  obtain ⟨F, m, ds, Q0, r, rv, h, k⟩ := h
  unfold dMax at h
  split at h
  · obtain ⟨v, w, rfl, rd, re⟩ := rv.two_inv
    cases rd
    cases re
    exact call_max2 hc pins s σ H _ us Q I rr ⟨_, _, rfl, k _ _ _ _ _ h (Ex.refl F) r (.int _)⟩
  · obtain ⟨v, rfl, rd⟩ := rv.one_inv
    rename_i d
    cases ea : asL m d with
    | none => rw [ea] at h; exact False.elim h
    | some xs =>
      rw [ea] at h
      dsimp only at h
      cases ei : ints? xs with
      | none => rw [ei] at h; exact False.elim h
      | some ns =>
        rw [ei] at h
        obtain ⟨a, ws, rfl, hs, hr⟩ := asL_ok r rd ea
        have := ints_ok hr ei
        subst this
        refine cr_max hc pins s σ H _ us Q I rr ⟨a, ns, rfl, by rw [hK]; exact hs, h.1, fun z hz hle => ?_⟩
        have e : z = maxL ns := by
          cases ns with
          | nil => cases hz
          | cons n r =>
            obtain ⟨h1, h2⟩ := maxL_ok n r
            have := hle _ h1
            have := h2 _ hz
            omega
        subst e
        exact k _ _ _ _ _ h.2 (Ex.refl F) r (.int _)
  · exact False.elim h
/-- of a list of bools, of ints -/
def dBls (f : List Bool → Bool) : DSp := fun ds m Q => match ds with
  | [d] => match asL m d with
    | some xs => match bls? xs with
      | some ns => Q (.bl (f ns)) m
      | none => False
    | none => False
  | _ => False
theorem cd_bls {id : String} {f : List Bool → Bool} (hK : X.K = G.K) (base : CallR X (.builtin id) fun vs H Q => ∃ (a : Addr) (bs : List Bool), vs = [V.ref a] ∧ SqL X.K H a (bs.map V.bl) ∧ Q (.bl (f bs)) H) : CallR X (.builtin id) (LC G (dBls f)) := by
  intro pins s σ H vs us Q I rr h
  obtain ⟨F, m, ds, Q0, r, rv, h, k⟩ := h
  match ds, h with
  | [d], h =>
    obtain ⟨v, rfl, rd⟩ := rv.one_inv
    unfold dBls at h
    dsimp only at h
    cases ea : asL m d with
    | none => rw [ea] at h; exact False.elim h
    | some xs =>
      rw [ea] at h
      dsimp only at h
      cases ei : bls? xs with
      | none => rw [ei] at h; exact False.elim h
      | some ns =>
        rw [ei] at h
        obtain ⟨a, ws, rfl, hs, hr⟩ := asL_ok r rd ea
        have := bls_ok hr ei
        subst this
        exact base pins s σ H _ us Q I rr ⟨a, ns, rfl, by rw [hK]; exact hs, k _ _ _ _ _ h (Ex.refl F) r (.bl _)⟩
abbrev dAll : DSp := dBls fun bs => bs.all id
abbrev dAny : DSp := dBls fun bs => bs.any id
theorem cd_all (hK : X.K = G.K) (hc : X.calm = true) : CallR X (.builtin "all") (LC G dAll) := cd_bls hK (cr_all hc)
theorem cd_any (hK : X.K = G.K) (hc : X.calm = true) : CallR X (.builtin "any") (LC G dAny) := cd_bls hK (cr_any hc)
def dSum : DSp := fun ds m Q => match ds with
  | [d] => match asL m d with
    | some xs => match ints? xs with
      | some ns => Q (.int ns.sum) m
      | none => False
    | none => False
  | _ => False
theorem cd_sum (hK : X.K = G.K) (hc : X.calm = true) : CallR X (.builtin "sum") (LC G dSum) := by
  intro pins s σ H vs us Q I rr h
  obtain ⟨F, m, ds, Q0, r, rv, h, k⟩ := h
  match ds, h with
  | [d], h =>
    obtain ⟨v, rfl, rd⟩ := rv.one_inv
    unfold dSum at h
    dsimp only at h
    cases ea : asL m d with
    | none => rw [ea] at h; exact False.elim h
    | some xs =>
      rw [ea] at h
      dsimp only at h
      cases ei : ints? xs with
      | none => rw [ei] at h; exact False.elim h
      | some ns =>
        rw [ei] at h
        obtain ⟨a, ws, rfl, hs, hr⟩ := asL_ok r rd ea
        have := ints_ok hr ei
        subst this
        exact cr_sum hc pins s σ H _ us Q I rr ⟨a, ns, rfl, by rw [hK]; exact hs, k _ _ _ _ _ h (Ex.refl F) r (.int _)⟩
def dListOf (mu : Bool) : DSp := fun ds m Q => match ds with
  | [d] => match asQ m d with
    | some xs => newL mu xs m Q
    | none => match d with
      | .ref p => match m p with
        | some (.dct kvs) => newL mu (kvs.map fun kv => kD kv.1) m Q
        | _ => False
      | _ => False
  | _ => False
theorem kr_keysV {K : PySem.W.Frag} {F F' : Hp} : ∀ {kv : List (Key × V)} {kvs : List (Key × DV)}, KR K F kv kvs → VRs K F' (kv.map fun kv => kV kv.1) (kvs.map fun kv => kD kv.1) := fun {kv kvs} h => by
  have h' : Paired (fun (p : Key × V) (q : Key × DV) => p.1 = q.1 ∧ VR K F p.2 q.2) kv kvs := h
  clear h
  induction h' with
  | nil => exact .nil
  | cons h t ih => exact .cons (by dsimp only; rw [h.1]; exact vr_kD _) ih
theorem cd_list (hK : X.K = G.K) (hc : X.calm = true) (mu : Bool) : CallR X (.type "list") (LC G (dListOf mu)) := by
  intro pins s σ H vs us Q I rr h
  obtain ⟨F, m, ds, Q0, r, rv, h, k⟩ := h
  match ds, h with
  | [d], h =>
    obtain ⟨v, rfl, rd⟩ := rv.one_inv
    unfold dListOf at h
    dsimp only at h
    cases ea : asQ m d with
    | some xs =>
      rw [ea] at h
      obtain ⟨a, ws, rfl, hs, hr⟩ := asQ_ok r rd ea
      exact call_list_of pins s σ H _ us Q I rr ⟨a, ws, rfl, by rw [hK]; exact hs, newL_ok r h k hr⟩
    | none =>
      rw [ea] at h
      dsimp only at h
      cases rd <;> first | exact False.elim h | skip
      rename_i a
      dsimp only at h
      cases em : m a with
      | none => rw [em] at h; exact False.elim h
      | some ob =>
        rw [em] at h
        cases ob <;> first | exact False.elim h | skip
        obtain ⟨_, u, hu, kv, rfl, hr⟩ := r.mo a _ em
        exact call_listD hc pins s σ H _ us Q I rr ⟨a, kv, rfl, .inl hu, newL_ok r h k (kr_keysV hr)⟩
def dTupOf : DSp := fun ds m Q => match ds with
  | [.tup xs] => Q (.tup xs) m
  | [.ktup xs] => Q (.ktup xs) m
  | [d] => match asL m d with
    | some xs => Q (.tup xs) m
    | none => False
  | _ => False
theorem cd_tup (hK : X.K = G.K) : CallR X (.type "tuple") (LC G dTupOf) := by
  intro pins s σ H vs us Q I rr h
  obtain ⟨F, m, ds, Q0, r, rv, h, k⟩ := h
  unfold dTupOf at h
  split at h
  · obtain ⟨v, rfl, rd⟩ := rv.one_inv
    cases rd with
    | tup hs hr => exact call_tuple_of pins s σ H _ us Q I rr ⟨_, _, rfl, .inr ⟨by rw [hK]; exact SqT.of (r.ex _ _ hs), k _ _ _ _ _ h (Ex.refl F) r (.tup hs hr)⟩⟩
  · obtain ⟨v, rfl, rd⟩ := rv.one_inv
    cases rd with
    | ktup hs hr => exact call_tuple_of pins s σ H _ us Q I rr ⟨_, _, rfl, .inr ⟨by rw [hK]; exact Ex.sqT ex_none hs, k _ _ _ _ _ h (Ex.refl F) r (.ktup hs hr)⟩⟩
  · obtain ⟨v, rfl, rd⟩ := rv.one_inv
    rename_i d _ _
    cases ea : asL m d with
    | none => rw [ea] at h; exact False.elim h
    | some xs =>
      rw [ea] at h
      obtain ⟨a, ws, rfl, hs, hr⟩ := asL_ok r rd ea
      exact call_tuple_of pins s σ H _ us Q I rr ⟨a, ws, rfl, .inl ⟨by rw [hK]; exact hs, newT_ok r h k hr⟩⟩
  · exact False.elim h
def insI (x : Int) : List Int → List Int
  | [] => [x]
  | y :: r => if x ≤ y then x :: y :: r else y :: insI x r
def sortI : List Int → List Int
  | [] => []
  | x :: r => insI x (sortI r)
theorem insI_perm (x : Int) : ∀ ns : List Int, (insI x ns).Perm (x :: ns)
  | [] => .refl _
  | y :: r => by
    unfold insI
    split
    · exact .refl _
    · exact ((insI_perm x r).cons y).trans (.swap x y r)
theorem sortI_perm : ∀ ns : List Int, (sortI ns).Perm ns
  | [] => .refl _
  | x :: r => (insI_perm x _).trans ((sortI_perm r).cons x)
theorem insI_sorted (x : Int) : ∀ ns : List Int, ns.Pairwise (· ≤ ·) → (insI x ns).Pairwise (· ≤ ·)
  | [], _ => List.pairwise_singleton _ _
  | y :: r, h => by
    rw [List.pairwise_cons] at h
    unfold insI
    split
    · rename_i hle
      refine List.pairwise_cons.mpr ⟨fun z hz => ?_, List.pairwise_cons.mpr h⟩
      rcases List.mem_cons.mp hz with rfl | hz
      · exact hle
      · exact Int.le_trans hle (h.1 z hz)
    · rename_i hle
      refine List.pairwise_cons.mpr ⟨fun z hz => ?_, insI_sorted x r h.2⟩
      rcases List.mem_cons.mp ((insI_perm x r).mem_iff.mp hz) with rfl | hz
      · omega
      · exact h.1 z hz
theorem sortI_sorted : ∀ ns : List Int, (sortI ns).Pairwise (· ≤ ·)
  | [] => .nil
  | x :: r => insI_sorted x _ (sortI_sorted r)
theorem sorted_unique : ∀ {as bs : List Int}, as.Perm bs → as.Pairwise (· ≤ ·) → bs.Pairwise (· ≤ ·) → as = bs
  | [], bs, h, _, _ => by rw [List.nil_perm.mp h]
  | a :: as, [], h, _, _ => absurd h.length_eq (by simp)
  | a :: as, b :: bs, h, h1, h2 => by
    rw [List.pairwise_cons] at h1 h2
    have e1 : a ≤ b := by
      have := h.mem_iff.mpr (List.mem_cons_self (a := b) (l := bs))
      rcases List.mem_cons.mp this with rfl | z
      · exact Int.le_refl _
      · exact h1.1 b z
    have e2 : b ≤ a := by
      have := h.mem_iff.mp (List.mem_cons_self (a := a) (l := as))
      rcases List.mem_cons.mp this with rfl | z
      · exact Int.le_refl _
      · exact h2.1 a z
    have e : a = b := by omega
    subst e
    rw [sorted_unique (h.cons_inv) h1.2 h2.2]
theorem sortI_of {ns ms : List Int} (h : ms.Perm ns) (s : ms.Pairwise (· ≤ ·)) : ms = sortI ns := sorted_unique (h.trans (sortI_perm ns).symm) s (sortI_sorted ns)
/-- the keys of a dict that are ints, texts -/
def keysI? : List (Key × DV) → Option (List Int)
  | [] => some []
  | (.inl i, _) :: r => (keysI? r).map (i :: ·)
  | _ => none
theorem keysI_ok : ∀ {kvs : List (Key × DV)} {ns : List Int}, keysI? kvs = some ns → kvs.map (·.1) = ns.map Sum.inl
  | [], _, h => by cases h; rfl
  | (.inl i, _) :: r, _, h => by
    simp only [keysI?] at h
    cases e : keysI? r with
    | none => rw [e] at h; cases h
    | some ms => rw [e] at h; cases h; rw [List.map_cons, keysI_ok e]; rfl
  | (.inr i, _) :: r, _, h => by cases h
def keysS? : List (Key × DV) → Option (List Str)
  | [] => some []
  | (.inr i, _) :: r => (keysS? r).map (i :: ·)
  | _ => none
theorem keysS_ok : ∀ {kvs : List (Key × DV)} {ns : List Str}, keysS? kvs = some ns → kvs.map (·.1) = ns.map Sum.inr
  | [], _, h => by cases h; rfl
  | (.inr i, _) :: r, _, h => by
    simp only [keysS?] at h
    cases e : keysS? r with
    | none => rw [e] at h; cases h
    | some ms => rw [e] at h; cases h; rw [List.map_cons, keysS_ok e]; rfl
  | (.inl i, _) :: r, _, h => by cases h
/-- sorted of ints (a list, a dict's keys), of texts -/
def dSorted (mu : Bool) : DSp := fun ds m Q => match ds with
  | [d] => match asL m d with
    | some xs => match ints? xs with
      | some ns => newL mu ((sortI ns).map DV.int) m Q
      | none => match strs? xs with
        | some ns => ns.length < 64 ∧ ∀ ys : List Str, ys.Perm ns → sortedS ys = true → newL mu (ys.map DV.str) m Q
        | none => False
    | none => match d with
      | .ref p => match m p with
        | some (.dct kvs) => kvs.length < 64 ∧ match keysI? kvs with
          | some ns => newL mu ((sortI ns).map DV.int) m Q
          | none => match keysS? kvs with
            | some ns => ∀ ys : List Str, ys.Perm ns → sortedS ys = true → newL mu (ys.map DV.str) m Q
            | none => False
        | _ => False
      | _ => False
  | _ => False
theorem cd_sorted (hK : X.K = G.K) (hc : X.calm = true) (mu : Bool) : CallR X (.builtin "sorted") (LC G (dSorted mu)) := by
  intro pins s σ H vs us Q I rr h
  obtain ⟨F, m, ds, Q0, r, rv, h, k⟩ := h
  match ds, h with
  | [d], h =>
    obtain ⟨v, rfl, rd⟩ := rv.one_inv
    unfold dSorted at h
    dsimp only at h
    cases ea : asL m d with
    | some xs =>
      rw [ea] at h
      dsimp only at h
      obtain ⟨a, ws, rfl, hs, hr⟩ := asL_ok r rd ea
      cases ei : ints? xs with
      | some ns =>
        rw [ei] at h
        have := ints_ok hr ei
        subst this
        refine cr_sortedI pins s σ H _ us Q I rr ⟨a, ns, rfl, by rw [hK]; exact hs, fun ns' p hp hs' hn => ?_⟩
        rw [sortI_of hp hs']
        exact newL_ok r h k (VRs.of_ints _) p hn
      | none =>
        rw [ei] at h
        dsimp only at h
        cases es : strs? xs with
        | none => rw [es] at h; exact False.elim h
        | some ns =>
          rw [es] at h
          have := strs_ok hr es
          subst this
          exact cr_sortedS pins s σ H _ us Q I rr ⟨a, ns, rfl, by rw [hK]; exact hs, h.1, fun ns' p hp hs' hn => newL_ok r (h.2 ns' hp hs') k (vrs_strs _) p hn⟩
    | none =>
      rw [ea] at h
      dsimp only at h
      cases rd <;> first | exact False.elim h | skip
      rename_i a
      dsimp only at h
      cases em : m a with
      | none => rw [em] at h; exact False.elim h
      | some ob =>
        rw [em] at h
        cases ob <;> first | exact False.elim h | skip
        rename_i kvs
        obtain ⟨_, u, hu, kv, rfl, hr⟩ := r.mo a _ em
        obtain ⟨h64, h⟩ := h
        cases ei : keysI? kvs with
        | some ns =>
          rw [ei] at h
          have hk := (KR.keys hr).trans (keysI_ok ei)
          have hl : ns.length < 64 := by
            have := congrArg List.length (keysI_ok ei)
            simp at this
            omega
          refine call_sortedDI hc pins s σ H _ us Q I rr ⟨a, kv, ns, rfl, .inl hu, hk, hl, fun ys p hp hs' hn => ?_⟩
          rw [sortI_of hp hs']
          exact newL_ok r h k (VRs.of_ints _) p hn
        | none =>
          rw [ei] at h
          dsimp only at h
          cases es : keysS? kvs with
          | none => rw [es] at h; exact False.elim h
          | some ns =>
            rw [es] at h
            have hk := (KR.keys hr).trans (keysS_ok es)
            have hl : ns.length < 64 := by
              have := congrArg List.length (keysS_ok es)
              simp at this
              omega
            exact call_sortedD hc pins s σ H _ us Q I rr ⟨a, kv, ns, rfl, .inl hu, hk, hl, fun ys p hp hs' hn => newL_ok r (h ys hp hs') k (vrs_strs _) p hn⟩
/-- sorted(set(l)) -/
def rSetOfI (K : PySem.W.Frag) (w : World) : List V → Hp → VK → Prop := fun vs H Q => ∃ (l : Addr) (ns : List Int), vs = [V.ref l] ∧ SqL K H l (ns.map V.int) ∧ ns.length < 1000 ∧ ∀ p c, H p = none → c ≤ ns.length → Q (.ref p) (upd H p (SetO w p (fun j => decide (j ∈ ns)) c))
theorem cr_setOfI (hc : X.calm = true) : CallR X (.type "set") (rSetOfI X.K X.w) := by
  intro pins s σ H vs us Q I rr h
  obtain ⟨l, ns, rfl, hs, hl, q⟩ := h
  obtain ⟨its, rv, pl, hz⟩ := I.list hs
  obtain ⟨u, rfl, ru⟩ := vals1 rr
  cases ru
  refine call_set_listI ns (I.ok.hd hc) pl.isList (by simpa using intsAre_vals rv) (by unfold scanBound; omega) fun h' tk c R hcle hk => ?_
  refine ⟨.ref _, _, I.laid (t' := tk) hk (Nat.le_refl _) (setO_new (P := X.prog) R), rfl, q _ c I.fresh hcle⟩
def ddI : List Int → List Int
  | [] => []
  | x :: r => if x ∈ r then ddI r else x :: ddI r
theorem ddI_mem {z : Int} : ∀ {ns : List Int}, z ∈ ddI ns ↔ z ∈ ns
  | [] => .rfl
  | x :: r => by
    unfold ddI
    split
    · rename_i h
      rw [ddI_mem, List.mem_cons]
      exact ⟨.inr, fun z => z.elim (fun e => e ▸ h) id⟩
    · rw [List.mem_cons, List.mem_cons, ddI_mem]
theorem ddI_nodup : ∀ ns : List Int, (ddI ns).Nodup
  | [] => .nil
  | x :: r => by
    unfold ddI
    split
    · exact ddI_nodup r
    · rename_i h
      exact List.nodup_cons.mpr ⟨fun z => h (ddI_mem.mp z), ddI_nodup r⟩
def sortU (ns : List Int) : List Int := sortI (ddI ns)
theorem sortU_mem {z : Int} {ns : List Int} : z ∈ sortU ns ↔ z ∈ ns := ((sortI_perm _).mem_iff).trans ddI_mem
theorem sortU_lt (ns : List Int) : (sortU ns).Pairwise (· < ·) := by
  have h1 := sortI_sorted (ddI ns)
  have h2 : (sortI (ddI ns)).Nodup := (sortI_perm _).nodup_iff.mpr (ddI_nodup ns)
  have h3 := List.pairwise_and_iff.mpr ⟨h1, h2⟩
  exact h3.imp fun {a b} h => by have := h.1; have := h.2; omega
theorem lt_unique : ∀ {as bs : List Int}, as.Pairwise (· < ·) → bs.Pairwise (· < ·) → (∀ z, z ∈ as ↔ z ∈ bs) → as = bs := fun {as bs} h1 h2 h => by
  have n1 : as.Nodup := h1.imp fun {a b} h => by omega
  have n2 : bs.Nodup := h2.imp fun {a b} h => by omega
  exact sorted_unique ((List.perm_ext_iff_of_nodup n1 n2).mpr h) (h1.imp fun {a b} h => by omega) (h2.imp fun {a b} h => by omega)
def dSortU (mu : Bool) (w : DE) : DE := fun δ m Q => w δ m fun d m1 => match asL m1 d with
  | some xs => match ints? xs with
    | some ns => ns.length < 64 ∧ newL mu ((sortU ns).map DV.int) m1 Q
    | none => False
  | none => False
theorem qe_sortU {p2 pos2 : Pos} (hK : X.K = G.K) (hc : X.calm = true) (mu : Bool) (hg : Gl X "sorted") (hm : X.mg "sorted" = none) (hg2 : Gl X "set") (hm2 : X.mg "set" = none) (he : PE X e (LE G w))
    (hs : starEach [e] X.env = (false, eval e X.env) :: starEach [] X.env := by rfl) (hs2 : starEach [.Call (.Name "set" p2) [e] [] pos2] X.env = (false, eval (.Call (.Name "set" p2) [e] [] pos2) X.env) :: starEach [] X.env := by rfl) :
    PE X (.Call (.Name "sorted" p) [.Call (.Name "set" p2) [e] [] pos2] [] pos) (LE G (dSortU mu w)) :=
  PE.imp (pe_callB (cr_sortedSet hc) hg hm boot_sorted (pa_cons (pe_callTy (cr_setOfI hc) hg2 hm2 boot_set (pa_cons he pa_nil hs) (by decide) (by decide) hs (by rfl)) pa_nil hs2) (by decide) (by decide) hs2 (by rfl)) fun σ H Q h => by
    obtain ⟨F, m, δ, Q0, r, sr, h, k⟩ := h
    refine ⟨F, m, δ, _, r, sr, h, fun d m1 v F1 H1 h1 e1 r1 v1 => ?_⟩
    cases ea : asL m1 d with
    | none => rw [ea] at h1; exact False.elim h1
    | some xs =>
      rw [ea] at h1
      dsimp only at h1
      cases ei : ints? xs with
      | none => rw [ei] at h1; exact False.elim h1
      | some ns =>
        rw [ei] at h1
        obtain ⟨a, ws, rfl, hs, hr⟩ := asL_ok r1 v1 ea
        have := ints_ok hr ei
        subst this
        refine ⟨a, ns, rfl, by rw [hK]; exact hs, by omega, fun p c hp hcle => ⟨p, _, c, rfl, upd_same, by omega, fun ms q hlt hmem hlen hq => ?_⟩⟩
        have e2 : ms = sortU ns := lt_unique hlt (sortU_lt ns) fun z => by rw [hmem z, sortU_mem]; simp
        subst e2
        have r2 : Rel G F1 m1 (upd H1 p (SetO X.w p (fun j => decide (j ∈ ns)) c)) := r1.grow (Ex.new hp)
        exact newL_ok r2 h1.2 (k.mono e1) (VRs.of_ints _) q hq
inductive Ty0 | non | bl | int | str | lst | tup | dct
  deriving DecidableEq
def Ty0.name : Ty0 → String
  | .non => "NoneType" | .bl => "bool" | .int => "int" | .str => "str" | .lst => "list" | .tup => "tuple" | .dct => "dict"
def isA : Ty0 → Ty0 → Bool
  | .bl, .int => true
  | a, b => decide (a = b)
theorem kit_isA (a b : Ty0) (hb : b ≠ .non) : kitB a.name b.name = some (isA a b) := by
  cases b <;> first | exact absurd rfl hb | skip
  all_goals (cases a <;> decide +kernel)
def tyD (m : Sto) : DV → Option Ty0
  | .non => some .non | .bl _ => some .bl | .int _ => some .int | .str _ => some .str
  | .lst _ => some .lst | .klst _ => some .lst | .tup _ => some .tup | .ktup _ => some .tup
  | .ref p => match m p with
    | some (.lst _) => some .lst
    | some (.dct _) => some .dct
    | some (.dcT _) => some .dct
    | some (.lck _ _ _) => some .dct
    | _ => none
theorem tyx_l {K : PySem.W.Frag} {H : Hp} {a : Addr} {vs : List V} (h : SqL K H a vs) : TyX K H (.ref a) (.type "list") := by
  rcases h with (h | ⟨o, h⟩) | ⟨o, its, n, hk, hc, _⟩
  · exact .base (.lst h)
  · exact .base (.frz h)
  · exact .kList hk hc
theorem tyx_t {K : PySem.W.Frag} {H : Hp} {a : Addr} {vs : List V} (h : SqT K H a vs) : TyX K H (.ref a) (.type "tuple") := by
  rcases h with (h | ⟨o, h⟩) | ⟨o, its, n, hk, hc, _⟩
  · exact .base (.tup h)
  · exact .fTuple h
  · exact .kTuple hk hc
theorem tyd_ok {F H : Hp} {m : Sto} {v : V} {d : DV} {t : Ty0} (r : Rel G F m H) (rv : VR G.K F v d) (h : tyD m d = some t) : TyX G.K H v (.type t.name) := by
  cases rv with
  | non => cases h; exact .base .non
  | bl b => cases h; exact .base (.bl b)
  | int b => cases h; exact .base (.int b)
  | str b => cases h; exact .base (.str b)
  | lst hs hr => cases h; exact tyx_l (.inl (r.ex.rd hs))
  | tup hs hr => cases h; exact tyx_t (SqT.of (r.ex _ _ hs))
  | ktup hs hr => cases h; exact tyx_t (Ex.sqT ex_none hs)
  | klst hs hr => cases h; exact tyx_l (Ex.sqL ex_none hs)
  | ref a =>
    unfold tyD at h
    dsimp only at h
    cases e : m a with
    | none => rw [e] at h; cases h
    | some o =>
      rw [e] at h
      cases o <;> first | (cases h; done) | skip
      · obtain ⟨_, u, hu, vs, rfl, hr⟩ := r.mo a _ e
        cases h; exact .base (.lst hu)
      · obtain ⟨_, u, hu, vs, rfl, hr⟩ := r.mo a _ e
        cases h; exact .base (.dK hu)
      · obtain ⟨_, u, hu, vs, rfl, hr⟩ := r.mo a _ e
        cases h; exact .base (.dT hu)
      · obtain ⟨_, u, hu, rfl, hr⟩ := r.mo a _ e
        cases h; exact .fDict hu
def wIsi (ts : List Ty0) (w : DE) : DE := fun δ m Q => w δ m fun d m1 => match tyD m1 d with
  | some t => Q (.bl (ts.any (isA t))) m1
  | none => False
theorem qe_isi {x2 : Str} {p2 : Pos} {t : Ty0} (hK : X.K = G.K) (ht : t ≠ .non) (hg : Gl X "isinstance") (hm : X.mg "isinstance" = none) (hg2 : Gl X x2) (hm2 : X.mg x2 = none) (hv : bootBuiltins x2 = some (.type t.name)) (he : PE X e (LE G w))
    (hn2 : x2 ≠ "__name__" := by decide) (hd2 : (x2 == ("__debug__" : Str)) = false := by decide)
    (hs : starEach [e, .Name x2 p2] X.env = (false, eval e X.env) :: starEach [.Name x2 p2] X.env := by rfl) (hs2 : starEach [.Name x2 p2] X.env = (false, eval (.Name x2 p2) X.env) :: starEach [] X.env := by rfl) (hpl : (backTo pos (starEach [.Name x2 p2] X.env)).any (·.1) = false := by rfl) :
    PE X (.Call (.Name "isinstance" p) [e, .Name x2 p2] [] pos) (LE G (wIsi [t] w)) :=
  PE.imp (pe_callB call_isi hg hm boot_isinstance (pa_cons he (pa_cons (pe_bltn (v := .ty t.name) hg2 hm2 hv rfl hn2 hd2) pa_nil hs2) hs) (by decide) (by decide) hs hpl) fun σ H Q h => by
    obtain ⟨F, m, δ, Q0, r, sr, h, k⟩ := h
    refine ⟨F, m, δ, _, r, sr, h, fun d m1 v F1 H1 h1 e1 r1 v1 => ?_⟩
    cases et : tyD m1 d with
    | none => rw [et] at h1; exact False.elim h1
    | some u =>
      rw [et] at h1
      refine ⟨v, .ty t.name, _, _, isA u t, rfl, .ty _, by rw [hK]; exact tyd_ok r1 v1 et, kit_ty (kit_isA u t ht), k _ _ _ _ _ ?_ e1 r1 (.bl _)⟩
      have e2 : [t].any (isA u) = isA u t := by simp
      rw [← e2]; exact h1
theorem qe_isi2 {x2 x3 : Str} {p2 p3 pt : Pos} {kt : Nat} {t t' : Ty0} (hK : X.K = G.K) (ht : t ≠ .non) (ht' : t' ≠ .non) (hg : Gl X "isinstance") (hm : X.mg "isinstance" = none) (hg2 : Gl X x2) (hm2 : X.mg x2 = none) (hv : bootBuiltins x2 = some (.type t.name))
    (hg3 : Gl X x3) (hm3 : X.mg x3 = none) (hv3 : bootBuiltins x3 = some (.type t'.name)) (he : PE X e (LE G w))
    (hn2 : x2 ≠ "__name__" := by decide) (hd2 : (x2 == ("__debug__" : Str)) = false := by decide) (hn3 : x3 ≠ "__name__" := by decide) (hd3 : (x3 == ("__debug__" : Str)) = false := by decide)
    (hs : starEach [e, .Tuple [.Name x2 p2, .Name x3 p3] kt pt] X.env = (false, eval e X.env) :: starEach [.Tuple [.Name x2 p2, .Name x3 p3] kt pt] X.env := by rfl)
    (hs2 : starEach [.Tuple [.Name x2 p2, .Name x3 p3] kt pt] X.env = (false, eval (.Tuple [.Name x2 p2, .Name x3 p3] kt pt) X.env) :: starEach [] X.env := by rfl) (hpl : (backTo pos (starEach [.Tuple [.Name x2 p2, .Name x3 p3] kt pt] X.env)).any (·.1) = false := by rfl)
    (hs3 : starEach [.Name x2 p2, .Name x3 p3] X.env = (false, eval (.Name x2 p2) X.env) :: starEach [.Name x3 p3] X.env := by rfl) (hs4 : starEach [.Name x3 p3] X.env = (false, eval (.Name x3 p3) X.env) :: starEach [] X.env := by rfl) :
    PE X (.Call (.Name "isinstance" p) [e, .Tuple [.Name x2 p2, .Name x3 p3] kt pt] [] pos) (LE G (wIsi [t, t'] w)) :=
  PE.imp (pe_callB call_isiT hg hm boot_isinstance (pa_cons he (pa_cons (pe_tup (pa_cons (pe_bltn (v := .ty t.name) hg2 hm2 hv rfl hn2 hd2) (pa_cons (pe_bltn (v := .ty t'.name) hg3 hm3 hv3 rfl hn3 hd3) pa_nil hs4) hs3)) pa_nil hs2) hs) (by decide) (by decide) hs hpl) fun σ H Q h => by
    obtain ⟨F, m, δ, Q0, r, sr, h, k⟩ := h
    refine ⟨F, m, δ, _, r, sr, h, fun d m1 v F1 H1 h1 e1 r1 v1 => ?_⟩
    cases et : tyD m1 d with
    | none => rw [et] at h1; exact False.elim h1
    | some u =>
      rw [et] at h1
      refine ⟨(by show 2 ≤ sizeLine; decide), fun q hq => ⟨v, q, _, .type u.name, _, [t, t'].any (isA u), rfl, upd_same, .cons (.ty _) (.cons (.ty _) .nil), ?_, ?_, ?_⟩⟩
      · have := tyd_ok (r1.grow (Ex.new (o := .tup [V.ty t.name, V.ty t'.name]) hq)) v1 et
        rw [hK]; exact this
      · cases hb : isA u t with
        | true =>
          refine kitAny_cons (kit_ty (kit_isA u t ht)) (fun z => absurd (hb.symm.trans z) (by decide)) fun _ => ?_
          simp [hb]
        | false =>
          have : [t, t'].any (isA u) = isA u t' := by simp [hb]
          rw [this]
          cases hb' : isA u t' with
          | true => exact kitAny_cons (kit_ty (kit_isA u t ht)) (fun _ => kitAny_cons (kit_ty (kit_isA u t' ht')) (fun z => absurd (hb'.symm.trans z) (by decide)) fun _ => rfl) fun z => absurd (hb.symm.trans z) (by decide)
          | false => exact kitAny_cons (kit_ty (kit_isA u t ht)) (fun _ => kitAny_cons (kit_ty (kit_isA u t' ht')) (fun _ => kitAny_nil) fun z => absurd (hb'.symm.trans z) (by decide)) fun z => absurd (hb.symm.trans z) (by decide)
      · exact k _ _ _ _ _ h1 e1 (r1.grow (Ex.new hq)) (.bl _)
end
end DL
namespace DL
open PySem PySem.Spec PyProof.Rows L2
abbrev DM := DV → List DV → Sto → DK → Prop
def LM (G : Gam) (R : DM) : V → List V → Hp → VK → Prop := fun x vs H Q => ∃ F m d ds Q0, Rel G F m H ∧ VR G.K F x d ∧ VRs G.K F vs ds ∧ R d ds m Q0 ∧ Kt G F Q0 Q
/-- the value is of the type -/
def ofTy (m : Sto) (t : Ty0) (d : DV) : Prop := tyD m d = some t ∧ match d with
  | .ref p => match m p with
    | some (.lck _ _ _) => False
    | _ => True
  | _ => True
theorem ofTy_l {G : Gam} {F H : Hp} {m : Sto} {v : V} {d : DV} (r : Rel G F m H) (rv : VR G.K F v d) (h : ofTy m .lst d) : tyV G.K "list" v H := by
  obtain ⟨h, _⟩ := h
  cases rv <;> first | (exfalso; simp [tyD] at h; done) | skip
  · rename_i a _
    unfold tyD at h
    dsimp only at h
    cases e : m a with
    | none => rw [e] at h; cases h
    | some o =>
      rw [e] at h
      cases o <;> first | (cases h; done) | skip
      obtain ⟨_, u, hu, vs, rfl, hr⟩ := r.mo a _ e
      exact .inl ⟨rfl, _, SqL.of hu⟩
  · exact .inl ⟨rfl, _, .inl (r.ex.rd (by assumption))⟩
  · exact .inl ⟨rfl, _, Ex.sqL ex_none (by assumption)⟩
theorem ofTy_d {G : Gam} {F H : Hp} {m : Sto} {v : V} {d : DV} (r : Rel G F m H) (rv : VR G.K F v d) (h : ofTy m .dct d) : tyV G.K "dict" v H := by
  obtain ⟨h, h2⟩ := h
  cases rv <;> first | (exfalso; simp [tyD] at h; done) | skip
  rename_i a
  unfold tyD at h
  dsimp only at h h2
  cases e : m a with
  | none => rw [e] at h; cases h
  | some o =>
    rw [e] at h h2
    cases o <;> first | (cases h; done) | (exact False.elim h2) | skip
    · obtain ⟨_, u, hu, vs, rfl, hr⟩ := r.mo a _ e
      exact .inr (.inr (.inl ⟨rfl, .inl ⟨_, hu⟩⟩))
    · obtain ⟨_, u, hu, vs, rfl, hr⟩ := r.mo a _ e
      exact .inr (.inr (.inl ⟨rfl, .inr ⟨_, hu⟩⟩))
theorem ofTy_s {G : Gam} {F H : Hp} {m : Sto} {v : V} {d : DV} (r : Rel G F m H) (rv : VR G.K F v d) (h : ofTy m .str d) : tyV G.K "str" v H := by
  obtain ⟨h, _⟩ := h
  cases rv <;> first | (exfalso; simp [tyD] at h; done) | rfl | skip
  rename_i a _
  unfold tyD at h
  dsimp only at h
  cases e : m a with
  | none => rw [e] at h; cases h
  | some o =>
    rw [e] at h
    cases o <;> cases h
theorem ofTy_ok {G : Gam} {F H : Hp} {m : Sto} {v : V} {d : DV} {t : Ty0} (ht : t = .lst ∨ t = .dct ∨ t = .str) (r : Rel G F m H) (rv : VR G.K F v d) (h : ofTy m t d) : tyV G.K t.name v H := by
  rcases ht with rfl | rfl | rfl
  · exact ofTy_l r rv h
  · exact ofTy_d r rv h
  · exact ofTy_s r rv h
def wM (t : Ty0) (R : DM) (w : DE) (wl : DA) : DE := fun δ m Q => w δ m fun d m1 => ofTy m1 t d ∧ wl δ m1 fun ds m2 => R d ds m2 Q
section
variable {X : Cx} {G : Gam} {k : Nat} {o e : Expr} {es : List Expr} {name : Str} {apos cpos pos : Pos} {R : DM} {wl : DA} {w : DE} {t : Ty0} {id : String}
theorem qe_m (hK : X.K = G.K) (ht : t = .lst ∨ t = .dct ∨ t = .str) (pa : PlainAttrs t.name) (slot : Slot t.name name id) (hty : typeOf (.builtin id) = pure (.type "method_descriptor")) (hm : MtR X id (LM G R)) (ho : PE X o (LE G w)) (ha : PA X (e :: es) (LA G wl))
    (hbase : attributeBase o name X.env (eval o X.env) = eval o X.env := by rfl)
    (hfew : ((backTo cpos (starEach (e :: es) X.env)).all (fun x => !x.1) && (backToKw cpos (keywordEach [] X.env)).all (fun x => x.1.isSome)
      && decide ((e :: es).length + ([] : List Keyword).length + (if ([] : List Keyword).isEmpty then 0 else 1) < 30)) = true := by rfl)
    (hline : (apos.endLine == cpos.line) = true := by rfl) (hs : starEach (e :: es) X.env = (false, eval e X.env) :: starEach es X.env := by rfl) (hplain : (backTo cpos (starEach es X.env)).any (·.1) = false := by rfl) :
    PE X (.Call (.Attribute o name apos) (e :: es) [] cpos) (LE G (wM t R w wl)) :=
  PE.imp (pe_bm pa slot hty hm ho ha hbase hfew hline hs hplain) fun σ H Q h => by
    obtain ⟨F, m, δ, Q0, r, s, h, k⟩ := h
    exact ⟨F, m, δ, _, r, s, h, fun d m1 v F1 H1 ⟨h1, h2⟩ e1 r1 v1 => ⟨by rw [hK]; exact ofTy_ok ht r1 v1 h1, F1, m1, δ, _, r1, s.mono e1, h2, fun ds m2 vs F2 H2 h3 e2 r2 v2 => ⟨F2, m2, d, ds, Q0, r2, v1.mono e2, v2, h3, k.mono (e1.trans e2)⟩⟩⟩
theorem qe_m0 (hK : X.K = G.K) (ht : t = .lst ∨ t = .dct ∨ t = .str) (pa : PlainAttrs t.name) (slot : Slot t.name name id) (hty : typeOf (.builtin id) = pure (.type "method_descriptor")) (hm : MtR X id (LM G R)) (ho : PE X o (LE G w))
    (hbase : attributeBase o name X.env (eval o X.env) = eval o X.env := by rfl) (hline : (apos.endLine == cpos.line) = true := by rfl) :
    PE X (.Call (.Attribute o name apos) [] [] cpos) (LE G (wM t R w wNil)) :=
  PE.imp (pe_bm0 pa slot hty hm ho hbase hline) fun σ H Q h => by
    obtain ⟨F, m, δ, Q0, r, s, h, k⟩ := h
    exact ⟨F, m, δ, _, r, s, h, fun d m1 v F1 H1 ⟨h1, h2⟩ e1 r1 v1 => ⟨by rw [hK]; exact ofTy_ok ht r1 v1 h1, F1, m1, d, [], Q0, r1, v1, .nil, h2, k.mono e1⟩⟩
/-- the list at p in the store -/
def ownL (m : Sto) (d : DV) (Q : Addr → List DV → Prop) : Prop := match d with
  | .ref p => match m p with
    | some (.lst xs) => Q p xs
    | _ => False
  | _ => False
theorem ownL_ok {F H : Hp} {m : Sto} {v : V} {d : DV} {Q : Addr → List DV → Prop} (r : Rel G F m H) (rv : VR G.K F v d) (h : ownL m d Q) : ∃ a xs vs, v = .ref a ∧ m a = some (.lst xs) ∧ H a = some (.lst vs) ∧ VRs G.K F vs xs ∧ Q a xs := by
  cases rv <;> first | exact False.elim h | skip
  rename_i a
  unfold ownL at h
  dsimp only at h
  cases e : m a with
  | none => rw [e] at h; exact False.elim h
  | some ob =>
    rw [e] at h
    cases ob <;> first | exact False.elim h | skip
    obtain ⟨_, u, hu, vs, rfl, hr⟩ := r.mo a _ e
    exact ⟨a, _, vs, rfl, e, hu, hr, h⟩
def mAppend : DM := fun d ds m Q => match ds with
  | [y] => ownL m d fun p xs => xs.length < sizeLine ∧ Q .non (put m p (.lst (xs ++ [y])))
  | _ => False
theorem md_append : MtR X "list.append" (LM G mAppend) := by
  intro pins s σ H x vs v us Q I rx rv h
  obtain ⟨F, m, d, ds, Q0, r, r1, r2, h, k⟩ := h
  match ds, h with
  | [y], h =>
    obtain ⟨z, rfl, rz⟩ := r2.one_inv
    obtain ⟨a, xs, ws, rfl, e, hu, hr, hl, h⟩ := ownL_ok r r1 h
    exact mt_append pins s σ H _ _ v us Q I rx rv ⟨a, ws, z, rfl, rfl, hu, by rw [hr.length]; exact hl, k _ _ _ _ _ h (Ex.refl F) (r.write e ⟨_, rfl, hr.append (VRs.one rz)⟩) .non⟩
def asR (m : Sto) : DV → Option (List DV)
  | .klst _ => none
  | d => asL m d
theorem rd_lst {F H : Hp} {m : Sto} {v : V} {d : DV} {xs : List DV} (r : Rel G F m H) (rv : VR G.K F v d) (h : asR m d = some xs) : ∃ a vs, v = .ref a ∧ Rd H a (.lst vs) ∧ VRs G.K F vs xs := by
  cases rv with
  | @lst a vs ds hs hr =>
    cases h
    exact ⟨a, vs, rfl, r.ex.rd hs, hr⟩
  | ref a =>
    simp only [asR, asL] at h
    cases e : m a with
    | none => rw [e] at h; cases h
    | some o =>
      rw [e] at h
      cases o with
      | lst ys =>
        cases h
        obtain ⟨_, u, hu, vs, rfl, hr⟩ := r.mo a _ e
        exact ⟨a, vs, rfl, .inl hu, hr⟩
      | _ => cases h
  | _ => cases h
/-- l.extend(b): b a list -/
theorem mt_extendR : MtR X "list.extend" (fun x vs H Q => ∃ l b xs zs, x = .ref l ∧ vs = [.ref b] ∧ H l = some (.lst xs) ∧ Rd H b (.lst zs) ∧ xs.length + zs.length ≤ sizeLine ∧ Q .non (upd H l (.lst (xs ++ zs)))) := by
  intro pins s σ H x vs v us Q I rx rv h
  obtain ⟨l, b, xs, zs, rfl, rfl, hH, hB, hz, q⟩ := h
  cases rx
  obtain ⟨u, rfl, ru⟩ := rv.one
  cases ru
  obtain ⟨z, its, n, r, hl, e⟩ := I.lstM hH
  obtain ⟨z2, its2, n2, r2, e2⟩ := hB.ok I.hok
  have hl2 := r2.length
  have hsz : its.toArray.size + its2.toArray.size ≤ sizeLine := by rw [List.size_toArray, List.size_toArray]; omega
  have hlong : ¬ (!its.toArray.isEmpty && Builtin.List.listTooLong (its.toArray.size + its2.toArray.size)) = true := by
    rw [notLongL hsz, Bool.and_false]
    exact Bool.false_ne_true
  refine call_meets F.slot_list_extend ⟨_, e, rfl⟩ F.entry_list_extend (F.args_list_extend_2 _ _)
    (AutoSeq1.list_extend_list_list_0 l its.toArray n b its2.toArray n2 hlong (by rw [List.size_toArray]; omega) (by omega)) ⟨e, e2, ?_⟩
  refine ⟨.non, _, I.lset (its' := its ++ its2) hH e (by simp) (r.append r2) ?_, rfl, q⟩
  rw [List.length_append]
  omega
def mExtend : DM := fun d ds m Q => match ds with
  | [y] => ownL m d fun p xs => match asR m y with
    | some ys => xs.length + ys.length ≤ sizeLine ∧ Q .non (put m p (.lst (xs ++ ys)))
    | none => False
  | _ => False
theorem md_extend : MtR X "list.extend" (LM G mExtend) := by
  intro pins s σ H x vs v us Q I rx rv h
  obtain ⟨F, m, d, ds, Q0, r, r1, r2, h, k⟩ := h
  match ds, h with
  | [y], h =>
    obtain ⟨z, rfl, rz⟩ := r2.one_inv
    obtain ⟨a, xs, ws, rfl, e, hu, hr, h⟩ := ownL_ok r r1 h
    cases ey : asR m y with
    | none => rw [ey] at h; exact False.elim h
    | some ys =>
      rw [ey] at h
      obtain ⟨b, zs, rfl, hb, hrb⟩ := rd_lst r rz ey
      exact mt_extendR pins s σ H _ _ v us Q I rx rv ⟨a, b, ws, zs, rfl, rfl, hu, hb, by rw [hr.length, hrb.length]; exact h.1, k _ _ _ _ _ h.2 (Ex.refl F) (r.write e ⟨_, rfl, hr.append hrb⟩) .non⟩
def mPop : DM := fun d ds m Q => match ds with
  | [] => ownL m d fun p xs => match xs[xs.length - 1]? with
    | some y => Q y (put m p (.lst xs.dropLast))
    | none => False
  | [.int i] => ownL m d fun p xs => -(2 ^ 63) ≤ i ∧ i < 2 ^ 63 ∧ match ixN xs.length i with
    | some j => match xs[j]? with
      | some y => Q y (put m p (.lst (xs.eraseIdx j)))
      | none => False
    | none => False
  | _ => False
theorem VRs.dropLast {K : PySem.W.Frag} {F : Hp} : ∀ {vs : List V} {ds : List DV}, VRs K F vs ds → VRs K F vs.dropLast ds.dropLast
  | _, _, .nil => .nil
  | _, _, .cons h .nil => .nil
  | _, _, .cons h (.cons h2 t) => .cons h (VRs.dropLast (.cons h2 t))
theorem VRs.eraseIdx {K : PySem.W.Frag} {F : Hp} : ∀ {vs : List V} {ds : List DV} (i : Nat), VRs K F vs ds → VRs K F (vs.eraseIdx i) (ds.eraseIdx i)
  | _, _, _, .nil => .nil
  | _, _, 0, .cons h t => t
  | _, _, i + 1, .cons h t => .cons h (VRs.eraseIdx i t)
theorem md_pop : MtR X "list.pop" (LM G mPop) := by
  intro pins s σ H x vs v us Q I rx rv h
  obtain ⟨F, m, d, ds, Q0, r, r1, r2, h, k⟩ := h
  unfold mPop at h
  split at h
  · cases r2
    obtain ⟨a, xs, ws, rfl, e, hu, hr, h⟩ := ownL_ok r r1 h
    cases ey : xs[xs.length - 1]? with
    | none => rw [ey] at h; exact False.elim h
    | some y =>
      rw [ey] at h
      obtain ⟨u, hu', ru⟩ := hr.get ey
      exact mt_pop pins s σ H _ _ v us Q I rx rv ⟨a, ws, u, rfl, rfl, hu, by rw [hr.length]; exact hu', k _ _ _ _ _ h (Ex.refl F) (r.write e ⟨_, rfl, hr.dropLast⟩) ru⟩
  · obtain ⟨z, rfl, rz⟩ := r2.one_inv
    cases rz
    rename_i i
    obtain ⟨a, xs, ws, rfl, e, hu, hr, h1, h2, h⟩ := ownL_ok r r1 h
    cases ej : ixN xs.length i with
    | none => rw [ej] at h; exact False.elim h
    | some j =>
      rw [ej] at h
      dsimp only at h
      cases ey : xs[j]? with
      | none => rw [ey] at h; exact False.elim h
      | some y =>
        rw [ey] at h
        obtain ⟨u, hu', ru⟩ := hr.get ey
        exact mt_popAt pins s σ H _ _ v us Q I rx rv ⟨a, ws, i, j, u, rfl, rfl, hu, h1, h2, by rw [hr.length]; exact (ixN_seq ej).1, hu', k _ _ _ _ _ h (Ex.refl F) (r.write e ⟨_, rfl, hr.eraseIdx j⟩) ru⟩
  · exact False.elim h
end
def wipeD (δ : Slots) : List Nat → Slots
  | [] => δ
  | v :: vs => (wipeD δ vs).set v none
theorem SR.wipe {K : PySem.W.Frag} {F : Hp} {σ : L2.St} {δ : Slots} (h : SR K F σ δ) : ∀ vs : List Nat, SR K F (L2.wipe σ vs) (wipeD δ vs)
  | [] => h
  | v :: vs => by
    have ih := SR.wipe h vs
    refine ⟨by simp [L2.wipe, wipeD, ih.len], fun i d q => ?_⟩
    by_cases e : v = i
    · subst e
      unfold wipeD at q
      by_cases hl : v < (wipeD δ vs).length
      · rw [List.getElem?_set_self hl] at q; cases q
      · rw [List.getElem?_eq_none (by simp; omega)] at q; cases q
    · unfold wipeD at q
      rw [List.getElem?_set_ne e] at q
      obtain ⟨w, a, b⟩ := ih.at_ i d q
      exact ⟨w, by unfold L2.wipe; rw [List.getElem?_set_ne e]; exact a, b⟩
theorem wipe_in {σ : L2.St} {i : Nat} : ∀ {vs : List Nat}, i ∈ vs → (L2.wipe σ vs)[i]? = if i < σ.length then some none else none
  | v :: vs, h => by
    unfold L2.wipe
    by_cases e : v = i
    · subst e
      by_cases hl : v < σ.length
      · rw [if_pos hl, List.getElem?_set_self (by rw [wipe_length]; exact hl)]
      · rw [if_neg hl, List.getElem?_eq_none (by rw [List.length_set, wipe_length]; omega)]
    · rw [List.getElem?_set_ne e]
      exact wipe_in ((List.mem_cons.mp h).resolve_left fun z => e z.symm)
theorem wipe_chg {σ σ' : L2.St} {gv vs : List Nat} (hg : ∀ i ∈ gv, i ∈ vs) (c : ChgIn gv (L2.wipe σ vs) σ') : L2.wipe σ' vs = L2.wipe σ vs := by
  apply List.ext_getElem?
  intro i
  by_cases hi : i ∈ vs
  · rw [wipe_in hi, wipe_in hi, c.1, wipe_length]
  · rw [wipe_out hi, c.2 i fun z => hi (hg i z)]
/-- the tests of a comprehension -/
def wYes : DT := fun _ m Q => Q true m
theorem qts_nil {X : Cx} {G : Gam} : PTs X [] (LT G wYes) := by
  refine ⟨fun pins s σ H Q I h => pts_nil.run pins s σ H Q I ?_⟩
  obtain ⟨F, m, δ, Q0, r, s', h, k⟩ := h
  exact k _ _ _ _ h (Ex.refl F) r
theorem qts_one {X : Cx} {G : Gam} {c : Expr} {w : DT} (h : PT X c (LT G w)) : PTs X [c] (LT G w) := pts_one h
def lcGo (it : DIt) (g : DG) (tt : DT) (te : DE) (δ : Slots) (D : Addr) (fin : List DV → Sto → Prop) : List DV → List DV → Sto → Prop
  | [], acc, m => it.st m ∧ m D = some (.lst acc) ∧ it.fin m (fin acc)
  | x :: r, acc, m => it.st m ∧ g x δ m fun δ2 m2 => tt δ2 m2 fun b m3 =>
    if b = true then te δ2 m3 fun y m4 => m4 D = some (.lst acc) ∧ acc.length < sizeLine ∧ lcGo it g tt te δ D fin r (acc ++ [y]) (put m4 D (.lst (acc ++ [y])))
    else lcGo it g tt te δ D fin r acc m3
def lcFin (mu : Bool) (D : Addr) (Q : DK) : List DV → Sto → Prop := fun acc m => if mu = true then Q (.ref D) m else Q (.lst acc) (rmv m D)
def wLc (mu : Bool) (wi : DI) (g : DG) (tt : DT) (te : DE) (vs : List Nat) : DE := fun δ m Q => wi δ m fun it m1 => ∀ D, m1 D = none → lcGo it g tt te (wipeD δ vs) D (lcFin mu D Q) it.items [] (put m1 D (.lst []))
theorem le_lc {X : Cx} {G : Gam} {mu : Bool} {wi : DI} {g : DG} {tt : DT} {te : DE} {gv vs : List Nat} {σ : L2.St} {H : Hp} {Q : VK} (hg : ∀ i ∈ gv, i ∈ vs) (h : LE G (wLc mu wi g tt te vs) σ H Q) : tLc (LI X G wi) (LG G gv g) (LT G tt) (LE G te) vs σ H (UnlV X Q) := by
  obtain ⟨F, m, δ, Q0, r, s, h, k⟩ := h
  refine ⟨F, m, δ, _, r, s, h, fun it m1 F1 H1 J q e1 r1 ok hn D hD => ?_⟩
  have q0 := q D (r1.freeM hD)
  have r2 : Rel G F1 (put m1 D (.lst [])) (upd H1 D (.lst [])) := r1.newM hD ⟨[], rfl, .nil⟩
  refine ⟨fun i n H' => n = it.items.length - i ∧ i ≤ it.items.length ∧ ∃ F' m' acc, Ex F1 F' ∧ Rel G F' m' H' ∧ lcGo it g tt te (wipeD δ vs) D (lcFin mu D Q0) (it.items.drop i) acc m', ⟨_, rfl, Nat.zero_le _, F1, _, [], Ex.refl F1, r2, q0⟩, ?_⟩
  rintro i n H' ⟨rfl, hle, F', m', acc, e', r', w'⟩
  cases ed : it.items.drop i with
  | nil =>
    rw [ed] at w'
    obtain ⟨w1, w2, w3⟩ := w'
    refine .inl ⟨(ok i F' m' H' e' r' w1).2 (getElem_drop_nil ed), ?_⟩
    have hpD : ∀ pk, it.lk = some pk → pk.1 ≠ D := fun pk hpk z => by
      obtain ⟨p, o, kv, kvs⟩ := pk
      have w3' := w3
      unfold DIt.fin at w3'
      rw [hpk] at w3'
      have := w3'.1
      simp only at z
      rw [z, w2] at this
      cases this
    unfold DIt.fin at w3
    have body : ∀ m2 H2, m2 D = some (.lst acc) → Rel G F' m2 H2 → lcFin mu D Q0 acc m2 → Q (.ref D) H2 := fun m2 H2 hm rr hq => by
      unfold lcFin at hq
      cases mu with
      | true => exact k _ _ _ _ _ hq (e1.trans e') rr (.ref D)
      | false =>
        obtain ⟨hF, u, hu, us, rfl, hr⟩ := rr.mo D _ hm
        exact k _ _ _ _ _ hq ((e1.trans e').trans (Ex.new hF)) (rr.freeze hm hu) (.lst (.inl upd_same) (hr.mono (Ex.new hF)))
    cases hlk : it.lk with
    | none =>
      rw [hlk] at w3
      exact .inl (body _ _ w2 r' w3)
    | some pk =>
      rw [hlk] at w3
      obtain ⟨p, o, kv, kvs⟩ := pk
      obtain ⟨e5, w3⟩ := w3
      obtain ⟨_, u, hu, rfl, hr⟩ := r'.mo p _ e5
      have hne : D ≠ p := fun z => hpD _ hlk z.symm
      exact .inr ⟨p, o, .dK kv, hu, hn _ hlk, body _ _ (by rw [put_ne hne]; exact w2) (r'.write (o := .dct kvs) e5 ⟨kv, rfl, hr⟩) w3⟩
  | cons x rest =>
    rw [ed] at w'
    obtain ⟨hx, hd⟩ := getElem_drop_cons ed
    obtain ⟨w1, w2⟩ := w'
    obtain ⟨go, yl⟩ := (ok i F' m' H' e' r' w1).1 x hx
    have hlt : i < it.items.length := by
      obtain ⟨z, _⟩ := List.getElem?_eq_some_iff.mp hx
      exact z
    refine .inr ⟨go, fun H2 => ∃ F2 m2 acc, Ex F1 F2 ∧ Rel G F2 m2 H2 ∧ lcGo it g tt te (wipeD δ vs) D (lcFin mu D Q0) rest acc m2, fun H2 q2 => ⟨_, (by omega : it.items.length - (i + 1) < it.items.length - i), rfl, hlt, by rw [hd]; exact q2⟩, fun y H2 hy => ?_⟩
    obtain ⟨F2, e2, r2', v2⟩ := yl y H2 hy
    refine ⟨F2, m', wipeD δ vs, x, _, r2', (s.mono ((e1.trans e').trans e2)).wipe vs, v2, w2, fun δ3 m3 σ3 F3 H3 h3 e3 r3 s3 c3 => ⟨wipe_chg hg c3, F3, m3, δ3, _, r3, s3, h3, fun b m4 F4 H4 h4 e4 r4 => ?_⟩⟩
    have e14 : Ex F1 F4 := ((e'.trans e2).trans e3).trans e4
    cases b with
    | false => exact ⟨F4, m4, acc, e14, r4, h4⟩
    | true =>
      refine ⟨F4, m4, δ3, _, r4, s3.mono e4, h4, fun d m5 z F5 H5 h5 e5 r5 v5 => ?_⟩
      obtain ⟨h6, h7, h8⟩ := h5
      obtain ⟨_, u, hu, us, rfl, hr⟩ := r5.mo D _ h6
      exact ⟨us, hu, by rw [hr.length]; exact h7, F5, _, _, e14.trans e5, r5.write (o := .lst (acc ++ [d])) h6 ⟨_, rfl, hr.append (VRs.one v5)⟩, h8⟩
section
variable {X : Cx} {G : Gam} {k : Nat} {elt tg iter : Expr} {ifs : List Expr} {scope : Scope} {own : List (Str × Nat)} {pos : Pos} {wi : DI} {g : DG} {tt : DT} {te tk tv : DE} {gv : List Nat}
theorem qe_lc (dx : DX X G k) (mu : Bool) (hi : PI X tg iter (LI X G wi)) (ok : BlkOk X.N X.env.scope scope own) (hgv : ∀ i ∈ gv, i ∈ own.map (·.2))
    (hg : ∀ (s : Shared) (H : Hp) (C : Addr) (cl : List (Str × Addr)) (fp : List Addr), PG (X.blk s H scope (compEnvC scope cl C X.env) fp) tg (LG G gv g)) (ht : ∀ (s : Shared) (H : Hp) (C : Addr) (cl : List (Str × Addr)) (fp : List Addr), PTs (X.blk s H scope (compEnvC scope cl C X.env) fp) ifs (LT G tt))
    (he : ∀ (s : Shared) (H : Hp) (C : Addr) (cl : List (Str × Addr)) (fp : List Addr), PE (X.blk s H scope (compEnvC scope cl C X.env) fp) elt (LE G te)) (hs : ∀ x, foldedSetIterable iter X.env x = pure x := by intro _; rfl) :
    PE X (.ListComp elt [⟨tg, iter, ifs, 0⟩] scope pos) (LE G (wLc mu wi g tt te (own.map (·.2)))) :=
  PE.imp (PE.unl (pe_lc dx.calm dx.nd hi ok hg ht he hs)) fun _ _ _ h => le_lc hgv h
/-- x = [..] on one line -/
theorem qs_lc {i : Nat} {y : Str} {py spos : Pos} (dx : DX X G k) (mu : Bool) (hy : X.N[i]? = some y) (hyl : X.env.scope.names.lookup y = some .local) (hsw : swapsWith (.ListComp elt [⟨tg, iter, ifs, 0⟩] scope pos) (some (.Name y py)) spos.line X.env = pure true)
    (hi : PI X tg iter (LI X G wi)) (ok : BlkOk X.N X.env.scope scope own) (hgv : ∀ i ∈ gv, i ∈ own.map (·.2))
    (hg : ∀ (s : Shared) (H : Hp) (C : Addr) (cl : List (Str × Addr)) (fp : List Addr), PG (X.blk s H scope (compEnvC scope cl C X.env) fp) tg (LG G gv g)) (ht : ∀ (s : Shared) (H : Hp) (C : Addr) (cl : List (Str × Addr)) (fp : List Addr), PTs (X.blk s H scope (compEnvC scope cl C X.env) fp) ifs (LT G tt))
    (he : ∀ (s : Shared) (H : Hp) (C : Addr) (cl : List (Str × Addr)) (fp : List Addr), PE (X.blk s H scope (compEnvC scope cl C X.env) fp) elt (LE G te)) (hs : ∀ x, foldedSetIterable iter X.env x = pure x := by intro _; rfl) :
    PS X (.Assign [.Name y py] (.ListComp elt [⟨tg, iter, ifs, 0⟩] scope pos) spos) (LS G (wAsg (wLc mu wi g tt te (own.map (·.2))) (gN i))) :=
  PS.imp (PS.unl (ps_setLc dx.calm dx.nd hy hyl hsw hi ok hg ht he hs)) fun D σ H h => by
    obtain ⟨F, m, δ, D0, r, s, h, k⟩ := h
    have h' : LE G (wLc mu wi g tt te (own.map (·.2))) σ H fun v H' => D.nx (σ.set i (some v)) H' := ⟨F, m, δ, _, r, s, h, fun d m1 v F1 H1 h1 e1 r1 v1 => k.nx _ _ _ _ _ h1 e1 r1 ((s.mono e1).set i v1)⟩
    have h2 := le_lc (X := X) hgv h'
    exact h2
/-- a dict by a comprehension -/
def dcGo (it : DIt) (g : DG) (tt : DT) (tk tv : DE) (δ : Slots) (D : Addr) (fin : Sto → Prop) : List DV → List (Key × DV) → Sto → Prop
  | [], acc, m => it.st m ∧ m D = some (.dct acc) ∧ it.fin m fin
  | x :: r, acc, m => it.st m ∧ g x δ m fun δ2 m2 => tt δ2 m2 fun b m3 =>
    if b = true then tk δ2 m3 fun y m4 => tv δ2 m4 fun z m5 => match dK? y with
      | some key => m5 D = some (.dct acc) ∧ acc.length < sizeLine ∧ dcGo it g tt tk tv δ D fin r (putD acc key z) (put m5 D (.dct (putD acc key z)))
      | none => False
    else dcGo it g tt tk tv δ D fin r acc m3
end
end DL
namespace DL
open PySem PySem.Spec PyProof.Rows L2
theorem law_callG {P : Program} {w : World} {K : PySem.W.Frag} {mg mb : Str → Option Value} {CX : CXT} {k : Nat} {fa a : Addr} {fd : FuncData} {x : Str} {sp : Sp} {s₁ : Shared} {vs : List Value} {ns : List Int}
    (KX : K.In s₁.heap) (hns : s₁.heap.Ns mainGlobals mg) (hb : s₁.heap.Ns builtinsNs mb) (hbb : ∀ x : Str, x ≠ "__name__" → mb x = bootBuiltins x) (hlim : s₁.heap.NoLimit) (hg : s₁.gens = #[])
    (ha : s₁.heap.get? a = some { cls := .type "list", data := .seq vs.toArray }) (hi : IntsAre vs ns) (hl : ns.length ≤ sizeLine) (hr : Room k callerA)
    (F : ∀ base : Heap, K.In base → base.Ns mainGlobals mg → FnG P w K mg base CX k fa fd [x] sp) (hbind : ∀ (s : Shared) (u : Value), BindsTo s fd ⟨[u], []⟩ [(x, u)])
    (hsp : ∀ H : Hp, Only H → SqL K H a (ns.map V.int) → sp [.ref a] H (fun v _ => v = .bl true) fun _ _ _ => False)
    (hCX : ∀ H e s', CX [] H s₁ (fun _ _ _ => False) e s' → False) :
    codeAny (model P w) callerA (.call (.ref fa) ⟨[.ref a], []⟩) (fun r s' => r = .ok (.ret (.bool true)) ∧ OldK s₁.heap s'.heap ∧ s'.os = s₁.os ∧ AllBare s'.gens) s₁ := by
  have rv := vals_ints hi
  have lenV := hi.length
  -- from an abstract heap in which nothing but the script may be tracked
  have core : ∀ H : Hp, Only H → SqL K H a (ns.map V.int) → HOk P w H s₁.heap → (∀ b, H b ≠ none → b = a) → (H a ≠ none → K.lookup a = none) →
      codeAny (model P w) callerA (.call (.ref fa) ⟨[.ref a], []⟩) (fun r s' => r = .ok (.ret (.bool true)) ∧ OldK s₁.heap s'.heap ∧ s'.os = s₁.os ∧ AllBare s'.gens) s₁ := by
    intro H hO hS hok hA hK
    have base_of : ∀ {b : Addr} {o : Obj}, s₁.heap.get? b = some o → H b = none → (hidT s₁.heap H).get? b = some o := fun e n => hidT_get e n
    have noA : ∀ {b : Addr} {o : Obj} {es : Array DictEntry} {ep : Nat}, s₁.heap.get? b = some o → o.data = .dict es ep → H b = none := fun {b o es ep} e d => by
      cases q : H b with
      | none => rfl
      | some u =>
        have e' : b = a := hA b (by rw [q]; simp)
        subst e'
        rw [ha] at e; cases e
        have d' : Data.seq vs.toArray _ = Data.dict es ep := d
        cases d'
    have nsK : ∀ {b : Addr} {m : Str → Option Value}, s₁.heap.Ns b m → (hidT s₁.heap H).Ns b m := fun {b m} ⟨o, es, ep, e, d, r⟩ => ⟨o, es, ep, base_of e (noA e d), d, r⟩
    have hKb : K.In (hidT s₁.heap H) := fun b o e => base_of (KX b o e) (by
      cases q : H b with
      | none => rfl
      | some u =>
        have e' : b = a := hA b (by rw [q]; simp)
        subst e'
        rw [hK (by rw [q]; simp)] at e; cases e)
    have hM : Mod K mg (hidT s₁.heap H) := ⟨hKb, nsK hns, ⟨mb, nsK hb, hbb⟩, let ⟨mc, h1, h2⟩ := hlim; ⟨mc, nsK h1, h2⟩⟩
    have e0 : Env0 P w K mg (hidT s₁.heap H) callerA [] s₁ H := ⟨rfl, hM, fun b o e => of_hidT e, Nat.le_of_eq (hidT_size _ _), trivial, fun b hb => absurd (show b ∈ ([] : List Addr) from hb) (by simp), hok, .of_eq hg⟩
    refine codeAny_mono ((F _ hKb (nsK hns)).run callerA [] s₁ H ⟨[.ref a], []⟩ [.ref a] [.ref a] _ _ hr rfl e0 (hbind s₁ (.ref a)) (.cons rfl .nil) (hsp H hO hS)) fun r s' h => ?_
    cases r with
    | error e => exact (hCX H e s' h).elim
    | ok fl =>
      cases fl with
      | next => exact False.elim h
      | brk => exact False.elim h
      | cont => exact False.elim h
      | ret u =>
        obtain ⟨v, H', os, bare, un, hok', r', q⟩ := h
        have q' : v = .bl true := q
        subst q'
        obtain rfl : u = Value.bool true := r'
        refine ⟨rfl, OldK.of_keep fun b o e => ?_, os, bare⟩
        cases q : H b with
        | none => exact un.keep b o e q (by intro z; exact absurd (show b ∈ ([] : List Addr) from z) (by simp)) (by simp)
        | some u =>
          rcases hO b with z | ⟨ob, xs, z⟩
          · rw [q] at z; cases z
          · have z2 := un.frzs b ob _ z
            obtain ⟨e1, _⟩ := hok b _ z
            obtain ⟨e2, _⟩ := hok' b _ z2
            rw [e] at e1; cases e1
            exact e2
  cases hk : K.lookup a with
  | some o =>
    -- the script is one of the module's own objects
    have e := KX a o hk
    rw [ha] at e
    cases e
    refine core (fun _ => none) (fun _ => .inl rfl) (.inr ⟨_, vs.toArray, _, hk, rfl, rfl, rfl, by rw [List.size_toArray, lenV]; exact hl, by simpa using rv⟩) (fun b u z => by have z' : (none : Option HO) = some u := z; cases z') (fun b z => absurd rfl z) fun z => absurd rfl z
  | none =>
    refine core (fun b => if b = a then some (.frz { cls := .type "list", data := .seq vs.toArray } (.lst (ns.map V.int))) else none) (fun b => ?_) (.inl (.inr ⟨{ cls := .type "list", data := .seq vs.toArray }, if_pos rfl⟩)) (fun b u z => ?_) (fun b z => ?_) fun _ => hk
    · by_cases hb : b = a
      · exact .inr ⟨_, _, if_pos hb⟩
      · exact .inl (if_neg hb)
    · by_cases hb : b = a
      · have z' := (if_pos hb).symm.trans z
        cases z'
        subst hb
        exact ⟨ha, by rw [List.length_map]; exact hl, vs, _, rv, ha⟩
      · have z' := (if_neg hb).symm.trans z
        cases z'
    · by_cases hb : b = a
      · exact hb
      · exact absurd (if_neg hb) z
theorem walk_ofG {l : PySem.W.OpenLaw} {n k : Nat} {q : Program} {loose : List Str} {XP : (Str → Option Value) → Heap → Prop} {YP : World → Heap → Prop} {d : DefRec} {CX : CXT} {x : Str}
    (hn : l.most = some n) (hn2 : n ≤ sizeLine) (hdf : d.params.defaults = []) (hr : Room k callerA)
    (F : ∀ (w : World) (mg : Str → Option Value) (fa : Addr) (h : Heap), YP w h → h.Ns mainGlobals mg → mg d.name = some (.ref fa) →
      ∃ (K : PySem.W.Frag) (fd : FuncData) (sp : Sp), K.In h ∧ (∀ (s : Shared) (u : Value), BindsTo s fd ⟨[u], []⟩ [(x, u)]) ∧
        (∀ (H : Hp) (a : Addr) (ns : List Int), ns.length ≤ n → (∀ z ∈ ns, Builtin.Int.intBits z ≤ 1048576) → Only H → SqL K H a (ns.map V.int) → sp [.ref a] H (fun v _ => v = .bl true) fun _ _ _ => False) ∧
        ∀ base : Heap, K.In base → base.Ns mainGlobals mg → FnG l.prog w K mg base CX k fa fd [x] sp)
    (hCX : ∀ (H : Hp) (s : Shared) (e : Value) (s' : Shared), CX [] H s (fun _ _ _ => False) e s' → False) :
    PySem.W.WalkO q loose XP YP l.row.toRowW d [] (fun f vs => PySem.call f vs) := by
  refine Att.attach_callB hn hdf fun w s₀ s₁ mg mb fa o pm cd doc a vs ns G Y ho hd hcd hmg hobj hints hlen hbits hg => ?_
  obtain ⟨K, fd, sp, KX, hb, hsp, hF⟩ := F w mg fa _ Y G.T.g hmg
  exact law_callG KX G.T.g G.T.b G.T.builtins G.T.nolimit hg hobj hints (Nat.le_trans hlen hn2) hr hF hb (fun H hO hS => hsp H a ns hlen hbits hO hS) fun H e s' => hCX H s₁ e s'
section
variable {P : Program} {w : World} {K : PySem.W.Frag} {mg : Str → Option Value} {base : Heap} {G : Gam} {x qual : Str} {params : Arguments} {body : List Stmt} {scope : Scope} {dvs : List V} {kws : List (Str × V)} {f : Addr} {fd : FuncData} {N ps : List Str} {k : Nat}
theorem dx_cx (hK : K = G.K) {A : Around} {outer : List Env} {s : Shared} {H : Hp} {E : XK} {cdv : Value} (hnd : N.Nodup) (hr : Room k (A.deeper (envOfC qual scope s.heap.objs.size f cdv))) (hg : A.guards = some []) : DX (cxOf CX0 P w K mg base N qual scope f cdv A outer s H E).nox G k where
  K := hK
  room := hr
  gd := hg
  calm := rfl
  pas := PassesOwn.never
  nd := hnd
theorem DX.blk {X : Cx} {k : Nat} (d : DX X G k) (s : Shared) (H : Hp) (sc : Scope) (ce : Env) (fp : List Addr) : DX (X.blk s H sc ce fp) G k where
  K := d.K
  room := d.room
  gd := d.gd
  calm := d.calm
  pas := PassesOwn.never
  nd := d.nd
theorem okD {W : DS} (F : FunD K x qual params body scope dvs kws f fd) (S : FnScope N ps scope)
    (hbody : ∀ (cdv : Value) (A : Around) (outer : List Env) (s : Shared) (H : Hp) (E : XK), Room k (A.deeper (envOfC qual scope s.heap.objs.size f cdv)) → A.guards = some [] →
      PSs (cxOf CX0 P w K mg base N qual scope f cdv A outer s H E).nox body (LS G W)) : FnG P w K mg base CX0 (k + 1) f fd ps (spL G (arD ps.length (runD N.length W))) := by
  obtain ⟨oc, od, dV, kV, doc, pm, an, cdv, ct, osl, rfl, lk, hcd, _, _⟩ := F.ex
  exact fn_ofG lk hcd S (fun vs H Q E h => spL_len h) fun A outer s H vs Q E hr hG hsp => ⟨_, (hbody cdv A outer s H E hr hG).nox, runD_ok hsp⟩
/-- a def as its callers know it -/
structure FD (P : Program) (w : World) (K : PySem.W.Frag) (mg : Str → Option Value) (base : Heap) (G : Gam) (k : Nat) (f : Addr) (fd : FuncData) (ps : List Str) (S : DSp) : Prop where
  ok : FnG P w K mg base CX0 k f fd ps (spL G S)
  kp : PySem.W.keepIn K (.ref f) = true
  bd : Binds K fd ps []
theorem FD.mk' {W : DS} (F : FunD K x qual params body scope [] [] f fd) (S : FnScope N ps scope)
    (hb : ∀ (kV doc pm : Value) (an : Option Addr) (cdv ct : Value) (us : List Value), us.length = ps.length → bindArgs (PySem.W.fnOf x qual params body scope .none kV doc pm an cdv ct) ⟨us, []⟩ = pure (ps.zip us))
    (hbody : ∀ (cdv : Value) (A : Around) (outer : List Env) (s : Shared) (H : Hp) (E : XK), Room k (A.deeper (envOfC qual scope s.heap.objs.size f cdv)) → A.guards = some [] →
      PSs (cxOf CX0 P w K mg base N qual scope f cdv A outer s H E).nox body (LS G W)) : FD P w K mg base G (k + 1) f fd ps (arD ps.length (runD N.length W)) :=
  ⟨okD F S hbody, F.kp, F.bindsN hb⟩
theorem FD.zero (F : FunD K x qual params body scope [] [] f fd)
    (hb : ∀ (kV doc pm : Value) (an : Option Addr) (cdv ct : Value) (us : List Value), us.length = ps.length → bindArgs (PySem.W.fnOf x qual params body scope .none kV doc pm an cdv ct) ⟨us, []⟩ = pure (ps.zip us)) : FD P w K mg base G k f fd ps (fun _ _ _ => False) :=
  ⟨⟨fun vs H Q E h => by obtain ⟨_, _, _, _, _, _, h, _⟩ := h; exact False.elim h, fun A outer s H args us vs Q E _ _ _ _ _ h => by obtain ⟨_, _, _, _, _, _, h, _⟩ := h; exact False.elim h⟩, F.kp, F.bindsN hb⟩
end
section
variable {X : Cx} {G : Gam} {j k : Nat} {f C : Addr} {c : Nat} {fd : FuncData} {ps ks : List Str} {S : DSp} {x m : Str} {p pos apos : Pos} {e o : Expr} {es : List Expr} {w : DE} {wa : DA}
theorem qf_call (F : FD X.prog X.w X.K X.mg X.base G k f fd ps S) (dx : DX X G j) (hj : k ≤ j) (hg : Gl X x) (hm : X.mg x = some (.ref f)) (ha : PA X (e :: es) (LA G wa)) (hdb : (x == ("__debug__" : Str)) = false := by decide)
    (he : starEach (e :: es) X.env = (false, eval e X.env) :: starEach es X.env := by rfl) (hpl : (backTo pos (starEach es X.env)).any (·.1) = false := by rfl) : PE X (.Call (.Name x p) (e :: es) [] pos) (LE G (wCall S [] wa)) :=
  qe_call F.ok dx hj hg hm F.kp F.bd .nil (fun _ => .nil) ha hdb he hpl
theorem qf_call0 (F : FD X.prog X.w X.K X.mg X.base G k f fd ps S) (dx : DX X G j) (hj : k ≤ j) (hg : Gl X x) (hm : X.mg x = some (.ref f)) (hdb : (x == ("__debug__" : Str)) = false := by decide) : PE X (.Call (.Name x p) [] [] pos) (LE G (wCall S [] wNil)) :=
  qe_call0 F.ok dx hj hg hm F.kp F.bd .nil (fun _ => .nil) hdb
theorem qf_meth {pl : Sem Bool} (F : FD X.prog X.w X.K X.mg X.base G k f fd ps S) (dx : DX X G j) (hj : k ≤ j) (he : PE X o (LE G w)) (cl : Cls X.K C) (hC : G.cls c = C) (hn : ∀ i, G.fld i ≠ m) (hm : Meth X.K C m f)
    (ha : PA X (e :: es) (LA G wa)) (hst : starEach (e :: es) X.env = (false, eval e X.env) :: starEach es X.env := by rfl) (hpl : (backTo pos (starEach es X.env)).any (·.1) = false := by rfl)
    (ht : eval (.Call (.Attribute o m apos) (e :: es) [] pos) X.env = (do
      let ov ← eval o X.env
      standAt apos.atName
      let (f, first) ← holding [ov] (getMethod ov m pl)
      callWith pos f first (backTo pos (starEach (e :: es) X.env)) (backToKw pos (keywordEach [] X.env))) := by rfl) : PE X (.Call (.Attribute o m apos) (e :: es) [] pos) (LE G (wMeth c S [] w wa)) :=
  qe_meth (pl := pl) he cl hC hn hm F.ok dx hj F.bd .nil (fun _ => .nil) ha hst hpl ht
theorem qf_meth0 {pl : Sem Bool} (F : FD X.prog X.w X.K X.mg X.base G k f fd ps S) (dx : DX X G j) (hj : k ≤ j) (he : PE X o (LE G w)) (cl : Cls X.K C) (hC : G.cls c = C) (hn : ∀ i, G.fld i ≠ m) (hm : Meth X.K C m f)
    (ht : eval (.Call (.Attribute o m apos) [] [] pos) X.env = (do
      let ov ← eval o X.env
      standAt apos.atName
      let (f, first) ← holding [ov] (getMethod ov m pl)
      callWith pos f first (backTo pos (starEach [] X.env)) (backToKw pos (keywordEach [] X.env))) := by rfl) : PE X (.Call (.Attribute o m apos) [] [] pos) (LE G (wMeth c S [] w wNil)) :=
  qe_meth0 (pl := pl) he cl hC hn hm F.ok dx hj F.bd .nil (fun _ => .nil) ht
theorem qf_make (F : FD X.prog X.w X.K X.mg X.base G k f fd ps S) (M : Mk X.K C f) (dx : DX X G j) (hj : k + 1 ≤ j) (hC : G.cls c = C) (hg : Gl X x) (hm : X.mg x = some (.ref C)) (ha : PA X (e :: es) (LA G wa)) (hdb : (x == ("__debug__" : Str)) = false := by decide)
    (he : starEach (e :: es) X.env = (false, eval e X.env) :: starEach es X.env := by rfl) (hpl : (backTo pos (starEach es X.env)).any (·.1) = false := by rfl) : PE X (.Call (.Name x p) (e :: es) [] pos) (LE G (wMake c S [] wa)) :=
  qe_make M hC F.ok dx hj hg hm F.bd .nil (fun _ => .nil) ha hdb he hpl
theorem qf_make0 (F : FD X.prog X.w X.K X.mg X.base G k f fd ps S) (M : Mk X.K C f) (dx : DX X G j) (hj : k + 1 ≤ j) (hC : G.cls c = C) (hg : Gl X x) (hm : X.mg x = some (.ref C)) (hdb : (x == ("__debug__" : Str)) = false := by decide) : PE X (.Call (.Name x p) [] [] pos) (LE G (wMake c S [] wNil)) :=
  qe_make0 M hC F.ok dx hj hg hm F.bd .nil (fun _ => .nil) hdb
end
def fldOf (names : List Str) (i : Nat) : Str := match names[i]? with
  | some x => x
  | none => ⟨#[0, i]⟩
def okNames (names : List Str) : Bool := decide names.Nodup && names.all fun x => x.cps[0]? != some 0
theorem fldOf_inj {names : List Str} (h : okNames names = true) : ∀ i j, fldOf names i = fldOf names j → i = j := by
  unfold okNames at h
  rw [Bool.and_eq_true] at h
  obtain ⟨h1, h2⟩ := h
  have h1 := of_decide_eq_true h1
  have h2 : ∀ x ∈ names, x.cps[0]? ≠ some 0 := fun x hx => by
    have := List.all_eq_true.mp h2 x hx
    simpa using this
  intro i j e
  unfold fldOf at e
  cases ei : names[i]? with
  | none =>
    cases ej : names[j]? with
    | none =>
      rw [ei, ej] at e
      injection e with e
      simpa using e
    | some y =>
      rw [ei, ej] at e
      have hy := List.mem_of_getElem? ej
      have e : (⟨#[0, i]⟩ : Str) = y := e
      exact absurd (by rw [← e]; rfl) (h2 y hy)
  | some x =>
    cases ej : names[j]? with
    | none =>
      rw [ei, ej] at e
      have hx := List.mem_of_getElem? ei
      have e : x = (⟨#[0, j]⟩ : Str) := e
      exact absurd (by rw [e]; rfl) (h2 x hx)
    | some y =>
      rw [ei, ej] at e
      have e : x = y := e
      subst e
      have li := (List.getElem?_eq_some_iff.mp ei)
      obtain ⟨hi, ei⟩ := li
      obtain ⟨hj, ej⟩ := List.getElem?_eq_some_iff.mp ej
      have key := List.pairwise_iff_getElem.mp h1
      rcases Nat.lt_trichotomy i j with h | h | h
      · exact absurd (ei.trans ej.symm) (key i j hi hj h)
      · exact h
      · exact absurd (ej.trans ei.symm) (key j i hj hi h)
theorem fldOf_ne {names : List Str} {m : Str} (h : (!names.contains m && m.cps[0]? != some 0) = true) : ∀ i, fldOf names i ≠ m := by
  rw [Bool.and_eq_true] at h
  obtain ⟨h1, h2⟩ := h
  intro i e
  unfold fldOf at e
  cases ei : names[i]? with
  | none =>
    rw [ei] at e
    dsimp only at e
    subst e
    simp at h2
  | some x =>
    rw [ei] at e
    have e : x = m := e
    subst e
    have := List.mem_of_getElem? ei
    simp at h1
    exact h1 this
end DL
namespace DL
open PySem PySem.Spec PyProof.Rows L2
def blkB (N : List Str) (sc scope : Scope) (own : List (Str × Nat)) : Bool :=
  decide (scope.kind = .function) && (scope.names.all (fun y => decide (scope.names.lookup y.1 = some y.2)) && (own.all (fun p => decide (N[p.2]? = some p.1)) &&
    (scope.names.all (fun y => decide (y.2 ≠ .free) || (decide (sc.names.lookup y.1 = some .cell) || decide (sc.names.lookup y.1 = some .free))) &&
      scope.names.all (fun y => !(decide (y.2 = .local) || decide (y.2 = .cell)) || (decide (y.1 ∈ own.map (·.1)) || decide (y.1 ∉ N))))))
theorem blk_of {N : List Str} {sc scope : Scope} {own : List (Str × Nat)} (h : blkB N sc scope own = true) : BlkOk N sc scope own := by
  unfold blkB at h
  simp only [Bool.and_eq_true] at h
  obtain ⟨h1, h2, h3, h4, h5⟩ := h
  refine ⟨of_decide_eq_true h1, fun y hy => of_decide_eq_true (List.all_eq_true.mp h2 y hy), fun p hp => of_decide_eq_true (List.all_eq_true.mp h3 p hp), fun y hy e => ?_, fun y hy e => ?_⟩
  · have := List.all_eq_true.mp h4 y hy
    simp only [Bool.or_eq_true, decide_eq_true_eq] at this
    rcases this with z | z
    · exact absurd e z
    · exact z
  · have := List.all_eq_true.mp h5 y hy
    simp only [Bool.or_eq_true, Bool.not_eq_true', decide_eq_true_eq] at this
    rcases this with z | z
    · rcases e with e | e <;> simp [e] at z
    · exact z
/-- the values of a call put in the parameters' order -/
def pick (idx : List Nat) {α : Type} (us ws : List α) : List α := idx.filterMap fun i => (us ++ ws)[i]?
theorem pick_vals {idx : List Nat} {vs zs : List V} {us ws : List Value} (h : Vals vs us) (g : Vals zs ws) : Vals (pick idx vs zs) (pick idx us ws) := by
  have r := h.append g
  unfold pick
  induction idx with
  | nil => exact .nil
  | cons i is ih =>
    rw [List.filterMap_cons, List.filterMap_cons]
    cases e : (vs ++ zs)[i]? with
    | none => rw [Vals.none_of r e]; exact ih
    | some x =>
      obtain ⟨u, hu, ru⟩ := r.get e
      rw [hu]; exact .cons ru ih
theorem pick_vrs {idx : List Nat} (K : PySem.W.Frag) (F : Hp) {vs zs : List V} {ds es : List DV} (h : VRs K F vs ds) (g : VRs K F zs es) : VRs K F (pick idx vs zs) (pick idx ds es) := by
  have r := h.append g
  unfold pick
  induction idx with
  | nil => exact .nil
  | cons i is ih =>
    rw [List.filterMap_cons, List.filterMap_cons]
    cases e : (ds ++ es)[i]? with
    | none =>
      have : (vs ++ zs)[i]? = none := List.getElem?_eq_none (by rw [r.length]; exact List.getElem?_eq_none_iff.mp e)
      rw [this]; exact ih
    | some x =>
      obtain ⟨u, hu, ru⟩ := r.get e
      rw [hu]; exact .cons ru ih
section
variable {X : Cx} {G : Gam} {k j : Nat} {e e2 : Expr} {es : List Expr} {kws : List Keyword} {x : Str} {p pos p2 pos2 : Pos} {w w2 : DE} {wl wk : DA}
def wDict0 : DE := fun _ m Q => ∀ p, m p = none → Q (.ref p) (put m p (.dct []))
theorem qe_dict0 : PE X (.Dict [] [] pos) (LE G wDict0) :=
  PE.imp pe_dnewK fun σ H Q h => by
    obtain ⟨F, m, δ, Q0, r, s, h, k⟩ := h
    exact fun p hp => k _ _ _ _ _ (h p (r.freeM hp)) (Ex.refl F) (r.newM hp ⟨[], rfl, .nil⟩) (.ref p)
def wDc (wi : DI) (g : DG) (tt : DT) (tk tv : DE) (vs : List Nat) : DE := fun δ m Q => wi δ m fun it m1 => ∀ D, m1 D = none → dcGo it g tt tk tv (wipeD δ vs) D (fun m' => Q (.ref D) m') it.items [] (put m1 D (.dct []))
variable {elt tg iter kx vx : Expr} {ifs : List Expr} {scope : Scope} {own : List (Str × Nat)} {wi : DI} {g : DG} {tt : DT} {tk tv : DE} {gv : List Nat}
theorem putD_keys {κ : Type} [DecidableEq κ] (kvs : List (κ × DV)) (key : κ) (d : DV) : (putD kvs key d).map (·.1) = if key ∈ kvs.map (·.1) then kvs.map (·.1) else kvs.map (·.1) ++ [key] := by
  induction kvs with
  | nil => simp [putD]
  | cons q r ih =>
    obtain ⟨i, e⟩ := q
    by_cases z : i = key
    · subst z; simp [putD]
    · simp only [putD, if_neg z, List.map_cons, ih, List.mem_cons]
      have z' : ¬ key = i := fun w => z w.symm
      by_cases y : key ∈ r.map (·.1)
      · rw [if_pos y, if_pos (.inr y)]
      · rw [if_neg y, if_neg (by rintro (w | w); exact z' w; exact y w)]
        rfl
theorem putD_nodup {κ : Type} [DecidableEq κ] {kvs : List (κ × DV)} {key : κ} {d : DV} (h : (kvs.map (·.1)).Nodup) : ((putD kvs key d).map (·.1)).Nodup := by
  rw [putD_keys]
  split
  · exact h
  · rename_i hn
    rw [List.nodup_append]
    refine ⟨h, List.nodup_cons.mpr ⟨List.not_mem_nil, .nil⟩, fun a ha b hb => ?_⟩
    rw [List.mem_singleton] at hb
    subst hb
    exact fun z => hn (z ▸ ha)
theorem le_dc {vs : List Nat} {σ : L2.St} {H : Hp} {Q : VK} (hg : ∀ i ∈ gv, i ∈ vs) (h : LE G (wDc wi g tt tk tv vs) σ H Q) : tDc (LI X G wi) (LG G gv g) (LT G tt) (LE G tk) (LE G tv) vs σ H (UnlV X Q) := by
  obtain ⟨F, m, δ, Q0, r, s, h, k⟩ := h
  refine ⟨F, m, δ, _, r, s, h, fun it m1 F1 H1 J q e1 r1 ok hn D hD => ?_⟩
  have q0 := q D (r1.freeM hD)
  have r2 : Rel G F1 (put m1 D (.dct [])) (upd H1 D (.dK [])) := r1.newM hD ⟨[], rfl, .nil⟩
  refine ⟨fun i n H' => n = it.items.length - i ∧ i ≤ it.items.length ∧ ∃ F' m' acc, Ex F1 F' ∧ Rel G F' m' H' ∧ (acc.map (·.1)).Nodup ∧ dcGo it g tt tk tv (wipeD δ vs) D (fun m' => Q0 (.ref D) m') (it.items.drop i) acc m', ⟨_, rfl, Nat.zero_le _, F1, _, [], Ex.refl F1, r2, .nil, q0⟩, ?_⟩
  rintro i n H' ⟨rfl, hle, F', m', acc, e', r', hkv, w'⟩
  cases ed : it.items.drop i with
  | nil =>
    rw [ed] at w'
    obtain ⟨w1, w2, w3⟩ := w'
    refine .inl ⟨(ok i F' m' H' e' r' w1).2 (getElem_drop_nil ed), ?_⟩
    exact fin_ok (N := fun H => Q (.ref D) H) r' hn w3 fun m2 H2 h2 rr => k _ _ _ _ _ h2 (e1.trans e') rr (.ref D)
  | cons x rest =>
    rw [ed] at w'
    obtain ⟨hx, hd⟩ := getElem_drop_cons ed
    obtain ⟨w1, w2⟩ := w'
    obtain ⟨go, yl⟩ := (ok i F' m' H' e' r' w1).1 x hx
    have hlt : i < it.items.length := by
      obtain ⟨z, _⟩ := List.getElem?_eq_some_iff.mp hx
      exact z
    refine .inr ⟨go, fun H2 => ∃ F2 m2 acc, Ex F1 F2 ∧ Rel G F2 m2 H2 ∧ (acc.map (·.1)).Nodup ∧ dcGo it g tt tk tv (wipeD δ vs) D (fun m' => Q0 (.ref D) m') rest acc m2, fun H2 q2 => ⟨_, (by omega : it.items.length - (i + 1) < it.items.length - i), rfl, hlt, by rw [hd]; exact q2⟩, fun y H2 hy => ?_⟩
    obtain ⟨F2, e2, r2', v2⟩ := yl y H2 hy
    refine ⟨F2, m', wipeD δ vs, x, _, r2', (s.mono ((e1.trans e').trans e2)).wipe vs, v2, w2, fun δ3 m3 σ3 F3 H3 h3 e3 r3 s3 c3 => ⟨wipe_chg hg c3, F3, m3, δ3, _, r3, s3, h3, fun b m4 F4 H4 h4 e4 r4 => ?_⟩⟩
    have e14 : Ex F1 F4 := ((e'.trans e2).trans e3).trans e4
    cases b with
    | false => exact ⟨F4, m4, acc, e14, r4, hkv, h4⟩
    | true =>
      refine ⟨F4, m4, δ3, _, r4, s3.mono e4, h4, fun dk m5 zk F5 H5 h5 e5 r5 v5 => ⟨F5, m5, δ3, _, r5, (s3.mono e4).mono e5, h5, fun d m6 z F6 H6 h6 e6 r6 v6 => ?_⟩⟩
      cases ek : dK? dk with
      | none => rw [ek] at h6; exact False.elim h6
      | some key =>
        rw [ek] at h6
        obtain ⟨h7, h8, h9⟩ := h6
        obtain ⟨_, u, hu, kv, rfl, hr⟩ := r6.mo D _ h7
        have hnd : (kv.map (·.1)).Nodup := by rw [KR.keys hr]; exact hkv
        exact ⟨kv, key, vr_key v5 ek, hu, by rw [KR.length hr]; exact h8, F6, _, _, (e14.trans e5).trans e6, r6.write (o := .dct (putD acc key d)) h7 ⟨_, rfl, KR.put hr hnd key v6⟩, putD_nodup hkv, h9⟩
theorem qe_dc (dx : DX X G k) (hi : PI X tg iter (LI X G wi)) (ok : BlkOk X.N X.env.scope scope own) (hgv : ∀ i ∈ gv, i ∈ own.map (·.2))
    (hg : ∀ (s : Shared) (H : Hp) (C : Addr) (cl : List (Str × Addr)) (fp : List Addr), PG (X.blk s H scope (compEnvC scope cl C X.env) fp) tg (LG G gv g)) (ht : ∀ (s : Shared) (H : Hp) (C : Addr) (cl : List (Str × Addr)) (fp : List Addr), PTs (X.blk s H scope (compEnvC scope cl C X.env) fp) ifs (LT G tt))
    (hk : ∀ (s : Shared) (H : Hp) (C : Addr) (cl : List (Str × Addr)) (fp : List Addr), PE (X.blk s H scope (compEnvC scope cl C X.env) fp) kx (LE G tk)) (he : ∀ (s : Shared) (H : Hp) (C : Addr) (cl : List (Str × Addr)) (fp : List Addr), PE (X.blk s H scope (compEnvC scope cl C X.env) fp) vx (LE G tv))
    (hs : ∀ x, foldedSetIterable iter X.env x = pure x := by intro _; rfl) : PE X (.DictComp kx vx [⟨tg, iter, ifs, 0⟩] scope pos) (LE G (wDc wi g tt tk tv (own.map (·.2)))) :=
  PE.imp (PE.unl (pe_dc dx.calm dx.nd hi ok hg ht hk he hs)) fun _ _ _ h => le_dc hgv h
def rgl (mu : Bool) (i j : Int) (m : Sto) (Q : DK) : Prop := RgOk i j ∧ newL mu (rgD i (j - i).toNat) m Q
theorem vrs_rg {K : PySem.W.Frag} {F : Hp} (i j : Int) : VRs K F (rgV i j) (rgD i (j - i).toNat) := by
  unfold rgV rgD
  generalize List.range (j - i).toNat = l
  induction l with
  | nil => exact .nil
  | cons a r ih => exact .cons (.int _) ih
def wLRg1 (mu : Bool) (t : DA) : DE := fun δ m Q => t δ m fun ds m1 => match ds with
  | [.int j] => rgl mu 0 j m1 Q
  | _ => False
def wLRg2 (mu : Bool) (t : DA) : DE := fun δ m Q => t δ m fun ds m1 => match ds with
  | [.int i, .int j] => rgl mu i j m1 Q
  | _ => False
theorem qe_lrg1 (hc : X.calm = true) (mu : Bool) (hg : Gl X "list") (hm : X.mg "list" = none) (hg2 : Gl X "range") (hm2 : X.mg "range" = none) (he : PE X e (LE G w)) (na : starEach [e] X.env = (false, eval e X.env) :: starEach [] X.env := by rfl)
    (na2 : starEach [.Call (.Name "range" p2) [e] [] pos2] X.env = (false, eval (.Call (.Name "range" p2) [e] [] pos2) X.env) :: starEach [] X.env := by rfl) : PE X (.Call (.Name "list" p) [.Call (.Name "range" p2) [e] [] pos2] [] pos) (LE G (wLRg1 mu (wCons w wNil))) :=
  PE.imp (pe_listRg hc hg hm (prg_1 hg2 hm2 he na) na2) fun σ H Q h => by
    obtain ⟨F, m, δ, Q0, r, s, h, k⟩ := h
    refine ⟨F, m, δ, _, r, s, h, fun d m1 v F1 H1 h1 e1 r1 v1 => ?_⟩
    cases v1 <;> first | exact False.elim h1 | skip
    exact ⟨_, rfl, h1.1, newL_ok r1 h1.2 (k.mono e1) (vrs_rg _ _)⟩
theorem qe_lrg2 (hc : X.calm = true) (mu : Bool) (hg : Gl X "list") (hm : X.mg "list" = none) (hg2 : Gl X "range") (hm2 : X.mg "range" = none) (he : PE X e (LE G w)) (he2 : PE X e2 (LE G w2)) (na : starEach [e, e2] X.env = (false, eval e X.env) :: starEach [e2] X.env := by rfl) (nb : starEach [e2] X.env = (false, eval e2 X.env) :: starEach [] X.env := by rfl)
    (hp : (backTo pos2 (starEach [e2] X.env)).any (·.1) = false := by rfl)
    (na2 : starEach [.Call (.Name "range" p2) [e, e2] [] pos2] X.env = (false, eval (.Call (.Name "range" p2) [e, e2] [] pos2) X.env) :: starEach [] X.env := by rfl) : PE X (.Call (.Name "list" p) [.Call (.Name "range" p2) [e, e2] [] pos2] [] pos) (LE G (wLRg2 mu (wCons w (wCons w2 wNil)))) :=
  PE.imp (pe_listRg hc hg hm (prg_2 hg2 hm2 he he2 na nb hp) na2) fun σ H Q h => by
    obtain ⟨F, m, δ, Q0, r, s, h, k⟩ := h
    refine ⟨F, m, δ, _, r, s, h, fun d m1 v F1 H1 h1 e1 r1 v1 => ⟨F1, m1, δ, _, r1, s.mono e1, h1, fun d2 m2 v2 F2 H2 h2 e2 r2 q2 => ?_⟩⟩
    cases v1 <;> cases q2 <;> first | exact ⟨_, _, rfl, rfl, h2.1, newL_ok r2 h2.2 (k.mono (e1.trans e2)) (vrs_rg _ _)⟩ | exact False.elim h2
variable {K : PySem.W.Frag} {qual : Str} {params : Arguments} {body : List Stmt} {f : Addr} {fd : FuncData} {ps ks : List Str} {n : Nat} {S : DSp} {scp : Scope}
theorem kbn (F : FunD K x qual params body scp [] [] f fd) (g : {α : Type} → List α → List α → List α) (hrel : ∀ {vs zs : List V} {us ws : List Value}, Vals vs us → Vals zs ws → Vals (g vs zs) (g us ws))
    (h : ∀ (kV doc pm : Value) (an : Option Addr) (cdv ct : Value) (us ws : List Value), us.length = n → ws.length = ks.length → bindArgs (PySem.W.fnOf x qual params body scp .none kV doc pm an cdv ct) ⟨us, ks.zip ws⟩ = pure (ps.zip (g us ws))) :
    KBn K fd ps n ks (fun us ws => g us ws) (fun vs zs => g vs zs) := by
  obtain ⟨oc, od, dV, kV, doc, pm, an, cdv, ct, osl, rfl, lk, hcd, hD, hK⟩ := F.ex
  rcases hD with ⟨_, rfl⟩ | ⟨e, _⟩
  · exact ⟨fun s us ws _ h1 h2 => .of_eq (h kV doc pm an cdv ct us ws h1 h2), hrel⟩
  · exact absurd rfl e
theorem run_fnN {fx : Addr} {kk : Nat} {pins : List (Addr × Obj)} {σ : L2.St} {H : Hp} {s : Shared} {Q : VK} {us ws : List Value} {vs zs : List V} {sp : Sp} {gg : List Value → List Value → List Value} {gV : List V → List V → List V} (F : FnG X.prog X.w X.K X.mg X.base CX0 kk fx fd ps sp) (hr : Room kk X.A) (hG : X.A.guards = some []) (hb : KBn X.K fd ps n ks gg gV)
    (I : Inv X pins σ H s) (r : Vals vs us) (rz : Vals zs ws) (hn : vs.length = n) (hz : zs.length = ks.length) (h : sp (gV vs zs) H Q E0) : wpAny (model X.prog X.w) X.A (call (.ref fx) us (ks.zip ws)) (EP X pins σ Q) X.xe s := by
  have r2 := hb.rel r rz
  refine wpAny_call (codeAny_mono (F.run X.A X.stack s H ⟨us, ks.zip ws⟩ (gg us ws) (gV vs zs) Q E0 hr hG I.env0 (hb.to s us ws I.kIn (by rw [← r.length]; exact hn) (by rw [← rz.length]; exact hz)) r2 h) fun r s' hq => ?_)
  cases r with
  | error e => exact False.elim hq
  | ok fl =>
    cases fl with
    | ret u => exact I.after hq
    | next => exact False.elim hq
    | brk => exact False.elim hq
    | cont => exact False.elim hq
def wCallN (n m : Nat) (S : DSp) (gD : List DV → List DV → List DV) (t tk : DA) : DE := fun δ mm Q => t δ mm fun ds m1 => tk δ m1 fun es m2 => ds.length = n ∧ es.length = m ∧ S (gD ds es) m2 Q
theorem qf_callK {gg : {α : Type} → List α → List α → List α} (F : FD X.prog X.w X.K X.mg X.base G k f fd ps S) (hb : KBn X.K fd ps n ks (fun us ws => gg us ws) (fun vs zs => gg vs zs)) (hgd : ∀ F vs ds ws es, VRs G.K F vs ds → VRs G.K F ws es → VRs G.K F (gg vs ws) (gg ds es)) (dx : DX X G j) (hj : k ≤ j) (hg : Gl X x) (hm : X.mg x = some (.ref f))
    (ha : PA X (e :: es) (LA G wl)) (hkw : PK X kws (LA G wk)) (hall : (backToKw pos (keywordEach kws X.env)).all (·.1.isSome) = true := by rfl) (hks : (backToKw pos (keywordEach kws X.env)).filterMap (·.1) = ks := by rfl)
    (hdb : (x == ("__debug__" : Str)) = false := by decide) (he : starEach (e :: es) X.env = (false, eval e X.env) :: starEach es X.env := by rfl)
    (hpl : ((backTo pos (starEach (e :: es) X.env)).any (·.1) || (backToKw pos (keywordEach kws X.env)).any (·.1.isNone)) = false := by rfl) :
    PE X (.Call (.Name x p) (e :: es) kws pos) (LE G (wCallN n ks.length S (fun ds es => gg ds es) wl wk)) := by
  refine ⟨fun pins s σ H Q I h => ?_⟩
  obtain ⟨F0, m, δ, Q0, r, sr, h, kk⟩ := h
  refine wpAny_Call_Name_kw (ld_glob I hg hm ?_ hdb)
  refine PySem.W.callWith_KW (h₀ := X.base) I.ok.mod.kin F.kp hall (thn (ha.run pos pins s σ H (fun vs H1 => ∃ F1 m1 ds, Ex F0 F1 ∧ Rel G F1 m1 H1 ∧ VRs G.K F1 vs ds ∧ wk δ m1 fun es m2 => ds.length = n ∧ es.length = ks.length ∧ S (gg ds es) m2 Q0) I ⟨F0, m, δ, _, r, sr, h, fun ds m1 vs F1 H1 h1 e1 r1 v1 => ⟨F1, m1, ds, e1, r1, v1, h1⟩⟩) fun us s1 ⟨vs, H1, I1, rr, F1, m1, ds, e1, r1, v1, q⟩ => ?_) hpl he
  refine thn (hkw.run pos pins s1 σ H1 (fun zs H2 => ∃ F2 m2 es, Ex F1 F2 ∧ Rel G F2 m2 H2 ∧ VRs G.K F2 zs es ∧ ds.length = n ∧ es.length = ks.length ∧ S (gg ds es) m2 Q0) I1 ⟨F1, m1, δ, _, r1, sr.mono e1, q, fun es m2 zs F2 H2 h2 e2 r2 v2 => ⟨F2, m2, es, e2, r2, v2, h2⟩⟩) fun ws s2 ⟨zs, H2, I2, rz, F2, m2, es', e2, r2, v2, h3, h4, h5⟩ => ⟨I2.kIn, ?_⟩
  rw [hks]
  exact run_fnN F.ok (dx.room.mono hj) dx.gd hb I2 rr rz (by rw [v1.length]; exact h3) (by rw [v2.length]; exact h4) ⟨F2, m2, _, Q0, r2, hgd _ _ _ _ _ (v1.mono e2) v2, h5, kk.mono (e1.trans e2)⟩
theorem qf_callK0 {gg : {α : Type} → List α → List α → List α} (F : FD X.prog X.w X.K X.mg X.base G k f fd ps S) (hb : KBn X.K fd ps 0 ks (fun us ws => gg us ws) (fun vs zs => gg vs zs)) (hgd : ∀ F vs ds ws es, VRs G.K F vs ds → VRs G.K F ws es → VRs G.K F (gg vs ws) (gg ds es)) (dx : DX X G j) (hj : k ≤ j) (hg : Gl X x) (hm : X.mg x = some (.ref f))
    (hkw : PK X kws (LA G wk)) (hall : (backToKw pos (keywordEach kws X.env)).all (·.1.isSome) = true := by rfl) (hks : (backToKw pos (keywordEach kws X.env)).filterMap (·.1) = ks := by rfl)
    (hdb : (x == ("__debug__" : Str)) = false := by decide)
    (hpl : ((backTo pos (starEach [] X.env)).any (·.1) || (backToKw pos (keywordEach kws X.env)).any (·.1.isNone)) = false := by rfl) :
    PE X (.Call (.Name x p) [] kws pos) (LE G (wCallN 0 ks.length S (fun ds es => gg ds es) wNil wk)) := by
  refine ⟨fun pins s σ H Q I h => ?_⟩
  obtain ⟨F0, m, δ, Q0, r, sr, h, kk⟩ := h
  refine wpAny_Call_Name_kw (ld_glob I hg hm ?_ hdb)
  refine PySem.W.callWith_KW0 (h₀ := X.base) I.ok.mod.kin F.kp hall ?_ hpl
  refine thn (hkw.run pos pins s σ H (fun zs H2 => ∃ F2 m2 es, Ex F0 F2 ∧ Rel G F2 m2 H2 ∧ VRs G.K F2 zs es ∧ ([] : List DV).length = 0 ∧ es.length = ks.length ∧ S (gg [] es) m2 Q0) I ⟨F0, m, δ, _, r, sr, h, fun es m2 zs F2 H2 h2 e2 r2 v2 => ⟨F2, m2, es, e2, r2, v2, h2⟩⟩) fun ws s2 ⟨zs, H2, I2, rz, F2, m2, es', e2, r2, v2, h3, h4, h5⟩ => ⟨I2.kIn, ?_⟩
  rw [hks]
  exact run_fnN (us := []) (vs := []) F.ok (dx.room.mono hj) dx.gd hb I2 .nil rz rfl (by rw [v2.length]; exact h4) ⟨F2, m2, _, Q0, r2, hgd _ _ _ _ _ .nil v2, h5, kk.mono e2⟩
end
end DL
namespace DL
open PySem PySem.Spec PyProof.Rows L2
abbrev Sub (m m' : Sto) : Prop := ∀ a o, m a = some o → m' a = some o
theorem Sub.refl (m : Sto) : Sub m m := fun _ _ h => h
theorem Sub.trans {a b c : Sto} (h : Sub a b) (g : Sub b c) : Sub a c := fun x o e => g x o (h x o e)
theorem Sub.put {m : Sto} {p : Addr} {o : MO} (h : m p = none) : Sub m (put m p o) := fun a u e => by
  rw [put_ne fun z => by rw [z, h] at e; cases e]
  exact e
theorem Sub.put2 {m m' : Sto} {p : Addr} {o : MO} (h : m p = none) (s : Sub m m') : Sub m (DL.put m' p o) := fun a u e => by
  rw [put_ne fun z => by rw [z, h] at e; cases e]
  exact s a u e
theorem Sub.rmv {m m' : Sto} {p : Addr} (h : m p = none) (s : Sub m m') : Sub m (DL.rmv m' p) := fun a u e => by
  rw [rmv_ne fun z => by rw [z, h] at e; cases e]
  exact s a u e
/-- w gives v; the store may grow meanwhile -/
def PuE (w : DE) (δ : Slots) (m : Sto) (v : DV) : Prop := ∀ m' (Q : DK), Sub m m' → (∀ m2, Sub m' m2 → Q v m2) → w δ m' Q
def PuT (t : DT) (δ : Slots) (m : Sto) (b : Bool) : Prop := ∀ m' (Q : Bool → Sto → Prop), Sub m m' → (∀ m2, Sub m' m2 → Q b m2) → t δ m' Q
def PuA (t : DA) (δ : Slots) (m : Sto) (ds : List DV) : Prop := ∀ m' (Q : List DV → Sto → Prop), Sub m m' → (∀ m2, Sub m' m2 → Q ds m2) → t δ m' Q
def PuS (S : DSp) (ds : List DV) (m : Sto) (v : DV) : Prop := ∀ m' (Q : DK), Sub m m' → (∀ m2, Sub m' m2 → Q v m2) → S ds m' Q
def Pu2 (R : D2) (x y : DV) (m : Sto) (v : DV) : Prop := ∀ m' (Q : DK), Sub m m' → (∀ m2, Sub m' m2 → Q v m2) → R x y m' Q
/-- goes on with a state of N, or gives back a value of R -/
def PuX (w : DS) (δ : Slots) (m : Sto) (N : Slots → Prop) (R : DV → Prop) : Prop := ∀ (D : DEnds) m', Sub m m' → (∀ δ' m2, Sub m' m2 → N δ' → D.nx δ' m2) → (∀ v m2, Sub m' m2 → R v → D.rt v m2) → w D δ m'
section
variable {w wa wb : DE} {t u : DT} {ta : DA} {S : DSp} {R2 : D2} {δ : Slots} {m m' : Sto} {v x y : DV} {b c : Bool} {ds dds : List DV} {N M : Slots → Prop} {R : DV → Prop} {s s' : DS}
theorem PuE.mono (h : PuE w δ m v) (g : Sub m m') : PuE w δ m' v := fun m1 Q h1 q => h m1 Q (g.trans h1) q
theorem PuT.mono (h : PuT t δ m b) (g : Sub m m') : PuT t δ m' b := fun m1 Q h1 q => h m1 Q (g.trans h1) q
theorem PuS.mono (h : PuS S ds m v) (g : Sub m m') : PuS S ds m' v := fun m1 Q h1 q => h m1 Q (g.trans h1) q
theorem pu_var {i : Nat} (h : δ[i]? = some (some v)) : PuE (wVar i) δ m v := fun m' Q _ q => by unfold wVar; rw [h]; exact q m' (.refl _)
theorem pu_c : PuE (wC v) δ m v := fun m' Q _ q => q m' (.refl _)
theorem pu_op (ha : PuE wa δ m x) (hb : PuE wb δ m y) (h : Pu2 R2 x y m v) : PuE (wOp R2 wa wb) δ m v := fun m' Q s q => ha m' _ s fun m1 s1 => hb m1 _ (s.trans s1) fun m2 s2 => h m2 Q ((s.trans s1).trans s2) fun m3 s3 => q m3 ((s1.trans s2).trans s3)
theorem pu_if (ht : PuT t δ m b) (ha : b = true → PuE wa δ m v) (hb : b = false → PuE wb δ m v) : PuE (wIf t wa wb) δ m v := fun m' Q s q => ht m' _ s fun m1 s1 => by
  cases b with
  | true => exact ha rfl m1 Q (s.trans s1) fun m2 s2 => q m2 (s1.trans s2)
  | false => exact hb rfl m1 Q (s.trans s1) fun m2 s2 => q m2 (s1.trans s2)
theorem pa_nil : PuA wNil δ m [] := fun m' Q _ q => q m' (.refl _)
theorem pa_cons (ha : PuE wa δ m x) (hr : PuA ta δ m ds) : PuA (wCons wa ta) δ m (x :: ds) := fun m' Q s q => ha m' _ s fun m1 s1 => hr m1 _ (s.trans s1) fun m2 s2 => q m2 (s1.trans s2)
theorem pu_tup (h : PuA ta δ m ds) (hl : ds.length ≤ sizeLine) : PuE (wTup ta) δ m (.tup ds) := fun m' Q s q => h m' _ s fun m1 s1 => ⟨hl, q m1 s1⟩
theorem pu_lst (h : PuA ta δ m ds) (hl : ds.length ≤ sizeLine) : PuE (wLst false ta) δ m (.lst ds) := fun m' Q s q => h m' _ s fun m1 s1 => ⟨hl, q m1 s1⟩
theorem pu_call (h : PuA ta δ m ds) (hs : PuS S (ds ++ dds) m v) : PuE (wCall S dds ta) δ m v := fun m' Q s q => h m' _ s fun m1 s1 => hs m1 Q (s.trans s1) fun m2 s2 => q m2 (s1.trans s2)
theorem pu_b {R0 : DSp} (h : PuA ta δ m ds) (hs : PuS R0 ds m v) : PuE (wB R0 ta) δ m v := fun m' Q s q => h m' _ s fun m1 s1 => hs m1 Q (s.trans s1) fun m2 s2 => q m2 (s1.trans s2)
theorem pu_meth {k : Nat} {p : Addr} {fs : List (Nat × DV)} (hw : PuE w δ m (.ref p)) (hp : m p = some (.ins k fs)) (h : PuA ta δ m ds) (hs : PuS S (.ref p :: (ds ++ dds)) m v) : PuE (wMeth k S dds w ta) δ m v := fun m' Q s q =>
  hw m' _ s fun m1 s1 => ⟨by unfold hasF; simp only [(s.trans s1) p _ hp], h m1 _ (s.trans s1) fun m2 s2 => hs m2 Q ((s.trans s1).trans s2) fun m3 s3 => q m3 ((s1.trans s2).trans s3)⟩
theorem pu_fld {k i : Nat} {p : Addr} {fs : List (Nat × DV)} (hw : PuE w δ m (.ref p)) (hp : m p = some (.ins k fs)) (hl : lookN fs i = some v) : PuE (wFld k i w) δ m v := fun m' Q s q =>
  hw m' _ s fun m1 s1 => by unfold fldD; simp only [(s.trans s1) p _ hp, hl]; exact ⟨trivial, q m1 s1⟩
theorem pt_bl (h : PuE w δ m (.bl b)) : PuT (wBl w) δ m b := fun m' Q s q => h m' _ s q
theorem pt_tru (h : PuE w δ m (.bl b)) : PuT (wTru w) δ m b := fun m' Q s q => h m' _ s q
theorem pt_not (h : PuT t δ m b) : PuT (wNotT t) δ m (!b) := fun m' Q s q => h m' _ s q
theorem pt_and (h : PuT t δ m b) (g : b = true → PuT u δ m c) : PuT (wAndT t u) δ m (b && c) := fun m' Q s q => h m' _ s fun m1 s1 => by
  cases b with
  | true => exact g rfl m1 Q (s.trans s1) fun m2 s2 => q m2 (s1.trans s2)
  | false => exact q m1 s1
theorem pt_or (h : PuT t δ m b) (g : b = false → PuT u δ m c) : PuT (wOrT t u) δ m (b || c) := fun m' Q s q => h m' _ s fun m1 s1 => by
  cases b with
  | true => exact q m1 s1
  | false => exact g rfl m1 Q (s.trans s1) fun m2 s2 => q m2 (s1.trans s2)
theorem pt_yes : PuT wYes δ m true := fun m' Q s q => q m' (.refl _)
theorem pu_not (h : PuE w δ m (.bl b)) : PuE (wNot w) δ m (.bl (!b)) := fun m' Q s q => h m' _ s q
theorem pu_and (h : PuE wa δ m (.bl b)) (g : b = true → PuE wb δ m (.bl c)) : PuE (wAnd wa wb) δ m (.bl (b && c)) := fun m' Q s q => h m' _ s fun m1 s1 => by
  show (if b = true then wb δ m1 Q else Q (.bl b) m1)
  cases b with
  | true => exact g rfl m1 Q (s.trans s1) fun m2 s2 => q m2 (s1.trans s2)
  | false => exact q m1 s1
theorem pu_or (h : PuE wa δ m (.bl b)) (g : b = false → PuE wb δ m (.bl c)) : PuE (wOr wa wb) δ m (.bl (b || c)) := fun m' Q s q => h m' _ s fun m1 s1 => by
  show (if b = true then Q (.bl b) m1 else wb δ m1 Q)
  cases b with
  | true => exact q m1 s1
  | false => exact g rfl m1 Q (s.trans s1) fun m2 s2 => q m2 (s1.trans s2)
theorem PuX.mono (h : PuX s δ m N R) (g : Sub m m') : PuX s δ m' N R := fun D m1 h1 => h D m1 (g.trans h1)
theorem px_next (h : N δ) : PuX wNext δ m N R := fun D m' s hn hr => hn δ m' (.refl _) h
theorem px_seq (h : PuX s δ m M R) (g : ∀ δ', M δ' → PuX s' δ' m N R) : PuX (wSeq s s') δ m N R := fun D m' sb hn hr => h _ m' sb (fun δ' m1 s1 hm => g δ' hm D m1 (sb.trans s1) (fun δ2 m2 s2 => hn δ2 m2 (s1.trans s2)) fun v m2 s2 => hr v m2 (s1.trans s2)) hr
theorem px_ret (h : PuE w δ m v) (hr : R v) : PuX (wRet w) δ m N R := fun D m' s hn hR => h m' _ s fun m1 s1 => hR v m1 s1 hr
theorem px_if (h : PuT t δ m b) (ha : b = true → PuX s δ m N R) (hb : b = false → PuX s' δ m N R) : PuX (wIfS t s s') δ m N R := fun D m' sb hn hr => h m' _ sb fun m1 s1 => by
  cases b with
  | true => exact ha rfl D m1 (sb.trans s1) (fun δ2 m2 s2 => hn δ2 m2 (s1.trans s2)) fun v m2 s2 => hr v m2 (s1.trans s2)
  | false => exact hb rfl D m1 (sb.trans s1) (fun δ2 m2 s2 => hn δ2 m2 (s1.trans s2)) fun v m2 s2 => hr v m2 (s1.trans s2)
theorem px_set {i : Nat} (h : PuE w δ m v) (hn : N (δ.set i (some v))) : PuX (wAsg w (gN i)) δ m N R := fun D m' s hN hR => h m' _ s fun m1 s1 => hN _ m1 s1 hn
theorem px_par {i j : Nat} (h : PuA ta δ m [x, y]) (hn : N ((δ.set i (some x)).set j (some y))) : PuX (wPar i j ta) δ m N R := fun D m' s hN hR => h m' _ s fun m1 s1 => hN _ m1 s1 hn
/-- a loop that only reads: W tells what is left -/
theorem px_while (W : Nat → Slots → Prop) {n : Nat} (h0 : W n δ)
    (hs : ∀ n δ, W n δ → ∃ b, PuT t δ m b ∧ (b = true → PuX s δ m (fun δ' => ∃ n', n' < n ∧ W n' δ') R) ∧ (b = false → N δ)) : PuX (wWhile t s) δ m N R := fun D m' sb hn hr => by
  refine ⟨fun k δ' m1 => Sub m' m1 ∧ W k δ', ⟨n, .refl _, h0⟩, ?_⟩
  rintro k δ' m1 ⟨s1, hw⟩
  obtain ⟨b, ht, htr, hfa⟩ := hs k δ' hw
  refine ht _ _ (sb.trans s1) fun m2 s2 => ?_
  cases b with
  | true =>
    rw [if_pos rfl]
    exact htr rfl _ _ ((sb.trans s1).trans s2) (fun δ3 m3 s3 ⟨n', hn', w3⟩ => ⟨n', hn', (s1.trans s2).trans s3, w3⟩) fun v m3 s3 => hr v m3 ((s1.trans s2).trans s3)
  | false =>
    rw [if_neg Bool.false_ne_true]
    exact hn _ m2 (s1.trans s2) (hfa rfl)
/-- a walk over what stays as it is -/
def PuI (wi : DI) (δ : Slots) (m : Sto) (xs : List DV) : Prop := ∀ m' (K : DIt → Sto → Prop), Sub m m' → (∀ (it : DIt) m1, Sub m' m1 → it.items = xs → it.lk = none → (∀ m2, Sub m m2 → it.st m2) → K it m1) → wi δ m' K
theorem asQ_sub {d : DV} {xs : List DV} (h : asQ m d = some xs) (s : Sub m m') : asQ m' d = some xs := by
  cases d with
  | ref p =>
    unfold asQ asL at h ⊢
    dsimp only at h ⊢
    cases e : m p with
    | none => rw [e] at h; cases h
    | some o => rw [e] at h; rw [s p o e]; exact h
  | _ => exact h
theorem pi_any (h : PuE w δ m x) {xs : List DV} (hx : asQ m x = some xs) : PuI (iAny w) δ m xs := fun m' K s k => h m' _ s fun m1 s1 => by
  unfold itOf
  rw [asQ_sub hx (s.trans s1)]
  exact k _ m1 s1 rfl rfl fun m2 s2 => asQ_sub hx s2
theorem px_for {wi : DI} {g : DG} {xs : List DV} (hi : PuI wi δ m xs) (I : Nat → Slots → Prop) (h0 : I 0 δ)
    (hs : ∀ i y δ, xs[i]? = some y → I i δ → ∃ δ1, (∀ m' Q, Q δ1 m' → g y δ m' Q) ∧ PuX s δ1 m (I (i + 1)) R) (he : ∀ δ, I xs.length δ → N δ) : PuX (wFor wi g s) δ m N R := fun D m' sb hn hr =>
  hi m' _ sb fun it m1 s1 hit hlk hst => by
    have hfin : ∀ (m2 : Sto) (k : Sto → Prop), k m2 → it.fin m2 k := fun m2 k hk => by unfold DIt.fin; rw [hlk]; exact hk
    have key : ∀ (ys : List DV) (i : Nat) (δ : Slots) (m2 : Sto), Sub m1 m2 → xs.drop i = ys → i ≤ xs.length → I i δ → forGo it g s D ys δ m2 := fun ys => by
      induction ys with
      | nil =>
        intro i δ m2 s2 hd hle hI
        have : i = xs.length := by
          have := List.drop_eq_nil_iff.mp hd
          omega
        subst this
        exact ⟨hst m2 ((sb.trans s1).trans s2), hfin _ _ (hn _ m2 (s1.trans s2) (he δ hI))⟩
      | cons y r ih =>
        intro i δ m2 s2 hd hle hI
        obtain ⟨h1, h2⟩ := getElem_drop_cons hd
        have hlt : i < xs.length := (List.getElem?_eq_some_iff.mp h1).1
        obtain ⟨δ1, hg, hb⟩ := hs i y δ h1 hI
        exact ⟨hst m2 ((sb.trans s1).trans s2), hg _ _ (hb _ m2 ((sb.trans s1).trans s2) (fun δ' m3 s3 hI' => ih (i + 1) δ' m3 (s2.trans s3) h2 hlt hI') fun v m3 s3 hv => hfin _ _ (hr v m3 ((s1.trans s2).trans s3) hv))⟩
    rw [hit]
    exact key xs 0 δ m1 (.refl _) rfl (Nat.zero_le _) h0
/-- a def that only reads -/
theorem ps_run {n k : Nat} (hl : ds.length = n) (h : PuX s (startD k ds) m (fun _ => False) (fun z => z = v)) : PuS (arD n (runD k s)) ds m v := fun m' Q sb q =>
  ⟨hl, h _ m' sb (fun _ _ _ z => False.elim z) fun z m2 s2 hz => by subst hz; exact q m2 s2⟩
def lcF (p : DV → Bool) (f : DV → DV) : List DV → List DV
  | [] => []
  | x :: r => if p x = true then f x :: lcF p f r else lcF p f r
theorem lcF_map (p : DV → Bool) (f : DV → DV) (xs : List DV) : lcF p f xs = (xs.filter p).map f := by
  induction xs with
  | nil => rfl
  | cons x r ih =>
    unfold lcF
    rw [ih, List.filter_cons]
    split <;> rfl
theorem lcF_length (p : DV → Bool) (f : DV → DV) (xs : List DV) : (lcF p f xs).length ≤ xs.length := by
  rw [lcF_map, List.length_map]
  exact List.length_filter_le _ _
theorem lc_go {it : DIt} {g : DG} {tt : DT} {te : DE} {δv : Slots} {D : Addr} {fin : List DV → Sto → Prop} {mb : Sto} {p : DV → Bool} {f : DV → DV} (hD : mb D = none) (hlk : it.lk = none) (hst : ∀ m2, Sub mb m2 → it.st m2)
    (h : ∀ y, y ∈ it.items → ∃ δ1, (∀ m' Q, Q δ1 m' → g y δv m' Q) ∧ PuT tt δ1 mb (p y) ∧ (p y = true → PuE te δ1 mb (f y))) :
    ∀ (ys : List DV) (acc : List DV) (m1 : Sto), (∀ y ∈ ys, y ∈ it.items) → acc.length + ys.length ≤ sizeLine → Sub mb m1 → m1 D = some (.lst acc) → (∀ m2, Sub mb m2 → m2 D = some (.lst (acc ++ lcF p f ys)) → fin (acc ++ lcF p f ys) m2) →
      lcGo it g tt te δv D fin ys acc m1
  | [], acc, m1, _, _, sb, e1, hf => by
    rw [show lcF p f [] = [] from rfl, List.append_nil] at hf
    refine ⟨hst _ sb, e1, ?_⟩
    unfold DIt.fin
    rw [hlk]; exact hf m1 sb e1
  | y :: r, acc, m1, hm, hl, sb, e1, hf => by
    obtain ⟨δ1, hg, ht, he⟩ := h y (hm y List.mem_cons_self)
    rw [List.length_cons] at hl
    refine ⟨hst _ sb, hg _ _ (ht _ _ sb fun m2 s2 => ?_)⟩
    by_cases hp : p y = true
    · rw [if_pos hp]
      refine he hp _ _ (sb.trans s2) fun m3 s3 => ⟨s3 _ _ (s2 _ _ e1), by omega, ?_⟩
      refine lc_go hD hlk hst h r (acc ++ [f y]) _ (fun z hz => hm z (List.mem_cons_of_mem _ hz)) (by simp only [List.length_append, List.length_singleton]; omega) (Sub.put2 hD ((sb.trans s2).trans s3)) put_same ?_
      have e : lcF p f (y :: r) = f y :: lcF p f r := if_pos hp
      rw [e] at hf
      rw [List.append_assoc]; exact hf
    · rw [if_neg hp]
      have e : lcF p f (y :: r) = lcF p f r := if_neg hp
      rw [e] at hf
      exact lc_go hD hlk hst h r acc m2 (fun z hz => hm z (List.mem_cons_of_mem _ hz)) (by omega) (sb.trans s2) (s2 _ _ e1) hf
theorem pu_lc {wi : DI} {g : DG} {tt : DT} {te : DE} {vs : List Nat} {xs : List DV} (p : DV → Bool) (f : DV → DV) (hi : PuI wi δ m xs) (hl : xs.length ≤ sizeLine)
    (h : ∀ y ∈ xs, ∃ δ1, (∀ m' Q, Q δ1 m' → g y (wipeD δ vs) m' Q) ∧ PuT tt δ1 m (p y) ∧ (p y = true → PuE te δ1 m (f y))) : PuE (wLc false wi g tt te vs) δ m (.lst (lcF p f xs)) := fun m' Q sb q =>
  hi m' _ sb fun it m1 s1 hit hlk hst D hD => by
    rw [hit]
    refine lc_go (mb := m1) (p := p) (f := f) hD hlk (fun m2 s2 => hst m2 ((sb.trans s1).trans s2)) (by
      rw [hit]
      intro y hy
      obtain ⟨δ1, h1, h2, h3⟩ := h y hy
      exact ⟨δ1, h1, h2.mono (sb.trans s1), fun z => (h3 z).mono (sb.trans s1)⟩) xs [] _ (fun y hy => by rw [hit]; exact hy) (by simpa using hl) (Sub.put hD) put_same fun m2 s2 e2 => ?_
    rw [List.nil_append]
    unfold lcFin
    rw [if_neg Bool.false_ne_true]
    exact q _ (s1.trans (Sub.rmv hD s2))
/-- .. over ints -/
theorem filter_int (p : Int → Bool) (f : Int → DV) (ns : List Int) : lcF (fun d => match d with | .int y => p y | _ => false) (fun d => match d with | .int y => f y | _ => .non) (ns.map DV.int) = (ns.filter p).map f := by
  induction ns with
  | nil => rfl
  | cons a r ih =>
    rw [List.map_cons, List.filter_cons]
    unfold lcF
    dsimp only
    rw [ih]
    split <;> rfl
theorem pu_lcI {wi : DI} {i : Nat} {tt : DT} {te : DE} {ns : List Int} (p : Int → Bool) (f : Int → DV) (hi : PuI wi δ m (ns.map DV.int)) (hl : ns.length ≤ sizeLine)
    (h : ∀ y ∈ ns, PuT tt ((wipeD δ [i]).set i (some (.int y))) m (p y) ∧ (p y = true → PuE te ((wipeD δ [i]).set i (some (.int y))) m (f y))) : PuE (wLc false wi (gN i) tt te [i]) δ m (.lst ((ns.filter p).map f)) := by
  rw [← filter_int]
  refine pu_lc _ _ hi (by rw [List.length_map]; exact hl) fun y hy => ?_
  obtain ⟨z, hz, rfl⟩ := List.mem_map.mp hy
  exact ⟨_, fun m' Q q => q, (h z hz).1, (h z hz).2⟩
/-- a new list of a comprehension that stays an object -/
theorem lc_own {wi : DI} {i : Nat} {tt : DT} {te : DE} {ns : List Int} (p : Int → Bool) (f : Int → DV) (hi : PuI wi δ m (ns.map DV.int)) (hl : ns.length ≤ sizeLine)
    (h : ∀ y ∈ ns, PuT tt ((wipeD δ [i]).set i (some (.int y))) m (p y) ∧ (p y = true → PuE te ((wipeD δ [i]).set i (some (.int y))) m (f y))) {m' : Sto} {Q : DK} (sb : Sub m m') (q : ∀ D m2, Sub m' m2 → m' D = none → m2 D = some (.lst ((ns.filter p).map f)) → Q (.ref D) m2) : wLc true wi (gN i) tt te [i] δ m' Q :=
  hi m' _ sb fun it m1 s1 hit hlk hst D hD => by
    have hD0 : m' D = none := by
      cases e : m' D with
      | none => rfl
      | some o => rw [s1 D o e] at hD; cases hD
    rw [hit]
    refine lc_go (mb := m1) (p := fun d => match d with | .int y => p y | _ => false) (f := fun d => match d with | .int y => f y | _ => .non) hD hlk (fun m2 s2 => hst m2 ((sb.trans s1).trans s2)) (by
      rw [hit]
      intro y hy
      obtain ⟨z, hz, rfl⟩ := List.mem_map.mp hy
      exact ⟨_, fun m' Q q => q, (h z hz).1.mono (sb.trans s1), fun e => ((h z hz).2 e).mono (sb.trans s1)⟩) (ns.map DV.int) [] _ (fun y hy => by rw [hit]; exact hy) (by simpa using hl) (Sub.put hD) put_same fun m2 s2 e2 => ?_
    rw [List.nil_append, filter_int] at e2 ⊢
    unfold lcFin
    rw [if_pos rfl]
    exact q D m2 (s1.trans s2) hD0 e2
theorem asQ_data {d : DV} {xs : List DV} (h : asQ (fun _ => none) d = some xs) : asQ m d = some xs := asQ_sub h fun a o e => by cases e
theorem fr_for {wi : DI} {g : DG} {tb : DS} {xs : List DV} {D : DEnds} (hi : PuI wi δ m xs) (sb : Sub m m') (I : Nat → Slots → Sto → Prop) (h0 : ∀ m1, Sub m' m1 → I 0 δ m1) (hI : ∀ i δ m1, I i δ m1 → Sub m m1)
    (hs : ∀ i y δ m1, xs[i]? = some y → I i δ m1 → ∃ δ1, (∀ m Q, Q δ1 m → g y δ m Q) ∧ ∀ D' : DEnds, (∀ δ m, I (i + 1) δ m → D'.nx δ m) → (∀ v m, D.rt v m → D'.rt v m) → (∀ δ m, D.nx δ m → D'.bk δ m) → (∀ δ m, I (i + 1) δ m → D'.ct δ m) → tb D' δ1 m1)
    (he : ∀ δ m1, I xs.length δ m1 → D.nx δ m1) : wFor wi g tb D δ m' :=
  hi m' _ sb fun it m1 s1 hit hlk hst => by
    have hfin : ∀ (m2 : Sto) (k : Sto → Prop), k m2 → it.fin m2 k := fun m2 k hk => by unfold DIt.fin; rw [hlk]; exact hk
    have key : ∀ (ys : List DV) (i : Nat) (δ : Slots) (m2 : Sto), xs.drop i = ys → i ≤ xs.length → I i δ m2 → forGo it g tb D ys δ m2 := fun ys => by
      induction ys with
      | nil =>
        intro i δ m2 hd hle hII
        have : i = xs.length := by
          have := List.drop_eq_nil_iff.mp hd
          omega
        subst this
        exact ⟨hst m2 (hI _ _ _ hII), hfin _ _ (he δ m2 hII)⟩
      | cons y r ih =>
        intro i δ m2 hd hle hII
        obtain ⟨h1, h2⟩ := getElem_drop_cons hd
        have hlt : i < xs.length := (List.getElem?_eq_some_iff.mp h1).1
        obtain ⟨δ1, hg, hb⟩ := hs i y δ m2 h1 hII
        exact ⟨hst m2 (hI _ _ _ hII), hg _ _ (hb _ (fun δ' m3 h3 => ih (i + 1) δ' m3 h2 hlt h3) (fun v m3 h3 => hfin _ _ h3) (fun δ' m3 h3 => hfin _ _ h3) fun δ' m3 h3 => ih (i + 1) δ' m3 h2 hlt h3)⟩
    rw [hit]
    exact key xs 0 δ m1 rfl (Nat.zero_le _) (h0 m1 s1)
section
variable {D : DEnds} {Q : DK} {QA : List DV → Sto → Prop} {QT : Bool → Sto → Prop} {g : DG} {mu : Bool} {i j : Nat} {d : DV} {R1 : DM} {ty : Ty0}
theorem go_seq (h : s { D with nx := s' D } δ m) : wSeq s s' D δ m := h
theorem go_asg (h : w δ m fun d m1 => g d δ m1 D.nx) : wAsg w g D δ m := h
theorem go_set (h : w δ m fun d m1 => D.nx (δ.set i (some d)) m1) : wAsg w (gN i) D δ m := h
theorem go_par (h : ta δ m fun ds m1 => match ds with
  | [a, b] => D.nx ((δ.set i (some a)).set j (some b)) m1
  | _ => False) : wPar i j ta D δ m := h
theorem go_drop (h : w δ m fun _ m1 => D.nx δ m1) : wDrop w D δ m := h
theorem go_ret (h : w δ m D.rt) : wRet w D δ m := h
theorem go_next (h : D.nx δ m) : wNext D δ m := h
theorem go_if (h : t δ m fun b m1 => if b = true then s D δ m1 else s' D δ m1) : wIfS t s s' D δ m := h
theorem go_nil (h : QA [] m) : wNil δ m QA := h
theorem go_cons (h : wa δ m fun d m1 => ta δ m1 fun ds m2 => QA (d :: ds) m2) : wCons wa ta δ m QA := h
theorem go_var (hd : δ[i]? = some (some d)) (h : Q d m) : wVar i δ m Q := by unfold wVar; rw [hd]; exact h
theorem go_c (h : Q d m) : wC d δ m Q := h
theorem go_lst (h : ta δ m fun ds m1 => ds.length ≤ sizeLine ∧ newL mu ds m1 Q) : wLst mu ta δ m Q := h
theorem go_tup (h : ta δ m fun ds m1 => ds.length ≤ sizeLine ∧ Q (.tup ds) m1) : wTup ta δ m Q := h
theorem go_m (h : w δ m fun d m1 => ofTy m1 ty d ∧ ta δ m1 fun ds m2 => R1 d ds m2 Q) : wM ty R1 w ta δ m Q := h
theorem go_op (h : wa δ m fun x m1 => wb δ m1 fun y m2 => R2 x y m2 Q) : wOp R2 wa wb δ m Q := h
theorem go_call (h : ta δ m fun ds m1 => S (ds ++ dds) m1 Q) : wCall S dds ta δ m Q := h
theorem go_b {R0 : DSp} (h : ta δ m fun ds m1 => R0 ds m1 Q) : wB R0 ta δ m Q := h
theorem go_bl (h : w δ m fun d m1 => match d with
  | .bl b => QT b m1
  | _ => False) : wBl w δ m QT := h
theorem go_and (h : t δ m fun b m1 => if b = true then u δ m1 QT else QT false m1) : wAndT t u δ m QT := h
theorem go_while (W : Nat → Slots → Sto → Prop) {n : Nat} (h0 : W n δ m) (hs : ∀ n δ m, W n δ m → t δ m fun b m1 => if b = true then s { nx := fun δ' m' => ∃ n', n' < n ∧ W n' δ' m', rt := D.rt, bk := D.nx, ct := fun δ' m' => ∃ n', n' < n ∧ W n' δ' m' } δ m1 else D.nx δ m1) : wWhile t s D δ m := ⟨W, ⟨n, h0⟩, hs⟩
theorem go_varZ {p : Addr} {xs : List DV} (hd : δ[i]? = some (some (.ref p))) (hp : m p = some (.lst xs)) (h : Q (.lst xs) (DL.rmv m p)) : wVarZ i δ m Q := by
  unfold wVarZ
  rw [hd]
  show frzL (.ref p) m Q
  unfold frzL
  simp only [hp]
  exact h
theorem go_new (h : ∀ p, m p = none → Q (.ref p) (DL.put m p (.lst ds))) : newL true ds m Q := h
end
end
end DL
namespace DL
open PySem PySem.Spec PyProof.Rows L2
def dRepr : DSp := fun ds m Q => match ds with
  | [d] => ∃ p, asPy m d = some p ∧ SeqAt.shaped p = true ∧ p.showable = true ∧ p.shown.length ≤ sizeLine ∧ Q (.str p.shown) m
  | _ => False
theorem cd_repr {X : Cx} {G : Gam} (hK : X.K = G.K) (hg : X.A.guards = some []) (hu : X.A.units + 65 < cLine) : CallR X (.builtin "repr") (LC G dRepr) := by
  intro pins s σ H vs us Q I rr h
  obtain ⟨F, m, ds, Q0, r, rv, h, k⟩ := h
  unfold dRepr at h
  split at h
  · obtain ⟨v, rfl, rd⟩ := rv.one_inv
    obtain ⟨p, h1, h2, h3, h4, q⟩ := h
    have pa := asPy_ok r rd h1
    obtain ⟨u, rfl, ru⟩ := vals1 rr
    obtain ⟨as, r1⟩ := Dp.reads I p v u (by rw [hK]; exact pa) ru
    have fin := k _ _ _ _ _ q (Ex.refl F) r (.str p.shown)
    have hd := SeqAt.depth_of_shaped h2
    have hnd := PyData.hasDict_of_canLay p (SeqAt.canLay_of_shaped h2)
    clear rd pa ru
    cases r1 with
    | none => exact PySem.P.repr_of_none ⟨.str _, H, I.tok _, ⟨_, rfl⟩, by simpa only [PyData.shown] using fin⟩
    | bool b => exact PySem.P.repr_of_bool ⟨.str _, H, I.tok _, ⟨_, rfl⟩, by simpa only [PyData.shown] using fin⟩
    | int i t => exact PySem.P.repr_of_int (by simpa [PyData.showable] using h3) ⟨.str _, H, I.tok _, ⟨_, rfl⟩, by simpa only [PyData.shown] using fin⟩
    | str x t => exact PySem.P.repr_of_str ⟨.str _, H, I.tok _, ⟨_, rfl⟩, by simpa only [PyData.shown] using fin⟩ (by simpa only [PyData.shown] using h4)
    | list g1 g2 g3 g4 => exact repr_of_reads' (.list g1 g2 g3 g4) h3 (fun z => by rw [hnd] at z; cases z) hg (by omega) (fun _ _ e => e) (fun h' u tk hk => ⟨.str _, H, I.kept hk, ⟨_, rfl⟩, fin⟩) h4
    | tuple g1 g2 g3 g4 => exact repr_of_reads' (.tuple g1 g2 g3 g4) h3 (fun z => by rw [hnd] at z; cases z) hg (by omega) (fun _ _ e => e) (fun h' u tk hk => ⟨.str _, H, I.kept hk, ⟨_, rfl⟩, fin⟩) h4
    | dict g1 g2 g3 g4 g5 => simp [PyData.hasDict] at hnd
  · exact False.elim h
theorem funD_fd {K : PySem.W.Frag} {x qual : Str} {params : Arguments} {body : List Stmt} {scope : Scope} {dvs : List V} {kws : List (Str × V)} {f : Addr} {fd fd2 : FuncData} (F : FunD K x qual params body scope dvs kws f fd) (F2 : FunD K x qual params body scope dvs kws f fd2) : fd = fd2 := by
  obtain ⟨_, _, _, _, _, _, _, _, _, _, _, h, _⟩ := F.ex
  obtain ⟨_, _, _, _, _, _, _, _, _, _, _, h2, _⟩ := F2.ex
  rw [h] at h2
  cases h2
  rfl
end DL
namespace DL
open PySem PySem.Spec PyProof.Rows L2
/-- x in y: y a list, both data of any depth -/
def dInX (neg : Bool) : D2 := fun x y m Q => ∃ d ds, asPy m x = some d ∧ asPy m y = some (.list ds) ∧ SeqAt.shaped d = true ∧ SeqAt.shaped (.list ds) = true ∧ Q (.bl (xor neg (ds.any fun z => PyData.eqv z d))) m
theorem od_inX {X : Cx} {G : Gam} (hK : X.K = G.K) (hu : X.A.units + 65 < cLine) (neg : Bool) {op : CmpOp} (ho : op = if neg = true then .NotIn else .In) : OpR X (compareOp op) (LR2 G (dInX neg)) := by
  intro pins s σ H x y v u Q I rx ry h
  obtain ⟨F, m, d1, d2, Q0, r, v1, v2, h, k⟩ := h
  obtain ⟨a, b, ha, hb, sa, sb, q⟩ := h
  have pa := asPy_ok r v1 ha
  have pb := asPy_ok r v2 hb
  cases neg with
  | true =>
    subst ho
    have q' : Q0 (.bl (!(b.any fun z => PyData.eqv z a))) m := by cases z : b.any (fun z => PyData.eqv z a) <;> (rw [z] at q; exact q)
    exact op_notInD hu pins s σ H x y v u Q I rx ry ⟨a, b, by rw [hK]; exact pa, by rw [hK]; exact pb, sa, sb, k _ _ _ _ _ q' (Ex.refl F) r (.bl _)⟩
  | false =>
    subst ho
    have q' : Q0 (.bl (b.any fun z => PyData.eqv z a)) m := by cases z : b.any (fun z => PyData.eqv z a) <;> (rw [z] at q; exact q)
    exact op_inD hu pins s σ H x y v u Q I rx ry ⟨a, b, by rw [hK]; exact pa, by rw [hK]; exact pb, sa, sb, k _ _ _ _ _ q' (Ex.refl F) r (.bl _)⟩
/-- str of an int, of a text, of a list or tuple of data -/
def dStrOf : DSp := fun ds m Q => match ds with
  | [.int i] => i.natAbs.log2 < 1920 ∧ Q (.str (toString i)) m
  | [.str x] => Q (.str x) m
  | [d] => ∃ p, asPy m d = some p ∧ (∃ ps, p = .list ps ∨ p = .tuple ps) ∧ p.canLay0 = true ∧ p.depth ≤ 60 ∧ p.showable = true ∧ p.shown.length ≤ sizeLine ∧ Q (.str p.shown) m
  | _ => False
theorem cd_str {X : Cx} {G : Gam} (hK : X.K = G.K) (hg : X.A.guards = some []) (hu : X.A.units + 65 < cLine) : CallR X (.type "str") (LC G dStrOf) := by
  intro pins s σ H vs us Q I rr h
  obtain ⟨F, m, ds, Q0, r, rv, h, k⟩ := h
  unfold dStrOf at h
  split at h
  · obtain ⟨v, rfl, rd⟩ := rv.one_inv
    obtain ⟨hb, q⟩ := h
    cases rd
    exact call_str_int pins s σ H _ us Q I rr ⟨_, rfl, hb, k _ _ _ _ _ q (Ex.refl F) r (.str _)⟩
  · obtain ⟨v, rfl, rd⟩ := rv.one_inv
    cases rd
    exact SkE.call_str_str pins s σ H _ us Q I rr ⟨_, rfl, k _ _ _ _ _ h (Ex.refl F) r (.str _)⟩
  · obtain ⟨v, rfl, rd⟩ := rv.one_inv
    obtain ⟨p, h1, hp, h2, hd, h3, h4, q⟩ := h
    have pa := asPy_ok r rd h1
    obtain ⟨u, rfl, ru⟩ := vals1 rr
    obtain ⟨as, r1⟩ := Dp.reads I p v u (by rw [hK]; exact pa) ru
    have fin := k _ _ _ _ _ q (Ex.refl F) r (.str p.shown)
    have hnd := PyData.hasDict_of_canLay p h2
    clear rd pa ru
    obtain ⟨ps, rfl | rfl⟩ := hp
    · cases r1 with
      | list g1 g2 g3 g4 => exact str_of_reads (.list g1 g2 g3 g4) h3 (fun z => by rw [hnd] at z; cases z) hg (by omega) (fun _ _ e => e) (fun h' u tk hk => ⟨.str _, H, I.kept hk, ⟨_, rfl⟩, fin⟩) h4
    · cases r1 with
      | tuple g1 g2 g3 g4 => exact str_of_reads (.tuple g1 g2 g3 g4) h3 (fun z => by rw [hnd] at z; cases z) hg (by omega) (fun _ _ e => e) (fun h' u tk hk => ⟨.str _, H, I.kept hk, ⟨_, rfl⟩, fin⟩) h4
  · exact False.elim h
section
variable {X : Cx} {G : Gam} {mu : Bool} {w wk : DE} {e st : Expr} {pos p2 : Pos} {te : TE} {tk : TO}
theorem pe_rev (he : PE X e te) (hk : PO X (some st) tk) : PE X (.Subscript e (.Slice none none (some st) p2) pos) (fun σ H Q => te σ H fun x H1 => tk σ H1 fun o H2 => o = some (-1) ∧ ∃ a xs, x = .ref a ∧ SqL X.K H2 a xs ∧ ∀ p, H2 p = none → Q (.ref p) (upd H2 p (.lst xs.reverse))) := by
  refine ⟨fun pins s σ H Q I h => ?_⟩
  refine Subscript_ (thn (he.run pins s σ H _ I h) fun v s1 ⟨x, H1, I1, r1, q1⟩ => ?_)
  refine wpAny_Slice ?_
  rw [evalPart_none]
  refine wpAny_pure ?_
  refine wpAny_pure ?_
  refine thn (hk.run pins s1 σ H1 _ I1 q1) fun vk s3 ⟨o, H3, I3, pk, q3⟩ => ?_
  obtain ⟨rfl, a, xs, rfl, hx, q⟩ := q3
  cases r1
  have I4 : Inv X pins σ H3 { s3 with heap := s3.heap.push { cls := .type "slice", data := .fields #[.none, .none, vk] } } := I3.kept (t' := s3.toks) fun b ob q => Heap.get?_push_of_some _ q
  obtain ⟨its, rv, hl, hz⟩ := I4.list hx
  have hlen := rv.length
  show wpAny (model X.prog X.w) X.A (subscriptTail e (.Slice none none (some st) p2) (.ref a) (.ref s3.heap.objs.size)) (EP X pins σ Q) X.xe { s3 with heap := s3.heap.push { cls := .type "slice", data := .fields #[.none, .none, vk] } }
  refine PySem.W.kba_turn (value' := .Name "_" ⟨0, 0, 0, 0⟩) (fun _ => rfl) ?_
  refine subscriptTail_ops (ops := [.ref a, .ref s3.heap.objs.size]) hl.isList.typeIs slot_list_getitem.lookup ?_ rfl (fun _ => rfl)
  refine wpAny_getItem_list_slice hl.isList (Heap.IsSliceOf.new ..) .none .none pk (by decide) ?_ (by rw [List.size_toArray] <;> omega)
  rw [PySem.W.krv_pick]
  refine ⟨.ref _, _, I4.laid (t' := s3.toks) (o := .lst xs.reverse) (fun b ob q => Heap.get?_push_of_some _ q) (Nat.le_refl _) ?_, rfl, q _ (I4.hok.fresh (Nat.le_refl _))⟩
  exact ⟨by rw [List.length_reverse]; exact hz, _, 0, rv.reverse, Heap.get?_push_size _ rfl⟩
theorem VRs.rev {K : PySem.W.Frag} {F : Hp} : ∀ {vs : List V} {ds : List DV}, VRs K F vs ds → VRs K F vs.reverse ds.reverse
  | _, _, .nil => .nil
  | _, _, .cons r t => by rw [List.reverse_cons, List.reverse_cons]; exact (VRs.rev t).append (.cons r .nil)
def wRev (mu : Bool) (w wk : DE) : DE := fun δ m Q => w δ m fun d m1 => wPart (some wk) δ m1 fun o m2 => o = some (-1) ∧ ∃ xs, asL m2 d = some xs ∧ newL mu xs.reverse m2 Q
theorem qe_rev (hK : X.K = G.K) (mu : Bool) (he : PE X e (LE G w)) (hk : PO X (some st) (LO G (some wk))) : PE X (.Subscript e (.Slice none none (some st) p2) pos) (LE G (wRev mu w wk)) := by
  refine PE.imp (pe_rev he hk) fun σ H Q h => ?_
  obtain ⟨F, m, δ, Q0, r, s, h, k⟩ := h
  refine ⟨F, m, δ, _, r, s, h, fun d1 m1 x F1 H1 h1 e1 r1 v1 => ⟨F1, m1, δ, fun o m2 => o = some (-1) ∧ ∃ xs, asL m2 d1 = some xs ∧ newL mu xs.reverse m2 Q0, r1, s.mono e1, h1, fun o m2 F2 H2 h2 e2 r2 => ?_⟩⟩
  · obtain ⟨h3, xs, h4, h5⟩ := h2
    obtain ⟨a, vs, rfl, ha, ra⟩ := asL_ok r2 (v1.mono e2) h4
    exact ⟨h3, a, vs, rfl, by rw [hK]; exact ha, newL_ok r2 h5 (k.mono (e1.trans e2)) ra.rev⟩
end
end DL
namespace SrtH
open PySem PySem.Spec PyProof.Rows L2 SrtO
def IsHead (h : Heap) (v : Value) (x : Int) : Prop := ∃ a o t its n, v = .ref a ∧ h.get? a = some o ∧ o.cls = .type "tuple" ∧ o.data = .seq (List.toArray (Value.int x t :: its)) n
theorem IsHead.keeps {h h' : Heap} {v : Value} {x : Int} (p : IsHead h v x) (k : ∀ b o, h.get? b = some o → o.cls = .type "tuple" → h'.get? b = some o) : IsHead h' v x := by
  obtain ⟨a, o, t, its, n, e, ho, hc, hd⟩ := p
  exact ⟨a, o, t, its, n, e, k _ _ ho hc, hc, hd⟩
section
variable {prog : Program} {w : World} {A : Around} {s : Shared} {E : Value → Shared → Prop}
theorem swo_int (k : Value → Int) : Swo fun v u => decide (k v < k u) := by
  refine ⟨fun x y h => decide_eq_false ?_, fun x y z h1 h2 => decide_eq_false ?_⟩
  · have := of_decide_eq_true h
    omega
  · have := of_decide_eq_false h1
    have := of_decide_eq_false h2
    omega
theorem lex_same {b : Bool} {Q : Bool → Shared → Prop} (h : Q false s) : ∀ (l : List Value) (i : Nat), PySem.W.KatLex prog w A b false Q (l.zip l) i s
  | [], i => PySem.W.kat_nil h
  | v :: l, i => PySem.W.kat_cons (SeqAt.EqAt.same v prog w _ _ (PySem.W.kat_yes (lex_same h l (i + 1))))
theorem head_cmp {vs : List Value} {k : Value → Int} (hp : ∀ v ∈ vs, IsHead s.heap v (k v)) (inj : ∀ v ∈ vs, ∀ u ∈ vs, k v = k u → v = u) : Cmp prog w A s (tuples' true) (fun p => p.1 ∈ vs) (lt2 fun v u => decide (k v < k u)) := by
  intro p q hm hm'
  show wpAny (model prog w) A (keyLt' (tuples' true) p.1 q.1) (fun r s' => s' = s ∧ r = decide (k p.1 < k q.1)) (fun _ _ => False) s
  by_cases e : k p.1 = k q.1
  · have same := inj _ hm _ hm' e
    obtain ⟨a, o, t, its, n, ev, ho, hc, hd⟩ := hp _ hm
    rw [← same, ev]
    refine PySem.W.kat_lt ho hd ho hd ?_
    have e2 : decide ((List.toArray (Value.int (k p.1) t :: its)).size < (List.toArray (Value.int (k p.1) t :: its)).size) = false := decide_eq_false (Nat.lt_irrefl _)
    rw [e2]
    refine lex_same ⟨rfl, ?_⟩ _ 0
    rw [← ev]
    exact (decide_eq_false (Int.lt_irrefl _)).symm
  · obtain ⟨a, o, t, its, n, ev, ho, hc, hd⟩ := hp _ hm
    obtain ⟨a', o', t', its', n', ev', ho', hc', hd'⟩ := hp _ hm'
    generalize k p.1 = x at e hd ⊢
    generalize k q.1 = x' at e hd' ⊢
    rw [ev, ev']
    refine PySem.W.kat_lt ho hd ho' hd' ?_
    show PySem.W.KatLex prog w A true _ _ ((.int x t, .int x' t') :: (its.zip its')) 0 s
    refine PySem.W.kat_cons (SeqAt.EqAt.int_int x t x' t' prog w _ _ ?_)
    have e3 : (x == x') = false := by simpa using e
    rw [e3]
    exact PySem.W.kat_no (oneLt_int ⟨rfl, rfl⟩)
theorem firsts {h : Heap} {k : Value → Int} : ∀ {vs : List Value}, (∀ v ∈ vs, IsHead h v (k v)) → ∃ fs : List Value, PySem.W.KatTups h vs fs ∧ fs.length = vs.length ∧ ∀ f ∈ fs, ∃ x t, f = Value.int x t
  | [], _ => ⟨[], PySem.W.KatTups.nil, rfl, fun _ hm => by simp at hm⟩
  | v :: vs, hp => by
    obtain ⟨fs, h1, h2, h3⟩ := firsts (vs := vs) fun v' hm => hp v' (List.mem_cons_of_mem _ hm)
    obtain ⟨a, o, t, its, n, e, ho, hc, hd⟩ := hp v List.mem_cons_self
    refine ⟨.int (k v) t :: fs, ⟨⟨a, o, _, n, e, ho, hc, hd, rfl⟩, h1⟩, by rw [List.length_cons, List.length_cons, h2], fun f hf => ?_⟩
    rcases List.mem_cons.mp hf with rfl | hf
    · exact ⟨_, _, rfl⟩
    · exact h3 f hf
theorem heads_sortable {a : Addr} {vs : List Value} {k : Value → Int} (h0 : 0 < vs.length) (hp : ∀ v ∈ vs, IsHead s.heap v (k v)) (inj : ∀ v ∈ vs, ∀ u ∈ vs, k v = k u → v = u) (ha : ∀ o, s.heap.get? a = some o → o.cls ≠ .type "tuple") : SortableO prog w A s a vs fun v u => decide (k v < k u) := by
  intro h' keep
  have hp' : ∀ v ∈ vs, IsHead h' v (k v) := fun v hm => (hp v hm).keeps fun b o e c => keep b o (fun z => by subst z; exact ha o e c) e
  obtain ⟨fs, h1, h2, h3⟩ := firsts hp'
  refine ⟨tuples' true, fun Q E hq => ?_, head_cmp hp' inj⟩
  refine PySem.W.kat_kind (T := .type "int") h1 (by omega) (fun f hm => ?_) (by rfl) ?_
  · obtain ⟨x, t, rfl⟩ := h3 f hm
    exact PySem.W.Looks.now
  · have e : (Value.type "int" != Value.type "tuple") = true := by first | decide +kernel | rfl | decide
    rw [e]
    exact hq
theorem sorted_heads {l : Addr} {vs : List Value} {k : Value → Int} {Q : Value → Shared → Prop} (hl : s.heap.IsList l vs.toArray) (hz : vs.length ≤ sizeLine) (hp : ∀ v ∈ vs, IsHead s.heap v (k v)) (inj : ∀ v ∈ vs, ∀ u ∈ vs, k v = k u → v = u)
    (h : ∀ (h' : Heap) (d : Addr) (out : List Value), Srtd (fun v u => decide (k v < k u)) out → Stb (fun v u => decide (k v < k u)) out vs → (∀ b o, s.heap.get? b = some o → h'.get? b = some o) → s.heap.objs.size ≤ d → (∃ n, h'.get? d = some (seqObj "list" out.toArray n)) → Q (.ref d) { s with heap := h' }) :
    wpAny (model prog w) A (call (.builtin "sorted") [.ref l]) Q E s := by
  refine sorted_ord (swo_int k) hl hz (fun h2 h₁ a ha kk => ?_) fun out hs hb => ?_
  · refine heads_sortable (s := { s with heap := h₁ }) (by omega) (fun v hm => (hp v hm).keeps fun b o e _ => (kk b o e).2) inj fun o e => ?_
    have e' : some o = some (seqObj "list" vs.toArray 0) := e.symm.trans ha
    cases e'
    intro c
    exact absurd (Value.type.inj c) (by decide)
  · exact h _ _ out hs hb (fun b o e => sortedAll_old e) (Nat.le_succ _) (sortedAll_at s.heap vs out.toArray)
end
def rSortedH (K : PySem.W.Frag) : List V → Hp → VK → Prop := fun vs H Q => ∃ (a : Addr) (xs : List V) (k : V → Int), vs = [V.ref a] ∧ SqL K H a xs ∧ (∀ x ∈ xs, ∃ t rest, x = V.ref t ∧ H t = some (.tup (.int (k x) :: rest))) ∧ (∀ x ∈ xs, ∀ y ∈ xs, k x = k y → x = y) ∧
  ∀ ys p, ys.Perm xs → ys.Pairwise (fun x y => k x ≤ k y) → H p = none → Q (.ref p) (upd H p (.lst ys))
theorem cr_sortedH {X : Cx} : CallR X (.builtin "sorted") (rSortedH X.K) := by
  intro pins s σ H vs us Q I r h
  obtain ⟨a, xs, k, rfl, hs, hx, inj, q⟩ := h
  obtain ⟨its, rv, hl, hz⟩ := I.list hs
  obtain ⟨u, rfl, ru⟩ := vals1 r
  obtain rfl : u = Value.ref a := ru
  obtain ⟨e1, e2⟩ := refs_back rv fun x m => by
    obtain ⟨t, _, e, _⟩ := hx x m
    exact ⟨t, e⟩
  refine sorted_heads (k := fun u => k (backV u)) hl.isList (by rw [← rv.length]; exact hz) (fun v hv => ?_) (fun v hv u hu he => ?_) fun h' d out h1 h2 kp hd hn => ?_
  · obtain ⟨t, rfl⟩ := e2 v hv
    have hm : V.ref t ∈ xs := by rw [e1]; exact List.mem_map.mpr ⟨_, hv, rfl⟩
    obtain ⟨t', rest, e, ht⟩ := hx _ hm
    cases e
    obtain ⟨_, its2, r2, o, ho, hc, n, hd⟩ := I.hok _ _ ht
    cases r2 with
    | cons ri rr =>
      obtain ⟨t1, rfl⟩ := ri
      exact ⟨t, o, t1, _, n, rfl, ho, hc, hd⟩
  · obtain ⟨t, rfl⟩ := e2 v hv
    obtain ⟨t', rfl⟩ := e2 u hu
    have := inj (V.ref t) (by rw [e1]; exact List.mem_map.mpr ⟨_, hv, rfl⟩) (V.ref t') (by rw [e1]; exact List.mem_map.mpr ⟨_, hu, rfl⟩) he
    cases this
    rfl
  · have h3 : ∀ u ∈ out, ∃ a, u = Value.ref a := fun u hu => e2 u (h2.perm.mem_iff.mp hu)
    obtain ⟨n, hn⟩ := hn
    have hb : (out.map backV).Perm xs := by
      rw [e1]
      exact h2.perm.map backV
    refine ⟨.ref d, upd H d (.lst (out.map backV)), I.laid (t' := s.toks) kp hd ⟨?_, out, n, vals_back h3, hn⟩, rfl, q _ d hb ?_ (I.hok.fresh hd)⟩
    · rw [hb.length_eq]
      exact hz
    · rw [List.pairwise_map]
      refine List.Pairwise.imp (fun {x y} z => ?_) h1
      have := of_decide_eq_false z
      omega
end SrtH
namespace DL
open PySem PySem.Spec PyProof.Rows L2
def headK : DV → Int
  | .tup (.int n :: _) => n
  | _ => 0
def isHead : DV → Bool
  | .tup (.int _ :: _) => true
  | _ => false
/-- sorted: the new list is told -/
def dSortH (mu : Bool) : DSp := fun ds m Q => match ds with
  | [d] => ∃ xs ys, asL m d = some xs ∧ xs.all isHead = true ∧ ys.Perm xs ∧ (ys.map headK).Pairwise (· < ·) ∧ newL mu ys m Q
  | _ => False
theorem perm_key_eq : ∀ {as bs : List DV}, as.Perm bs → (as.map headK).Pairwise (· < ·) → (bs.map headK).Pairwise (· < ·) → as = bs
  | [], bs, h, _, _ => (List.Perm.eq_nil h.symm).symm
  | a :: as, [], h, _, _ => absurd h.length_eq (by simp)
  | a :: as, b :: bs, h, ha, hb => by
    rw [List.map_cons, List.pairwise_cons] at ha hb
    have e : a = b := by
      have h1 : a ∈ b :: bs := h.mem_iff.mp List.mem_cons_self
      have h2 : b ∈ a :: as := h.mem_iff.mpr List.mem_cons_self
      rcases List.mem_cons.mp h1 with e | h1
      · exact e
      · rcases List.mem_cons.mp h2 with e | h2
        · exact e.symm
        · have := hb.1 _ (List.mem_map.mpr ⟨a, h1, rfl⟩)
          have := ha.1 _ (List.mem_map.mpr ⟨b, h2, rfl⟩)
          omega
    subst e
    rw [perm_key_eq h.cons_inv ha.2 hb.2]
theorem vrs_perm {K : PySem.W.Frag} {F : Hp} {vs ws : List V} (p : ws.Perm vs) : ∀ {xs : List DV}, VRs K F vs xs → ∃ ys, VRs K F ws ys ∧ ys.Perm xs := by
  induction p with
  | nil => intro xs h; exact ⟨xs, h, .refl _⟩
  | cons v p ih =>
    intro xs h
    cases h with
    | cons r t =>
      obtain ⟨ys, h1, h2⟩ := ih t
      exact ⟨_, .cons r h1, h2.cons _⟩
  | swap a b l =>
    intro xs h
    cases h with
    | cons r t => cases t with
      | cons r2 t2 => exact ⟨_, .cons r2 (.cons r t2), .swap _ _ _⟩
  | trans p1 p2 ih1 ih2 =>
    intro xs h
    obtain ⟨ys, h1, h2⟩ := ih2 h
    obtain ⟨zs, h3, h4⟩ := ih1 h1
    exact ⟨zs, h3, h4.trans h2⟩
def kF (F : Hp) : V → Int
  | .ref a => match F a with
    | some (.tup (.int n :: _)) => n
    | _ => 0
  | _ => 0
theorem head_vr {K : PySem.W.Frag} {F : Hp} {v : V} {d : DV} (h : VR K F v d) (hd : isHead d = true) : kF F v = headK d ∧ ∃ t rest, v = V.ref t ∧ F t = some (.tup (.int (kF F v) :: rest)) := by
  cases h with
  | @tup a vs ds hf hr =>
    cases hr with
    | nil => cases hd
    | cons r t =>
      cases r with
      | int i =>
        have e : kF F (.ref a) = i := by unfold kF; dsimp only; rw [hf]
        exact ⟨e, a, _, rfl, by rw [e]; exact hf⟩
      | _ => cases hd
  | _ => cases hd
theorem vrs_keys {K : PySem.W.Frag} {F : Hp} : ∀ {vs : List V} {ds : List DV}, VRs K F vs ds → ds.all isHead = true → vs.map (kF F) = ds.map headK
  | _, _, .nil, _ => rfl
  | _, _, .cons r t, h => by
    rw [List.all_cons, Bool.and_eq_true] at h
    rw [List.map_cons, List.map_cons, (head_vr r h.1).1, vrs_keys t h.2]
theorem key_inj {α : Type} {k : α → Int} : ∀ {xs : List α}, (xs.map k).Nodup → ∀ x ∈ xs, ∀ y ∈ xs, k x = k y → x = y
  | [], _, x, hx, _, _, _ => by cases hx
  | a :: xs, h, x, hx, y, hy, e => by
    rw [List.map_cons, List.nodup_cons] at h
    rcases List.mem_cons.mp hx with e1 | h1 <;> rcases List.mem_cons.mp hy with e2 | h2
    · rw [e1, e2]
    · exact absurd (List.mem_map.mpr ⟨y, h2, (e1 ▸ e).symm⟩) h.1
    · exact absurd (List.mem_map.mpr ⟨x, h1, (e2 ▸ e)⟩) h.1
    · exact key_inj h.2 x h1 y h2 e
theorem cd_sortH {X : Cx} {G : Gam} (hK : X.K = G.K) (mu : Bool) : CallR X (.builtin "sorted") (LC G (dSortH mu)) := by
  intro pins s σ H vs us Q I rr h
  obtain ⟨F, m, ds, Q0, r, rv, h, k⟩ := h
  unfold dSortH at h
  split at h
  · obtain ⟨v, rfl, rd⟩ := rv.one_inv
    obtain ⟨xs, ys, hx, hh, hp, hs, q⟩ := h
    obtain ⟨a, ws, rfl, ha, ra⟩ := asL_ok r rd hx
    have ks := vrs_keys ra hh
    have nd : (ws.map (kF F)).Nodup := by
      rw [ks]
      have : (ys.map headK).Nodup := hs.imp fun {a b} h => by omega
      exact (hp.map headK).nodup_iff.mp this
    refine SrtH.cr_sortedH pins s σ H _ us Q I rr ⟨a, ws, kF F, rfl, by rw [hK]; exact ha, fun x hxm => ?_, key_inj nd, fun zs p hz hsz hpn => ?_⟩
    · obtain ⟨i, hi⟩ := List.getElem?_of_mem hxm
      obtain ⟨d, h1, h2⟩ := ra.getV hi
      obtain ⟨_, t, rest, e1, e2⟩ := head_vr h2 (List.all_eq_true.mp hh d (List.mem_of_getElem? h1))
      exact ⟨t, rest, e1, r.ex _ _ e2⟩
    · obtain ⟨ys2, v2, p2⟩ := vrs_perm hz ra
      have hh2 : ys2.all isHead = true := List.all_eq_true.mpr fun d hd => List.all_eq_true.mp hh d (p2.mem_iff.mp hd)
      have k2 := vrs_keys v2 hh2
      have nd2 : (zs.map (kF F)).Nodup := (hz.map _).nodup_iff.mpr nd
      have lt2 : (ys2.map headK).Pairwise (· < ·) := by
        rw [← k2]
        have h1 : (zs.map (kF F)).Pairwise (· ≤ ·) := List.pairwise_map.mpr hsz
        exact (List.pairwise_and_iff.mpr ⟨h1, nd2⟩).imp fun {a b} h => by have := h.1; have := h.2; omega
      have e : ys2 = ys := perm_key_eq (p2.trans hp.symm) lt2 hs
      subst e
      exact newL_ok r q k v2 p hpn
  · exact False.elim h
end DL
namespace DL
open PySem PySem.Spec PySem.W PyProof.Rows L2
/-- the signs of a text with the items of a tuple of n -/
def ItzS (K : PySem.W.Frag) (x : Str) (b : Addr) (n : Nat) : It where
  go i H := i < x.cps.size ∧ i < n ∧ ∃ ys, SqT K H b ys ∧ ys.length = n
  yld i H v H' := ∃ T c y, v = V.ref T ∧ H T = none ∧ H' = upd H T (.tup [.str ⟨#[c]⟩, y]) ∧ x.cps[i]? = some c ∧ ∀ ys, SqT K H b ys → ys[i]? = some y
  stop i H := (x.cps.size ≤ i ∨ n ≤ i) ∧ ∃ ys, SqT K H b ys ∧ ys.length = n
structure ZsSep (z TI TO i1 i2 b : Addr) : Prop where
  sep : ZipSep2 z TI TO i1 i2 [i1] [i2, b]
  bi : b ≠ i2
theorem turn_zipS {P : Program} {w : World} {K : PySem.W.Frag} {elts : List Expr} {kk : Nat} {tpos : Pos} {z TI TO i1 i2 b : Addr} {x : Str} {t : Tok} {n : Nat} (hs : ZsSep z TI TO i1 i2 b) :
    Turn P w K (.Tuple elts kk tpos) (ItzS K x b n) [z, TI, TO, i1, i2] z fun i h => IsZip h z TI TO Value.none ∧ IsTupOf2 h TI (.ref i1) (.ref i2) ∧ (∃ a1 a2, IsTupOf2 h TO a1 a2) ∧ h.IsStrIter i1 (strIterType x) x t i ∧ h.IsTupleIter i2 b i ∧ i ≤ x.cps.size ∧ i ≤ n where
  mem := List.mem_cons_self
  obj := fun i h ⟨h1, h2, ⟨a1, a2, h3⟩, ⟨o4, g4, _, d4⟩, ⟨o5, g5, _, d5⟩, _⟩ c hc => by
    simp only [List.mem_cons, List.not_mem_nil, or_false] at hc
    rcases hc with rfl | rfl | rfl | rfl | rfl
    · exact ⟨_, h1, nofun⟩
    · exact ⟨_, h2, nofun⟩
    · exact ⟨_, h3, nofun⟩
    · exact ⟨_, g4, fun v => by rw [d4]; nofun⟩
    · exact ⟨_, g5, fun v => by rw [d5]; nofun⟩
  keep := fun i h h' ⟨h1, h2, ⟨a1, a2, h3⟩, ⟨o4, g4, c4, d4⟩, ⟨o5, g5, c5, d5⟩, h6⟩ k => by
    refine ⟨k _ (by simp) _ h1, k _ (by simp) _ h2, ⟨a1, a2, k _ (by simp) _ h3⟩, ⟨o4, k _ (by simp) _ g4, c4, d4⟩, ⟨o5, k _ (by simp) _ g5, c5, d5⟩, h6⟩
  item := fun X hP hw hK hc i pins s σ H E I fp tn go => by
    subst hP hw hK
    obtain ⟨h1, h2, h3, h4, h5, h6, h7⟩ := tn
    obtain ⟨g1, g2, ys, hy, hl⟩ := go
    obtain ⟨its, rv, ht, hz⟩ := I.tuple hy
    have hd := I.ok.hd hc
    have hlen : its.length = n := by rw [← rv.length, hl]
    have W := WalksT.zipD2 (prog := X.prog) (w := X.w) (A := X.A) hs.sep (Draws.text (by exact hd) i1 x t) (Draws.tuple (by exact hd) i2 b hs.bi its.toArray)
    refine W.item i s _ E (Nat.lt_min.mpr ⟨g1, by have e : its.toArray.size = its.length := List.size_toArray; omega⟩) ⟨h1, h2, h3, h4, h5, ht⟩ fun T vals h' tk hp hle hT hM hk => ⟨_, rfl, ?_⟩
    refine W.go elts kk tpos i T _ _ E hM fun h'' hS hk2 => ?_
    obtain ⟨x1, x2, ⟨c, u, hx, rfl⟩, hy2, rfl⟩ := hp
    have hTw := W.apart i T h' hM
    have hy3 : its[i]? = some x2 := by simpa using hy2
    obtain ⟨v2, hv2, r2⟩ : ∃ v2, ys[i]? = some v2 ∧ L2.RelV v2 x2 := by
      have hi : i < ys.length := by omega
      obtain ⟨u2, e1, e2⟩ := rv.get (List.getElem?_eq_getElem hi)
      rw [hy3] at e1
      cases e1
      exact ⟨_, List.getElem?_eq_getElem hi, e2⟩
    have keep : ∀ (b' : Addr) (o : Obj), ¬b' ∈ [z, TO, i1, i2] → s.heap.get? b' = some o → h''.get? b' = some o := fun b' o hb e => hk2 _ _ hb (hk _ _ hb e)
    have fpw : ∀ b' ∈ [z, TO, i1, i2], FpOk X pins H b' := fun b' hb => fp b' (by
      simp only [List.mem_cons, List.not_mem_nil, or_false] at hb ⊢
      rcases hb with h | h | h | h <;> simp [h])
    have hTn : H T = none := I.hok.fresh hle
    have hTup : IsTup h'' T #[Value.str ⟨#[c]⟩ u, x2] := by
      obtain ⟨o, e, e2⟩ := hT
      exact ⟨o, hk2 _ _ hTw e, e2⟩
    have I2 := I.turnedNew (T := T) (ob := .tup [.str ⟨#[c]⟩, v2]) (t' := tk) keep fpw hle ⟨by have := sizeLine_eq; simp; omega, [Value.str ⟨#[c]⟩ u, x2], .cons ⟨u, rfl⟩ (.cons r2 .nil), hTup⟩
    obtain ⟨k1, k2, k3, k4, k5, k6⟩ := hS
    refine ⟨.ref T, _, I2, rfl, ⟨T, c, v2, rfl, hTn, rfl, hx, fun ys2 hy4 => by rw [I.tuple_inj hy4 hy]; exact hv2⟩, ⟨k1, k2, k3, k4, k5, by omega, by omega⟩, fun b' hb' => ?_⟩
    have hbT : b' ≠ T := fun e => by
      subst e
      have : ∃ o, s.heap.get? b' = some o := by
        obtain ⟨o4, g4, _⟩ := h4
        obtain ⟨o5, g5, _⟩ := h5
        obtain ⟨a1, a2, g3⟩ := h3
        simp only [List.mem_cons, List.not_mem_nil, or_false] at hb'
        rcases hb' with rfl | rfl | rfl | rfl | rfl
        · exact ⟨_, h1⟩
        · exact ⟨_, h2⟩
        · exact ⟨_, g3⟩
        · exact ⟨_, g4⟩
        · exact ⟨_, g5⟩
      obtain ⟨o, e⟩ := this
      exact absurd (Heap.lt_size e) (Nat.not_lt.mpr hle)
    rw [upd_ne hbT]
    exact (fp b' hb').1
  done := fun X hP hw hK hc i pins s σ H E I fp tn go => by
    subst hP hw hK
    obtain ⟨h1, h2, h3, h4, h5, h6, h7⟩ := tn
    obtain ⟨g1, ys, hy, hl⟩ := go
    obtain ⟨its, rv, ht, hz⟩ := I.tuple hy
    have hd := I.ok.hd hc
    have hlen : its.length = n := by rw [← rv.length, hl]
    have W := WalksT.zipD2 (prog := X.prog) (w := X.w) (A := X.A) hs.sep (Draws.text (by exact hd) i1 x t) (Draws.tuple (by exact hd) i2 b hs.bi its.toArray)
    have e : its.toArray.size = its.length := List.size_toArray
    have hi : i = min x.cps.size its.toArray.size := by omega
    refine W.done s _ E (by rw [← hi]; exact ⟨h1, h2, h3, h4, h5, ht⟩) fun h' tk hk => ⟨rfl, ?_⟩
    exact I.turnedL (ch := [z, TO, i1, i2]) hk fun b' hb => fp b' (by
      simp only [List.mem_cons, List.not_mem_nil, or_false] at hb ⊢
      rcases hb with h | h | h | h <;> simp [h])
  self := fun A i s Q E tn q => wpAny_pyIter_zip tn.1 q
def iZipS (K : PySem.W.Frag) (ta : TA) : TI := fun σ H R => ta σ H fun vs H1 => ∃ x b ys, vs = [V.str x, V.ref b] ∧ SqT K H1 b ys ∧ R (ItzS K x b ys.length) H1
theorem pi_zipS {X : Cx} {e e2 : Expr} {ta : TA} {p pos tpos : Pos} {elts : List Expr} {kk : Nat} (hg : Gl X "zip") (hm : X.mg "zip" = none) (ha : PA X [e, e2] ta)
    (hs : starEach [e, e2] X.env = (false, eval e X.env) :: starEach [e2] X.env := by rfl) (hpl : (backTo pos (starEach [e2] X.env)).any (·.1) = false := by rfl) :
    PI X (.Tuple elts kk tpos) (.Call (.Name "zip" p) [e, e2] [] pos) (iZipS X.K ta) := by
  refine ⟨fun pins s σ H R I h => ?_⟩
  refine wpAny_Call_Name_kw (ld_blt (u := .type "zip") I hg hm (by rfl) ?_)
  refine PyProof.Rows.callWith_type1 (thn (ha.run pos pins s σ H _ I h) fun us s1 ⟨vs, H1, I1, rv, x, b, ys, e1, hy, q⟩ => ?_) hs hpl
  subst e1
  cases rv with
  | cons r1 rv => cases rv with
    | cons r2 rv => cases rv with
      | nil =>
        obtain ⟨t, rfl⟩ := r1
        cases r2
        obtain ⟨its, rv, ht, hz⟩ := I1.tuple hy
        have hbl : b < s1.heap.objs.size := by
          obtain ⟨o, e, _⟩ := ht
          exact Heap.lt_size e
        refine zip_begins2 (begins_text x t) (begins_tuple b its.toArray) trivial ht fun h' k1 k2 k3 k4 k5 k6 k7 => ?_
        refine wpAny_pyIter_zip k1 ?_
        have sep : ZsSep (s1.heap.objs.size + 4) (s1.heap.objs.size + 2) (s1.heap.objs.size + 3) s1.heap.objs.size (s1.heap.objs.size + 1) b := by
          have z1 : ∀ k : Nat, b ≠ s1.heap.objs.size + k := fun k e => by rw [e] at hbl; exact absurd hbl (Nat.not_lt.mpr (Nat.le_add_right _ _))
          have z0 : b ≠ s1.heap.objs.size := z1 0
          have a1 : ∀ i j : Nat, i ≠ j → s1.heap.objs.size + i ≠ s1.heap.objs.size + j := fun i j h e => h (Nat.add_left_cancel e)
          have a0 : ∀ j : Nat, 0 ≠ j → s1.heap.objs.size ≠ s1.heap.objs.size + j := fun j h e => h (Nat.add_left_cancel (show s1.heap.objs.size + 0 = s1.heap.objs.size + j from e))
          refine ⟨⟨a1 _ _ (by decide), a1 _ _ (by decide), a1 _ _ (by decide), (a0 2 (by decide)).symm, by simp, ?_, ?_, a1 _ _ (by decide), by simp, ?_, ?_, ?_, ?_⟩, z1 1⟩
          all_goals simp only [List.mem_cons, List.not_mem_nil, or_false, not_or]
          · exact (a0 4 (by decide)).symm
          · exact (a0 3 (by decide)).symm
          · exact ⟨a1 _ _ (by decide), (z1 4).symm⟩
          · exact ⟨a1 _ _ (by decide), (z1 3).symm⟩
          · exact ⟨a0 1 (by decide), z0.symm⟩
          · exact (a0 1 (by decide)).symm
        refine ⟨_, [s1.heap.objs.size + 4, s1.heap.objs.size + 2, s1.heap.objs.size + 3, s1.heap.objs.size, s1.heap.objs.size + 1], _, _, H1, rfl, I1.kept (t' := s1.toks) k7, turn_zipS (t := t) (n := ys.length) sep, ⟨k1, k2, ⟨_, _, k3⟩, ⟨_, k4, rfl, rfl⟩, ⟨_, k5, rfl, rfl⟩, Nat.zero_le _, Nat.zero_le _⟩, fun b' hb => ?_, q⟩
        have hle : s1.heap.objs.size ≤ b' := by
          simp only [List.mem_cons, List.not_mem_nil, or_false] at hb
          rcases hb with rfl | rfl | rfl | rfl | rfl
          · exact Nat.le_add_right _ _
          · exact Nat.le_add_right _ _
          · exact Nat.le_add_right _ _
          · exact Nat.le_refl _
          · exact Nat.le_add_right _ _
        exact I1.fpOk hle (I1.hok.fresh hle)
def sgD (x : Str) : List DV := x.cps.toList.map fun c => .str ⟨#[c]⟩
def iZipSD (t : DA) : DI := fun δ m R => t δ m fun ds m1 => match ds with
  | [.str x, d] => match asT d with
    | some ys => R ⟨zipD (sgD x) ys, fun _ => True, none⟩ m1
    | none => False
  | _ => False
theorem qi_zipS {X : Cx} {G : Gam} {e e2 : Expr} {wl : DA} {p pos tpos : Pos} {elts : List Expr} {kk : Nat} (hK : X.K = G.K) (hg : Gl X "zip") (hm : X.mg "zip" = none) (ha : PA X [e, e2] (LA G wl))
    (hs : starEach [e, e2] X.env = (false, eval e X.env) :: starEach [e2] X.env := by rfl) (hpl : (backTo pos (starEach [e2] X.env)).any (·.1) = false := by rfl) :
    PI X (.Tuple elts kk tpos) (.Call (.Name "zip" p) [e, e2] [] pos) (LI X G (iZipSD wl)) := by
  have base := pi_zipS (tpos := tpos) (elts := elts) (kk := kk) (p := p) hg hm ha hs hpl
  refine ⟨fun pins s σ H R I h => base.run pins s σ H R I ?_⟩
  obtain ⟨F, m, δ, R0, r, sr, h, k⟩ := h
  refine ⟨F, m, δ, _, r, sr, h, fun ds m1 vs F1 H1 q e1 r1 v1 => ?_⟩
  match ds, q with
  | [.str x, d], q =>
    obtain ⟨v, w, rfl, rv, rw'⟩ := v1.two_inv
    dsimp only at q
    rw [hK]
    cases ed : asT d with
    | none => rw [ed] at q; exact False.elim q
    | some ys =>
      rw [ed] at q
      cases rv
      obtain ⟨b, ws, rfl, hl2, hr2⟩ := asT_ok r1 rw' ed
      refine ⟨x, b, ws, rfl, hl2, k _ _ _ _ _ q e1 r1 ?_ fun pk e => by cases e⟩
      intro i F' m' H' e r s
      obtain ⟨ws2, g3, g4⟩ := asT_stay rw' e r ed
      have hl3 : ws2.length = ws.length := by rw [g4.length, hr2.length]
      refine ⟨fun z hz => ?_, fun hz => ?_⟩
      · dsimp only at hz
        rw [zipD_get] at hz
        unfold sgD at hz
        rw [List.getElem?_map] at hz
        cases ec : x.cps.toList[i]? with
        | none => rw [ec] at hz; cases hz
        | some c =>
          cases ey : ys[i]? with
          | none => rw [ec, ey] at hz; cases hz
          | some y =>
            rw [ec, ey] at hz
            cases hz
            have hc : x.cps[i]? = some c := by rw [← ec, Array.getElem?_toList]
            obtain ⟨u, hu, ru⟩ := g4.get ey
            refine ⟨⟨(Array.getElem?_eq_some_iff.mp hc).1, ?_, ws2, g3, hl3⟩, fun v H2 hv => ?_⟩
            · have := (List.getElem?_eq_some_iff.mp hu).1
              omega
            · obtain ⟨T, c2, y2, rfl, hT, rfl, hc2, hy2⟩ := hv
              rw [hc] at hc2; cases hc2
              have := hy2 ws2 g3
              rw [hu] at this; cases this
              have eF := Ex.new (o := .tup [.str ⟨#[c]⟩, u]) (r.freeF hT)
              exact ⟨_, eF, r.data hT, .tup upd_same (.cons (.str _) (.cons (ru.mono eF) .nil))⟩
      · dsimp only at hz
        rw [zipD_get] at hz
        unfold sgD at hz
        rw [List.getElem?_map] at hz
        refine ⟨?_, ws2, g3, hl3⟩
        cases ec : x.cps.toList[i]? with
        | none =>
          left
          have := List.getElem?_eq_none_iff.mp ec
          rwa [Array.length_toList] at this
        | some c =>
          cases ey : ys[i]? with
          | none =>
            right
            have := List.getElem?_eq_none_iff.mp ey
            rw [hr2.length]; exact this
          | some y => rw [ec, ey] at hz; cases hz
end DL
namespace DL
open PySem PySem.Spec PySem.W PyProof.Rows L2
def mergeD (kvs more : List (Key × DV)) : List (Key × DV) := more.foldl (fun acc kv => putD acc kv.1 kv.2) kvs
theorem KR.merge {K : PySem.W.Frag} {F : Hp} : ∀ {more : List (Key × V)} {ms : List (Key × DV)} {kvs : List (Key × V)} {ds : List (Key × DV)}, KR K F more ms → KR K F kvs ds → (kvs.map (·.1)).Nodup → KR K F (mergeK kvs more) (mergeD ds ms)
  | [], [], _, _, _, h, _ => h
  | (k, v) :: more, (k2, d) :: ms, kvs, ds, .cons ⟨e, r⟩ t, h, hn => by
    have e : k = k2 := e
    subst e
    have hk := KR.put h hn k (v := v) (d := d) r
    have hn2 : ((putK kvs k v).map (·.1)).Nodup := by
      rw [KR.keys hk]
      refine putD_nodup ?_
      rw [← KR.keys h]; exact hn
    exact KR.merge (more := more) (ms := ms) (kvs := putK kvs k v) (ds := putD ds k d) t hk hn2
theorem kvv_keys : ∀ {a : List (Key × V)} {b : List (Key × Value)}, KV a b → a.map (·.1) = b.map (·.1)
  | [], [], _ => rfl
  | x :: a, y :: b, .cons e t => by rw [List.map_cons, List.map_cons, e.1, kvv_keys (a := a) (b := b) t]
def mUpd : DM := fun d ds m Q => ∃ p q kvs more, d = .ref p ∧ ds = [.ref q] ∧ p ≠ q ∧ m p = some (.dct kvs) ∧ m q = some (.dct more) ∧ kvs.length + more.length ≤ sizeLine ∧ Q .non (put m p (.dct (mergeD kvs more)))
section
variable {X : Cx} {G : Gam}
theorem md_update : MtR X "dict.update" (LM G mUpd) := by
  intro pins s σ H x vs v us Q I rx rv h
  obtain ⟨F, m, d, ds, Q0, r, r1, r2, h, k⟩ := h
  obtain ⟨p, q, kvs, more, rfl, rfl, hpq, hp, hq, hl, h⟩ := h
  cases r1
  obtain ⟨z, rfl, rz⟩ := r2.one_inv
  cases rz
  cases rx
  cases rv with
  | cons rq t =>
    cases t
    cases rq
    obtain ⟨_, u, hu, kv, rfl, hr⟩ := r.mo p _ hp
    obtain ⟨_, u2, hu2, kv2, rfl, hr2⟩ := r.mo q _ hq
    obtain ⟨l1, sy1, vs1, kv1, D1⟩ := I.hok p _ hu
    obtain ⟨l2, sy2, vs2, kv2', D2⟩ := I.hok q _ hu2
    have D1' := D1
    have D2' := D2
    obtain ⟨o1, es1, ep1, g1, x1, dt1, _, _, nd1⟩ := D1'
    have n1 : vs1.length = kv.length := (Paired.length kv1).symm
    have n2 : vs2.length = kv2.length := (Paired.length kv2').symm
    have n3 := KR.length hr
    have n4 := KR.length hr2
    refine call_meetsIn (T := "dict") PySem.F.slot_dict_update ⟨o1, g1, x1.1⟩ PySem.F.entry_dict_update (PySem.F.args_dict_update_2 _ _) (meets_dict_update (mixKind X.prog X.w) p q hpq sy2) ⟨vs1, vs2, D1, D2, by omega, fun h' d1 d2 sb => ?_⟩
    have hmer : KV (mergeK kv kv2) (merged vs1 vs2) := KV.merge kv2' kv1
    have hkn : (kv.map (·.1)).Nodup := by
      have : kv.map (·.1) = vs1.map (·.1) := kvv_keys kv1
      rw [this]; exact nd1
    have hm2 := KR.merge hr2 hr hkn
    have hlen : (mergeK kv kv2).length ≤ sizeLine := by
      have : ∀ (b : List (Key × V)) (a : List (Key × V)), (mergeK a b).length ≤ a.length + b.length := fun b => by
        induction b with
        | nil => intro a; exact Nat.le_refl _
        | cons y t ih =>
          intro a
          show (mergeK (putK a y.1 y.2) t).length ≤ _
          have h1 := ih (putK a y.1 y.2)
          have h2 : (putK a y.1 y.2).length ≤ a.length + 1 := by
            unfold putK; split
            · rw [List.length_map]; omega
            · rw [List.length_append, List.length_singleton]; omega
          rw [List.length_cons]; omega
      have := this kv2 kv
      omega
    have d1' := d1
    obtain ⟨o3, es3, ep3, g3, _⟩ := d1'
    refine ⟨.non, upd H p (.dK (mergeK kv kv2)), d_write (t' := s.toks) I (by rw [hu]; trivial) sb ⟨_, g3⟩ ⟨hlen, sy1, _, hmer, d1⟩, rfl, k _ _ _ _ _ h (Ex.refl F) (r.write hp ⟨_, rfl, hm2⟩) .non⟩
end
theorem tp_const {X : Cx} {G : Gam} : ∀ {kvs : List (Str × DV)} {F : Hp} {m : Sto} {H : Hp} {σ : L2.St} {δ : Slots} {P : List (V × V) → Hp → Prop}, Rel G F m H → SR G.K F σ δ →
    (∀ (vs : List (Str × V)) F' H', Ex F F' → Rel G F' m H' → Paired (fun (a : Str × V) (b : Str × DV) => a.1 = b.1 ∧ VR G.K F' a.2 b.2) vs kvs → P (vs.map fun a => (V.str a.1, a.2)) H') →
    tPairs (kvs.map fun a => (LE G (wC (.str a.1)), LE G (wC a.2))) σ H P
  | [], F, m, H, σ, δ, P, r, s, q => q [] F H (Ex.refl F) r .nil
  | a :: t, F, m, H, σ, δ, P, r, s, q => by
    show LE G (wC (.str a.1)) σ H fun k H1 => LE G (wC a.2) σ H1 fun v H2 => tPairs (t.map fun a => (LE G (wC (.str a.1)), LE G (wC a.2))) σ H2 fun ps H3 => P ((k, v) :: ps) H3
    refine ⟨F, m, δ, fun d m' => d = .str a.1 ∧ m' = m, r, s, ⟨rfl, rfl⟩, fun d m1 v F1 H1 hh x1 r1 v1 => ?_⟩
    obtain ⟨rfl, rfl⟩ := hh
    cases v1
    refine ⟨F1, m1, δ, fun d m' => d = a.2 ∧ m' = m1, r1, s.mono x1, ⟨rfl, rfl⟩, fun d m2 v F2 H2 hh x2 r2 v2 => ?_⟩
    obtain ⟨rfl, rfl⟩ := hh
    exact tp_const (X := X) (kvs := t) r2 (s.mono (x1.trans x2)) fun vs F' H' x r' pr => q ((a.1, v) :: vs) F' H' ((x1.trans x2).trans x) r' (.cons ⟨rfl, v2.mono x⟩ pr)
def kvD (kvs : List (Str × DV)) : List (Key × DV) := kvs.map fun a => (Sum.inr a.1, a.2)
def wDispC (kvs : List (Str × DV)) : DE := fun _ m Q => ∀ p, m p = none → Q (.ref p) (put m p (.dct (mergeD [] (kvD kvs))))
theorem qe_dispC {X : Cx} {G : Gam} {pos : Pos} {keys : List (Option Expr)} {values : List Expr} {kvs : List (Str × DV)} (hp : PPs X pos keys values (kvs.map fun a => (LE G (wC (.str a.1)), LE G (wC a.2))))
    (h1 : (keys.all fun x => x.isSome) = true) (h2 : keys.length = values.length) (h3 : keys ≠ []) (h4 : keys.length ≤ 15) (h5 : kvs.length ≤ 15) : PE X (.Dict keys values pos) (LE G (wDispC kvs)) :=
  PE.imp (pe_disp hp h1 h2 h3 h4) fun σ H Q h => by
    obtain ⟨F, m, δ, Q0, r, s, h, k⟩ := h
    intro p hH
    have r0 : Rel G F (put m p (.dct [])) (upd H p (.dK [])) := r.newM hH ⟨[], rfl, .nil⟩
    refine tp_const (X := X) r0 s fun vs F' H' x r' pr => ?_
    have hpd : (put m p (.dct [])) p = some (.dct []) := put_same
    obtain ⟨_, u, hu, kv, rfl, hr⟩ := r'.mo p _ hpd
    cases hr
    refine ⟨hu, vs.map fun a => (Sum.inr a.1, a.2), ?_, ?_, ?_⟩
    · rw [List.map_map]; rfl
    · rw [List.length_map, Paired.length pr]; exact h5
    · have hk : KR G.K F' (vs.map fun a => ((Sum.inr a.1 : Key), a.2)) (kvD kvs) := by
        clear hu r' r0 h hp h5
        unfold kvD KR
        induction pr with
        | nil => exact .nil
        | cons a t ih => exact .cons ⟨congrArg Sum.inr a.1, a.2⟩ ih
      have := r'.write hpd (o := .dct (mergeD [] (kvD kvs))) ⟨_, rfl, KR.merge (kvs := []) (ds := []) hk .nil .nil⟩
      rw [put_put] at this
      exact k _ _ _ _ _ (h p (r.freeM hH)) x this (.ref p)
theorem qe_negC {X : Cx} {G : Gam} {e : Expr} {i : Int} (h : PE X e (LE G (wNeg (wC (.int i))))) : PE X e (LE G (wC (.int (-i)))) := PE.imp h fun σ H Q h => h
def dIntS : DSp := fun ds m Q => match ds with
  | [.str a] => ∃ n, PySem.intText? a = some n ∧ a.length ≤ 640 ∧ Q (.int n) m
  | _ => False
theorem cd_intS {X : Cx} {G : Gam} : CallR X (.type "int") (LC G dIntS) := by
  intro pins s σ H vs us Q I rr h
  obtain ⟨F, m, ds, Q0, r, rv, h, k⟩ := h
  match ds, h with
  | [.str a], h =>
    obtain ⟨v, rfl, rd⟩ := rv.one_inv
    cases rd
    obtain ⟨n, h1, h2, h3⟩ := h
    exact call_int_str pins s σ H _ us Q I rr ⟨a, n, rfl, h1, h2, k _ _ _ _ _ h3 (Ex.refl F) r (.int _)⟩
def dMulS : D2 := fun x y m Q => match x, y with
  | .str x, .int n => MulOk x n ∧ Q (.str (Txt.mul x n)) m
  | _, _ => False
theorem od_mulS {X : Cx} {G : Gam} : OpR X (binaryOp .Mult) (LR2 G dMulS) := by
  intro pins s σ H x y v u Q I rx ry h
  obtain ⟨F, m, d1, d2, Q0, r, v1, v2, h, k⟩ := h
  cases v1 <;> cases v2 <;> first | exact False.elim h | skip
  obtain ⟨t, rfl⟩ := rx
  obtain ⟨t2, rfl⟩ := ry
  exact SB.mul h.1 fun t' k' => ⟨.str _, H, I.kept (t' := k') fun b u e => e, ⟨t', rfl⟩, k _ _ _ _ _ h.2 (Ex.refl F) r (.str _)⟩
def dIsB (neg : Bool) : D2 := fun x y m Q => match x, y with
  | .bl a, .bl b => Q (.bl (xor neg (decide (a = b)))) m
  | _, _ => False
theorem od_isB {X : Cx} {G : Gam} (neg : Bool) {op : CmpOp} (ho : op = if neg = true then .IsNot else .Is) : OpR X (compareOp op) (LR2 G (dIsB neg)) := by
  intro pins s σ H x y v u Q I rx ry h
  obtain ⟨F, m, d1, d2, Q0, r, v1, v2, h, k⟩ := h
  cases v1 <;> cases v2 <;> first | exact False.elim h | skip
  rename_i a b
  cases neg with
  | true =>
    subst ho
    exact op_isnot_bl pins s σ H _ _ v u Q I rx ry ⟨a, b, rfl, rfl, by
      have h : Q0 (.bl (xor true (decide (a = b)))) m := h
      rw [Bool.true_xor] at h
      exact k _ _ _ _ _ h (Ex.refl F) r (.bl _)⟩
  | false =>
    subst ho
    exact op_is_bl pins s σ H _ _ v u Q I rx ry ⟨a, b, rfl, rfl, by
      have h : Q0 (.bl (xor false (decide (a = b)))) m := h
      rw [Bool.false_xor] at h
      exact k _ _ _ _ _ h (Ex.refl F) r (.bl _)⟩
end DL
namespace DL
open PySem PySem.Spec PySem.W PyProof.Rows L2
abbrev Tb := List (Str × List Str)
def lkT : Tb → Str → Option (List Str)
  | [], _ => none
  | (k, ks) :: t, z => if k = z then some ks else lkT t z
structure TabK (K : PySem.W.Frag) (w : World) (a : Addr) (tab : Tb) : Prop where
  kd : ∃ es n, KDict K w a es n
  no : ∀ z, lkT tab z = none → nsIn K a z = some none
  yes : ∀ z ks, lkT tab z = some ks → ∃ p, nsIn K a z = some (some (.ref p)) ∧ SqT K (fun _ => none) p (ks.map V.str)
def strsB : List Value → List Str → Bool
  | [], [] => true
  | .str x _ :: vs, y :: ys => decide (x = y) && strsB vs ys
  | _, _ => false
def tupB (K : PySem.W.Frag) (p : Addr) (ks : List Str) : Bool := match K.lookup p with
  | some ⟨.type c, _, .seq its _, _⟩ => decide (c = "tuple") && (decide (its.size ≤ 1000) && strsB its.toList ks)
  | _ => false
def entB (K : PySem.W.Frag) : List DictEntry → Tb → Bool
  | [], [] => true
  | ⟨_, .str k _, .ref p⟩ :: es, (k', ks) :: t => decide (k = k') && (tupB K p ks && entB K es t)
  | _, _ => false
def tabB (K : PySem.W.Frag) (a : Addr) (tab : Tb) : Bool := match K.lookup a with
  | some ⟨_, _, .dict es _, _⟩ => entB K es.toList tab
  | _ => false
theorem strsB_ok : ∀ {vs : List Value} {ys : List Str}, strsB vs ys = true → Vals (ys.map V.str) vs
  | [], [], _ => .nil
  | .str x t :: vs, y :: ys, h => by
    unfold strsB at h
    rw [Bool.and_eq_true] at h
    have := of_decide_eq_true h.1
    subst this
    exact .cons ⟨t, rfl⟩ (strsB_ok h.2)
  | [], _ :: _, h => Bool.noConfusion h
  | v :: vs, [], h => by cases v <;> exact Bool.noConfusion h
theorem tupB_ok {K : PySem.W.Frag} {p : Addr} {ks : List Str} (h : tupB K p ks = true) : SqT K (fun _ => none) p (ks.map V.str) := by
  unfold tupB at h
  split at h
  · rename_i c d its n sl e
    rw [Bool.and_eq_true, Bool.and_eq_true] at h
    have hc := of_decide_eq_true h.1
    subst hc
    have hz := of_decide_eq_true h.2.1
    exact .inr ⟨_, its, n, e, rfl, rfl, by rw [sizeLine_eq]; omega, strsB_ok h.2.2⟩
  · cases h
theorem entB_ref {K : PySem.W.Frag} : ∀ {es : List DictEntry} {tab : Tb}, entB K es tab = true → (es.any fun e => e.refKey) = false
  | [], [], _ => rfl
  | ⟨_, .str k _, .ref p⟩ :: es, (k', ks) :: t, h => by
    unfold entB at h
    rw [Bool.and_eq_true, Bool.and_eq_true] at h
    rw [List.any_cons, entB_ref h.2.2]; rfl
  | [], _ :: _, h => Bool.noConfusion h
  | ⟨_, k, v⟩ :: es, [], h => by cases k <;> cases v <;> exact Bool.noConfusion h
theorem entB_no {K : PySem.W.Frag} {z : Str} : ∀ {es : List DictEntry} {tab : Tb}, entB K es tab = true → lkT tab z = none → es.find? (fun e => e.key.isStr z) = none
  | [], [], _, _ => rfl
  | ⟨_, .str k t', .ref p⟩ :: es, (k', ks) :: t, h, hl => by
    unfold entB at h
    rw [Bool.and_eq_true, Bool.and_eq_true] at h
    have hk := of_decide_eq_true h.1
    subst hk
    unfold lkT at hl
    split at hl
    · cases hl
    · rename_i hne
      show (match (k == z) with
        | true => some _
        | false => es.find? fun e => e.key.isStr z) = none
      rw [beq_eq_false_iff_ne.mpr hne]
      exact entB_no h.2.2 hl
  | [], _ :: _, h, _ => Bool.noConfusion h
  | ⟨_, k, v⟩ :: es, [], h, _ => by cases k <;> cases v <;> exact Bool.noConfusion h
theorem entB_yes {K : PySem.W.Frag} {z : Str} {ks : List Str} : ∀ {es : List DictEntry} {tab : Tb}, entB K es tab = true → lkT tab z = some ks → ∃ e p, es.find? (fun e => e.key.isStr z) = some e ∧ e.val = .ref p ∧ SqT K (fun _ => none) p (ks.map V.str)
  | [], [], _, h => by cases h
  | ⟨hh, .str k t', .ref p⟩ :: es, (k', ks') :: t, h, hl => by
    unfold entB at h
    rw [Bool.and_eq_true, Bool.and_eq_true] at h
    have hk := of_decide_eq_true h.1
    subst hk
    unfold lkT at hl
    split at hl
    · rename_i he
      cases hl
      refine ⟨⟨hh, .str k t', .ref p⟩, p, ?_, rfl, tupB_ok h.2.1⟩
      exact List.find?_cons_of_pos (show (k == z) = true from beq_iff_eq.mpr he)
    · rename_i hne
      obtain ⟨e, p2, h1, h2⟩ := entB_yes h.2.2 hl
      refine ⟨e, p2, ?_, h2⟩
      show (match (k == z) with
        | true => some _
        | false => es.find? fun e => e.key.isStr z) = some e
      rw [beq_eq_false_iff_ne.mpr hne]
      exact h1
  | [], _ :: _, h, _ => Bool.noConfusion h
  | ⟨_, k, v⟩ :: es, [], h, _ => by cases k <;> cases v <;> exact Bool.noConfusion h
theorem tabB_ok {K : PySem.W.Frag} {w : World} {a : Addr} {tab : Tb} (h : tabB K a tab = true) (kd : ∃ es n, KDict K w a es n) : TabK K w a tab := by
  refine ⟨kd, fun z hz => ?_, fun z ks hz => ?_⟩
  · unfold tabB at h
    split at h
    · rename_i c d es n sl e
      unfold nsIn
      simp only [e, entB_no h hz, entB_ref h]
      rfl
    · cases h
  · unfold tabB at h
    split at h
    · rename_i c d es n sl e
      obtain ⟨en, p, h1, h2, h3⟩ := entB_yes h hz
      refine ⟨p, ?_, h3⟩
      unfold nsIn
      simp only [e, h1, h2]
    · cases h
def wKin (neg : Bool) (tab : Tb) (w : DE) : DE := fun δ m Q => w δ m fun d m1 => match d with
  | .str z => Q (.bl (xor neg (lkT tab z).isSome)) m1
  | _ => False
def wKget (tab : Tb) (w : DE) : DE := fun δ m Q => w δ m fun d m1 => match d with
  | .str z => match lkT tab z with
    | some ks => Q (.ktup (ks.map .str)) m1
    | none => False
  | _ => False
section
variable {X : Cx} {G : Gam} {a : Addr} {tab : Tb} {e : Expr} {w : DE} {x : Str} {p pos : Pos}
theorem qe_ktup {ks : List Str} (hK : X.K = G.K) (h : SqT X.K (fun _ => none) a (ks.map V.str)) (hg : Gl X x) (hm : X.mg x = some (.ref a)) (hd : (x == ("__debug__" : Str)) = false := by decide) : PE X (.Name x pos) (LE G (wC (.ktup (ks.map .str)))) :=
  qe_glob (v := .ref a) hg hm rfl (fun F => .ktup (by rw [← hK]; exact h) (vrs_strs ks)) hd
theorem le_kin {neg : Bool} {r : R2} (T : TabK X.K X.w a tab) (hr : ∀ z o H Q, nsIn X.K a z = some o → Q (V.bl (xor neg o.isSome)) H → r (.str z) (.ref a) H Q) {σ : L2.St} {H : Hp} {Q : VK} (h : LE G (wKin neg tab w) σ H Q) : tOp r (LE G w) (tC (.ref a)) σ H Q := by
  obtain ⟨F, m, δ, Q0, rr, s, h, k⟩ := h
  refine ⟨F, m, δ, _, rr, s, h, fun d m1 v F1 H1 q e1 r1 v1 => ?_⟩
  cases v1 <;> first | exact False.elim q | skip
  rename_i z
  show r (.str z) (.ref a) H1 Q
  cases el : lkT tab z with
  | none =>
    have q : Q0 (.bl (xor neg (lkT tab z).isSome)) m1 := q
    rw [el] at q
    exact hr z none H1 Q (T.no z el) (k _ _ _ _ _ q e1 r1 (.bl _))
  | some ks =>
    have q : Q0 (.bl (xor neg (lkT tab z).isSome)) m1 := q
    rw [el] at q
    obtain ⟨pt, hp, _⟩ := T.yes z ks el
    exact hr z (some (.ref pt)) H1 Q hp (k _ _ _ _ _ q e1 r1 (.bl _))
theorem kin_op (neg : Bool) {op : CmpOp} (ho : op = if neg = true then .NotIn else .In) (T : TabK X.K X.w a tab) : ∃ r, OpR X (compareOp op) r ∧ ∀ z o H Q, nsIn X.K a z = some o → Q (V.bl (xor neg o.isSome)) H → r (.str z) (.ref a) H Q := by
  obtain ⟨es, n, kd⟩ := T.kd
  cases neg with
  | true =>
    subst ho
    exact ⟨_, op_notIn_kd kd, fun z o H Q h q => ⟨z, o, rfl, rfl, h, by rw [Bool.true_xor] at q; exact q⟩⟩
  | false =>
    subst ho
    exact ⟨_, op_in_kd kd, fun z o H Q h q => ⟨z, o, rfl, rfl, h, by rw [Bool.false_xor] at q; exact q⟩⟩
theorem qe_kin (neg : Bool) {op : CmpOp} (ho : op = if neg = true then .NotIn else .In) (T : TabK X.K X.w a tab) (he : PE X e (LE G w)) (hg : Gl X x) (hm : X.mg x = some (.ref a)) (hmk : behindInMarks op (.Name x p) = false := by rfl) (hd : (x == ("__debug__" : Str)) = false := by decide) :
    PE X (.Compare e [op] [.Name x p] pos) (LE G (wKin neg tab w)) := by
  obtain ⟨r, hop, hr⟩ := kin_op neg ho T
  exact PE.imp (pe_cmpR hop he (pe_glob (v := .ref a) hg hm rfl hd) hmk) fun σ H Q h => le_kin T hr h
theorem qt_kin (neg : Bool) {op : CmpOp} (ho : op = if neg = true then .NotIn else .In) (T : TabK X.K X.w a tab) (he : PE X e (LE G w)) (hg : Gl X x) (hm : X.mg x = some (.ref a)) (hmk : behindInMarks op (.Name x p) = false := by rfl) (hd : (x == ("__debug__" : Str)) = false := by decide) :
    PT X (.Compare e [op] [.Name x p] pos) (LT G (wBl (wKin neg tab w))) := by
  obtain ⟨r, hop, hr⟩ := kin_op neg ho T
  exact PT.imp (pt_cmpR hop he (pe_glob (v := .ref a) hg hm rfl hd) hmk) fun σ H Q h => by
    obtain ⟨F, m, δ, Q0, r, s, h, k⟩ := lt_bl h
    exact le_kin T hr ⟨F, m, δ, Q0, r, s, h, k⟩
theorem qe_kget (hK : X.K = G.K) (T : TabK X.K X.w a tab) (he : PE X e (LE G w)) (hg : Gl X x) (hm : X.mg x = some (.ref a)) (hs : ∀ lo hi st p, e ≠ .Slice lo hi st p) (hd : (x == ("__debug__" : Str)) = false := by decide) :
    PE X (.Subscript (.Name x p) e pos) (LE G (wKget tab w)) := by
  obtain ⟨es, n, kd⟩ := T.kd
  refine PE.imp (pe_ix ix_kdict (pe_glob (v := .ref a) hg hm rfl hd) he (plainIx_of hs)) fun σ H Q h => ?_
  obtain ⟨F, m, δ, Q0, rr, s, h, k⟩ := h
  show LE G w σ H fun y H2 => _
  refine ⟨F, m, δ, _, rr, s, h, fun d m1 v F1 H1 q e1 r1 v1 => ?_⟩
  cases v1 <;> first | exact False.elim q | skip
  rename_i z
  cases el : lkT tab z with
  | none =>
    dsimp only at q
    rw [el] at q
    exact False.elim q
  | some ks =>
    dsimp only at q
    rw [el] at q
    obtain ⟨pt, hp, hq⟩ := T.yes z ks el
    exact ⟨a, z, .ref pt, rfl, rfl, ⟨es, n, .ref pt, kd.at_, kd.lit, hp, rfl⟩, k _ _ _ _ _ q e1 r1 (.ktup (by rw [← hK]; exact hq) (vrs_strs ks))⟩
end
end DL
namespace DL
open PySem PySem.Spec PySem.W PyProof.Rows L2
def iStrD (w : DE) : DI := fun δ m R => w δ m fun d m1 => match d with
  | .str x => R ⟨sgD x, fun _ => True, none⟩ m1
  | _ => False
theorem qi_strD {X : Cx} {G : Gam} {tg e : Expr} {w : DE} (he : PE X e (LE G w)) : PI X tg e (LI X G (iStrD w)) := by
  have base : PI X tg e (iStr (LE G w)) := pi_str he
  refine ⟨fun pins s σ H R I h => base.run pins s σ H R I ?_⟩
  obtain ⟨F, m, δ, R0, r, sr, h, k⟩ := h
  refine ⟨F, m, δ, _, r, sr, h, fun d m1 v F1 H1 q e1 r1 v1 => ?_⟩
  cases v1 <;> first | exact False.elim q | skip
  rename_i x
  refine ⟨x, rfl, k _ _ _ _ _ q e1 r1 ?_ fun pk e => by cases e⟩
  intro i F' m' H' e r s
  refine ⟨fun z hz => ?_, fun hz => ?_⟩
  · dsimp only at hz
    unfold sgD at hz
    rw [List.getElem?_map] at hz
    cases ec : x.cps.toList[i]? with
    | none => rw [ec] at hz; cases hz
    | some c =>
      rw [ec] at hz
      cases hz
      have hc : x.cps[i]? = some c := by rw [← ec, Array.getElem?_toList]
      refine ⟨(Array.getElem?_eq_some_iff.mp hc).1, fun v H2 hv => ?_⟩
      obtain ⟨rfl, c2, hc2, rfl⟩ := hv
      rw [hc] at hc2; cases hc2
      exact ⟨F', Ex.refl F', r, .str _⟩
  · dsimp only at hz
    unfold sgD at hz
    rw [List.getElem?_map] at hz
    cases ec : x.cps.toList[i]? with
    | none =>
      have := List.getElem?_eq_none_iff.mp ec
      rwa [Array.length_toList] at this
    | some c => rw [ec] at hz; cases hz
def dAddT : D2 := fun x y m Q => match x, y with
  | .tup xs, .tup ys => xs.length + ys.length ≤ sizeLine ∧ Q (.tup (xs ++ ys)) m
  | _, _ => False
theorem od_addT {X : Cx} {G : Gam} (hK : X.K = G.K) : OpR X (binaryOp .Add) (LR2 G dAddT) := by
  intro pins s σ H x y v u Q I rx ry h
  obtain ⟨F, m, d1, d2, Q0, r, v1, v2, h, k⟩ := h
  cases v1 <;> cases v2 <;> first | exact False.elim h | skip
  rename_i a vs ds hs hr b ws es ht hw
  obtain ⟨hl, q⟩ := h
  refine op_catA pins s σ H _ _ v u Q I rx ry ⟨a, b, vs, ws, rfl, rfl, SqT.of (r.ex _ _ hs), SqT.of (r.ex _ _ ht), by rw [hr.length, hw.length]; exact hl, fun e => ?_, fun _ e => ?_, fun _ _ p hp => ?_⟩
  · subst e
    cases hr
    exact k _ _ _ _ _ q (Ex.refl F) r (.tup ht hw)
  · subst e
    cases hw
    rw [List.append_nil] at q
    exact k _ _ _ _ _ q (Ex.refl F) r (.tup hs hr)
  · have eF := Ex.new (o := .tup (vs ++ ws)) (r.freeF hp)
    exact k _ _ _ _ _ q eF (r.data hp) (.tup upd_same (VRs.mono eF (hr.append hw)))
end DL
namespace DL
open PySem PySem.Spec PyProof.Rows L2
abbrev Gam.at (G : Gam) (F : Hp) : Gam := { G with flo := F }
theorem mr_at {G : Gam} {F0 F : Hp} {o : MO} {u : HO} : MR (G.at F0) F o u = MR G F o u := by cases o <;> rfl
section
variable {G : Gam} {F F0 H : Hp} {m : Sto}
theorem Rel.up (r : Rel G F m H) (e : Ex F0 F) : Rel (G.at F0) F m H := ⟨r.ex, fun a o h => let ⟨n, u, hu, q⟩ := r.mo a o h; ⟨n, u, hu, by rw [mr_at]; exact q⟩, e⟩
theorem Rel.un (h : Ex G.flo F0) (r : Rel (G.at F0) F m H) : Rel G F m H := ⟨r.ex, fun a o h => let ⟨n, u, hu, q⟩ := r.mo a o h; ⟨n, u, hu, by rw [mr_at] at q; exact q⟩, h.trans r.fl⟩
theorem Kt.un {Q0 : DK} {Q : VK} (k : Kt (G.at F0) F Q0 Q) (e : Ex F0 F) : Kt G F Q0 Q := fun d m' v F' H' q e' r' v' => k d m' v F' H' q e' (r'.up (e.trans e')) v'
theorem Kt.up {Q0 : DK} {Q : VK} (h : Ex G.flo F0) (k : Kt G F Q0 Q) : Kt (G.at F0) F Q0 Q := fun d m' v F' H' q e' r' v' => k d m' v F' H' q e' (r'.un h) v'
theorem KtS.up {Q0 : Slots → Sto → Prop} {Q : L2.St → Hp → Prop} (h : Ex G.flo F0) (k : KtS G F Q0 Q) : KtS (G.at F0) F Q0 Q := fun δ' m' σ' F' H' q e' r' s' => k δ' m' σ' F' H' q e' (r'.un h) s'
theorem KtD.up {D0 : DEnds} {D : Ends} (h : Ex G.flo F0) (k : KtD G F D0 D) : KtD (G.at F0) F D0 D := ⟨k.nx.up h, k.rt.up h, k.bk.up h, k.ct.up h⟩
theorem spL_flo {S : DSp} {vs : List V} {Q : VK} {E : XK} (h : Ex G.flo F0) (x : spL (G.at F0) S vs H Q E) : spL G S vs H Q E := by
  obtain ⟨F, m, ds, Q0, r, v, s, k⟩ := x
  exact ⟨F, m, ds, Q0, r.un h, v, s, k.un r.fl⟩
theorem FD.flo {P : Program} {w : World} {K : PySem.W.Frag} {mg : Str → Option Value} {base : Heap} {k : Nat} {f : Addr} {fd : FuncData} {ps : List Str} {S : DSp} (h : Ex G.flo F0) (x : FD P w K mg base G k f fd ps S) : FD P w K mg base (G.at F0) k f fd ps S :=
  ⟨x.ok.imp fun _ _ _ _ q => spL_flo h q, x.kp, x.bd⟩
end
/-- a wish: the class, the fields, the slots, the store -/
abbrev DW := Nat → List (Nat × DV) → Slots → Sto → Prop
abbrev DXp := Nat → List (Nat × DV) → Sto → Prop
abbrev DSx := List DV → Sto → DK → DXp → Prop
def LW (G : Gam) (W : DW) : WX := fun cls d σ H => ∃ (F : Hp) (m : Sto) (δ : Slots) (c : Nat) (fs : List (Nat × DV)) (dd : Addr) (fv : List (Str × V)), cls = .ref (G.cls c) ∧ d = some dd ∧ H dd = some (.xd fv) ∧ FR G F fv fs ∧ F dd = none ∧ m dd = none ∧ Rel G F m H ∧ SR G.K F σ δ ∧ W c fs δ m
def KtX (G : Gam) (F : Hp) (E0 : DXp) (E : XK) : Prop := ∀ c fs m' F' H' dd fv, E0 c fs m' → Ex F F' → Rel G F' m' H' → H' dd = some (.xd fv) → FR G F' fv fs → F' dd = none → m' dd = none → E (.ref (G.cls c)) (some dd) H'
def spX (G : Gam) (S : DSx) : Sp := fun vs H Q E => ∃ F m ds Q0 E0, Rel G F m H ∧ VRs G.K F vs ds ∧ S ds m Q0 E0 ∧ Kt G F Q0 Q ∧ KtX G F E0 E
def arX (n : Nat) (S : DSx) : DSx := fun ds m Q E => ds.length = n ∧ S ds m Q E
def runX (n : Nat) (w : DW → DS) : DSx := fun ds m Q E => w (fun c fs _ m' => E c fs m') { nx := fun _ m' => Q .non m', rt := Q } (startD n ds) m
/-- such a def used where it never raises -/
def nevS (S : DSx) : DSp := fun ds m Q => S ds m Q fun _ _ _ => False
theorem spX_len {G : Gam} {S : DSx} {n : Nat} {vs : List V} {H : Hp} {Q : VK} {E : XK} (h : spX G (arX n S) vs H Q E) : vs.length = n := by
  obtain ⟨F, m, ds, Q0, E0, _, r, ⟨e, _⟩, _⟩ := h
  rw [r.length, e]
theorem KtX.un {G : Gam} {F F0 : Hp} {E0 : DXp} {E : XK} (k : KtX (G.at F0) F E0 E) (e : Ex F0 F) : KtX G F E0 E := fun c fs m' F' H' dd fv q e' r' h1 h2 h3 h4 => k c fs m' F' H' dd fv q e' (r'.up (e.trans e')) h1 h2 h3 h4
theorem spX_flo {G : Gam} {F0 H : Hp} {S : DSx} {vs : List V} {Q : VK} {E : XK} (h : Ex G.flo F0) (x : spX (G.at F0) S vs H Q E) : spX G S vs H Q E := by
  obtain ⟨F, m, ds, Q0, E0, r, v, s, k, kx⟩ := x
  exact ⟨F, m, ds, Q0, E0, r.un h, v, s, k.un r.fl, kx.un r.fl⟩
/-- a def that may raise, as its callers know it -/
structure FX (P : Program) (w : World) (K : PySem.W.Frag) (mg : Str → Option Value) (base : Heap) (G : Gam) (k : Nat) (f : Addr) (fd : FuncData) (ps : List Str) (S : DSx) : Prop where
  ok : FnG P w K mg base (L2.CX P w) k f fd ps (spX G S)
  kp : PySem.W.keepIn K (.ref f) = true
  bd : Binds K fd ps []
section
variable {P : Program} {w : World} {K : PySem.W.Frag} {mg : Str → Option Value} {base : Heap} {G : Gam} {k : Nat} {f : Addr} {fd : FuncData} {ps : List Str} {S : DSx}
theorem FX.flo {F0 : Hp} (h : Ex G.flo F0) (x : FX P w K mg base G k f fd ps S) : FX P w K mg base (G.at F0) k f fd ps S := ⟨x.ok.imp fun _ _ _ _ q => spX_flo h q, x.kp, x.bd⟩
theorem FX.never (x : FX P w K mg base G k f fd ps S) : FD P w K mg base G k f fd ps (nevS S) where
  kp := x.kp
  bd := x.bd
  ok := by
    have key : ∀ vs H Q, spL G (nevS S) vs H Q E0 → spX G S vs H Q E0 := fun vs H Q h => by
      obtain ⟨F, m, ds, Q0, r, v, s, k⟩ := h
      exact ⟨F, m, ds, Q0, _, r, v, s, k, fun _ _ _ _ _ _ _ z => z.elim⟩
    refine ⟨fun vs H Q E h => x.ok.len vs H Q E0 (key vs H Q h), fun A outer s H args us vs Q E hr hg e0 hb hv hs => ?_⟩
    refine codeAny_mono (x.ok.run A outer s H args us vs Q E0 hr hg e0 hb hv (key vs H Q hs)) fun r s' h => ?_
    cases r with
    | error e =>
      obtain ⟨_, _, _, _, _, _, _, _, _, _, _, _, z⟩ := (show L2.CX P w outer H s E0 e s' from h)
      exact z.elim
    | ok fl => cases fl <;> exact h
theorem FX.mk' {name qual : Str} {params : Arguments} {body : List Stmt} {scope : Scope} {N : List Str} {W : DW → DS} (F : FunD K name qual params body scope [] [] f fd) (S : FnScope N ps scope)
    (hb : ∀ (kV doc pm : Value) (an : Option Addr) (cdv ct : Value) (us : List Value), us.length = ps.length → bindArgs (PySem.W.fnOf name qual params body scope .none kV doc pm an cdv ct) ⟨us, []⟩ = pure (ps.zip us))
    (hbody : ∀ (cdv : Value) (A : Around) (outer : List Env) (s : Shared) (H : Hp) (E : XK) (F0 : Hp) (W0 : DW), Room k (A.deeper (envOfC qual scope s.heap.objs.size f cdv)) → A.guards = some [] → Ex G.flo F0 →
      Takes (cxOf (L2.CX P w) P w K mg base N qual scope f cdv A outer s H E) (LW (G.at F0) W0) → PSs (cxOf (L2.CX P w) P w K mg base N qual scope f cdv A outer s H E) body (LS (G.at F0) (W W0))) : FX P w K mg base G (k + 1) f fd ps (arX ps.length (runX N.length W)) where
  kp := F.kp
  bd := F.bindsN hb
  ok := by
    obtain ⟨oc, od, dV, kV, doc, pm, an, cdv, ct, osl, rfl, lk, hcd, _, _⟩ := F.ex
    refine fn_ofG lk hcd S (fun vs H Q E h => spX_len h) fun A outer s H vs Q E hr hG hsp => ?_
    obtain ⟨F, m, ds, Q0, X0, r, rv, ⟨_, h⟩, k, kx⟩ := hsp
    refine ⟨_, hbody cdv A outer s H E F (fun c fs _ m' => X0 c fs m') hr hG r.fl ?_, F, m, startD N.length ds, _, r.up (Ex.refl F), sr_start rv, h, ⟨fun δ' m' σ' F' H' q e r' s' => k _ _ _ _ _ q e (r'.un r.fl) .non, k.up r.fl, fun _ _ _ _ _ q => False.elim q, fun _ _ _ _ _ q => False.elim q⟩⟩
    refine (takes_of rfl rfl rfl rfl).imp fun cls d σ H' z => ?_
    obtain ⟨F', m', δ', c, fs, dd, fv, rfl, rfl, h1, h2, h3, h4, r', s', hw⟩ := z
    exact kx c fs m' F' H' dd fv hw r'.fl (r'.un r.fl) h1 h2 h3 h4
theorem dx_cxX (hK : K = G.K) {N : List Str} {qual : Str} {scope : Scope} {A : Around} {outer : List Env} {s : Shared} {H : Hp} {E : XK} {cdv : Value} (hnd : N.Nodup) (hr : Room k (A.deeper (envOfC qual scope s.heap.objs.size f cdv))) (hg : A.guards = some []) : DX (cxOf (L2.CX P w) P w K mg base N qual scope f cdv A outer s H E) G k where
  K := hK
  room := hr
  gd := hg
  calm := rfl
  pas := passes_of rfl
  nd := hnd
end
theorem DX.tr {X : Cx} {G : Gam} {k : Nat} (d : DX X G k) {pn : List (Addr × Obj)} {xe : Value → Shared → Prop} (h : PassesOwn (model X.prog X.w) X.A X.env xe) : DX (X.tr pn xe) G k where
  K := d.K
  room := d.room
  gd := d.gd
  calm := d.calm
  pas := h
  nd := d.nd
theorem DX.up {X : Cx} {G : Gam} {k : Nat} {F0 : Hp} (d : DX X G k) : DX X (G.at F0) k := ⟨d.K, d.room, d.gd, d.calm, d.pas, d.nd⟩
section
variable {X : Cx} {G : Gam} {j k : Nat} {f C : Addr} {c : Nat} {fd : FuncData} {ps : List Str} {S : DSx} {W : DW} {x m : Str} {p pos apos : Pos} {e o : Expr} {es : List Expr} {w : DE} {wa : DA}
theorem run_fnX {sp : Sp} {W : WX} {pins : List (Addr × Obj)} {σ : L2.St} {H : Hp} {s : Shared} {Q : VK} {us : List Value} {vs : List V} (F : FnG X.prog X.w X.K X.mg X.base (L2.CX X.prog X.w) k f fd ps sp) (hr : Room k X.A) (hG : X.A.guards = some []) (hb : Binds X.K fd ps []) (tk : Takes X W)
    (I : Inv X pins σ H s) (r : Vals vs us) (h : sp vs H Q fun cls d H' => W cls d σ H') : wpAny (model X.prog X.w) X.A (call (.ref f) us) (EP X pins σ Q) X.xe s := by
  have hl : (us ++ []).length = ps.length := by rw [List.append_nil, ← r.length]; exact F.len _ _ _ _ h
  refine wpAny_call (codeAny_mono (F.run X.A X.stack s H ⟨us, []⟩ us vs Q _ hr hG I.env0 (by have z := hb s us I.kIn hl; rw [List.append_nil] at z; exact z) r h) fun rs s' hq => ?_)
  cases rs with
  | error e => exact tk e s' (XE.of_call I (fun _ _ _ z => z) hq)
  | ok fl =>
    cases fl with
    | ret u => exact I.after hq
    | next => exact False.elim hq
    | brk => exact False.elim hq
    | cont => exact False.elim hq
/-- f(..) of a def that may raise -/
def wCallX (S : DSx) (t : DA) (W : DW) : DE := fun δ m Q => t δ m fun ds m1 => S ds m1 Q fun c fs m2 => W c fs δ m2
theorem ktx_of {F F' : Hp} {σ : L2.St} {δ : Slots} (s : SR G.K F σ δ) (e : Ex F F') : KtX G F' (fun c fs m2 => W c fs δ m2) fun cls d H' => LW G W cls d σ H' := fun c fs m' F2 H' dd fv q e' r' h1 h2 h3 h4 => ⟨F2, m', δ, c, fs, dd, fv, rfl, rfl, h1, h2, h3, h4, r', s.mono (e.trans e'), q⟩
theorem qx_call (F : FX X.prog X.w X.K X.mg X.base G k f fd ps S) (dx : DX X G j) (hj : k ≤ j) (tk : Takes X (LW G W)) (hg : Gl X x) (hm : X.mg x = some (.ref f)) (ha : PA X (e :: es) (LA G wa)) (hdb : (x == ("__debug__" : Str)) = false := by decide)
    (he : starEach (e :: es) X.env = (false, eval e X.env) :: starEach es X.env := by rfl) (hpl : (backTo pos (starEach es X.env)).any (·.1) = false := by rfl) : PE X (.Call (.Name x p) (e :: es) [] pos) (LE G (wCallX S wa W)) := by
  refine ⟨fun pins s σ H Q I h => ?_⟩
  obtain ⟨F0, m0, δ, Q0, r, sr, h, kt⟩ := h
  refine wpAny_Call_Name_kw (ld_glob I hg hm ?_ hdb)
  refine PySem.W.callWith_K (h₀ := X.base) I.ok.mod.kin F.kp (thn (ha.run pos pins s σ H _ I ⟨F0, m0, δ, _, r, sr, h, fun ds m1 vs F1 H1 q e1 r1 v1 => (⟨F1, m1, ds, Q0, _, r1, v1, q, kt.mono e1, ktx_of sr e1⟩ : spX G S vs H1 Q fun cls d H' => LW G W cls d σ H')⟩) fun us s1 ⟨vs, H1, I1, rv, q⟩ => ⟨I1.kIn, ?_⟩) he hpl
  exact run_fnX F.ok (dx.room.mono hj) dx.gd F.bd tk I1 rv q
theorem qx_call0 (F : FX X.prog X.w X.K X.mg X.base G k f fd ps S) (dx : DX X G j) (hj : k ≤ j) (tk : Takes X (LW G W)) (hg : Gl X x) (hm : X.mg x = some (.ref f)) (hdb : (x == ("__debug__" : Str)) = false := by decide) : PE X (.Call (.Name x p) [] [] pos) (LE G (wCallX S wNil W)) := by
  refine ⟨fun pins s σ H Q I h => ?_⟩
  obtain ⟨F0, m0, δ, Q0, r, sr, h, kt⟩ := h
  refine wpAny_Call_Name_kw (ld_glob I hg hm ?_ hdb)
  refine PySem.W.callWith_K0 I.kIn F.kp ?_
  exact run_fnX (us := []) (vs := []) F.ok (dx.room.mono hj) dx.gd F.bd tk I .nil ⟨F0, m0, [], Q0, _, r, .nil, h, kt, ktx_of sr (Ex.refl F0)⟩
/-- o.m(..) -/
def wMethX (c : Nat) (S : DSx) (w : DE) (t : DA) (W : DW) : DE := fun δ m Q => w δ m fun x m1 => hasF m1 c x ∧ t δ m1 fun ds m2 => S (x :: ds) m2 Q fun c' fs m3 => W c' fs δ m3
theorem qx_meth {pl : Sem Bool} (F : FX X.prog X.w X.K X.mg X.base G k f fd ps S) (dx : DX X G j) (hj : k ≤ j) (tk : Takes X (LW G W)) (he : PE X o (LE G w)) (cl : Cls X.K C) (hC : G.cls c = C) (hn : ∀ i, G.fld i ≠ m) (hm : Meth X.K C m f)
    (ha : PA X (e :: es) (LA G wa)) (hst : starEach (e :: es) X.env = (false, eval e X.env) :: starEach es X.env := by rfl) (hpl : (backTo pos (starEach es X.env)).any (·.1) = false := by rfl)
    (ht : eval (.Call (.Attribute o m apos) (e :: es) [] pos) X.env = (do
      let ov ← eval o X.env
      standAt apos.atName
      let (f, first) ← holding [ov] (getMethod ov m pl)
      callWith pos f first (backTo pos (starEach (e :: es) X.env)) (backToKw pos (keywordEach [] X.env))) := by rfl) : PE X (.Call (.Attribute o m apos) (e :: es) [] pos) (LE G (wMethX c S w wa W)) := by
  refine ⟨fun pins s σ H Q I h => ?_⟩
  obtain ⟨F0, m0, δ, Q0, r, sr, h, kt⟩ := h
  refine PySem.W.methodCall_KW (pl := pl) (thn (he.run pins s σ H (fun x H1 => ∃ (a dx : Addr) (fs : List (Str × V)), x = .ref a ∧ H1 a = some (.ins C dx fs) ∧ fs.lookup m = none ∧ LA G wa σ H1 fun vs H2 => spX G S (.ref a :: vs) H2 Q fun cls d H' => LW G W cls d σ H') I ⟨F0, m0, δ, _, r, sr, h, fun d m1 v F1 H1 ⟨hf, h1⟩ e1 r1 v1 => ?_⟩) fun u s1 ⟨x, H1, I1, rx, a, dxx, fs, ex, ea, l, q⟩ => ?_) ht
  · obtain ⟨a, fs, rfl, rfl, em⟩ := hasF_ok v1 hf
    obtain ⟨_, u, hu, dx, fv, rfl, hfr⟩ := r1.mo a _ em
    refine ⟨a, dx, fv, rfl, by rw [← hC]; exact hu, lookup_fr hfr hn, F1, m1, δ, _, r1, sr.mono e1, h1, fun ds m2 vs F2 H2 h2 e2 r2 v2 => ?_⟩
    exact ⟨F2, m2, _, Q0, _, r2, .cons (.ref a) v2, h2, kt.mono (e1.trans e2), ktx_of sr (e1.trans e2)⟩
  · subst ex
    obtain rfl : u = Value.ref a := rx
    refine getmeth_ok I1 ea cl hm l ?_
    refine PySem.W.callWith_K (first := [.ref a]) (h₀ := X.base) I.ok.mod.kin hm.kp (thn (ha.run pos pins s1 σ H1 _ I1 q) fun us s2 ⟨vs, H2, I2, r2, q2⟩ => ⟨I2.kIn, ?_⟩) hst hpl
    exact run_fnX (us := .ref a :: us) (vs := .ref a :: vs) F.ok (dx.room.mono hj) dx.gd F.bd tk I2 (.cons rfl r2) q2
theorem qx_meth0 {pl : Sem Bool} (F : FX X.prog X.w X.K X.mg X.base G k f fd ps S) (dx : DX X G j) (hj : k ≤ j) (tk : Takes X (LW G W)) (he : PE X o (LE G w)) (cl : Cls X.K C) (hC : G.cls c = C) (hn : ∀ i, G.fld i ≠ m) (hm : Meth X.K C m f)
    (ht : eval (.Call (.Attribute o m apos) [] [] pos) X.env = (do
      let ov ← eval o X.env
      standAt apos.atName
      let (f, first) ← holding [ov] (getMethod ov m pl)
      callWith pos f first (backTo pos (starEach [] X.env)) (backToKw pos (keywordEach [] X.env))) := by rfl) : PE X (.Call (.Attribute o m apos) [] [] pos) (LE G (wMethX c S w wNil W)) := by
  refine ⟨fun pins s σ H Q I h => ?_⟩
  obtain ⟨F0, m0, δ, Q0, r, sr, h, kt⟩ := h
  refine PySem.W.methodCall_KW (pl := pl) (thn (he.run pins s σ H (fun x H1 => ∃ (a dx : Addr) (fs : List (Str × V)), x = .ref a ∧ H1 a = some (.ins C dx fs) ∧ fs.lookup m = none ∧ spX G S [.ref a] H1 Q fun cls d H' => LW G W cls d σ H') I ⟨F0, m0, δ, _, r, sr, h, fun d m1 v F1 H1 ⟨hf, h1⟩ e1 r1 v1 => ?_⟩) fun u s1 ⟨x, H1, I1, rx, a, dxx, fs, ex, ea, l, q⟩ => ?_) ht
  · obtain ⟨a, fs, rfl, rfl, em⟩ := hasF_ok v1 hf
    obtain ⟨_, u, hu, dx, fv, rfl, hfr⟩ := r1.mo a _ em
    exact ⟨a, dx, fv, rfl, by rw [← hC]; exact hu, lookup_fr hfr hn, F1, m1, [.ref a], Q0, _, r1, .cons (.ref a) .nil, h1, kt.mono e1, ktx_of sr e1⟩
  · subst ex
    obtain rfl : u = Value.ref a := rx
    refine getmeth_ok I1 ea cl hm l ?_
    exact PySem.W.callWith_K0 (first := [.ref a]) I1.kIn hm.kp (run_fnX (us := [.ref a]) (vs := [.ref a]) F.ok (dx.room.mono hj) dx.gd F.bd tk I1 (.cons rfl .nil) q)
end
end DL
namespace DL
open PySem PySem.Spec PyProof.Rows L2
theorem xinit_ok {P : Program} {w : World} {K : PySem.W.Frag} {mg : Str → Option Value} {base : Heap} {C fI : Addr} {f y qual : Str} {params : Arguments} {body : List Stmt} {scope : Scope} {fd : FuncData} (F : FunD K "__init__" qual params body scope [] [] fI fd) (S : FnScope ["self", y] ["self", y] scope)
    (hbody : ∀ (cdv : Value) (A : Around) (outer : List Env) (s : Shared) (H : Hp) (E : XK), PSs (cxOf CX0 P w K mg base ["self", y] qual scope fI cdv A outer s H E).nox body (tSeq (tDrop (EX.tBi K C (tCons (tVar 0) (tCons (tVar 1) tNil)))) (EX.tSt C f (tVar 0) (tVar 1)))) :
    FnG P w K mg base CX0 1 fI fd ["self", y] (EX.xSp C f) := by
  obtain ⟨oc, od, dV, kV, doc, pm, an, cdv, ct, osl, rfl, lk, hcd, _, _⟩ := F.ex
  refine fn_ofG lk hcd S (fun vs H Q E h => by obtain ⟨a, z, rfl, _⟩ := h; rfl) fun A outer s H vs Q E hr hG hsp => ?_
  obtain ⟨a, z, rfl, ea, goal⟩ := hsp
  refine ⟨_, (hbody cdv A outer s H E).nox, ?_⟩
  refine ⟨.ref a, rfl, z, rfl, a, [z], rfl, (show 1 ≤ 1000 from by decide), ea, z, rfl, .ref a, rfl, a, rfl, ea, fun dx n ne => goal dx n ne⟩
section
variable {X : Cx} {G : Gam} {j : Nat} {C fI : Addr} {f x y : Str} {fd : FuncData} {bm : List Value} {new B init : String} {e : Expr} {te : TE} {p pos : Pos}
/-- C(e), to be raised -/
theorem pmk_x (T : EX.XC X.K C fI bm new f) (Fb : ExcBaseFacts B new init bm) (F1 : FnG X.prog X.w X.K X.mg X.base CX0 1 fI fd ["self", y] (EX.xSp C f)) (dx : DX X G j) (hj : 2 ≤ j) (hb : Binds X.K fd ["self", y] []) (hg : Gl X x) (hm : X.mg x = some (.ref C)) (he : PE X e te)
    (hs : starEach [e] X.env = (false, eval e X.env) :: starEach [] X.env := by rfl) (hdb : (x == ("__debug__" : Str)) = false := by decide) :
    PMk X (.Call (.Name x p) [e] [] pos) (fun σ H Q => te σ H fun z H1 => ∀ d, H1 d = none → Q (.ref C) (some d) (upd H1 d (.xd [(f, z)]))) := by
  intro pins s σ H Q I h
  refine wpAny_Call_Name_kw (ld_glob I hg hm ?_ hdb)
  refine PySem.W.callWith_K (h₀ := X.base) I.ok.mod.kin T.kC ?_ hs (by rfl)
  rw [hs]
  show wpAny _ _ (spliced ((false, eval e X.env) :: backTo pos (starEach [] X.env))) _ _ s
  refine Calls.spliced_cons (thn (he.run pins s σ H _ I h) fun u s1 ⟨z, H1, I1, r1, q1⟩ => ?_)
  refine Calls.spliced_nil ⟨I1.kIn, ?_⟩
  show wpAny _ _ (call (.ref C) [u]) _ _ _
  obtain ⟨nm, N, qn, bs, bm', hdct, sn, sub, ab, col, dd, k0, k1, k2, k3, k5, hC, hT⟩ := PySem.W.excInit_of I1.kIn T.q
  obtain ⟨hp, g, dr, tk, os⟩ := s1
  have hsz : hp.objs.size ≤ hp.objs.size + 1 := Nat.le_succ _
  have hn : H1 (hp.objs.size + 1) = none := I1.hok.fresh hsz
  have kk : ∀ b o, hp.get? b = some o → ((hp.push (PySem.W.kdv_tup [u])).push (PySem.HandSPX.excO C hp.objs.size)).get? b = some o := fun b o z => Heap.get?_push_of_some _ (Heap.get?_push_of_some _ z)
  have here : ((hp.push (PySem.W.kdv_tup [u])).push (PySem.HandSPX.excO C hp.objs.size)).get? (hp.objs.size + 1) = some (PySem.HandSPX.excO C hp.objs.size) := by heap_get
  have I2 : Inv X pins σ (upd H1 (hp.objs.size + 1) (exo (hp.objs.size + 1) C none)) ⟨(hp.push (PySem.W.kdv_tup [u])).push (PySem.HandSPX.excO C hp.objs.size), g, dr, tk, os⟩ :=
    I1.laid (t' := tk) (a := hp.objs.size + 1) (o := exo (hp.objs.size + 1) C none) (h' := (hp.push (PySem.W.kdv_tup [u])).push (PySem.HandSPX.excO C hp.objs.size)) kk hsz (exo_ok here)
  have r2 : Vals [V.ref (hp.objs.size + 1), z] [Value.ref (hp.objs.size + 1), u] := .cons rfl (.cons r1 .nil)
  have hr : Room (1 + 1) X.A := dx.room.mono hj
  have hsp : EX.xSp C f [.ref (hp.objs.size + 1), z] (upd H1 (hp.objs.size + 1) (exo (hp.objs.size + 1) C none)) (fun v H2 => v = .non ∧ ∃ d, d ≠ hp.objs.size + 1 ∧ H1 d = none ∧ H2 = upd (upd (upd H1 (hp.objs.size + 1) (exo (hp.objs.size + 1) C none)) d (exd d [(f, z)])) (hp.objs.size + 1) (exo (hp.objs.size + 1) C (some d))) E0 :=
    ⟨_, z, rfl, upd_same, fun d hd ne => ⟨rfl, d, ne, by rw [upd_ne ne] at hd; exact hd, rfl⟩⟩
  refine wpAny_call (PySem.HandSPX.call_own Fb hT hC (PySem.W.looks_findIn I1.kIn T.iC) (fun self => PySem.W.bind_fn I1.kIn self T.tI) (show 1 ≤ sizeLine from by rw [sizeLine_eq]; decide)
    (codeAny_mono (F1.run _ X.stack _ _ ⟨[Value.ref (hp.objs.size + 1), u], []⟩ [Value.ref (hp.objs.size + 1), u] _ _ E0 (hr.make C [u] []) (guards_make dx.gd) (I2.env0.make C [u] []) (hb _ [Value.ref (hp.objs.size + 1), u] I2.kIn rfl) r2 hsp) fun rs s' hq => ?_))
  cases rs with
  | error er => exact False.elim hq
  | ok fl =>
    cases fl with
    | ret v' =>
      obtain ⟨v, H2, os2, bare2, un2, hok2, rv, ev, d, ne, hd1, rfl⟩ := hq
      subst ev
      obtain ⟨h2, g2, d2, t2, os'⟩ := s'
      have same : upd (L2.del (upd (upd (upd H1 (hp.objs.size + 1) (exo (hp.objs.size + 1) C none)) d (exd d [(f, z)])) (hp.objs.size + 1) (exo (hp.objs.size + 1) C (some d))) (hp.objs.size + 1)) d (.xd [(f, z)]) = upd H1 d (.xd [(f, z)]) := by
        funext b
        by_cases h1 : b = d
        · rw [h1, upd_same, upd_same]
        · rw [upd_ne h1, upd_ne h1]
          by_cases h2 : b = hp.objs.size + 1
          · rw [h2, del_same, hn]
          · rw [del_ne h2, upd_ne h2, upd_ne h1, upd_ne h2]
      refine ⟨rv, mk_end (fs := [(f, z)]) (raises_own T.exC T.tyC) I1 hsz kk un2 hok2 os2 bare2 upd_same (by rw [upd_ne ne, upd_same]) hd1 ?_⟩
      rw [same]
      exact q1 d hd1
    | next => exact False.elim hq
    | brk => exact False.elim hq
    | cont => exact False.elim hq
end
def wRaise (c i : Nat) (w : DE) (W : DW) : DS := fun _ δ m => w δ m fun d m1 => W c [(i, d)] δ m1
section
variable {X : Cx} {G : Gam} {e : Expr} {w : DE} {W : DW} {c i : Nat} {C : Addr} {f : Str} {pos : Pos}
theorem qs_raise (hc : X.calm = true) (tk : Takes X (LW G W)) (hC : G.cls c = C) (hf : G.fld i = f) (he : PMk X e (fun σ H Q => LE G w σ H fun z H1 => ∀ d, H1 d = none → Q (.ref C) (some d) (upd H1 d (.xd [(f, z)])))) : PS X (.Raise (some e) none pos) (LS G (wRaise c i w W)) :=
  PS.imp (ps_raise hc tk he) fun D σ H h => by
    obtain ⟨F, m, δ, D0, r, s, h, k⟩ := h
    refine ⟨F, m, δ, _, r, s, h, fun d m1 v F1 H1 h1 e1 r1 v1 dd hd => ?_⟩
    exact ⟨F1, m1, δ, c, [(i, d)], dd, [(f, v)], by rw [hC], rfl, upd_same, .cons ⟨hf.symm, v1⟩ .nil, r1.freeF hd, r1.freeM hd, r1.grow (Ex.new hd), s.mono e1, h1⟩
theorem SR.setN {K : PySem.W.Frag} {F : Hp} {σ : L2.St} {δ : Slots} (i : Nat) (h : SR K F σ δ) : SR K F (σ.set i none) (δ.set i none) := by
  refine ⟨by simp [h.len], fun j c q => ?_⟩
  by_cases e : i = j
  · subst e
    by_cases hl : i < δ.length
    · rw [List.getElem?_set_self hl] at q; cases q
    · rw [List.getElem?_eq_none (by simp; omega)] at q; cases q
  · rw [List.getElem?_set_ne e] at q ⊢
    exact h.at_ j c q
/-- an object of the abstract heap becomes one of the store -/
theorem Rel.adopt {F H : Hp} {m : Sto} {p : Addr} {o : MO} {u : HO} (r : Rel G F m H) (hF : F p = none) (hu : H p = some u) (q : MR G F o u) : Rel G F (put m p o) H where
  fl := r.fl
  ex := r.ex
  mo := fun b w e => by
    by_cases hb : b = p
    · subst hb
      rw [put_same] at e; cases e
      exact ⟨hF, u, hu, q⟩
    · rw [put_ne hb] at e
      exact r.mo b w e
def wTryK (i j : Nat) (Wc : Nat → Prop) (body : DW → DS) : DS := fun D δ m => body (fun c fs δ' m' => Wc c ∧ ∀ a dd, a ≠ dd → m' a = none → m' dd = none → D.nx (((δ'.set i (some (.ref a))).set j (some (.ref a))).set i none) (put (put m' dd (.exd fs)) a (.exo a c dd))) D δ m
theorem qs_tryK {n : Str} {j : Nat} {ce : Expr} {body suite : List Stmt} {b0 : Stmt} {pos pos' : Pos} {Wc : Nat → Prop} {wb : DW → DS} (hs : X.stack = X.env :: X.outer) (hf : X.env.frame = some X.env.locals) (hex : X.ex = []) (hN : X.N.Nodup) (hi : X.N[i]? = some n) (hln : X.env.kindOf n = some .local)
    (ht : ∀ c, Wc c → EX.Tst X ce (.ref (G.cls c)) true)
    (hb : ∀ (F0 : Hp) (W : DW) (pn : List (Addr × Obj)) (xe : Value → Shared → Prop), Ex G.flo F0 → Takes (X.tr pn xe) (LW (G.at F0) W) → PassesOwn (model X.prog X.w) X.A X.env xe → PSs (X.tr pn xe) body (LS (G.at F0) (wb W)))
    (hsu : ∀ (a : Addr) (oe : Obj) (pn : List (Addr × Obj)), PSs (X.suite a ((a, oe) :: pn)) (b0 :: suite) (tAsg (tVar i) (gName j))) :
    PS X (.Try body [.ExceptHandler (some ce) (some n) (b0 :: suite) pos'] [] [] pos) (LS G (wTryK i j Wc wb)) := by
  refine PS.imp (EX.ps_try_keep (j := j) (Wc := fun cls => ∃ c, Wc c ∧ cls = .ref (G.cls c)) (tb := fun W D σ H => ∃ (F0 : Hp) (W0 : DW), Ex G.flo F0 ∧ (∀ cls d σ H, LW (G.at F0) W0 cls d σ H → W cls d σ H) ∧ LS (G.at F0) (wb W0) D σ H) hs hf hex hN hi hln ?_ ?_ hsu) fun D σ H h => ?_
  · rintro cls ⟨c, hc, rfl⟩
    exact ht c hc
  · intro W pn xe tk pas
    exact ⟨fun pins s σ H D I ⟨F0, W0, hfl, hW, h⟩ => (hb F0 W0 pn xe hfl (tk.imp hW) pas).run pins s σ H D I h⟩
  · obtain ⟨F, m, δ, D0, r, s, h, k⟩ := h
    refine ⟨F, _, r.fl, fun cls d σ' H' z => ?_, F, m, δ, D0, r.up (Ex.refl F), s, h, k.up r.fl⟩
    obtain ⟨F', m', δ', c, fs, dd, fv, rfl, rfl, h1, h2, h3, h4, r', s', hc, goal⟩ := z
    refine ⟨⟨c, hc, rfl⟩, fun a ha => ?_⟩
    have ne : a ≠ dd := fun e => by rw [e, h1] at ha; cases ha
    have r1 : Rel G F' (put m' dd (.exd fs)) H' := (r'.un r.fl).adopt h3 h1 ⟨fv, rfl, h2⟩
    have r2 : Rel G F' (put (put m' dd (.exd fs)) a (.exo a c dd)) (upd H' a (EX.exv a (.ref (G.cls c)) (some dd))) := r1.newM ha rfl
    exact k.nx _ _ _ _ _ (goal a dd ne (r'.freeM ha) h4) r'.fl r2 (((s'.set i (.ref a)).set j (.ref a)).setN i)
/-- its field -/
def xfD (c i : Nat) (d : DV) (m : Sto) (Q : DK) : Prop := match d with
  | .ref p => match m p with
    | some (.exo a c' dd) => a = p ∧ c' = c ∧ match m dd with
      | some (.exd fs) => match lookN fs i with
        | some x => Q x m
        | none => False
      | _ => False
    | _ => False
  | _ => False
def wXf (c i : Nat) (w : DE) : DE := fun δ m Q => w δ m fun d m1 => xfD c i d m1 Q
theorem qe_xf {C fI : Addr} {bm : List Value} {new : String} (hi : G.Inj) (hC : G.cls c = C) (hf : G.fld i = f) (T : EX.XC X.K C fI bm new f) (he : PE X e (LE G w)) (hb : attributeBase e f X.env (eval e X.env) = eval e X.env := by rfl) : PE X (.Attribute e f pos) (LE G (wXf c i w)) :=
  PE.imp (EX.pe_xv T he hb) fun σ H Q h => by
    obtain ⟨F, m, δ, Q0, r, s, h, k⟩ := h
    refine ⟨F, m, δ, _, r, s, h, fun d m1 v F1 H1 h1 e1 r1 v1 => ?_⟩
    cases v1 <;> first | exact False.elim h1 | skip
    rename_i p
    unfold xfD at h1
    dsimp only at h1
    cases em : m1 p with
    | none => rw [em] at h1; exact False.elim h1
    | some o =>
      rw [em] at h1
      cases o <;> first | exact False.elim h1 | skip
      rename_i a c' dd
      obtain ⟨rfl, rfl, h1⟩ := h1
      cases ed : m1 dd with
      | none => rw [ed] at h1; exact False.elim h1
      | some o2 =>
        rw [ed] at h1
        cases o2 <;> first | exact False.elim h1 | skip
        rename_i fs
        dsimp only at h1
        cases el : lookN fs i with
        | none => rw [el] at h1; exact False.elim h1
        | some x =>
          rw [el] at h1
          obtain ⟨_, u, hu, rfl⟩ := r1.mo a _ em
          obtain ⟨_, u2, hu2, fv, rfl, hfr⟩ := r1.mo dd _ ed
          obtain ⟨y, hy, ry⟩ := FR.look hi hfr el
          rw [hf] at hy
          rw [hC] at hu
          exact ⟨a, dd, fv, y, rfl, hu, hu2, hy, k _ _ _ _ _ h1 e1 r1 ry⟩
/-- a wish that nothing is raised -/
theorem takesN : Takes X (LW G fun _ _ _ _ => False) := fun u s x => by
  obtain ⟨_, _, _, _, _, _, _, _, _, _, _, _, _, _, _, _, z⟩ := x
  obtain ⟨_, _, _, _, _, _, _, _, _, _, _, _, _, _, _, z⟩ := z
  exact z.elim
end
end DL
namespace DL
open PySem PySem.Spec PyProof.Rows L2
theorem bs_ValueError : EX.Bs "ValueError" "ValueError" "ValueError.__new__" "ValueError.__init__" [.type "ValueError", .type "Exception", .type "BaseException", .type "object"] :=
  ⟨PySem.F.excBase_ValueError, PySem.F.store_ValueError, PyProof.Rows.Boot.«ValueError», by kernel_rfl, by decide +kernel, by decide +kernel, by decide, by decide⟩
theorem bs_LookupError : EX.Bs "LookupError" "LookupError" "LookupError.__new__" "LookupError.__init__" [.type "LookupError", .type "Exception", .type "BaseException", .type "object"] :=
  ⟨PySem.F.excBase_LookupError, PySem.F.store_LookupError, PyProof.Rows.Boot.«LookupError», by kernel_rfl, by decide +kernel, by decide +kernel, by decide, by decide⟩
theorem bs_RuntimeError : EX.Bs "RuntimeError" "RuntimeError" "RuntimeError.__new__" "RuntimeError.__init__" [.type "RuntimeError", .type "Exception", .type "BaseException", .type "object"] :=
  ⟨PySem.F.excBase_RuntimeError, PySem.F.store_RuntimeError, PyProof.Rows.Boot.«RuntimeError», by kernel_rfl, by decide +kernel, by decide +kernel, by decide, by decide⟩
theorem vv_ValueError {K : PySem.W.Frag} : PySem.W.findCls K (.type "ValueError") (.type "type") "__init__" = some (.val (.builtin "ValueError.__init__")) := by kernel_rfl
theorem vv_LookupError {K : PySem.W.Frag} : PySem.W.findCls K (.type "LookupError") (.type "type") "__init__" = some (.val (.builtin "LookupError.__init__")) := by kernel_rfl
theorem vv_RuntimeError {K : PySem.W.Frag} : PySem.W.findCls K (.type "RuntimeError") (.type "type") "__init__" = some (.val (.builtin "RuntimeError.__init__")) := by kernel_rfl
theorem exm_two {K : PySem.W.Frag} {cls c1 c2 : Value} {b1 b2 : Bool} (h1 : PySem.W.exmOne K cls c1 = some b1) (h2 : PySem.W.exmOne K cls c2 = some b2) : PySem.W.exmAny K cls [c1, c2] = some (b1 || b2) := by
  unfold PySem.W.exmAny PySem.W.exmAny PySem.W.exmAny
  rw [h1, h2]
  simp
def rgC (lo c : Int) (n : Nat) : List DV := (List.range n).map fun i : Nat => .int (lo + (i : Int) * c)
theorem itc_ok {G : Gam} {F : Hp} {lo c : Int} {n : Nat} : ItOk G F (Itc lo c n) ⟨rgC lo c n, fun _ => True, none⟩ := by
  intro i F' m H e r _
  refine ⟨fun d hd => ?_, fun hd => ?_⟩
  · dsimp only at hd
    unfold rgC at hd
    rw [List.getElem?_map] at hd
    by_cases hi : i < n
    · rw [List.getElem?_range hi] at hd
      cases hd
      refine ⟨hi, fun x H' hy => ?_⟩
      obtain ⟨rfl, rfl⟩ := hy
      exact ⟨F', Ex.refl F', r, .int _⟩
    · rw [List.getElem?_eq_none (by simpa using hi)] at hd
      cases hd
  · dsimp only at hd
    have := List.getElem?_eq_none_iff.mp hd
    unfold rgC at this
    show n ≤ i
    simpa using this
def iRngD3 (t : DA) : DI := fun δ m R => t δ m fun ds m1 => match ds with
  | [.int i, .int j, .int c] => ∃ n, RgC i j c n ∧ R ⟨rgC i c n, fun _ => True, none⟩ m1
  | _ => False
theorem three_inv' {K : PySem.W.Frag} {F : Hp} {vs : List V} {a b c : DV} (h : VRs K F vs [a, b, c]) : ∃ x y z, vs = [x, y, z] ∧ VR K F x a ∧ VR K F y b ∧ VR K F z c := by
  cases h with
  | cons h1 t => cases t with
    | cons h2 t => cases t with
      | cons h3 t => cases t; exact ⟨_, _, _, rfl, h1, h2, h3⟩
theorem qi_range3 {X : Cx} {G : Gam} {tg e e2 e3 : Expr} {p pos : Pos} {wl : DA} (hg : Gl X "range") (hm : X.mg "range" = none) (ha : PA X [e, e2, e3] (LA G wl))
    (hs : starEach [e, e2, e3] X.env = (false, eval e X.env) :: starEach [e2, e3] X.env := by rfl) (hpl : (backTo pos (starEach [e2, e3] X.env)).any (·.1) = false := by rfl) : PI X tg (.Call (.Name "range" p) [e, e2, e3] [] pos) (LI X G (iRngD3 wl)) := by
  have base : PI X tg (.Call (.Name "range" p) [e, e2, e3] [] pos) (iRng3 (LA G wl)) := pi_range3 hg hm ha hs hpl
  refine ⟨fun pins s σ H R I h => base.run pins s σ H R I ?_⟩
  obtain ⟨F, m, δ, R0, r, sr, h, k⟩ := h
  refine ⟨F, m, δ, _, r, sr, h, fun ds m1 vs F1 H1 q e1 r1 v1 => ?_⟩
  match ds, q with
  | [.int i, .int j, .int c], q =>
    obtain ⟨u, v, w, rfl, ru, rv, rw'⟩ := three_inv' v1
    cases ru
    cases rv
    cases rw'
    obtain ⟨n, q1, q2⟩ := q
    exact ⟨i, j, c, n, rfl, q1, k _ _ _ _ _ q2 e1 r1 itc_ok fun pk e => by cases e⟩
def wJoin (wo we : DE) : DE := fun δ m Q => wo δ m fun x m1 => match x with
  | .str a => we δ m1 fun y m2 => ∃ ys : List Str, asQ m2 y = some (ys.map DV.str) ∧ (ys.map (·.length)).sum + ys.length * a.length ≤ 16777216 ∧ Q (.str (Txt.join a ys)) m2
  | _ => False
theorem qe_join {X : Cx} {G : Gam} {o e : Expr} {apos pos : Pos} {wo we : DE} (hK : X.K = G.K) (ho : PE X o (LE G wo)) (he : PE X e (LE G we)) (hs : starEach [e] X.env = [(false, eval e X.env)] := by rfl) (hbase : attributeBase o "join" X.env (eval o X.env) = eval o X.env := by rfl)
    (hline : (apos.endLine == pos.line) = true := by rfl) : PE X (.Call (.Attribute o "join" apos) [e] [] pos) (LE G (wJoin wo we)) :=
  PE.imp (pe_join ho he hs hbase hline) fun σ H Q h => by
    obtain ⟨F, m, δ, Q0, r, s, h, k⟩ := h
    refine ⟨F, m, δ, _, r, s, h, fun d m1 v F1 H1 h1 e1 r1 v1 => ?_⟩
    cases v1 <;> first | exact False.elim h1 | skip
    rename_i a
    refine ⟨⟨a, rfl⟩, F1, m1, δ, _, r1, s.mono e1, h1, fun y m2 z F2 H2 h2 e2 r2 v2 => ?_⟩
    obtain ⟨ys, h3, h4, h5⟩ := h2
    obtain ⟨p, vs, rfl, hq, rv⟩ := asQ_ok r2 v2 h3
    obtain rfl := rv.strs
    refine ⟨a, p, ys, rfl, rfl, ?_, h4, k _ _ _ _ _ h5 (e1.trans e2) r2 (.str _)⟩
    rw [hK]; exact hq
section
variable {prog : Program} {w : World} {A : Around} {E : Value → Shared → Prop} {s : Shared}
theorem star_draws {l : Addr} {its : Array Value} {n i : Nat} {Q : List Value → Shared → Prop} (ht : IsTup s.heap l its) (hh : A.handled = none) (hi : i + 1 = n) (hn : n ≤ its.size + 1) (hz : its.size ≤ 16384)
    (goal : ∀ h' tk, Heap.ExtBut s.heap.objs.size s.heap h' → Q (its.toList.take i ++ [.ref h'.objs.size]) ⟨h'.push { cls := .type "list", data := .seq (its.toList.drop i).toArray }, s.gens, s.drawn, tk, s.os⟩) : wpAny (model prog w) A (unpackItems (.ref l) n (some i)) Q E s := by
  have nel : l ≠ s.heap.objs.size := by obtain ⟨o, ho, _⟩ := ht; exact Nat.ne_of_lt (Heap.lt_size ho)
  unfold unpackItems
  refine wpAny_bind ?_
  unfold notIterableAtAll
  refine wpAny_bind (wpAny_specialOf ht.typeIs slot_tuple_iter.lookup (wpAny_pure ?_))
  simp only [Bool.false_eq_true, if_false]
  refine wpAny_bind (wpAny_holding (iter_tuple ht (wpAny_bind (wpAny_holding (draw_tuple nel i 0 _ _ ⟨_, Heap.get?_push_size _ rfl, rfl, rfl⟩ (ht.push _) (by omega) fun h1 it1 s1 => ?_)))))
  have t1 : IsTup h1 l its := (ht.push _).extBut s1.extBut nel
  rw [Nat.zero_add] at it1
  have it2 := it1
  have t2 := t1
  obtain ⟨oi, hoi, _⟩ := it2
  obtain ⟨ol, hol, _⟩ := t2
  rw [List.drop_zero]
  have lf : (its.toList.take i).length = i := by rw [List.length_take, Array.length_toList]; omega
  rw [if_neg (show ¬ ((its.toList.take i).length < i) by rw [lf]; omega)]
  refine wpAny_bind (wpAny_holding (PySem.W.kun_collect (s := { s with heap := h1 }) (T := "tuple_iterator") (.inr (.inr (.inr rfl))) (Walks.tuple (A := A.in1) hh s.heap.objs.size l nel its) (fun j u st => st.1.typeIs) (k := i) (by omega) ⟨it1, t1⟩ (Heap.lt_size hoi) (Heap.lt_size hol) (fun h2 tk hk => ?_) (by rw [sizeLine_eq]; omega)))
  have e0 : n - 1 - i = 0 := by omega
  rw [e0]
  show wpAny _ _ (if (its.toList.drop i).length < 0 then _ else _) _ _ _
  rw [if_neg (Nat.not_lt_zero _)]
  rw [Nat.sub_zero, List.take_length, List.drop_length]
  have ex : Heap.ExtBut s.heap.objs.size s.heap h2 := fun b o hb z => hk b o hb (s1.extBut b o hb (Heap.get?_push_of_some _ z))
  show wpAny _ _ (newList (its.toList.drop i) >>= fun d => pure (its.toList.take i ++ [d] ++ [])) _ _ _
  refine wpAny_bind (wpAny_newList (wpAny_pure ?_) (by rw [List.length_drop, Array.length_toList, sizeLine_eq]; omega))
  rw [List.append_nil]
  exact goal h2 tk ex
end
section
variable {X : Cx} {G : Gam} {k : Nat} {pos : Pos} {es es' : List Expr} {gs : DGs} {vs : List Nat}
def gStar (n : Nat) (gs : DGs) : DG := fun d δ m Q => match asT d with
  | some xs => n ≤ xs.length ∧ xs.length ≤ 16384 ∧ gs (xs.take n ++ [.lst (xs.drop n)]) δ m Q
  | none => False
theorem VRs.toL {K : PySem.W.Frag} {F : Hp} {us : List V} {ds : List DV} (n : Nat) {p : Addr} (h : VRs K F us ds) (hp : F p = some (.lst (us.drop n))) : VRs K F (us.take n ++ [.ref p]) (ds.take n ++ [.lst (ds.drop n)]) :=
  (h.take n).append (.cons (.lst (.inl hp) (h.drop n)) .nil)
theorem qg_star {n : Nat} (hK : X.K = G.K) (hc : X.calm = true) (h : PGs X es' (LGs G vs gs)) (hn : (assignEach es X.env).length = n + 1 := by rfl) (hst : (assignEach es X.env).findIdx? (·.1) = some n := by rfl)
    (hm : (assignEach es X.env).map (·.2) = (assignEach es' X.env).map (·.2) := by rfl) : PG X (.Tuple es k pos) (LG G vs (gStar n gs)) := by
  refine ⟨fun pins s σ H v u Q I rv h => ?_⟩
  obtain ⟨F, m, δ, d, Q0, r, sr, rd, h, kt⟩ := h
  unfold gStar at h
  cases ea : asT d with
  | none => rw [ea] at h; exact False.elim h
  | some xs =>
    rw [ea] at h
    obtain ⟨h1, h2, h3⟩ := h
    obtain ⟨a, us, rfl, hs, hr⟩ := asT_ok r rd ea
    obtain rfl : u = Value.ref a := rv
    have hs' : SqT X.K H a us := by rw [hK]; exact hs
    obtain ⟨its, rits, ht, hz⟩ := I.tuple hs'
    have e1 : its.length = xs.length := by rw [← rits.length, hr.length]
    rw [PyProof.Rows.assign_Tuple]
    refine wpAny_bind (wpAny_standAt ?_)
    unfold unpack
    rw [hn, hst]
    refine wpAny_bind (wpAny_holding (star_draws ht (I.ok.hd hc) rfl (by rw [List.size_toArray]; omega) (by rw [List.size_toArray]; omega) fun h' tk ex => ?_))
    rw [hm]
    have I2 : Inv X pins σ H { s with heap := h', toks := tk } := I.kept (t' := tk) fun b o z => ex b o (Nat.ne_of_lt (Heap.lt_size z)) z
    have rdrop : Vals (us.drop n) (its.drop n) := by
      have : ∀ {l : List V} {l2 : List Value} (j : Nat), Vals l l2 → Vals (l.drop j) (l2.drop j) := fun {l l2} j q => by
        induction q generalizing j with
        | nil => simp only [List.drop_nil]; exact .nil
        | @cons a b as bs q1 q2 ih =>
          cases j with
          | zero => exact .cons q1 q2
          | succ j => exact ih j
      exact this n rits
    have rtake : Vals (us.take n) (its.take n) := by
      have : ∀ {l : List V} {l2 : List Value} (j : Nat), Vals l l2 → Vals (l.take j) (l2.take j) := fun {l l2} j q => by
        induction q generalizing j with
        | nil => simp only [List.take_nil]; exact .nil
        | @cons a b as bs q1 q2 ih =>
          cases j with
          | zero => exact .nil
          | succ j => exact .cons q1 (ih j)
      exact this n rits
    have ld : (us.drop n).length ≤ sizeLine := by rw [List.length_drop, hr.length, sizeLine_eq]; omega
    have I3 := I2.lnew (t' := tk) rdrop ld
    have fr : H h'.objs.size = none := I2.fresh
    have r3 : Rel G (upd F h'.objs.size (.lst (us.drop n))) m (upd H h'.objs.size (.lst (us.drop n))) := r.data fr
    have xF : Ex F (upd F h'.objs.size (.lst (us.drop n))) := Ex.new (r.freeF fr)
    have key := ‹PGs X es' (LGs G vs gs)›.run pins _ σ _ (us.take n ++ [.ref h'.objs.size]) (its.take n ++ [.ref h'.objs.size]) Q I3 (rtake.append (.cons (show RelV (.ref _) (.ref _) from rfl) .nil)) ⟨_, m, δ, _, Q0, r3, sr.mono xF, (hr.mono xF).toL n upd_same, h3, fun δ2 m2 σ2 F2 H2 q e2 r2 s2 c2 => kt _ _ _ _ _ q (xF.trans e2) r2 s2 c2⟩
    simpa using key
end
def wPairs : List (Str × DE) → Slots → Sto → (List (Str × DV) → Sto → Prop) → Prop
  | [], _, m, Q => Q [] m
  | (k, w) :: r, δ, m, Q => w δ m fun d m1 => wPairs r δ m1 fun ps m2 => Q ((k, d) :: ps) m2
def wDisp (kws : List (Str × DE)) : DE := fun δ m Q => ∀ p, m p = none → wPairs kws δ (put m p (.dct [])) fun kvs m2 => m2 p = some (.dct []) ∧ Q (.ref p) (put m2 p (.dct (mergeD [] (kvD kvs))))
theorem wpairs_len : ∀ {kws : List (Str × DE)} {δ : Slots} {m : Sto} {Q : List (Str × DV) → Sto → Prop}, wPairs kws δ m Q → True := fun _ => trivial
theorem tp_any {X : Cx} {G : Gam} : ∀ {kws : List (Str × DE)} {F : Hp} {m : Sto} {H : Hp} {σ : L2.St} {δ : Slots} {P : List (V × V) → Hp → Prop} {Q : List (Str × DV) → Sto → Prop}, Rel G F m H → SR G.K F σ δ → wPairs kws δ m Q →
    (∀ (vs : List (Str × V)) (kvs : List (Str × DV)) m' F' H', vs.length = kws.length → Ex F F' → Rel G F' m' H' → Q kvs m' → Paired (fun (a : Str × V) (b : Str × DV) => a.1 = b.1 ∧ VR G.K F' a.2 b.2) vs kvs → P (vs.map fun a => (V.str a.1, a.2)) H') →
    tPairs (kws.map fun a => (LE G (wC (.str a.1)), LE G a.2)) σ H P
  | [], F, m, H, σ, δ, P, Q, r, s, h, q => q [] [] m F H rfl (Ex.refl F) r h .nil
  | a :: t, F, m, H, σ, δ, P, Q, r, s, h, q => by
    show LE G (wC (.str a.1)) σ H fun k H1 => LE G a.2 σ H1 fun v H2 => tPairs (t.map fun a => (LE G (wC (.str a.1)), LE G a.2)) σ H2 fun ps H3 => P ((k, v) :: ps) H3
    refine ⟨F, m, δ, fun d m' => d = .str a.1 ∧ m' = m, r, s, ⟨rfl, rfl⟩, fun d m1 v F1 H1 hh x1 r1 v1 => ?_⟩
    obtain ⟨rfl, rfl⟩ := hh
    cases v1
    refine ⟨F1, m1, δ, _, r1, s.mono x1, h, fun d m2 v F2 H2 hh x2 r2 v2 => ?_⟩
    exact tp_any (X := X) (kws := t) r2 (s.mono (x1.trans x2)) hh fun vs kvs m' F' H' hl x r' hq pr => q ((a.1, v) :: vs) ((a.1, d) :: kvs) m' F' H' (by rw [List.length_cons, List.length_cons, hl]) ((x1.trans x2).trans x) r' hq (.cons ⟨rfl, v2.mono x⟩ pr)
theorem qe_disp {X : Cx} {G : Gam} {pos : Pos} {keys : List (Option Expr)} {values : List Expr} {kws : List (Str × DE)} (hp : PPs X pos keys values (kws.map fun a => (LE G (wC (.str a.1)), LE G a.2)))
    (h1 : (keys.all fun x => x.isSome) = true) (h2 : keys.length = values.length) (h3 : keys ≠ []) (h4 : keys.length ≤ 15) (h5 : kws.length ≤ 15) : PE X (.Dict keys values pos) (LE G (wDisp kws)) :=
  PE.imp (pe_disp hp h1 h2 h3 h4) fun σ H Q h => by
    obtain ⟨F, m, δ, Q0, r, s, h, k⟩ := h
    intro p hH
    have r0 : Rel G F (put m p (.dct [])) (upd H p (.dK [])) := r.newM hH ⟨[], rfl, .nil⟩
    refine tp_any (X := X) r0 s (h p (r.freeM hH)) fun vs kvs m' F' H' hl x r' hq pr => ?_
    obtain ⟨hpd, hq⟩ := hq
    obtain ⟨_, u, hu, kv, rfl, hr⟩ := r'.mo p _ hpd
    cases hr
    refine ⟨hu, vs.map fun a => (Sum.inr a.1, a.2), ?_, ?_, ?_⟩
    · rw [List.map_map]; rfl
    · rw [List.length_map, hl]; exact h5
    · have hk : KR G.K F' (vs.map fun a => ((Sum.inr a.1 : Key), a.2)) (kvD kvs) := by
        clear hu r' r0 h hp h5 hl hq
        unfold kvD KR
        induction pr with
        | nil => exact .nil
        | cons a t ih => exact .cons ⟨congrArg Sum.inr a.1, a.2⟩ ih
      exact k _ _ _ _ _ hq x (r'.write hpd (o := .dct (mergeD [] (kvD kvs))) ⟨_, rfl, KR.merge (kvs := []) (ds := []) hk .nil .nil⟩) (.ref p)
def isxD (ans : List (Nat × Bool)) (d : DV) (m : Sto) (Q : DK) : Prop := match d with
  | .ref p => match m p with
    | some (.exo a c dd) => a = p ∧ (∃ fs, m dd = some (.exd fs)) ∧ ∃ b, ans.lookup c = some b ∧ Q (.bl b) m
    | _ => False
  | _ => False
def wIsx (ans : List (Nat × Bool)) (w : DE) : DE := fun δ m Q => w δ m fun d m1 => isxD ans d m1 Q
/-- what is known of the classes asked of -/
def IsxOk (K : PySem.W.Frag) (G : Gam) (cv : Value) (ans : List (Nat × Bool)) : Prop := ∀ c b, ans.lookup c = some b → ∃ fI bm new f, EX.XC K (G.cls c) fI bm new f ∧ PySem.W.kitOne K (.ref (G.cls c)) cv = some b
theorem IsxOk.nil {K : PySem.W.Frag} {G : Gam} {cv : Value} : IsxOk K G cv [] := fun c b h => by cases h
theorem IsxOk.cons {K : PySem.W.Frag} {G : Gam} {cv : Value} {ans : List (Nat × Bool)} {c : Nat} {b : Bool} {fI : Addr} {bm : List Value} {new : String} {f : Str} (T : EX.XC K (G.cls c) fI bm new f) (h : PySem.W.kitOne K (.ref (G.cls c)) cv = some b) (r : IsxOk K G cv ans) : IsxOk K G cv ((c, b) :: ans) := fun c' b' e => by
  rw [List.lookup_cons] at e
  by_cases hc : c' = c
  · subst hc
    rw [beq_self_eq_true] at e
    cases e
    exact ⟨_, _, _, _, T, h⟩
  · rw [beq_eq_false_iff_ne.mpr hc] at e
    exact r c' b' e
section
variable {X : Cx} {G : Gam} {e : Expr} {w : DE} {x : Str} {p p2 pos : Pos}
theorem isx_call {cv : Value} {ans : List (Nat × Bool)} {pins : List (Addr × Obj)} {σ : L2.St} {H : Hp} {s : Shared} {Q : VK} {u : Value} {F : Hp} {m : Sto} {d : DV} {v : V} {Q0 : DK} (ok : IsxOk X.K G cv ans) (I : Inv X pins σ H s) (rv : RelV v u) (r : Rel G F m H) (vr : VR G.K F v d) (h : isxD ans d m Q0) (k : Kt G F Q0 Q) :
    wpAny (model X.prog X.w) X.A (call (.builtin "isinstance") [u, cv]) (EP X pins σ Q) X.xe s := by
  cases vr <;> first | exact False.elim h | skip
  rename_i a0
  unfold isxD at h
  dsimp only at h
  cases em : m a0 with
  | none => rw [em] at h; exact False.elim h
  | some o =>
    rw [em] at h
    cases o <;> first | exact False.elim h | skip
    rename_i a c dd
    obtain ⟨rfl, ⟨fs, ed⟩, b, el, hq⟩ := h
    obtain ⟨fI, bm, new, f, T, hk⟩ := ok c b el
    obtain ⟨_, u1, hu1, rfl⟩ := r.mo a _ em
    obtain ⟨_, u2, hu2, fv, rfl, hfr⟩ := r.mo dd _ ed
    obtain rfl : u = Value.ref a := rv
    exact EX.exv_is T I hu1 hu2 hk fun tk => ⟨.bl b, H, I.kept (t' := tk) fun _ _ z => z, rfl, k _ _ _ _ _ hq (Ex.refl F) r (.bl _)⟩
def rIsx (X : Cx) (G : Gam) (cv : Value) (ans : List (Nat × Bool)) : List V → Hp → VK → Prop := fun xs H Q => ∃ v c, xs = [v, c] ∧ (∀ u, RelV c u → u = cv) ∧ ∃ F m d Q0, Rel G F m H ∧ VR G.K F v d ∧ isxD ans d m Q0 ∧ Kt G F Q0 Q
theorem call_isx {cv : Value} {ans : List (Nat × Bool)} (ok : IsxOk X.K G cv ans) : CallR X (.builtin "isinstance") (rIsx X G cv ans) := by
  intro pins s σ H xs us Q I r h
  obtain ⟨v, c, rfl, hc, F, m, d, Q0, rr, rv, h, k⟩ := h
  cases r with
  | cons r1 t =>
    cases t with
    | cons r2 t =>
      cases t
      rw [hc _ r2]
      exact isx_call ok I r1 rr rv h k
theorem le_isx {cv : Value} {ans : List (Nat × Bool)} {c : V} (hc : ∀ u, RelV c u → u = cv) {σ : L2.St} {H : Hp} {Q : VK} (h : LE G (wIsx ans w) σ H Q) : tCB (rIsx X G cv ans) (tCons (LE G w) (tCons (tC c) tNil)) σ H Q := by
  obtain ⟨F, m, δ, Q0, r, sr, h, k⟩ := h
  exact ⟨F, m, δ, _, r, sr, h, fun d m1 v F1 H1 h1 e1 r1 v1 => ⟨v, c, rfl, hc, F1, m1, d, Q0, r1, v1, h1, k.mono e1⟩⟩
theorem qe_isx {C : Addr} {ans : List (Nat × Bool)} (ok : IsxOk X.K G (.ref C) ans) (hg : Gl X "isinstance") (hm : X.mg "isinstance" = none) (hg2 : Gl X x) (hm2 : X.mg x = some (.ref C)) (he : PE X e (LE G w)) (hd2 : (x == ("__debug__" : Str)) = false := by decide)
    (hs : starEach [e, .Name x p2] X.env = (false, eval e X.env) :: starEach [.Name x p2] X.env := by rfl) (hs2 : starEach [.Name x p2] X.env = (false, eval (.Name x p2) X.env) :: starEach [] X.env := by rfl) (hpl : (backTo pos (starEach [.Name x p2] X.env)).any (·.1) = false := by rfl) :
    PE X (.Call (.Name "isinstance" p) [e, .Name x p2] [] pos) (LE G (wIsx ans w)) :=
  PE.imp (pe_callB (call_isx ok) hg hm boot_isinstance (L2.pa_cons he (L2.pa_cons (pe_glob (v := .ref C) hg2 hm2 rfl hd2) L2.pa_nil hs2) hs) (by decide) (by decide) hs hpl) fun σ H Q h => le_isx (c := .ref C) (cv := .ref C) (fun u z => z) h
theorem qe_isxB {T : String} {ans : List (Nat × Bool)} (ok : IsxOk X.K G (.type T) ans) (hg : Gl X "isinstance") (hm : X.mg "isinstance" = none) (hg2 : Gl X x) (hm2 : X.mg x = none) (hv : bootBuiltins x = some (.type T)) (he : PE X e (LE G w)) (hn2 : x ≠ "__name__" := by decide) (hd2 : (x == ("__debug__" : Str)) = false := by decide)
    (hs : starEach [e, .Name x p2] X.env = (false, eval e X.env) :: starEach [.Name x p2] X.env := by rfl) (hs2 : starEach [.Name x p2] X.env = (false, eval (.Name x p2) X.env) :: starEach [] X.env := by rfl) (hpl : (backTo pos (starEach [.Name x p2] X.env)).any (·.1) = false := by rfl) :
    PE X (.Call (.Name "isinstance" p) [e, .Name x p2] [] pos) (LE G (wIsx ans w)) :=
  PE.imp (pe_callB (call_isx ok) hg hm boot_isinstance (L2.pa_cons he (L2.pa_cons (pe_bltn (v := .ty T) hg2 hm2 hv rfl hn2 hd2) L2.pa_nil hs2) hs) (by decide) (by decide) hs hpl) fun σ H Q h => le_isx (c := .ty T) (cv := .type T) (fun u z => z) h
end
end DL
namespace DL
open PySem PySem.Spec PyProof.Rows L2
/-- a call's new own list as data -/
def wFz (w : DE) : DE := fun δ m Q => w δ m fun d m1 => frzL d m1 Q
theorem qe_fz {X : Cx} {G : Gam} {e : Expr} {w : DE} (h : PE X e (LE G w)) : PE X e (LE G (wFz w)) := PE.imp h fun σ H Q h => by
  obtain ⟨F, m, δ, Q0, r, s, h, k⟩ := h
  exact ⟨F, m, δ, _, r, s, h, fun d m1 v F1 H1 h1 e1 r1 v1 => frz_ok r1 v1 h1 (k.mono e1)⟩
end DL
namespace DL
open PySem PySem.Spec PyProof.Rows L2
/-- the store has these cells, at addresses that differ -/
def Cls (m : Sto) : List (Addr × MO) → Prop
  | [] => True
  | (a, o) :: L => m a = some o ∧ (∀ c ∈ L, c.1 ≠ a) ∧ Cls m L
namespace Cls
variable {m : Sto} {L : List (Addr × MO)} {a p : Addr} {o u : MO}
theorem mem : ∀ {L : List (Addr × MO)}, Cls m L → ∀ {a o}, (a, o) ∈ L → m a = some o
  | [], _, _, _, h => by cases h
  | (b, v) :: L, ⟨h1, _, h3⟩, a, o, h => by
    rcases List.mem_cons.mp h with e | e
    · cases e; exact h1
    · exact mem h3 e
theorem get (h : Cls m L) (i : Nat) (hi : L[i]? = some (a, o)) : m a = some o := h.mem (List.mem_of_getElem? hi)
theorem sub : ∀ {L : List (Addr × MO)} {m m' : Sto}, Cls m L → Sub m m' → Cls m' L
  | [], _, _, _, _ => trivial
  | (b, v) :: L, _, _, ⟨h1, h2, h3⟩, s => ⟨s _ _ h1, h2, sub h3 s⟩
theorem ne_of : ∀ {L : List (Addr × MO)}, Cls m L → m p = none → ∀ c ∈ L, c.1 ≠ p
  | L, h, hp, c, hc, e => by
    have := h.mem (a := c.1) (o := c.2) hc
    rw [e, hp] at this; cases this
theorem put_off : ∀ {L : List (Addr × MO)}, Cls m L → (∀ c ∈ L, c.1 ≠ p) → Cls (DL.put m p o) L
  | [], _, _ => trivial
  | (b, v) :: L, ⟨h1, h2, h3⟩, g => ⟨by rw [put_ne (g _ List.mem_cons_self)]; exact h1, h2, put_off h3 fun c hc => g c (List.mem_cons_of_mem _ hc)⟩
theorem rmv_off : ∀ {L : List (Addr × MO)}, Cls m L → (∀ c ∈ L, c.1 ≠ p) → Cls (DL.rmv m p) L
  | [], _, _ => trivial
  | (b, v) :: L, ⟨h1, h2, h3⟩, g => ⟨by rw [rmv_ne (g _ List.mem_cons_self)]; exact h1, h2, rmv_off h3 fun c hc => g c (List.mem_cons_of_mem _ hc)⟩
theorem new (h : Cls m L) (hp : m p = none) (o : MO) : Cls (DL.put m p o) ((p, o) :: L) := ⟨put_same, h.ne_of hp, h.put_off (h.ne_of hp)⟩
theorem put : ∀ {L : List (Addr × MO)}, Cls m L → ∀ (i : Nat) {a u} (o : MO), L[i]? = some (a, u) → Cls (DL.put m a o) (L.set i (a, o))
  | [], _, i, _, _, _, hi => by simp at hi
  | (b, v) :: L, ⟨h1, h2, h3⟩, 0, a, u, o, hi => by
    simp at hi; obtain ⟨rfl, rfl⟩ := hi
    exact ⟨put_same, h2, h3.put_off h2⟩
  | (b, v) :: L, ⟨h1, h2, h3⟩, i + 1, a, u, o, hi => by
    have hi' : L[i]? = some (a, u) := by simpa using hi
    have hm : (a, u) ∈ L := List.mem_of_getElem? hi'
    have hne : a ≠ b := h2 (a, u) hm
    refine ⟨by rw [put_ne (Ne.symm hne)]; exact h1, fun c hc => ?_, put h3 i o hi'⟩
    rcases List.mem_or_eq_of_mem_set hc with z | z
    · exact h2 c z
    · subst z; exact hne
theorem er : ∀ {L : List (Addr × MO)}, Cls m L → ∀ (i : Nat), Cls m (L.eraseIdx i)
  | [], _, _ => trivial
  | (b, v) :: L, ⟨h1, h2, h3⟩, 0 => h3
  | (b, v) :: L, ⟨h1, h2, h3⟩, i + 1 => ⟨h1, fun c hc => h2 c (List.mem_of_mem_eraseIdx hc), er h3 i⟩
theorem off : ∀ {L : List (Addr × MO)}, Cls m L → ∀ (i : Nat) {a o}, L[i]? = some (a, o) → ∀ c ∈ L.eraseIdx i, c.1 ≠ a
  | [], _, _, _, _, hi => by simp at hi
  | (b, v) :: L, ⟨h1, h2, h3⟩, 0, a, o, hi => by simp at hi; obtain ⟨rfl, rfl⟩ := hi; exact h2
  | (b, v) :: L, ⟨h1, h2, h3⟩, i + 1, a, o, hi => fun c hc => by
    have hi' : L[i]? = some (a, o) := by simpa using hi
    rcases List.mem_cons.mp (show c ∈ (b, v) :: L.eraseIdx i from hc) with z | z
    · subst z; exact fun e => h2 _ (List.mem_of_getElem? hi') e.symm
    · exact off h3 i hi' c z
theorem front (h : Cls m L) (i : Nat) (hi : L[i]? = some (a, o)) : Cls m ((a, o) :: L.eraseIdx i) := ⟨h.get i hi, h.off i hi, h.er i⟩
theorem rmv (h : Cls m L) (i : Nat) (hi : L[i]? = some (a, o)) : Cls (DL.rmv m a) (L.eraseIdx i) := (h.er i).rmv_off (h.off i hi)
theorem ne (h : Cls m L) (i j : Nat) (hi : L[i]? = some (a, o)) (hj : L[j]? = some (p, u)) (hij : (i == j) = false) : a ≠ p := by
  rintro rfl
  have e := h.off i hi
  have hne : i ≠ j := by simpa using hij
  refine e (a, u) ?_ rfl
  rw [List.mem_eraseIdx_iff_getElem?]
  exact ⟨j, Ne.symm hne, hj⟩
end Cls
/-- the store keeps all of the block k, and has these cells beside it -/
structure St (k m : Sto) (L : List (Addr × MO)) : Prop where
  cl : Cls m L
  kp : Sub k m
  of : ∀ c ∈ L, k c.1 = none
namespace St
variable {k m : Sto} {L : List (Addr × MO)} {a p : Addr} {o u : MO}
theorem get (h : St k m L) (i : Nat) (hi : L[i]? = some (a, o)) : m a = some o := h.cl.get i hi
theorem getk (h : St k m L) (e : k a = some o) : m a = some o := h.kp _ _ e
theorem sub {m' : Sto} (h : St k m L) (s : Sub m m') : St k m' L := ⟨h.cl.sub s, h.kp.trans s, h.of⟩
theorem fre (h : St k m L) (e : m p = none) : k p = none := by
  cases z : k p with
  | none => rfl
  | some o => rw [h.kp _ _ z] at e; cases e
theorem new (h : St k m L) (hp : m p = none) (o : MO) : St k (DL.put m p o) ((p, o) :: L) := ⟨h.cl.new hp o, h.kp.trans (.put hp), fun c hc => by
  rcases List.mem_cons.mp hc with z | z
  · subst z; exact h.fre hp
  · exact h.of c z⟩
theorem put (h : St k m L) (i : Nat) {a u} (o : MO) (hi : L[i]? = some (a, u)) : St k (DL.put m a o) (L.set i (a, o)) := ⟨h.cl.put i o hi, .put2 (h.of (a, u) (List.mem_of_getElem? hi)) h.kp, fun c hc => by
  rcases List.mem_or_eq_of_mem_set hc with z | z
  · exact h.of c z
  · subst z; exact h.of (a, u) (List.mem_of_getElem? hi)⟩
theorem er (h : St k m L) (i : Nat) : St k m (L.eraseIdx i) := ⟨h.cl.er i, h.kp, fun c hc => h.of c (List.mem_of_mem_eraseIdx hc)⟩
theorem front (h : St k m L) (i : Nat) (hi : L[i]? = some (a, o)) : St k m ((a, o) :: L.eraseIdx i) := ⟨h.cl.front i hi, h.kp, fun c hc => by
  rcases List.mem_cons.mp hc with z | z
  · subst z; exact h.of (a, o) (List.mem_of_getElem? hi)
  · exact h.of c (List.mem_of_mem_eraseIdx z)⟩
theorem rmv (h : St k m L) (i : Nat) (hi : L[i]? = some (a, o)) : St k (DL.rmv m a) (L.eraseIdx i) := ⟨h.cl.rmv i hi, .rmv (h.of (a, o) (List.mem_of_getElem? hi)) h.kp, fun c hc => h.of c (List.mem_of_mem_eraseIdx hc)⟩
theorem ne (h : St k m L) (i j : Nat) (hi : L[i]? = some (a, o)) (hj : L[j]? = some (p, u)) (hij : (i == j) = false) : a ≠ p := h.cl.ne i j hi hj hij
theorem nil (h : St k m L) : St k m [] := ⟨trivial, h.kp, fun c hc => absurd hc List.not_mem_nil⟩
theorem refl (m : Sto) : St m m [] := ⟨trivial, .refl _, fun c hc => absurd hc List.not_mem_nil⟩
theorem cut (h : St k m L) (e : k a = some o) : St (DL.rmv k a) m ((a, o) :: L) := ⟨⟨h.kp _ _ e, (fun c hc z => by
    have := h.of c hc
    rw [z, e] at this; cases this), h.cl⟩, fun x y g => by
    by_cases z : x = a
    · subst z; rw [rmv_same] at g; cases g
    · rw [rmv_ne z] at g; exact h.kp _ _ g, fun c hc => by
    rcases List.mem_cons.mp hc with z | z
    · subst z; exact rmv_same
    · by_cases y : c.1 = a
      · rw [y]; exact rmv_same
      · rw [rmv_ne y]; exact h.of c z⟩
theorem pure {S : DSp} {ds : List DV} {k : Sto} {v : DV} (h : ∀ (k' m : Sto) (Q : DK), Sub k k' → St k' m [] → (∀ m', St k' m' [] → Q v m') → S ds m Q) : PuS S ds k v := fun m Q s q => h m m Q s (.refl m) fun m' I => q m' I.kp
end St
theorem forGo_nil {it : DIt} {g : DG} {tb : DS} {D : DEnds} {δ : Slots} {m : Sto} (h1 : it.st m) (h2 : it.fin m (D.nx δ)) : forGo it g tb D [] δ m := ⟨h1, h2⟩
theorem put_none {m : Sto} {a b : Addr} (h : a ≠ b) (o : MO) (e : m a = none) : put m b o a = none := by rw [put_ne h]; exact e
theorem SXxor (a b u v : Bool) (h : a = u) (g : b = v) : Bool.xor a b = (u != v) := by subst h g; cases a <;> cases b <;> rfl
theorem SXnot (a u : Bool) (h : a = u) : (!a) = !u := by rw [h]
theorem SXand (a b u v : Bool) (h : a = u) (g : b = v) : (a && b) = (u && v) := by rw [h, g]
theorem SXand0 (a b : Bool) (h : a = false) : (a && b) = false := by rw [h]; rfl
theorem SXand1 (a b : Bool) (h : b = false) : (a && b) = false := by rw [h, Bool.and_false]
theorem SXor (a b u v : Bool) (h : a = u) (g : b = v) : (a || b) = (u || v) := by rw [h, g]
theorem SXor0 (a b : Bool) (h : a = true) : (a || b) = true := by rw [h]; rfl
theorem SXor1 (a b : Bool) (h : b = true) : (a || b) = true := by rw [h, Bool.or_true]
theorem SXcas {b : Bool} {A B : Prop} (h1 : b = true → A) (h0 : b = false → B) : if b = true then A else B := by
  cases b with
  | true => exact h1 rfl
  | false => exact h0 rfl
theorem SXff (b : Bool) (h : b = false) : ¬ b = true := by rw [h]; decide
theorem go_gen {k m : Sto} {L : List (Addr × MO)} {P : Sto → Prop} (h : St k m L) (g : ∀ m', St k m' L → P m') : P m := g m h
end DL
namespace DL
open PySem PySem.Spec PyProof.Rows L2
/-- a loop by what holds before each turn -/
theorem fx_forI {it : DIt} {g : DG} {tb : DS} {D : DEnds} {δ : Slots} {m : Sto} (I : Nat → Slots → Sto → Prop) (hl : it.lk = none) (hst : ∀ i δ m, I i δ m → it.st m) (h0 : I 0 δ m)
    (hs : ∀ i y δ m (D' : DEnds), it.items[i]? = some y → I i δ m → (∀ v m', D.rt v m' → D'.rt v m') → (∀ δ' m', I (i + 1) δ' m' → D'.nx δ' m') → (∀ δ' m', I (i + 1) δ' m' → D'.ct δ' m') → (∀ δ' m', D.nx δ' m' → D'.bk δ' m') → g y δ m fun δ1 m1 => tb D' δ1 m1)
    (he : ∀ δ m, I it.items.length δ m → D.nx δ m) : forGo it g tb D it.items δ m := by
  have fin : ∀ (m2 : Sto) (k : Sto → Prop), k m2 → it.fin m2 k := fun m2 k hk => by unfold DIt.fin; rw [hl]; exact hk
  have key : ∀ (ys : List DV) (i : Nat) (δ : Slots) (m : Sto), it.items.drop i = ys → i ≤ it.items.length → I i δ m → forGo it g tb D ys δ m := fun ys => by
    induction ys with
    | nil =>
      intro i δ m e hi h
      have : i = it.items.length := by
        have := List.drop_eq_nil_iff.mp e
        omega
      subst this
      exact ⟨hst _ _ _ h, fin _ _ (he _ _ h)⟩
    | cons y ys ih =>
      intro i δ m e hi h
      obtain ⟨e1, e2⟩ := getElem_drop_cons e
      have hlt : i < it.items.length := (List.getElem?_eq_some_iff.mp e1).1
      refine ⟨hst _ _ _ h, hs i y δ m _ e1 h (fun v m' q => fin _ _ q) (fun δ' m' q => ih (i + 1) δ' m' e2 hlt q) (fun δ' m' q => ih (i + 1) δ' m' e2 hlt q) fun δ' m' q => fin _ _ q⟩
  exact key _ 0 δ m (List.drop_zero) (Nat.zero_le _) h0
/-- a comprehension, one answer to each item -/
theorem lc_run {k : Sto} {L : List (Addr × MO)} {it : DIt} {g : DG} {te : DE} {δ : Slots} {D : Addr} {fin : List DV → Sto → Prop} (f : DV → DV) (hl : it.lk = none) (hst : ∀ m acc, St k m ((D, .lst acc) :: L) → it.st m)
    (hs : ∀ x ∈ it.items, ∀ acc m (K : DK), St k m ((D, .lst acc) :: L) → (∀ m', St k m' ((D, .lst acc) :: L) → K (f x) m') → g x δ m fun δ2 m2 => te δ2 m2 K)
    {m : Sto} (h0 : St k m ((D, .lst []) :: L)) (hz : it.items.length ≤ sizeLine) (hf : ∀ m', St k m' ((D, .lst (it.items.map f)) :: L) → fin (it.items.map f) m') : lcGo it g wYes te δ D fin it.items [] m := by
  have key : ∀ (xs : List DV) (acc : List DV) (m : Sto), (∀ x ∈ xs, x ∈ it.items) → acc.length + xs.length ≤ sizeLine → acc ++ xs.map f = it.items.map f → St k m ((D, .lst acc) :: L) → lcGo it g wYes te δ D fin xs acc m := fun xs => by
    induction xs with
    | nil =>
      intro acc m hx hz e h
      rw [List.map_nil, List.append_nil] at e
      refine ⟨hst _ _ h, h.get 0 rfl, ?_⟩
      unfold DIt.fin
      rw [hl, e]
      exact hf _ (by rw [← e]; exact h)
    | cons x xs ih =>
      intro acc m hx hz e h
      have hz' : acc.length + (xs.length + 1) ≤ sizeLine := hz
      refine ⟨hst _ _ h, hs x (hx _ List.mem_cons_self) acc m _ h fun m' h' => ?_⟩
      refine ⟨h'.get 0 rfl, by omega, ?_⟩
      refine ih _ _ (fun y hy => hx y (List.mem_cons_of_mem _ hy)) ?_ ?_ (h'.put 0 _ rfl)
      · rw [List.length_append, List.length_singleton]; omega
      · rw [List.append_assoc]; exact e
  exact key _ [] m (fun x hx => hx) (by rw [List.length_nil]; omega) (List.nil_append _) h0
/-- the same, of a walk of data that stays data -/
theorem lc_all {k : Sto} {L : List (Addr × MO)} {xs : List DV} {st : Sto → Prop} {g : DG} {te : DE} {δ : Slots} {D : Addr} {Q : DK} (f : DV → DV) (hst : ∀ m acc, St k m ((D, .lst acc) :: L) → st m)
    (hs : ∀ x ∈ xs, ∀ acc m (K : DK), St k m ((D, .lst acc) :: L) → (∀ m', St k m' ((D, .lst acc) :: L) → K (f x) m') → g x δ m fun δ2 m2 => te δ2 m2 K)
    {m : Sto} (h0 : St k m ((D, .lst []) :: L)) (hz : xs.length ≤ sizeLine) (hf : ∀ m', St k m' L → Q (.lst (xs.map f)) m') : lcGo ⟨xs, st, none⟩ g wYes te δ D (lcFin false D Q) xs [] m :=
  lc_run (it := ⟨xs, st, none⟩) f rfl hst hs h0 hz fun m' h => hf _ (h.rmv 0 rfl)
mutual
def lfB : DV → Bool
  | .non => true
  | .bl _ => true
  | .int i => decide (i.natAbs < 10 ^ 41)
  | .str x => PyData.strOk x && decide (x.cps.size ≤ 64)
  | .ref _ => false
  | .lst xs => lfA xs
  | .tup xs => lfA xs
  | .ktup xs => lfA xs
  | .klst xs => lfA xs
def lfA : List DV → Bool
  | [] => true
  | x :: xs => lfB x && lfA xs
end
mutual
def wtD : DV → Nat
  | .str _ => 64
  | .lst xs => wtA xs
  | .tup xs => wtA xs
  | .ktup xs => wtA xs
  | .klst xs => wtA xs
  | _ => 0
def wtA : List DV → Nat
  | [] => 0
  | x :: xs => wtD x + 1 + wtA xs
end
mutual
def dpD : DV → Nat
  | .lst xs => dpA xs + 1
  | .tup xs => dpA xs + 1
  | .ktup xs => dpA xs + 1
  | .klst xs => dpA xs + 1
  | _ => 1
def dpA : List DV → Nat
  | [] => 0
  | x :: xs => max (dpD x) (dpA xs)
end
structure RP (n B : Nat) (p : PyData) : Prop where
  lay : p.canLay0 = true
  dep : p.depth ≤ n
  shw : p.showable = true
  sho : p.intsShort 50 = true
  blk : p.bulk ≤ B
structure RPs (n B : Nat) (ps : List PyData) : Prop where
  lay : PyData.canLayAll0 ps = true
  dep : PyData.depthAll ps ≤ n
  shw : PyData.showableAll ps = true
  sho : PyData.intsShortAll 50 ps = true
  blk : PyData.bulkAll ps ≤ B
theorem shown_len {i : Int} (h : i.natAbs < 10 ^ 41) : (PyData.int i).shown.length ≤ 50 := by
  rw [PyData.shown.eq_3, PyProof.Rows.ofString_length]
  have nat : ∀ n : Nat, n < 10 ^ 41 → (Nat.repr n).toList.length ≤ 41 := fun n hn => by
    have := (Nat.length_toDigits_le_iff (b := 10) (n := n) (k := 41) (by decide) (by decide)).mpr hn
    unfold Nat.repr
    simpa using this
  cases i with
  | ofNat n =>
    have := nat n h
    show (Nat.repr n).toList.length ≤ 50
    omega
  | negSucc n =>
    have := nat (n + 1) h
    show ("-" ++ Nat.repr (n + 1)).toList.length ≤ 50
    rw [String.toList_append, List.length_append]
    show 1 + _ ≤ 50
    omega
theorem rp_list {n B : Nat} {ps : List PyData} (h : RPs n B ps) : RP (n + 1) B (.list ps) := ⟨by simp only [PyData.canLay0]; exact h.lay, by simp only [PyData.depth]; have := h.dep; omega, by simp only [PyData.showable]; exact h.shw, by simp only [PyData.intsShort]; exact h.sho, by simp only [PyData.bulk]; exact h.blk⟩
theorem rp_tuple {n B : Nat} {ps : List PyData} (h : RPs n B ps) : RP (n + 1) B (.tuple ps) := ⟨by simp only [PyData.canLay0]; exact h.lay, by simp only [PyData.depth]; have := h.dep; omega, by simp only [PyData.showable]; exact h.shw, by simp only [PyData.intsShort]; exact h.sho, by simp only [PyData.bulk]; exact h.blk⟩
mutual
theorem rp_of : ∀ (d : DV), lfB d = true → ∃ p, py d = some p ∧ RP (dpD d) (wtD d) p
  | .non, _ => ⟨.none, by simp only [py], ⟨by simp only [PyData.canLay0], by simp only [PyData.depth]; exact Nat.zero_le _, by simp only [PyData.showable], by simp only [PyData.intsShort], by simp only [PyData.bulk]; exact Nat.zero_le _⟩⟩
  | .bl b, _ => ⟨.bool b, by simp only [py], ⟨by simp only [PyData.canLay0], by simp only [PyData.depth]; exact Nat.zero_le _, by simp only [PyData.showable], by simp only [PyData.intsShort], by simp only [PyData.bulk]; exact Nat.zero_le _⟩⟩
  | .int i, h => by
    have h : i.natAbs < 10 ^ 41 := by simpa only [lfB, decide_eq_true_eq] using h
    refine ⟨.int i, by simp only [py], ⟨by simp only [PyData.canLay0], by simp only [PyData.depth]; exact Nat.zero_le _, ?_, ?_, by simp only [PyData.bulk]; exact Nat.zero_le _⟩⟩
    · simp only [PyData.showable, decide_eq_true_eq]
      have h2 : i.natAbs < 2 ^ 140 := by
        have : (10 : Nat) ^ 41 < 2 ^ 140 := by decide
        omega
      by_cases h0 : i.natAbs = 0
      · rw [h0]; decide
      · have := (Nat.log2_lt h0).mpr h2
        omega
    · simp only [PyData.intsShort, decide_eq_true_eq]
      exact shown_len h
  | .str x, h => by
    have h : (PyData.strOk x && decide (x.cps.size ≤ 64)) = true := by simpa only [lfB] using h
    rw [Bool.and_eq_true] at h
    have h2 := of_decide_eq_true h.2
    refine ⟨.str x, by simp only [py], ⟨by simp only [PyData.canLay0]; exact h.1, by simp only [PyData.depth]; exact Nat.zero_le _, by simp only [PyData.showable], by simp only [PyData.intsShort], ?_⟩⟩
    simp only [PyData.bulk, wtD]
    exact h2
  | .ref a, h => by simp only [lfB] at h; exact Bool.noConfusion h
  | .lst xs, h => by
    obtain ⟨ps, e, r⟩ := rp_all xs (by simpa only [lfB] using h)
    exact ⟨.list ps, by simp only [py, e]; rfl, by simp only [dpD, wtD]; exact rp_list r⟩
  | .tup xs, h => by
    obtain ⟨ps, e, r⟩ := rp_all xs (by simpa only [lfB] using h)
    exact ⟨.tuple ps, by simp only [py, e]; rfl, by simp only [dpD, wtD]; exact rp_tuple r⟩
  | .ktup xs, h => by
    obtain ⟨ps, e, r⟩ := rp_all xs (by simpa only [lfB] using h)
    exact ⟨.tuple ps, by simp only [py, e]; rfl, by simp only [dpD, wtD]; exact rp_tuple r⟩
  | .klst xs, h => by
    obtain ⟨ps, e, r⟩ := rp_all xs (by simpa only [lfB] using h)
    exact ⟨.list ps, by simp only [py, e]; rfl, by simp only [dpD, wtD]; exact rp_list r⟩
theorem rp_all : ∀ (ds : List DV), lfA ds = true → ∃ ps, pys ds = some ps ∧ RPs (dpA ds) (wtA ds) ps
  | [], _ => ⟨[], by simp only [pys], ⟨by simp only [PyData.canLayAll0], by simp only [PyData.depthAll]; exact Nat.zero_le _, by simp only [PyData.showableAll], by simp only [PyData.intsShortAll], by simp only [PyData.bulkAll]; exact Nat.zero_le _⟩⟩
  | x :: xs, h => by
    have h : lfB x = true ∧ lfA xs = true := by simpa only [lfA, Bool.and_eq_true] using h
    obtain ⟨p, e, r⟩ := rp_of x h.1
    obtain ⟨ps, e1, r1⟩ := rp_all xs h.2
    refine ⟨p :: ps, by simp only [pys, e, e1], ⟨by simp only [PyData.canLayAll0, r.lay, r1.lay]; rfl, ?_, by simp only [PyData.showableAll, r.shw, r1.shw]; rfl, by simp only [PyData.intsShortAll, r.sho, r1.sho]; rfl, ?_⟩⟩
    · simp only [PyData.depthAll, dpA]
      have := r.dep; have := r1.dep; omega
    · simp only [PyData.bulkAll, wtA]
      have := r.blk; have := r1.blk; omega
end
theorem asPy_py {m : Sto} {d : DV} {p : PyData} (h : py d = some p) : asPy m d = some p := by
  cases d with
  | ref a => simp only [py] at h; cases h
  | lst xs => simp only [py] at h; exact h
  | klst xs => simp only [py] at h; exact h
  | _ => exact h
theorem repr_ok {d : DV} (h : lfB d = true) (hw : wtD d ≤ 250000) (hd : dpD d ≤ 50) : ∃ t : Str, ∀ (m : Sto) (Q : DK), Q (.str t) m → dRepr [d] m Q := by
  obtain ⟨p, e, r⟩ := rp_of d h
  refine ⟨p.shown, fun m Q q => ⟨p, asPy_py e, ?_, r.shw, ?_, q⟩⟩
  · unfold SeqAt.shaped
    rw [r.lay, Bool.true_and]
    refine decide_eq_true ?_
    have := r.dep
    omega
  · have h1 := PyData.shown_le_bulk 50 (by decide) p (PyData.leavesShort_of_canLay0 50 p r.lay r.sho)
    have h2 : p.bulk ≤ 250000 := Nat.le_trans r.blk hw
    have := sizeLine_eq
    omega
/-- repr(x) == repr(x) -/
theorem go_repr2 {d : DV} {δ : Slots} {m : Sto} {Q : DK} {i j : Nat} (h : lfB d = true) (hw : wtD d ≤ 250000) (hd : dpD d ≤ 50) (hi : δ[i]? = some (some d)) (hj : δ[j]? = some (some d)) (q : Q (.bl true) m) :
    wOp (dEq false) (wB dRepr (wCons (wVar i) wNil)) (wB dRepr (wCons (wVar j) wNil)) δ m Q := by
  obtain ⟨t, ht⟩ := repr_ok h hw hd
  show wVar i δ m fun x m1 => _
  unfold wVar
  rw [hi]
  show dRepr [d] m _
  refine ht m _ ?_
  show wVar j δ m fun x m1 => _
  unfold wVar
  rw [hj]
  show dRepr [d] m _
  refine ht m _ ?_
  show dEq false (.str t) (.str t) m Q
  unfold dEq
  simp only [scEq]
  simpa using q
end DL
namespace DL
open PySem PySem.Spec PyProof.Rows L2
namespace St
variable {k m : Sto} {L : List (Addr × MO)} {c0 c1 c2 c3 c4 c5 c6 c7 c8 c9 : Addr × MO} {p : Addr} {xs : List DV} {o : MO}
theorem f1 (h : DL.St k m (c0 :: c1 :: L)) : DL.St k m (c1 :: c0 :: L) := h.front (a := c1.1) (o := c1.2) 1 rfl
theorem f2 (h : DL.St k m (c0 :: c1 :: c2 :: L)) : DL.St k m (c2 :: c0 :: c1 :: L) := h.front (a := c2.1) (o := c2.2) 2 rfl
theorem f3 (h : DL.St k m (c0 :: c1 :: c2 :: c3 :: L)) : DL.St k m (c3 :: c0 :: c1 :: c2 :: L) := h.front (a := c3.1) (o := c3.2) 3 rfl
theorem f4 (h : DL.St k m (c0 :: c1 :: c2 :: c3 :: c4 :: L)) : DL.St k m (c4 :: c0 :: c1 :: c2 :: c3 :: L) := h.front (a := c4.1) (o := c4.2) 4 rfl
theorem f5 (h : DL.St k m (c0 :: c1 :: c2 :: c3 :: c4 :: c5 :: L)) : DL.St k m (c5 :: c0 :: c1 :: c2 :: c3 :: c4 :: L) := h.front (a := c5.1) (o := c5.2) 5 rfl
theorem f6 (h : DL.St k m (c0 :: c1 :: c2 :: c3 :: c4 :: c5 :: c6 :: L)) : DL.St k m (c6 :: c0 :: c1 :: c2 :: c3 :: c4 :: c5 :: L) := h.front (a := c6.1) (o := c6.2) 6 rfl
theorem f7 (h : DL.St k m (c0 :: c1 :: c2 :: c3 :: c4 :: c5 :: c6 :: c7 :: L)) : DL.St k m (c7 :: c0 :: c1 :: c2 :: c3 :: c4 :: c5 :: c6 :: L) := h.front (a := c7.1) (o := c7.2) 7 rfl
theorem f8 (h : DL.St k m (c0 :: c1 :: c2 :: c3 :: c4 :: c5 :: c6 :: c7 :: c8 :: L)) : DL.St k m (c8 :: c0 :: c1 :: c2 :: c3 :: c4 :: c5 :: c6 :: c7 :: L) := h.front (a := c8.1) (o := c8.2) 8 rfl
theorem f9 (h : DL.St k m (c0 :: c1 :: c2 :: c3 :: c4 :: c5 :: c6 :: c7 :: c8 :: c9 :: L)) : DL.St k m (c9 :: c0 :: c1 :: c2 :: c3 :: c4 :: c5 :: c6 :: c7 :: c8 :: L) := h.front (a := c9.1) (o := c9.2) 9 rfl
theorem d0 (h : DL.St k m (c0 :: L)) : DL.St k m L := h.er 0
theorem d1 (h : DL.St k m (c0 :: c1 :: L)) : DL.St k m (c0 :: L) := h.er 1
theorem d2 (h : DL.St k m (c0 :: c1 :: c2 :: L)) : DL.St k m (c0 :: c1 :: L) := h.er 2
theorem d3 (h : DL.St k m (c0 :: c1 :: c2 :: c3 :: L)) : DL.St k m (c0 :: c1 :: c2 :: L) := h.er 3
theorem d4 (h : DL.St k m (c0 :: c1 :: c2 :: c3 :: c4 :: L)) : DL.St k m (c0 :: c1 :: c2 :: c3 :: L) := h.er 4
theorem d5 (h : DL.St k m (c0 :: c1 :: c2 :: c3 :: c4 :: c5 :: L)) : DL.St k m (c0 :: c1 :: c2 :: c3 :: c4 :: L) := h.er 5
theorem d6 (h : DL.St k m (c0 :: c1 :: c2 :: c3 :: c4 :: c5 :: c6 :: L)) : DL.St k m (c0 :: c1 :: c2 :: c3 :: c4 :: c5 :: L) := h.er 6
theorem d7 (h : DL.St k m (c0 :: c1 :: c2 :: c3 :: c4 :: c5 :: c6 :: c7 :: L)) : DL.St k m (c0 :: c1 :: c2 :: c3 :: c4 :: c5 :: c6 :: L) := h.er 7
theorem d8 (h : DL.St k m (c0 :: c1 :: c2 :: c3 :: c4 :: c5 :: c6 :: c7 :: c8 :: L)) : DL.St k m (c0 :: c1 :: c2 :: c3 :: c4 :: c5 :: c6 :: c7 :: L) := h.er 8
theorem d9 (h : DL.St k m (c0 :: c1 :: c2 :: c3 :: c4 :: c5 :: c6 :: c7 :: c8 :: c9 :: L)) : DL.St k m (c0 :: c1 :: c2 :: c3 :: c4 :: c5 :: c6 :: c7 :: c8 :: L) := h.er 9
theorem g0 (h : DL.St k m ((p, o) :: L)) : m p = some o := h.get 0 rfl
theorem g1 (h : DL.St k m (c0 :: (p, o) :: L)) : m p = some o := h.get 1 rfl
theorem g2 (h : DL.St k m (c0 :: c1 :: (p, o) :: L)) : m p = some o := h.get 2 rfl
theorem g3 (h : DL.St k m (c0 :: c1 :: c2 :: (p, o) :: L)) : m p = some o := h.get 3 rfl
theorem g4 (h : DL.St k m (c0 :: c1 :: c2 :: c3 :: (p, o) :: L)) : m p = some o := h.get 4 rfl
theorem g5 (h : DL.St k m (c0 :: c1 :: c2 :: c3 :: c4 :: (p, o) :: L)) : m p = some o := h.get 5 rfl
theorem g6 (h : DL.St k m (c0 :: c1 :: c2 :: c3 :: c4 :: c5 :: (p, o) :: L)) : m p = some o := h.get 6 rfl
theorem g7 (h : DL.St k m (c0 :: c1 :: c2 :: c3 :: c4 :: c5 :: c6 :: (p, o) :: L)) : m p = some o := h.get 7 rfl
theorem g8 (h : DL.St k m (c0 :: c1 :: c2 :: c3 :: c4 :: c5 :: c6 :: c7 :: (p, o) :: L)) : m p = some o := h.get 8 rfl
theorem g9 (h : DL.St k m (c0 :: c1 :: c2 :: c3 :: c4 :: c5 :: c6 :: c7 :: c8 :: (p, o) :: L)) : m p = some o := h.get 9 rfl
end St
section
variable {m : Sto} {p : Addr} {xs : List DV} {ps : List PyData} {y : DV}
theorem rdL (h : m p = some (.lst xs)) : asL m (.ref p) = some xs := by unfold asL; simp only [h]
theorem rdQ (h : m p = some (.lst xs)) : asQ m (.ref p) = some xs := by unfold asQ asL; simp only [h]
theorem rdR (h : m p = some (.lst xs)) : asR m (.ref p) = some xs := by unfold asR asL; simp only [h]
theorem rdT (h : m p = some (.lst xs)) : tyD m (.ref p) = some .lst := by unfold tyD; simp only [h]
theorem rdD (h : m p = some (.lst xs)) : dictAt m (.ref p) y = none := by unfold dictAt; simp only [h]
theorem rdP (h : m p = some (.lst xs)) (hp : pys xs = some ps) : asPy m (.ref p) = some (.list ps) := by
  unfold asPy
  rw [rdL h]
  show (pys xs).map PyData.list = _
  rw [hp]; rfl
end
end DL
namespace U
open PySem PySem.Spec PyProof.Rows L2 DL
def isiX (tys : List Ty0) (d : DV) (m : Sto) (Q : DK) : Prop := match tyD m d with
  | some t => Q (.bl (tys.any (isA t))) m
  | none => False
def enumX (ds : List DV) (m : Sto) (R : DIt → Sto → Prop) : Prop := match ds with
  | [d] => match asL m d with
    | some xs => R ⟨enD 0 xs, fun m => asL m d = some xs, none⟩ m
    | none => False
  | _ => False
section
variable {k m : Sto} {L : List (Addr × MO)} {δ : Slots} {D : DEnds} {Q : DK} {QT : Bool → Sto → Prop} {QA : List DV → Sto → Prop} {QS : Slots → Sto → Prop} {QB : Bool → Prop} {QM : Sto → Prop} {QI : DIt → Sto → Prop}
  {w wa wb wc wo we wi : DE} {t u : DT} {ta tk : DA} {s s' tb : DS} {g : DG} {gs : DGs} {wI : DI} {R R' : D2} {S : DSp} {R0 : DSp} {RM : DM} {W : DW} {SX : DSx}
  {mu neg b : Bool} {c c' i j l n : Nat} {d e x y z : DV} {xs ys ds es dds : List DV} {p q : Addr} {fs : List (Nat × DV)} {kvs : List (Key × DV)} {a : Str} {ty : Ty0} {tys : List Ty0} {iv jv : Int}
theorem tt : True := .intro
theorem it {C A B : Prop} [Decidable C] (h : C) (q : A) : if C then A else B := by rw [if_pos h]; exact q
theorem ff {C A B : Prop} [Decidable C] (h : ¬ C) (q : B) : if C then A else B := by rw [if_neg h]; exact q
theorem bt {A B : Prop} {b : Bool} (h : b = true) (q : A) : if b = true then A else B := by rw [if_pos h]; exact q
theorem bf {A B : Prop} {b : Bool} (h : b = false) (q : B) : if b = true then A else B := by rw [if_neg (by rw [h]; exact Bool.false_ne_true)]; exact q
section
variable {na nc nd : Slots → Sto → Prop} {nb : DK}
theorem pnx (h : na δ m) : DEnds.nx ⟨na, nb, nc, nd⟩ δ m := h
theorem prt (h : nb d m) : DEnds.rt ⟨na, nb, nc, nd⟩ d m := h
theorem pbk (h : nc δ m) : DEnds.bk ⟨na, nb, nc, nd⟩ δ m := h
theorem pct (h : nd δ m) : DEnds.ct ⟨na, nb, nc, nd⟩ δ m := h
end
theorem cs (h : Q d m) : wC d δ m Q := h
theorem v (hd : δ[i]? = some (some d)) (h : Q d m) : wVar i δ m Q := by unfold wVar; rw [hd]; exact h
theorem op (h : wa δ m fun x m1 => wb δ m1 fun y m2 => R x y m2 Q) : wOp R wa wb δ m Q := h
theorem ng (h : w δ m fun d m1 => match d with
  | .int i => Q (.int (-i)) m1
  | _ => False) : wNeg w δ m Q := h
theorem not (h : wa δ m fun x m1 => truD m1 x fun b => Q (.bl (!b)) m1) : wNot wa δ m Q := h
theorem and (h : wa δ m fun x m1 => truD m1 x fun b => if b = true then wb δ m1 Q else Q x m1) : wAnd wa wb δ m Q := h
theorem or (h : wa δ m fun x m1 => truD m1 x fun b => if b = true then Q x m1 else wb δ m1 Q) : wOr wa wb δ m Q := h
theorem ife (h : t δ m fun b m1 => if b = true then wa δ m1 Q else wb δ m1 Q) : wIf t wa wb δ m Q := h
theorem fld (h : w δ m fun d m1 => fldD c i d m1 Q) : wFld c i w δ m Q := h
theorem fldR (h : m p = some (.ins c fs)) (hl : lookN fs i = some x) (q : Q x m) : fldD c i (.ref p) m Q := by
  unfold fldD
  simp only [h, hl]
  exact ⟨trivial, q⟩
theorem tup (h : ta δ m fun ds m1 => ds.length ≤ sizeLine ∧ Q (.tup ds) m1) : wTup ta δ m Q := h
theorem lst (h : ta δ m fun ds m1 => ds.length ≤ sizeLine ∧ newL mu ds m1 Q) : wLst mu ta δ m Q := h
theorem newD (q : Q (.lst xs) m) : newL false xs m Q := q
theorem newR (I : DL.St k m L) (q : ∀ p m', DL.St k m' ((p, .lst xs) :: L) → Q (.ref p) m') : newL true xs m Q := fun p hp => q p _ (I.new hp _)
theorem dict0 (I : DL.St k m L) (q : ∀ p m', DL.St k m' ((p, .dct []) :: L) → Q (.ref p) m') : wDict0 δ m Q := fun p hp => q p _ (I.new hp _)
theorem chain (h : wa δ m fun x m1 => wb δ m1 fun y m2 => R x y m2 fun z m3 => match z with
  | .bl true => wc δ m3 fun u m4 => R' y u m4 Q
  | .bl false => Q (.bl false) m3
  | _ => False) : wChain R R' wa wb wc δ m Q := h
theorem bl (h : w δ m fun d m1 => match d with
  | .bl b => QT b m1
  | _ => False) : wBl w δ m QT := h
theorem tru (h : w δ m fun d m1 => truD m1 d fun b => QT b m1) : wTru w δ m QT := h
theorem truB (q : QB b) : truD m (.bl b) QB := q
theorem truN (q : QB false) : truD m .non QB := q
theorem truI (q : QB (iv != 0)) : truD m (.int iv) QB := q
theorem truS (h : a.length ≤ sizeLine) (q : QB ((a.length : Int) != 0)) : truD m (.str a) QB := ⟨h, q⟩
theorem truL (q : QB (!xs.isEmpty)) : truD m (.lst xs) QB := q
theorem truT (q : QB (!xs.isEmpty)) : truD m (.tup xs) QB := q
theorem notT (h : t δ m fun b m1 => QT (!b) m1) : wNotT t δ m QT := h
theorem andT (h : t δ m fun b m1 => if b = true then u δ m1 QT else QT false m1) : wAndT t u δ m QT := h
theorem orT (h : t δ m fun b m1 => if b = true then QT true m1 else u δ m1 QT) : wOrT t u δ m QT := h
theorem call (h : ta δ m fun ds m1 => S (ds ++ dds) m1 Q) : wCall S dds ta δ m Q := h
theorem callN {gD : List DV → List DV → List DV} (h : ta δ m fun ds m1 => tk δ m1 fun es m2 => ds.length = n ∧ es.length = j ∧ S (gD ds es) m2 Q) : wCallN n j S gD ta tk δ m Q := h
theorem make (h : ta δ m fun ds m1 => ∀ x, m1 x = none → S (.ref x :: (ds ++ dds)) (DL.put m1 x (.ins c [])) fun v m2 => v = .non ∧ Q (.ref x) m2) : wMake c S dds ta δ m Q := h
/-- a new object: its store named -/
theorem mk {P : Addr → Sto → Prop} {o : MO} (I : DL.St k m L) (q : ∀ p m', DL.St k m' ((p, o) :: L) → P p m') : ∀ x, m x = none → P x (DL.put m x o) := fun x hx => q x _ (I.new hx _)
theorem mkS {QQ : Addr → DK} {ds : List DV} (I : DL.St k m L) (q : ∀ p m', DL.St k m' ((p, .ins c []) :: L) → S (.ref p :: ds) m' (QQ p)) : ∀ x, m x = none → S (.ref x :: ds) (DL.put m x (.ins c [])) (QQ x) := fun x hx => q x _ (I.new hx _)
theorem meth (h : w δ m fun x m1 => hasF m1 c x ∧ ta δ m1 fun ds m2 => S (x :: (ds ++ dds)) m2 Q) : wMeth c S dds w ta δ m Q := h
theorem has (h : m p = some (.ins c fs)) : hasF m c (.ref p) := by unfold hasF; simp only [h]
theorem methX (h : w δ m fun x m1 => hasF m1 c x ∧ ta δ m1 fun ds m2 => SX (x :: ds) m2 Q fun c' fs m3 => W c' fs δ m3) : wMethX c SX w ta W δ m Q := h
theorem callX (h : ta δ m fun ds m1 => SX ds m1 Q fun c fs m2 => W c fs δ m2) : wCallX SX ta W δ m Q := h
theorem bi (h : ta δ m fun ds m1 => R0 ds m1 Q) : wB R0 ta δ m Q := h
theorem me (h : w δ m fun d m1 => ofTy m1 ty d ∧ ta δ m1 fun ds m2 => RM d ds m2 Q) : wM ty RM w ta δ m Q := h
theorem ofL (h : m p = some (.lst xs)) : ofTy m .lst (.ref p) := ⟨by unfold tyD; simp only [h], by simp only [h]⟩
theorem ofD (h : m p = some (.dct kvs)) : ofTy m .dct (.ref p) := ⟨by unfold tyD; simp only [h], by simp only [h]⟩
theorem isi (h : w δ m fun d m1 => isiX tys d m1 Q) : wIsi tys w δ m Q := h
theorem isiD (h : tyD m d = some ty) (q : Q (.bl (tys.any (isA ty))) m) : isiX tys d m Q := by
  unfold isiX
  rw [h]; exact q
theorem fz (h : w δ m fun d m1 => frzL d m1 Q) : wFz w δ m Q := h
theorem vZ (hd : δ[i]? = some (some d)) (h : frzL d m Q) : wVarZ i δ m Q := by unfold wVarZ; rw [hd]; exact h
theorem frz (I : DL.St k m ((p, .lst xs) :: L)) (q : ∀ m', DL.St k m' L → Q (.lst xs) m') : frzL (.ref p) m Q := by
  unfold frzL
  simp only [I.g0]
  exact q _ (I.rmv 0 rfl)
theorem frzD (q : Q (.lst xs) m) : frzL (.lst xs) m Q := q
theorem yes (q : QT true m) : wYes δ m QT := q
theorem nil (q : QA [] m) : wNil δ m QA := q
theorem cons (h : wa δ m fun d m1 => ta δ m1 fun ds m2 => QA (d :: ds) m2) : wCons wa ta δ m QA := h
theorem ret (h : w δ m D.rt) : wRet w D δ m := h
theorem retN (h : D.rt .non m) : wRetN D δ m := h
theorem next (h : D.nx δ m) : wNext D δ m := h
theorem brk (h : D.bk δ m) : wBreak D δ m := h
theorem cont (h : D.ct δ m) : wCont D δ m := h
theorem drop (h : w δ m fun _ m1 => D.nx δ m1) : wDrop w D δ m := h
theorem ifs (h : t δ m fun b m1 => if b = true then s D δ m1 else s' D δ m1) : wIfS t s s' D δ m := h
theorem seq (h : s { D with nx := s' D } δ m) : wSeq s s' D δ m := h
theorem asg (h : w δ m fun d m1 => g d δ m1 D.nx) : wAsg w g D δ m := h
theorem for_ (h : wI δ m fun it m1 => forGo it g tb D it.items δ m1) : wFor wI g tb D δ m := h
theorem par (h : ta δ m fun ds m1 => match ds with
  | [a, b] => D.nx ((δ.set i (some a)).set j (some b)) m1
  | _ => False) : wPar i j ta D δ m := h
theorem par3 (h : ta δ m fun ds m1 => match ds with
  | [a, b, c] => D.nx (((δ.set i (some a)).set j (some b)).set l (some c)) m1
  | _ => False) : wPar3 i j l ta D δ m := h
theorem aug (hd : δ[i]? = some (some d)) (h : w δ m fun d2 m1 => R d d2 m1 fun d3 m2 => D.nx (δ.set i (some d3)) m2) : wAug i R w D δ m := by unfold wAug; rw [hd]; exact h
theorem augF (h : wo δ m fun o m1 => fldD c i o m1 fun x m2 => w δ m2 fun y m3 => R x y m3 fun z m4 => setF c i o z m4 fun m5 => D.nx δ m5) : wAugF c i R wo w D δ m := h
theorem setF_ (h : w δ m fun d m1 => wo δ m1 fun o m2 => setF c i o d m2 fun m3 => D.nx δ m3) : wSetF c i wo w D δ m := h
theorem setR (I : DL.St k m ((p, .ins c fs) :: L)) (hl : fs.length < 1000) (q : ∀ m', DL.St k m' ((p, .ins c (putN i d fs)) :: L) → QM m') : setF c i (.ref p) d m QM := by
  unfold setF
  simp only [I.g0]
  exact ⟨trivial, hl, q _ (I.put 0 _ rfl)⟩
theorem raise (h : w δ m fun d m1 => W c [(i, d)] δ m1) : wRaise c i w W D δ m := h
theorem try_ {Wc : Nat → Prop} {body : DW → DS} (h : body (fun c fs δ' m' => Wc c ∧ ∀ a dd, a ≠ dd → m' a = none → m' dd = none → D.nx (((δ'.set i (some (.ref a))).set j (some (.ref a))).set i none) (DL.put (DL.put m' dd (.exd fs)) a (.exo a c dd))) D δ m) : wTryK i j Wc body D δ m := h
/-- a new exception: its store named -/
theorem exn {P : Addr → Addr → Sto → Prop} (I : DL.St k m L) (q : ∀ p p' m', DL.St k m' ((p, .exo p c p') :: (p', .exd fs) :: L) → P p p' m') : ∀ a dd, a ≠ dd → m a = none → m dd = none → P a dd (DL.put (DL.put m dd (.exd fs)) a (.exo a c dd)) := fun a dd hn ha hd => q a dd _ ((I.new hd _).new (by rw [put_ne hn]; exact ha) _)
theorem xf (h : w δ m fun d m1 => xfD c i d m1 Q) : wXf c i w δ m Q := h
theorem xfR (h : m p = some (.exo p c q)) (h2 : m q = some (.exd fs)) (hl : lookN fs i = some x) (r : Q x m) : xfD c i (.ref p) m Q := by
  unfold xfD
  simp only [h, h2, hl]
  exact ⟨trivial, trivial, r⟩
theorem gn (h : QS (δ.set i (some d)) m) : gN i d δ m QS := h
theorem gnil (h : QS δ m) : gNilD [] δ m QS := ⟨rfl, h⟩
theorem gcons {gs : DGs} (h : g d δ m fun δ1 m1 => gs ds δ1 m1 QS) : gConsD g gs (d :: ds) δ m QS := h
theorem gseq {gs : DGs} (h : asQ m d = some xs) (hl : xs.length = n) (q : gs xs δ m QS) : gSeq n gs d δ m QS := by
  unfold gSeq
  rw [h]; exact ⟨hl, q⟩
theorem gstar {gs : DGs} (h : asT d = some xs) (h1 : n ≤ xs.length) (h2 : xs.length ≤ 16384) (q : gs (xs.take n ++ [.lst (xs.drop n)]) δ m QS) : gStar n gs d δ m QS := by
  unfold gStar
  rw [h]; exact ⟨h1, h2, q⟩
theorem gsub (h : wo δ m fun o m1 => wi δ m1 fun i m2 => setD o i d m2 fun m3 => QS δ m3) : gSubD wo wi d δ m QS := h
theorem setDL (I : DL.St k m ((p, .lst xs) :: L)) (hi : ixN xs.length iv = some j) (q : ∀ m', DL.St k m' ((p, .lst (xs.set j d)) :: L) → QM m') : setD (.ref p) (.int iv) d m QM := by
  unfold setD
  simp only [I.g0, hi]
  exact q _ (I.put 0 _ rfl)
theorem setDD {key : Key} (I : DL.St k m ((p, .dct kvs) :: L)) (hk : dK? e = some key) (hl : kvs.length < sizeLine) (q : ∀ m', DL.St k m' ((p, .dct (putD kvs key d)) :: L) → QM m') : setD (.ref p) e d m QM := by
  unfold setD
  simp only [I.g0, hk]
  exact ⟨hl, q _ (I.put 0 _ rfl)⟩
theorem any (h : w δ m fun d m1 => itOf d m1 QI) : iAny w δ m QI := h
theorem itL (h : asQ m d = some xs) (q : QI ⟨xs, fun m' => asQ m' d = some xs, none⟩ m) : itOf d m QI := by
  unfold itOf
  rw [h]; exact q
theorem rng (h : ta δ m fun ds m1 => match ds with
  | [.int j] => -(2 ^ 62) ≤ j ∧ j < 2 ^ 62 ∧ QI ⟨rgD 0 j.toNat, fun _ => True, none⟩ m1
  | _ => False) : iRngD ta δ m QI := h
theorem rng2 (h : ta δ m fun ds m1 => match ds with
  | [.int i, .int j] => (-(2 ^ 62) ≤ i ∧ i < 2 ^ 62 ∧ -(2 ^ 62) ≤ j ∧ j < 2 ^ 62) ∧ QI ⟨rgD i (j - i).toNat, fun _ => True, none⟩ m1
  | _ => False) : iRngD2 ta δ m QI := h
theorem rng3 (h : ta δ m fun ds m1 => match ds with
  | [.int i, .int j, .int c] => ∃ n, RgC i j c n ∧ QI ⟨rgC i c n, fun _ => True, none⟩ m1
  | _ => False) : iRngD3 ta δ m QI := h
theorem enum (h : ta δ m fun ds m1 => enumX ds m1 QI) : iEnumD ta δ m QI := h
theorem enumL (h : asL m d = some xs) (q : QI ⟨enD 0 xs, fun m => asL m d = some xs, none⟩ m) : enumX [d] m QI := by
  unfold enumX
  dsimp only
  rw [h]; exact q
theorem fnil {it : DIt} (h1 : it.st m) (h2 : it.fin m (D.nx δ)) : forGo it g tb D [] δ m := ⟨h1, h2⟩
theorem fcons {it : DIt} (h1 : it.st m) (h2 : g x δ m fun δ1 m1 => tb { nx := forGo it g tb D xs, rt := fun v m' => it.fin m' (D.rt v), bk := fun δ' m' => it.fin m' (D.nx δ'), ct := forGo it g tb D xs } δ1 m1) : forGo it g tb D (x :: xs) δ m := ⟨h1, h2⟩
theorem fin {xs : List DV} {st : Sto → Prop} (h : QM m) : DIt.fin ⟨xs, st, none⟩ m QM := h
theorem lc {vs : List Nat} (h : wI δ m fun it m1 => ∀ D, m1 D = none → lcGo it g t we (wipeD δ vs) D (lcFin mu D Q) it.items [] (DL.put m1 D (.lst []))) : wLc mu wI g t we vs δ m Q := h
theorem lnil {it : DIt} {fn : List DV → Sto → Prop} (h1 : it.st m) (h2 : m p = some (.lst xs)) (h3 : it.fin m (fn xs)) : lcGo it g t we δ p fn [] xs m := ⟨h1, h2, h3⟩
theorem lcons {it : DIt} {fn : List DV → Sto → Prop} (h1 : it.st m) (h2 : g x δ m fun δ2 m2 => t δ2 m2 fun b m3 =>
    if b = true then we δ2 m3 fun y m4 => m4 p = some (.lst xs) ∧ xs.length < sizeLine ∧ lcGo it g t we δ p fn ys (xs ++ [y]) (DL.put m4 p (.lst (xs ++ [y])))
    else lcGo it g t we δ p fn ys xs m3) : lcGo it g t we δ p fn (x :: ys) xs m := ⟨h1, h2⟩
theorem lput {P : Sto → Prop} (I : DL.St k m ((p, .lst xs) :: L)) (h : xs.length < sizeLine) (q : ∀ m', DL.St k m' ((p, .lst ys) :: L) → P m') : m p = some (.lst xs) ∧ xs.length < sizeLine ∧ P (DL.put m p (.lst ys)) := ⟨I.g0, h, q _ (I.put 0 _ rfl)⟩
theorem lfinD (I : DL.St k m ((p, .lst xs) :: L)) (q : ∀ m', DL.St k m' L → Q (.lst xs) m') : lcFin false p Q xs m := q _ (I.rmv 0 rfl)
theorem lfinR (q : Q (.ref p) m) : lcFin true p Q xs m := q
theorem ar (hl : ds.length = n) (q : S ds m Q) : arD n S ds m Q := ⟨hl, q⟩
theorem run (q : s { nx := fun _ m' => Q .non m', rt := Q } (startD n ds) m) : runD n s ds m Q := q
theorem arx {E : DXp} (hl : ds.length = n) (q : SX ds m Q E) : arX n SX ds m Q E := ⟨hl, q⟩
theorem runx {E : DXp} {f : DW → DS} (q : f (fun c fs _ m' => E c fs m') { nx := fun _ m' => Q .non m', rt := Q } (startD n ds) m) : runX n f ds m Q E := q
theorem nev (q : SX ds m Q fun _ _ _ => False) : nevS SX ds m Q := q
theorem lenL (h : asQ m d = some xs) (q : Q (.int xs.length) m) : dLen [d] m Q := by
  show lenD m d fun n => Q (.int n) m
  unfold lenD
  cases d <;> first | (simp only [h]; exact q) | (simp [asQ, asL] at h)
theorem lenS (h : a.length ≤ sizeLine) (q : Q (.int a.length) m) : dLen [.str a] m Q := ⟨h, q⟩
theorem lenDc (h : m p = some (.dct kvs)) (q : Q (.int kvs.length) m) : dLen [.ref p] m Q := by
  have e : asQ m (.ref p) = none := by unfold asQ asL; simp only [h]
  show lenD m (.ref p) fun n => Q (.int n) m
  unfold lenD
  dsimp only
  rw [e]
  dsimp only
  simp only [h]
  exact q
theorem abs (q : Q (.int (if iv < 0 then -iv else iv)) m) : dAbs [.int iv] m Q := q
theorem intI (q : Q (.int iv) m) : dInt [.int iv] m Q := q
theorem intB (q : Q (.int (if b then 1 else 0)) m) : dInt [.bl b] m Q := q
theorem list (h : asQ m d = some xs) (q : newL mu xs m Q) : dListOf mu [d] m Q := by
  unfold dListOf
  dsimp only
  rw [h]; exact q
theorem tupT (q : Q (.tup xs) m) : dTupOf [.tup xs] m Q := q
theorem tupL (h : asL m d = some xs) (q : Q (.tup xs) m) : dTupOf [d] m Q := by
  unfold dTupOf
  cases d <;> first | (simp only [h]; exact q) | (simp [asL] at h)
theorem addI (q : Q (.int (iv + jv)) m) : dAdd mu (.int iv) (.int jv) m Q := q
theorem addS {a b : Str} (h : a.length + b.length ≤ sizeLine) (q : Q (.str (a ++ b)) m) : dAdd mu (.str a) (.str b) m Q := ⟨h, q⟩
theorem addT (h1 : xs ≠ []) (h : xs.length + ys.length ≤ sizeLine) (q : Q (.tup (xs ++ ys)) m) : dAdd mu (.tup xs) (.tup ys) m Q := ⟨h1, h, q⟩
theorem addL (h1 : asL m d = some xs) (h2 : asL m e = some ys) (h : xs.length + ys.length ≤ sizeLine) (q : newL mu (xs ++ ys) m Q) : dAdd mu d e m Q := by
  have g : ∃ xs ys, asL m d = some xs ∧ asL m e = some ys ∧ xs.length + ys.length ≤ sizeLine ∧ newL mu (xs ++ ys) m Q := ⟨xs, ys, h1, h2, h, q⟩
  unfold dAdd
  cases d <;> first | (simp [asL] at h1; done) | exact g | (cases e <;> first | (simp [asL] at h2; done) | exact g)
theorem iaddI (q : Q (.int (iv + jv)) m) : dIAdd (.int iv) (.int jv) m Q := q
theorem sub (q : Q (.int (iv - jv)) m) : dSub (.int iv) (.int jv) m Q := q
theorem div (h0 : 0 < jv) (h1 : jv.natAbs.log2 < 9000) (q : Q (.int (iv / jv)) m) : dDiv (.int iv) (.int jv) m Q := ⟨h0, h1, q⟩
theorem mod (h0 : 0 < jv) (q : Q (.int (iv % jv)) m) : dMod (.int iv) (.int jv) m Q := ⟨h0, q⟩
theorem pow (h0 : 0 ≤ jv) (h1 : jv ≤ 1000000) (h2 : iv.natAbs < 2 ^ 64) (q : Q (.int (iv ^ jv.toNat)) m) : dPow (.int iv) (.int jv) m Q := ⟨h0, h1, h2, q⟩
theorem rel {f : Int → Int → Bool} (q : Q (.bl (f iv jv)) m) : dRel f (.int iv) (.int jv) m Q := q
theorem eqI (q : Q (.bl (xor neg (decide (iv = jv)))) m) : dEq neg (.int iv) (.int jv) m Q := q
theorem eqS {a b : Str} (q : Q (.bl (xor neg (decide (a = b)))) m) : dEq neg (.str a) (.str b) m Q := q
theorem eqB {a b : Bool} (q : Q (.bl (xor neg (decide (a = b)))) m) : dEq neg (.bl a) (.bl b) m Q := q
theorem eqC {o : Bool} (h : scEq d e = some o) (q : Q (.bl (xor neg o)) m) : dEq neg d e m Q := by
  unfold dEq
  rw [h]; exact q
theorem eqP {a b : PyData} (h : scEq d e = none) (h0 : emptyD m d e = none) (h1 : asPy m d = some a) (h2 : asPy m e = some b) (h3 : SeqAt.shaped a = true) (h4 : SeqAt.shaped b = true) (q : Q (.bl (xor neg (PyData.eqv a b))) m) : dEq neg d e m Q := by
  unfold dEq
  rw [h]
  dsimp only
  rw [h0]
  exact ⟨a, b, h1, h2, h3, h4, q⟩
theorem isN (q : Q (.bl (!neg)) m) : dIsN neg .non .non m Q := q
theorem isS {a : Str} (q : Q (.bl neg) m) : dIsN neg (.str a) .non m Q := q
theorem isI (q : Q (.bl neg) m) : dIsN neg (.int iv) .non m Q := q
theorem isB (q : Q (.bl neg) m) : dIsN neg (.bl b) .non m Q := q
theorem isR (q : Q (.bl neg) m) : dIsN neg (.ref p) .non m Q := q
theorem isT (q : Q (.bl neg) m) : dIsN neg (.tup xs) .non m Q := q
theorem isL (q : Q (.bl neg) m) : dIsN neg (.lst xs) .non m Q := q
theorem ixD (h : dictAt m d e = none) (h1 : asQ m d = some xs) (hi : atI xs iv = some x) (he : e = .int iv) (q : Q x m) : dIx d e m Q := by
  unfold dIx
  subst he
  simp only [h, h1, hi]
  exact q
theorem dictAt_no (h1 : asQ m d = some xs) : dictAt m d e = none := by
  unfold dictAt
  cases d <;> first | rfl | skip
  unfold asQ asL at h1
  dsimp only at h1 ⊢
  cases ha : m ‹Addr› with
  | none => rfl
  | some o =>
    simp only [ha] at h1
    cases o <;> first | rfl | (simp at h1; done)
theorem ixN1 (h1 : asQ m d = some xs) (hi : atI xs iv = some x) (q : Q x m) : dIx d (.int iv) m Q := by
  unfold dIx
  have h : dictAt m d (.int iv) = none := dictAt_no h1
  simp only [h, h1, hi]
  exact q
theorem ix0 (h1 : asQ m d = some (x :: xs)) (q : Q x m) : dIx d (.int 0) m Q := ixN1 h1 (by unfold atI ixN; simp) q
theorem ix1 (h1 : asQ m d = some (y :: x :: xs)) (q : Q x m) : dIx d (.int 1) m Q := ixN1 h1 (by unfold atI ixN; simp only [List.length_cons]; rw [if_pos (by decide), if_pos (by omega)]; rfl) q
theorem ix2 (h1 : asQ m d = some (y :: z :: x :: xs)) (q : Q x m) : dIx d (.int 2) m Q := ixN1 h1 (by unfold atI ixN; simp only [List.length_cons]; rw [if_pos (by decide), if_pos (by omega)]; rfl) q
theorem ix3 (h1 : asQ m d = some (y :: z :: e :: x :: xs)) (q : Q x m) : dIx d (.int 3) m Q := ixN1 h1 (by unfold atI ixN; simp only [List.length_cons]; rw [if_pos (by decide), if_pos (by omega)]; rfl) q
theorem ix4 {d' : DV} (h1 : asQ m d = some (y :: z :: e :: d' :: x :: xs)) (q : Q x m) : dIx d (.int 4) m Q := ixN1 h1 (by unfold atI ixN; simp only [List.length_cons]; rw [if_pos (by decide), if_pos (by omega)]; rfl) q
theorem ixK {key : Key} (h : m p = some (.dct kvs)) (hk : dK? e = some key) (hl : lookD kvs key = some x) (q : Q x m) : dIx (.ref p) e m Q := by
  unfold dIx dictAt
  simp only [h, hk, Option.map_some, hl]
  exact q
theorem inK {key : Key} {o : Option DV} (h : m p = some (.dct kvs)) (hk : dK? e = some key) (hl : lookD kvs key = o) (q : Q (.bl (xor neg o.isSome)) m) : dIn neg e (.ref p) m Q := by
  unfold dIn dictAt
  simp only [h, hk, Option.map_some, hl]
  exact q
theorem inL (h : dictAt m e d = none) (h1 : asQ m e = some ys) (h2 : (flatD d && ys.all flatD) = true) (q : Q (.bl (xor neg (ys.any fun z => eqF z d))) m) : dIn neg d e m Q := by
  unfold dIn
  simp only [h, h1]
  exact ⟨h2, q⟩
theorem app (I : DL.St k m ((p, .lst xs) :: L)) (hl : xs.length < sizeLine) (q : ∀ m', DL.St k m' ((p, .lst (xs ++ [y])) :: L) → Q .non m') : mAppend (.ref p) [y] m Q := by
  show ownL m (.ref p) fun p xs => xs.length < sizeLine ∧ Q .non (DL.put m p (.lst (xs ++ [y])))
  unfold ownL
  simp only [I.g0]
  exact ⟨hl, q _ (I.put 0 _ rfl)⟩
theorem ext (I : DL.St k m ((p, .lst xs) :: L)) (h : asR m y = some ys) (hl : xs.length + ys.length ≤ sizeLine) (q : ∀ m', DL.St k m' ((p, .lst (xs ++ ys)) :: L) → Q .non m') : mExtend (.ref p) [y] m Q := by
  show ownL m (.ref p) fun p xs => match asR m y with
    | some ys => xs.length + ys.length ≤ sizeLine ∧ Q .non (DL.put m p (.lst (xs ++ ys)))
    | none => False
  unfold ownL
  simp only [I.g0, h]
  exact ⟨hl, q _ (I.put 0 _ rfl)⟩
theorem all {bs : List Bool} (h : asL m d = some xs) (h2 : bls? xs = some bs) (q : Q (.bl (bs.all id)) m) : dAll [d] m Q := by
  show dBls (fun bs => bs.all id) [d] m Q
  unfold dBls
  simp only [h, h2]
  exact q
theorem pop (I : DL.St k m ((p, .lst xs) :: L)) (h0 : -(2 ^ 63) ≤ iv ∧ iv < 2 ^ 63) (hi : ixN xs.length iv = some j) (hx : xs[j]? = some x) (q : ∀ m', DL.St k m' ((p, .lst (xs.eraseIdx j)) :: L) → Q x m') : mPop (.ref p) [.int iv] m Q := by
  unfold mPop ownL
  simp only [I.g0, hi, hx]
  exact ⟨h0.1, h0.2, q _ (I.put 0 _ rfl)⟩
theorem sl {lo hi : Option DE} (h : w δ m fun x m1 => wPart lo δ m1 fun l m2 => wPart hi δ m2 fun u m3 => dSl mu x l u m3 Q) : wSl mu w lo hi δ m Q := h
theorem pn {QP : Option Int → Sto → Prop} (q : QP none m) : wPart none δ m QP := q
theorem ps {QP : Option Int → Sto → Prop} (h : w δ m fun d m1 => match d with
    | .int i => QP (some i) m1
    | _ => False) : wPart (some w) δ m QP := h
theorem slT {lo hi : Option Int} (q : Q (.tup (DL.cutD xs lo hi)) m) : dSl mu (.tup xs) lo hi m Q := q
theorem slS {lo hi : Option Int} (h : a.length ≤ sizeLine) (q : Q (.str (cutS a lo hi)) m) : dSl mu (.str a) lo hi m Q := ⟨h, q⟩
theorem slL {lo hi : Option Int} (h : asL m d = some xs) (q : newL mu (DL.cutD xs lo hi) m Q) : dSl mu d lo hi m Q := by
  have g : ∃ xs, asL m d = some xs ∧ newL mu (DL.cutD xs lo hi) m Q := ⟨xs, h, q⟩
  unfold dSl
  cases d <;> first | (simp [asL] at h; done) | exact g
theorem rev {wk : DE} (h : w δ m fun d m1 => wPart (some wk) δ m1 fun o m2 => o = some (-1) ∧ ∃ xs, asL m2 d = some xs ∧ newL mu xs.reverse m2 Q) : wRev mu w wk δ m Q := h
theorem revL {mu : Bool} (h : asL m d = some xs) (q : newL mu xs.reverse m Q) : ∃ xs, asL m d = some xs ∧ newL mu xs.reverse m Q := ⟨xs, h, q⟩
theorem join (h : wo δ m fun x m1 => match x with
  | .str a => we δ m1 fun y m2 => ∃ ys : List Str, asQ m2 y = some (ys.map DV.str) ∧ (ys.map (·.length)).sum + ys.length * a.length ≤ 16777216 ∧ Q (.str (Txt.join a ys)) m2
  | _ => False) : wJoin wo we δ m Q := h
theorem joinL {ts : List Str} (h : asQ m y = some (ts.map DV.str)) (hl : (ts.map (·.length)).sum + ts.length * a.length ≤ 16777216) (q : Q (.str (Txt.join a ts)) m) : ∃ ys : List Str, asQ m y = some (ys.map DV.str) ∧ (ys.map (·.length)).sum + ys.length * a.length ≤ 16777216 ∧ Q (.str (Txt.join a ys)) m := ⟨ts, h, hl, q⟩
end
end U
namespace EX
open PySem PySem.Spec PyProof.Rows L2
open DL (FnG guards_make)
section
variable {P : Program} {W : World} {M : Model} {A : Around} {E : Value → Shared → Prop} {hp : Heap} {gs : Array GenState} {dr : Drawn} {tk : Nat} {os : OsState}
variable {cn cq : Str} {C N : Addr} {bs bm bB : List Value} {hdct : Bool} {sn : List Str} {sub : List Value} {ab : Bool} {col : Option Bool} {dd : Option Addr} {k0 k1 k2 k3 k5 : Option Value} {B nw ini : String} {kw : List (Str × Value)} {us : List Value}
/-- the look ahead of B.__new__(C, .., k = ..) -/
theorem kw_check (F : ExcBaseFacts B nw ini bB) (tails : ∀ T : String, bm.contains (.type T) = bB.contains (.type T)) {Q : Unit → Shared → Prop}
    (cls : hp.get? C = some (excClassObj cn cq C N bs bm hdct sn sub ab col dd k0 k1 k2 k3 k5 nw)) (fin : Q () ⟨hp, gs, dr, tk, os⟩) : wpAny M A (checkBuiltinCall nw ⟨.ref C :: us, kw⟩) Q E ⟨hp, gs, dr, tk, os⟩ := by
  have cB : (Value.ref C :: bm).contains (.type B) = true := by rw [List.contains_cons, tails, F.hasB, Bool.or_true]
  have noSt := F.noStar
  simp only [checkBuiltinCall, F.newKind, F.newSplit, F.newRow]
  repeat (first | refine wpAny_loadPart_at cls ?_ | (refine wpAny_isSubtype_exc cls ?_; rw [cB]) | refine wpAny_staticBase_exc cls ?_ | refine wpAny_madeBy_exc cls ?_ | simp only [bne_self_eq_false, Bool.false_eq_true, if_false] | wp_step)
  exact fin
theorem kw_checkT {Q : Unit → Shared → Prop} (cls : hp.get? C = some (excClassObj cn cq C N bs bm hdct sn sub ab col dd k0 k1 k2 k3 k5 nw)) (fin : Q () ⟨hp, gs, dr, tk, os⟩) :
    wpAny M A (checkBuiltinCall "type.__call__" ⟨.ref C :: us, kw⟩) Q E ⟨hp, gs, dr, tk, os⟩ := by
  have f3 := tc_sub
  have ty : (⟨hp, gs, dr, tk, os⟩ : Shared).TypeIs (.ref C) "type" := ⟨_, cls, rfl⟩
  simp only [checkBuiltinCall, tc_kind, tc_split]
  repeat (any_goals (first | assumption | with_reducible refine wpAny_loadPart_at cls ?_ | with_reducible refine wpAny_onRaise ?_ | with_reducible refine wpAny_map ?_ | wp_step))
/-- B.__new__(C, .., k = ..): the keywords are not kept -/
theorem kw_new {R : Result → Shared → Prop} (F : ExcBaseFacts B nw ini bB) (tails : ∀ T : String, bm.contains (.type T) = bB.contains (.type T)) (cls : hp.get? C = some (excClassObj cn cq C N bs bm hdct sn sub ab col dd k0 k1 k2 k3 k5 nw))
    (fin : R (.ok (.ret (.ref (hp.objs.size + 1)))) ⟨(hp.push (PySem.W.kdv_tup us)).push (HandSPX.excO C hp.objs.size), gs, dr, tk, os⟩) (len : us.length ≤ sizeLine) : codeAny (model P W) A (.builtin nw ⟨.ref C :: us, kw⟩) R ⟨hp, gs, dr, tk, os⟩ := by
  have ends := F.ends
  have cB : (Value.ref C :: bm).contains (.type B) = true := by rw [List.contains_cons, tails, F.hasB, Bool.or_true]
  have cA : (Value.ref C :: bm).contains (.type "AttributeError") = false := by rw [List.contains_cons, tails, F.noAttr]; rfl
  have cN : (Value.ref C :: bm).contains (.type "NameError") = false := by rw [List.contains_cons, tails, F.noName]; rfl
  refine codeAny_builtinAt F.entry ?_
  unfold Builtin.«BaseException.__new__»
  refine PyProof.Rows.wpAt_bind ?_
  show PyProof.Rows.wpAt _ _ _ (stack >>= _) _ _ _
  refine PyProof.Rows.wpAt_bind (PyProof.Rows.wpAt_stack fun p below => wpAt_of_wpAny ?_)
  wp_walk
  refine wpAt_of_wpAny ?_
  rw [F.owner]
  repeat (first | with_reducible refine wpAny_madeHere_exc F.canon cls ?_ | with_reducible refine wpAny_loadPart_at cls ?_ | (with_reducible refine wpAny_isSubtype_exc cls ?_; first | rw [cB] | rw [cA] | rw [cN]) | wp_step)
  show R _ _
  rw [Heap.size_push]
  exact fin
theorem kw_type {fI : Addr} {Q : Fin → Shared → Prop} (F : ExcBaseFacts B nw ini bB) (tails : ∀ T : String, bm.contains (.type T) = bB.contains (.type T)) (cls : hp.get? C = some (excClassObj cn cq C N bs bm hdct sn sub ab col dd k0 k1 k2 k3 k5 nw))
    (look : PySem.W.Looks (model P W) hp (typeLookup (.ref C) "__init__") (some (.ref fI))) (bind : ∀ v, PySem.W.Looks (model P W) hp (bindSpecial (.ref fI) v) (.ref fI, [v])) (len : us.length ≤ sizeLine)
    (fin : codeAny (model P W) A (.call (.ref fI) ⟨.ref (hp.objs.size + 1) :: us, kw⟩) (fun r s' => match r with | .ok (.ret v) => v = .none ∧ Q (.done (.ret (.ref (hp.objs.size + 1)))) s' | .ok _ => False | .error e => E e s')
      ⟨(hp.push (PySem.W.kdv_tup us)).push (HandSPX.excO C hp.objs.size), gs, dr, tk, os⟩) : wpAny (model P W) A (Builtin.«type.__call__» ⟨.ref C :: us, kw⟩) Q E ⟨hp, gs, dr, tk, os⟩ := by
  repeat (first | with_reducible refine wpAny_loadPart_at cls ?_ | with_reducible refine wpAny_madeBy_exc cls ?_ | wp_step)
  refine codeAny_call_builtin_code (Code.quiet_builtin _ F.quiet) (kw_check F tails cls ?_)
  refine kw_new F tails cls ?_ len
  show wpAny _ _ _ _ _ _
  have kp : ∀ b o, hp.get? b = some o → ((hp.push (PySem.W.kdv_tup us)).push (HandSPX.excO C hp.objs.size)).get? b = some o := fun b o e => Heap.get?_push_of_some _ (Heap.get?_push_of_some _ e)
  have cls1 := kp _ _ cls
  have new1 : ((hp.push (PySem.W.kdv_tup us)).push (HandSPX.excO C hp.objs.size)).get? (hp.objs.size + 1) = some (HandSPX.excO C hp.objs.size) := by heap_get
  have cC : (Value.ref C :: bm).contains (.ref C) = true := by simp
  have i1 := look.keeps kp
  have b1 := (bind (.ref (hp.objs.size + 1))).keeps kp
  unfold isInstance
  repeat (first | with_reducible refine wpAny_loadPart_at new1 ?_ | (with_reducible refine wpAny_isSubtype_exc cls1 ?_; rw [cC]) | wp_step)
  show wpAny _ _ (typeLookup (.ref C) _) _ _ _
  refine i1.at ?_
  refine wpAny_holding (wpAny_bind (b1.at ?_))
  refine wpAny_bind (wpAny_call (codeAny_mono fin fun r s' z => ?_))
  rcases r with e | (v | _ | _ | _) <;> first | exact z | exact z.elim | skip
  obtain ⟨rfl, z⟩ := z
  first | exact wpAny_pure (wpAny_pure z) | (wp_walk; exact z)
theorem kw_call {fI : Addr} {R : Result → Shared → Prop} (F : ExcBaseFacts B nw ini bB) (tails : ∀ T : String, bm.contains (.type T) = bB.contains (.type T)) (cls : hp.get? C = some (excClassObj cn cq C N bs bm hdct sn sub ab col dd k0 k1 k2 k3 k5 nw))
    (look : PySem.W.Looks (model P W) hp (typeLookup (.ref C) "__init__") (some (.ref fI))) (bind : ∀ v, PySem.W.Looks (model P W) hp (bindSpecial (.ref fI) v) (.ref fI, [v])) (len : us.length ≤ sizeLine)
    (fin : codeAny (model P W) (A.under (.builtin "type.__call__" ⟨.ref C :: us, kw⟩)) (.call (.ref fI) ⟨.ref (hp.objs.size + 1) :: us, kw⟩) (PySem.W.InitBack (hp.objs.size + 1) R) ⟨(hp.push (PySem.W.kdv_tup us)).push (HandSPX.excO C hp.objs.size), gs, dr, tk, os⟩) :
    codeAny (model P W) A (.call (.ref C) ⟨us, kw⟩) R ⟨hp, gs, dr, tk, os⟩ := by
  have f1 := tc_lookup
  have f2 := tc_bind (.ref C)
  have ty : (⟨hp, gs, dr, tk, os⟩ : Shared).TypeIs (.ref C) "type" := ⟨_, cls, rfl⟩
  refine codeAny_of_tree ?_
  show wpAny _ _ (callAny (.ref C) _) _ _ _
  repeat (any_goals (first | assumption | with_reducible refine wpAny_loadPart_at cls ?_ | wp_step))
  refine ⟨rfl, ?_⟩
  refine codeAny_call_builtin_at (Code.quiet_builtin _ (by decide +kernel)) entry_typeCall (kw_checkT cls (kw_type F tails cls look bind len ?_))
  refine codeAny_mono fin fun r s' z => ?_
  rcases r with e | (v | _ | _ | _) <;> exact z
end
section
variable {X : Cx} {pins : List (Addr × Obj)} {σ : L2.St} {H : Hp} {s : Shared} {C fI : Addr} {f y : Str} {z : V} {u : Value} {bm : List Value} {B new init : String} {fd : FuncData} {us ws : List Value} {ks : List Str} {Q : VK}
theorem make_val (T : XC X.K C fI bm new f) (Fb : ExcBaseFacts B new init bm) (F1 : FnG X.prog X.w X.K X.mg X.base CX0 1 fI fd ["self", y] (xSp C f)) (hr : Room 2 X.A) (hG : X.A.guards = some [])
    (hb : ∀ (e : Value) (s : Shared), X.K.In s.heap → BindsTo s fd ⟨e :: us, ks.zip ws⟩ [("self", e), (y, u)]) (hl : us.length ≤ sizeLine) (I : Inv X pins σ H s) (rz : RelV z u)
    (q : ∀ a dx, a ≠ dx → H a = none → H dx = none → Q (.ref a) (upd (upd H dx (.xd [(f, z)])) a (exv a (.ref C) (some dx)))) :
    wpAny (model X.prog X.w) X.A (call (.ref C) us (ks.zip ws)) (EP X pins σ Q) X.xe s := by
  obtain ⟨nm, N, qn, bs, bm', hdct, sn, sub, ab, col, dd, k0, k1, k2, k3, k5, hC, hT⟩ := PySem.W.excInit_of I.kIn T.q
  obtain ⟨hp, g, dr, tk, os⟩ := s
  have hsz : hp.objs.size ≤ hp.objs.size + 1 := Nat.le_succ _
  have hn : H (hp.objs.size + 1) = none := I.hok.fresh hsz
  have kk : ∀ b o, hp.get? b = some o → ((hp.push (PySem.W.kdv_tup us)).push (PySem.HandSPX.excO C hp.objs.size)).get? b = some o := fun b o z => Heap.get?_push_of_some _ (Heap.get?_push_of_some _ z)
  have here : ((hp.push (PySem.W.kdv_tup us)).push (PySem.HandSPX.excO C hp.objs.size)).get? (hp.objs.size + 1) = some (PySem.HandSPX.excO C hp.objs.size) := by heap_get
  have I2 : Inv X pins σ (upd H (hp.objs.size + 1) (exo (hp.objs.size + 1) C none)) ⟨(hp.push (PySem.W.kdv_tup us)).push (PySem.HandSPX.excO C hp.objs.size), g, dr, tk, os⟩ :=
    I.laid (t' := tk) (a := hp.objs.size + 1) (o := exo (hp.objs.size + 1) C none) (h' := (hp.push (PySem.W.kdv_tup us)).push (PySem.HandSPX.excO C hp.objs.size)) kk hsz (exo_ok here)
  have r2 : Vals [V.ref (hp.objs.size + 1), z] [Value.ref (hp.objs.size + 1), u] := .cons rfl (.cons rz .nil)
  have hsp : xSp C f [.ref (hp.objs.size + 1), z] (upd H (hp.objs.size + 1) (exo (hp.objs.size + 1) C none)) (fun v H2 => v = .non ∧ ∃ d, d ≠ hp.objs.size + 1 ∧ H d = none ∧ H2 = upd (upd (upd H (hp.objs.size + 1) (exo (hp.objs.size + 1) C none)) d (exd d [(f, z)])) (hp.objs.size + 1) (exo (hp.objs.size + 1) C (some d))) E0 :=
    ⟨_, z, rfl, upd_same, fun d hd ne => ⟨rfl, d, ne, by rw [upd_ne ne] at hd; exact hd, rfl⟩⟩
  refine wpAny_call (kw_call Fb hT hC (PySem.W.looks_findIn I.kIn T.iC) (fun self => PySem.W.bind_fn I.kIn self T.tI) hl
    (codeAny_mono (F1.run _ X.stack _ _ ⟨Value.ref (hp.objs.size + 1) :: us, ks.zip ws⟩ [Value.ref (hp.objs.size + 1), u] _ _ E0 (hr.make C us (ks.zip ws)) (guards_make hG) (I2.env0.make C us (ks.zip ws)) (hb _ _ I2.kIn) r2 hsp) fun rs s' hq => ?_))
  cases rs with
  | error er => exact False.elim hq
  | ok fl =>
    cases fl with
    | ret v' =>
      obtain ⟨v, H2, J, rv, ev, d, ne, hd1, rfl⟩ := I2.after hq
      subst ev
      refine ⟨rv, ?_⟩
      have e1 : (upd (upd (upd H (hp.objs.size + 1) (exo (hp.objs.size + 1) C none)) d (exd d [(f, z)])) (hp.objs.size + 1) (exo (hp.objs.size + 1) C (some d))) (hp.objs.size + 1) = some (exo (hp.objs.size + 1) C (some d)) := upd_same
      obtain ⟨t1, oa⟩ := exo_at J.hok e1
      have J2 := J.write (t' := s'.toks) (x := hp.objs.size + 1) (e := hp.objs.size + 1) (o := exv (hp.objs.size + 1) (.ref C) (some d)) (by rw [e1]; exact True.intro) (.inl rfl) (fun b u _ z => z) ⟨_, oa⟩ (exv_ok oa ⟨rfl, rfl⟩ rfl)
      have e2 : (upd (upd (upd (upd H (hp.objs.size + 1) (exo (hp.objs.size + 1) C none)) d (exd d [(f, z)])) (hp.objs.size + 1) (exo (hp.objs.size + 1) C (some d))) (hp.objs.size + 1) (exv (hp.objs.size + 1) (.ref C) (some d))) d = some (exd d [(f, z)]) := by
        rw [upd_ne ne, upd_ne ne, upd_same]
      obtain ⟨mA, hns, rel⟩ := exd_at J2.hok e2
      have hx : ∃ u, s'.heap.get? d = some u := by obtain ⟨o, es, ep, ho, _⟩ := hns; exact ⟨o, ho⟩
      have J3 := J2.write (t' := s'.toks) (x := d) (e := d) (o := .xd [(f, z)]) (by rw [e2]; exact True.intro) (.inl rfl) (fun b u _ z => z) hx ⟨mA, hns, rel⟩
      have same : upd (upd (upd (upd (upd H (hp.objs.size + 1) (exo (hp.objs.size + 1) C none)) d (exd d [(f, z)])) (hp.objs.size + 1) (exo (hp.objs.size + 1) C (some d))) (hp.objs.size + 1) (exv (hp.objs.size + 1) (.ref C) (some d))) d (.xd [(f, z)]) = upd (upd H d (.xd [(f, z)])) (hp.objs.size + 1) (exv (hp.objs.size + 1) (.ref C) (some d)) := by
        funext b
        by_cases h1 : b = d
        · rw [h1, upd_same, upd_ne ne, upd_same]
        · rw [upd_ne h1]
          by_cases h2 : b = hp.objs.size + 1
          · rw [h2, upd_same, upd_same]
          · rw [upd_ne h2, upd_ne h2, upd_ne h1, upd_ne h2, upd_ne h2, upd_ne h1]
      rw [same] at J3
      exact ⟨.ref (hp.objs.size + 1), _, J3, rfl, q _ d (Ne.symm ne) hn hd1⟩
    | next => exact False.elim hq
    | brk => exact False.elim hq
    | cont => exact False.elim hq
end
section
variable {X : Cx} {C fI : Addr} {f x y k : Str} {bm : List Value} {B new init : String} {fd : FuncData} {e : Expr} {te : TE} {p pos kpos : Pos}
def tMv (C : Addr) (f : Str) (te : TE) : TE := fun σ H Q => te σ H fun z H1 => ∀ a dx, a ≠ dx → H1 a = none → H1 dx = none → Q (.ref a) (upd (upd H1 dx (.xd [(f, z)])) a (exv a (.ref C) (some dx)))
/-- C(e) -/
theorem pe_xmk (T : XC X.K C fI bm new f) (Fb : ExcBaseFacts B new init bm) (F1 : FnG X.prog X.w X.K X.mg X.base CX0 1 fI fd ["self", y] (xSp C f)) (hr : Room 2 X.A) (hG : X.A.guards = some []) (hb : Binds X.K fd ["self", y] []) (hg : Gl X x) (hm : X.mg x = some (.ref C)) (he : PE X e te)
    (hs : starEach [e] X.env = (false, eval e X.env) :: starEach [] X.env := by rfl) (hdb : (x == ("__debug__" : Str)) = false := by decide) : PE X (.Call (.Name x p) [e] [] pos) (tMv C f te) := by
  refine ⟨fun pins s σ H Q I h => ?_⟩
  refine wpAny_Call_Name_kw (ld_glob I hg hm ?_ hdb)
  refine PySem.W.callWith_K (h₀ := X.base) I.ok.mod.kin T.kC ?_ hs (by rfl)
  rw [hs]
  show wpAny _ _ (spliced ((false, eval e X.env) :: backTo pos (starEach [] X.env))) _ _ s
  refine Calls.spliced_cons (thn (he.run pins s σ H _ I h) fun u s1 ⟨z, H1, I1, r1, q1⟩ => ?_)
  refine Calls.spliced_nil ⟨I1.kIn, ?_⟩
  show wpAny _ _ (call (.ref C) [u]) _ _ _
  exact make_val (us := [u]) (ks := []) (ws := []) T Fb F1 hr hG (fun e s hK => hb s [e, u] hK rfl) (show 1 ≤ sizeLine from by rw [sizeLine_eq]; decide) I1 r1 q1
/-- C(k = e) -/
theorem pe_xmkK {gg : {α : Type} → List α → List α → List α} (T : XC X.K C fI bm new f) (Fb : ExcBaseFacts B new init bm) (F1 : FnG X.prog X.w X.K X.mg X.base CX0 1 fI fd ["self", y] (xSp C f)) (hr : Room 2 X.A) (hG : X.A.guards = some []) (hb : ∀ (e u : Value) (s : Shared), X.K.In s.heap → BindsTo s fd ⟨[e], [(k, u)]⟩ [("self", e), (y, u)])
    (hg : Gl X x) (hm : X.mg x = some (.ref C)) (he : PE X e te) (hall : (backToKw pos (keywordEach [⟨some k, e, kpos⟩] X.env)).all (·.1.isSome) = true := by rfl) (hks : (backToKw pos (keywordEach [⟨some k, e, kpos⟩] X.env)).filterMap (·.1) = [k] := by rfl)
    (hdb : (x == ("__debug__" : Str)) = false := by decide) (hpl : ((backTo pos (starEach [] X.env)).any (·.1) || (backToKw pos (keywordEach [⟨some k, e, kpos⟩] X.env)).any (·.1.isNone)) = false := by rfl) : PE X (.Call (.Name x p) [] [⟨some k, e, kpos⟩] pos) (tMv C f te) := by
  refine ⟨fun pins s σ H Q I h => ?_⟩
  refine wpAny_Call_Name_kw (ld_glob I hg hm ?_ hdb)
  refine PySem.W.callWith_KW0 (h₀ := X.base) I.ok.mod.kin T.kC hall ?_ hpl
  refine thn ((pk_cons he pk_nil).run pos pins s σ H (fun vs H1 => match vs with | [z] => ∀ a dx, a ≠ dx → H1 a = none → H1 dx = none → Q (.ref a) (upd (upd H1 dx (.xd [(f, z)])) a (exv a (.ref C) (some dx))) | _ => False) I h) fun ws s2 ⟨zs, H2, I2, rz, q⟩ => ⟨I2.kIn, ?_⟩
  rw [hks]
  cases rz with
  | nil => exact False.elim q
  | cons r1 t =>
    cases t with
    | cons _ _ => exact False.elim q
    | nil => exact make_val (us := []) (ks := [k]) (ws := [_]) T Fb F1 hr hG (fun e s hK => hb e _ s hK) (Nat.zero_le _) I2 r1 q
/-- C(), without an own __init__ -/
theorem pe_xmk0 {bmB : List Value} (F : ExcBaseFacts B new init bmB) (q : PySem.W.excIn X.K C bmB new = true) (hm : X.mg x = some (.ref C)) (kC : PySem.W.keepIn X.K (.ref C) = true) (hg : Gl X x) (hdb : (x == ("__debug__" : Str)) = false := by decide) :
    PE X (.Call (.Name x p) [] [] pos) (fun σ H Q => ∀ a, H a = none → Q (.ref a) (upd H a (exv a (.ref C) none))) := by
  refine ⟨fun pins s σ H Q I h => ?_⟩
  refine wpAny_Call_Name_kw (ld_glob I hg hm ?_ hdb)
  refine PySem.W.callWith_K0 I.kIn kC ?_
  obtain ⟨bm, N, nm, qn, bs, hdct, sn, sub, ab, col, dd, k0, k1, k2, k3, k5, mN, hC, hN, hni, T⟩ := exc_obj I.kIn q
  refine wpAny_call_exc_subT F T hC hN hni (fun h' a hm => ?_) (Nat.zero_le _)
  have hn : H a = none := I.hok.gone hm.new
  obtain ⟨t, ht, _, _⟩ := hm.there
  exact ⟨.ref a, upd H a (exv a (.ref C) none), I.laidN hm.keeps hm.new hn (exv_ok ht ⟨rfl, rfl⟩ rfl), rfl, h a hn⟩
end
end EX
namespace DL
open PySem PySem.Spec PyProof.Rows L2
def wXm (c i : Nat) (w : DE) : DE := fun δ m Q => w δ m fun d m1 => ∀ a dd, a ≠ dd → m1 a = none → m1 dd = none → Q (.ref a) (put (put m1 dd (.exd [(i, d)])) a (.exo a c dd))
def wXm0 (c : Nat) : DE := fun δ m Q => ∀ a, m a = none → Q (.ref a) (put m a (.exn a c))
section
variable {X : Cx} {G : Gam} {j : Nat} {C fI : Addr} {f x y k : Str} {fd : FuncData} {bm : List Value} {new B init : String} {e : Expr} {w : DE} {p pos kpos : Pos} {c i : Nat}
theorem le_xm (hC : G.cls c = C) (hf : G.fld i = f) {σ : L2.St} {H : Hp} {Q : VK} (h : LE G (wXm c i w) σ H Q) : EX.tMv C f (LE G w) σ H Q := by
  obtain ⟨F, m, δ, Q0, r, s, h, k⟩ := h
  refine ⟨F, m, δ, _, r, s, h, fun d m1 v F1 H1 h1 e1 r1 v1 a dd ne ha hd => ?_⟩
  subst hC hf
  have r2 : Rel G F1 (put m1 dd (.exd [(i, d)])) (upd H1 dd (.xd [(G.fld i, v)])) := r1.newM hd ⟨_, rfl, .cons ⟨rfl, v1⟩ .nil⟩
  have r3 : Rel G F1 (put (put m1 dd (.exd [(i, d)])) a (.exo a c dd)) (upd (upd H1 dd (.xd [(G.fld i, v)])) a (EX.exv a (.ref (G.cls c)) (some dd))) := r2.newM (by rw [upd_ne ne]; exact ha) rfl
  exact k _ _ _ _ _ (h1 a dd ne (r1.freeM ha) (r1.freeM hd)) e1 r3 (.ref a)
theorem qe_xmk (T : EX.XC X.K C fI bm new f) (Fb : ExcBaseFacts B new init bm) (F1 : FnG X.prog X.w X.K X.mg X.base CX0 1 fI fd ["self", y] (EX.xSp C f)) (dx : DX X G j) (hj : 2 ≤ j) (hb : Binds X.K fd ["self", y] []) (hC : G.cls c = C) (hf : G.fld i = f) (hg : Gl X x) (hm : X.mg x = some (.ref C)) (he : PE X e (LE G w))
    (hs : starEach [e] X.env = (false, eval e X.env) :: starEach [] X.env := by rfl) (hdb : (x == ("__debug__" : Str)) = false := by decide) : PE X (.Call (.Name x p) [e] [] pos) (LE G (wXm c i w)) :=
  PE.imp (EX.pe_xmk T Fb F1 (dx.room.mono hj) dx.gd hb hg hm he hs hdb) fun σ H Q h => le_xm hC hf h
theorem qe_xmkK (T : EX.XC X.K C fI bm new f) (Fb : ExcBaseFacts B new init bm) (F1 : FnG X.prog X.w X.K X.mg X.base CX0 1 fI fd ["self", y] (EX.xSp C f)) (dx : DX X G j) (hj : 2 ≤ j) (hb : ∀ (e u : Value) (s : Shared), X.K.In s.heap → BindsTo s fd ⟨[e], [(k, u)]⟩ [("self", e), (y, u)]) (hC : G.cls c = C) (hf : G.fld i = f) (hg : Gl X x) (hm : X.mg x = some (.ref C)) (he : PE X e (LE G w))
    (hall : (backToKw pos (keywordEach [⟨some k, e, kpos⟩] X.env)).all (·.1.isSome) = true := by rfl) (hks : (backToKw pos (keywordEach [⟨some k, e, kpos⟩] X.env)).filterMap (·.1) = [k] := by rfl)
    (hdb : (x == ("__debug__" : Str)) = false := by decide) (hpl : ((backTo pos (starEach [] X.env)).any (·.1) || (backToKw pos (keywordEach [⟨some k, e, kpos⟩] X.env)).any (·.1.isNone)) = false := by rfl) : PE X (.Call (.Name x p) [] [⟨some k, e, kpos⟩] pos) (LE G (wXm c i w)) :=
  PE.imp (EX.pe_xmkK (gg := fun a _ => a) T Fb F1 (dx.room.mono hj) dx.gd hb hg hm he hall hks hdb hpl) fun σ H Q h => le_xm hC hf h
theorem qe_xmk0 {bmB : List Value} (F : ExcBaseFacts B new init bmB) (q : PySem.W.excIn X.K C bmB new = true) (hC : G.cls c = C) (hm : X.mg x = some (.ref C)) (kC : PySem.W.keepIn X.K (.ref C) = true) (hg : Gl X x) (hdb : (x == ("__debug__" : Str)) = false := by decide) : PE X (.Call (.Name x p) [] [] pos) (LE G (wXm0 c)) :=
  PE.imp (EX.pe_xmk0 F q hm kC hg hdb) fun σ H Q h => by
    obtain ⟨F, m, δ, Q0, r, s, h, k⟩ := h
    intro a ha
    subst hC
    have r2 : Rel G F (put m a (.exn a c)) (upd H a (EX.exv a (.ref (G.cls c)) none)) := r.newM ha rfl
    exact k _ _ _ _ _ (h a (r.freeM ha)) (Ex.refl F) r2 (.ref a)
end
/-- what isinstance needs to know of such a class -/
structure XI (K : PySem.W.Frag) (C : Addr) : Prop where
  cd : (PySem.W.clsIn K C).isSome = true
  ga : PySem.W.findIn K (.ref C) "__getattribute__" = some (some (.builtin "BaseException.__getattribute__"))
  gg : PySem.W.findIn K (.ref C) "__getattr__" = some none
  exC : PySem.W.subIn K (.ref C) (.type "BaseException") = some true
  hc : PySem.W.findIn K (.ref C) "__class__" = some (some (.builtin "object.__class__"))
  hn : PySem.W.specialIn K (.builtin "object.__class__") "__get__" = some (some (.builtin "getset_descriptor.__get__"))
  ht : PySem.W.takesIn K (.builtin "object.__class__") = some true
  hm : PySem.W.mroIn K C (.type "object") = some true
def xiB (K : PySem.W.Frag) (C : Addr) : Bool :=
  (PySem.W.clsIn K C).isSome && (decide (PySem.W.findIn K (.ref C) "__getattribute__" = some (some (.builtin "BaseException.__getattribute__"))) && (decide (PySem.W.findIn K (.ref C) "__getattr__" = some none) && (decide (PySem.W.subIn K (.ref C) (.type "BaseException") = some true) &&
  (decide (PySem.W.findIn K (.ref C) "__class__" = some (some (.builtin "object.__class__"))) && (decide (PySem.W.specialIn K (.builtin "object.__class__") "__get__" = some (some (.builtin "getset_descriptor.__get__"))) && (decide (PySem.W.takesIn K (.builtin "object.__class__") = some true) && decide (PySem.W.mroIn K C (.type "object") = some true)))))))
theorem xiB_ok {K : PySem.W.Frag} {C : Addr} (h : xiB K C = true) : XI K C := by
  unfold xiB at h
  simp only [Bool.and_eq_true, decide_eq_true_eq] at h
  obtain ⟨h1, h2, h3, h4, h5, h6, h7, h8⟩ := h
  exact ⟨h1, h2, h3, h4, h5, h6, h7, h8⟩
def isyD (ans : Nat → Bool) (n : Nat) (d : DV) (m : Sto) (Q : DK) : Prop := match d with
  | .ref p => match m p with
    | some (.exo a c dd) => a = p ∧ (∃ fs, m dd = some (.exd fs)) ∧ c < n ∧ Q (.bl (ans c)) m
    | some (.exn a c) => a = p ∧ c < n ∧ Q (.bl (ans c)) m
    | _ => False
  | _ => False
def wIsy (ans : Nat → Bool) (n : Nat) (w : DE) : DE := fun δ m Q => w δ m fun d m1 => isyD ans n d m1 Q
section
variable {X : Cx} {G : Gam} {e : Expr} {w : DE} {x x2 : Str} {p p2 p3 pos pt : Pos} {kt n : Nat} {ans : Nat → Bool}
/-- the object's class -/
theorem isy_inst {pins : List (Addr × Obj)} {σ : L2.St} {H : Hp} {s : Shared} {F : Hp} {m : Sto} {d : DV} {v : V} {Q0 : DK} (I : Inv X pins σ H s) (r : Rel G F m H) (vr : VR G.K F v d) (h : isyD ans n d m Q0) : ∃ (a : Addr) (c : Nat) (oe : Obj) (od : Option Obj), v = .ref a ∧ c < n ∧ PySem.W.InstAt s.heap a oe (G.cls c) od ∧ Q0 (.bl (ans c)) m := by
  cases vr <;> first | exact False.elim h | skip
  rename_i a0
  unfold isyD at h
  dsimp only at h
  cases em : m a0 with
  | none => rw [em] at h; exact False.elim h
  | some o =>
    rw [em] at h
    cases o <;> first | exact False.elim h | skip
    · rename_i a c dd
      obtain ⟨rfl, ⟨fs, ed⟩, hc, hq⟩ := h
      obtain ⟨_, u1, hu1, rfl⟩ := r.mo a _ em
      obtain ⟨_, u2, hu2, fv, rfl, hfr⟩ := r.mo dd _ ed
      obtain ⟨oe, od, J, _⟩ := EX.exv_inst I hu1 hu2
      exact ⟨a, c, oe, some od, rfl, hc, J, hq⟩
    · rename_i a c
      obtain ⟨rfl, hc, hq⟩ := h
      obtain ⟨_, u1, hu1, rfl⟩ := r.mo a _ em
      obtain ⟨oe, vs, he, hz, hv⟩ := EX.exv_at I.hok hu1
      exact ⟨a, c, oe, none, rfl, hc, ⟨he, hz.1, by unfold PySem.W.notCls; rw [hv] <;> rfl, by rw [hz.2]; trivial⟩, hq⟩
def rIsy (G : Gam) (ans : Nat → Bool) (n : Nat) : List V → Hp → VK → V → Prop := fun xs H Q c => ∃ v, xs = [v, c] ∧ ∃ F m d Q0, Rel G F m H ∧ VR G.K F v d ∧ isyD ans n d m Q0 ∧ Kt G F Q0 Q
theorem call_isy {cv : Value} {c : V} (hc : ∀ u, RelV c u → u = cv) (ok : ∀ i, i < n → XI X.K (G.cls i) ∧ PySem.W.kitOne X.K (.ref (G.cls i)) cv = some (ans i)) : CallR X (.builtin "isinstance") (fun xs H Q => rIsy G ans n xs H Q c) := by
  intro pins s σ H xs us Q I r h
  obtain ⟨v, rfl, F, m, d, Q0, rr, rv, h, k⟩ := h
  cases r with
  | cons r1 t =>
    cases t with
    | cons r2 t =>
      cases t
      rw [hc _ r2]
      obtain ⟨a, i, oe, od, rfl, hi, J, hq⟩ := isy_inst I rr rv h
      obtain ⟨T, hk⟩ := ok i hi
      cases r1
      exact PySem.W.kia_one (PySem.W.kitx_exc T.cd T.ga T.gg T.exC T.hc T.hn T.ht T.hm) I.kIn J hk (fun z => nomatch z) fun tk => ⟨.bl (ans i), H, I.kept (t' := tk) fun _ _ z => z, rfl, k _ _ _ _ _ hq (Ex.refl F) rr (.bl _)⟩
theorem le_isy {c : V} {σ : L2.St} {H : Hp} {Q : VK} (h : LE G (wIsy ans n w) σ H Q) : tCB (fun xs H Q => rIsy G ans n xs H Q c) (tCons (LE G w) (tCons (tC c) tNil)) σ H Q := by
  obtain ⟨F, m, δ, Q0, r, sr, h, k⟩ := h
  exact ⟨F, m, δ, _, r, sr, h, fun d m1 v F1 H1 h1 e1 r1 v1 => ⟨v, rfl, F1, m1, d, Q0, r1, v1, h1, k.mono e1⟩⟩
theorem qe_isy {C : Addr} (ok : ∀ i, i < n → XI X.K (G.cls i) ∧ PySem.W.kitOne X.K (.ref (G.cls i)) (.ref C) = some (ans i)) (hg : Gl X "isinstance") (hm : X.mg "isinstance" = none) (hg2 : Gl X x) (hm2 : X.mg x = some (.ref C)) (he : PE X e (LE G w)) (hd2 : (x == ("__debug__" : Str)) = false := by decide)
    (hs : starEach [e, .Name x p2] X.env = (false, eval e X.env) :: starEach [.Name x p2] X.env := by rfl) (hs2 : starEach [.Name x p2] X.env = (false, eval (.Name x p2) X.env) :: starEach [] X.env := by rfl) (hpl : (backTo pos (starEach [.Name x p2] X.env)).any (·.1) = false := by rfl) :
    PE X (.Call (.Name "isinstance" p) [e, .Name x p2] [] pos) (LE G (wIsy ans n w)) :=
  PE.imp (pe_callB (call_isy (c := .ref C) (cv := .ref C) (fun u z => z) ok) hg hm boot_isinstance (L2.pa_cons he (L2.pa_cons (pe_glob (v := .ref C) hg2 hm2 rfl hd2) L2.pa_nil hs2) hs) (by decide) (by decide) hs hpl) fun σ H Q h => le_isy h
theorem qe_isyB {T : String} (ok : ∀ i, i < n → XI X.K (G.cls i) ∧ PySem.W.kitOne X.K (.ref (G.cls i)) (.type T) = some (ans i)) (hg : Gl X "isinstance") (hm : X.mg "isinstance" = none) (hg2 : Gl X x) (hm2 : X.mg x = none) (hv : bootBuiltins x = some (.type T)) (he : PE X e (LE G w)) (hn2 : x ≠ "__name__" := by decide) (hd2 : (x == ("__debug__" : Str)) = false := by decide)
    (hs : starEach [e, .Name x p2] X.env = (false, eval e X.env) :: starEach [.Name x p2] X.env := by rfl) (hs2 : starEach [.Name x p2] X.env = (false, eval (.Name x p2) X.env) :: starEach [] X.env := by rfl) (hpl : (backTo pos (starEach [.Name x p2] X.env)).any (·.1) = false := by rfl) :
    PE X (.Call (.Name "isinstance" p) [e, .Name x p2] [] pos) (LE G (wIsy ans n w)) :=
  PE.imp (pe_callB (call_isy (c := .ty T) (cv := .type T) (fun u z => z) ok) hg hm boot_isinstance (L2.pa_cons he (L2.pa_cons (pe_bltn (v := .ty T) hg2 hm2 hv rfl hn2 hd2) L2.pa_nil hs2) hs) (by decide) (by decide) hs hpl) fun σ H Q h => le_isy h
theorem call_isyT {T T' : String} (ok : ∀ i, i < n → XI X.K (G.cls i) ∧ PySem.W.kitAny X.K (.ref (G.cls i)) [.type T, .type T'] = some (ans i)) :
    CallR X (.builtin "isinstance") (fun xs H Q => ∃ v tp, xs = [v, .ref tp] ∧ H tp = some (.tup [.ty T, .ty T']) ∧ ∃ F m d Q0, Rel G F m H ∧ VR G.K F v d ∧ isyD ans n d m Q0 ∧ Kt G F Q0 Q) := by
  intro pins s σ H xs us Q I r h
  obtain ⟨v, tp, rfl, hT, F, m, d, Q0, rr, rv, h, k⟩ := h
  cases r with
  | cons r1 t =>
    cases t with
    | cons r2 t =>
      cases t
      obtain ⟨a, i, oe, od, rfl, hi, J, hq⟩ := isy_inst I rr rv h
      obtain ⟨Z, hk⟩ := ok i hi
      cases r1
      cases (show _ = Value.ref tp from r2)
      obtain ⟨_, its, rv2, o, h1, h2, nn, h3⟩ := (show ObjOk X.prog X.w H s.heap tp (.tup [.ty T, .ty T']) from I.hok tp _ hT)
      cases rv2 with
      | cons q1 q2 =>
        cases q2 with
        | cons q2 q3 =>
          cases q3
          cases (show _ = Value.type T from q1)
          cases (show _ = Value.type T' from q2)
          obtain ⟨oc, od2, dt, sl⟩ := o
          simp only at h2 h3
          subst h2 h3
          exact PySem.W.kia_tup (PySem.W.kitx_exc Z.cd Z.ga Z.gg Z.exC Z.hc Z.hn Z.ht Z.hm) I.kIn J h1 hk (fun z => nomatch z) fun tk => ⟨.bl (ans i), H, I.kept (t' := tk) fun _ _ z => z, rfl, k _ _ _ _ _ hq (Ex.refl F) rr (.bl _)⟩
theorem qe_isyB2 {T T' : String} {x3 : Str} (ok : ∀ i, i < n → XI X.K (G.cls i) ∧ PySem.W.kitAny X.K (.ref (G.cls i)) [.type T, .type T'] = some (ans i)) (hg : Gl X "isinstance") (hm : X.mg "isinstance" = none) (hg2 : Gl X x) (hm2 : X.mg x = none) (hv : bootBuiltins x = some (.type T))
    (hg3 : Gl X x3) (hm3 : X.mg x3 = none) (hv3 : bootBuiltins x3 = some (.type T')) (he : PE X e (LE G w)) (hn2 : x ≠ "__name__" := by decide) (hd2 : (x == ("__debug__" : Str)) = false := by decide) (hn3 : x3 ≠ "__name__" := by decide) (hd3 : (x3 == ("__debug__" : Str)) = false := by decide)
    (hs : starEach [e, .Tuple [.Name x p2, .Name x3 p3] kt pt] X.env = (false, eval e X.env) :: starEach [.Tuple [.Name x p2, .Name x3 p3] kt pt] X.env := by rfl)
    (hs2 : starEach [.Tuple [.Name x p2, .Name x3 p3] kt pt] X.env = (false, eval (.Tuple [.Name x p2, .Name x3 p3] kt pt) X.env) :: starEach [] X.env := by rfl) (hpl : (backTo pos (starEach [.Tuple [.Name x p2, .Name x3 p3] kt pt] X.env)).any (·.1) = false := by rfl)
    (hs3 : starEach [.Name x p2, .Name x3 p3] X.env = (false, eval (.Name x p2) X.env) :: starEach [.Name x3 p3] X.env := by rfl) (hs4 : starEach [.Name x3 p3] X.env = (false, eval (.Name x3 p3) X.env) :: starEach [] X.env := by rfl) :
    PE X (.Call (.Name "isinstance" p) [e, .Tuple [.Name x p2, .Name x3 p3] kt pt] [] pos) (LE G (wIsy ans n w)) :=
  PE.imp (pe_callB (call_isyT (T := T) (T' := T') ok) hg hm boot_isinstance (L2.pa_cons he (L2.pa_cons (pe_tup (L2.pa_cons (pe_bltn (v := .ty T) hg2 hm2 hv rfl hn2 hd2) (L2.pa_cons (pe_bltn (v := .ty T') hg3 hm3 hv3 rfl hn3 hd3) L2.pa_nil hs4) hs3)) L2.pa_nil hs2) hs) (by decide) (by decide) hs hpl) fun σ H Q h => by
    obtain ⟨F, m, δ, Q0, r, sr, h, k⟩ := h
    refine ⟨F, m, δ, _, r, sr, h, fun d m1 v F1 H1 h1 e1 r1 v1 => ?_⟩
    exact ⟨(by show 2 ≤ sizeLine; decide), fun q hq => ⟨v, q, rfl, upd_same, F1, m1, d, Q0, r1.grow (Ex.new hq), v1, h1, k.mono e1⟩⟩
end
end DL
namespace U
open PySem PySem.Spec PyProof.Rows L2 DL
section
variable {k m : Sto} {L : List (Addr × MO)} {δ : Slots} {Q : DK} {w : DE} {ans : List (Nat × Bool)} {p q : Addr} {c : Nat} {b : Bool} {fs : List (Nat × DV)}
theorem isx (h : w δ m fun d m1 => isxD ans d m1 Q) : wIsx ans w δ m Q := h
theorem isxR (h : m p = some (.exo p c q)) (h2 : m q = some (.exd fs)) (hl : ans.lookup c = some b) (r : Q (.bl b) m) : isxD ans (.ref p) m Q := by
  show (match m p with
    | some (.exo a c dd) => a = p ∧ (∃ fs, m dd = some (.exd fs)) ∧ ∃ b, ans.lookup c = some b ∧ Q (.bl b) m
    | _ => False)
  rw [h]
  exact ⟨rfl, ⟨_, h2⟩, _, hl, r⟩
end
end U
namespace DL
open PySem PySem.Spec PyProof.Rows L2
/-- x in y: y a tuple, both data of any depth -/
def dInXT (neg : Bool) : D2 := fun x y m Q => ∃ d ds, asPy m x = some d ∧ asPy m y = some (.tuple ds) ∧ SeqAt.shaped d = true ∧ SeqAt.shaped (.tuple ds) = true ∧ Q (.bl (xor neg (ds.any fun z => PyData.eqv z d))) m
theorem od_inXT {X : Cx} {G : Gam} (hK : X.K = G.K) (hu : X.A.units + 65 < cLine) (neg : Bool) {op : CmpOp} (ho : op = if neg = true then .NotIn else .In) : OpR X (compareOp op) (LR2 G (dInXT neg)) := by
  intro pins s σ H x y v u Q I rx ry h
  obtain ⟨F, m, d1, d2, Q0, r, v1, v2, h, k⟩ := h
  obtain ⟨a, b, ha, hb, sa, sb, q⟩ := h
  have pa := asPy_ok r v1 ha
  have pb := asPy_ok r v2 hb
  rw [← hK] at pa pb
  obtain ⟨as, r1⟩ := Dp.reads I a x v pa rx
  obtain ⟨bs, r2⟩ := Dp.reads I (.tuple b) y u pb ry
  cases neg with
  | true =>
    subst ho
    have q' : Q0 (.bl (!(b.any fun z => PyData.eqv z a))) m := by cases z : b.any (fun z => PyData.eqv z a) <;> (rw [z] at q; exact q)
    exact SeqAt.notIn_tuple_reads r2 r1 (SeqAt.canLay_of_shaped sb) (SeqAt.canLay_of_shaped sa) (room_in_shaped sa hu) ⟨.bl _, H, I, rfl, k _ _ _ _ _ q' (Ex.refl F) r (.bl _)⟩
  | false =>
    subst ho
    have q' : Q0 (.bl (b.any fun z => PyData.eqv z a)) m := by cases z : b.any (fun z => PyData.eqv z a) <;> (rw [z] at q; exact q)
    exact SeqAt.in_tuple_reads r2 r1 (SeqAt.canLay_of_shaped sb) (SeqAt.canLay_of_shaped sa) (room_in_shaped sa hu) ⟨.bl _, H, I, rfl, k _ _ _ _ _ q' (Ex.refl F) r (.bl _)⟩
end DL
namespace Law
open PySem PySem.Spec PyProof.Rows L2 DL
def top (i : Nat) : Stmt := (PySem.Challenge.pw_treethaw_k70_whole_moving_over_a_bad_lin).main.body.getD i (.Pass ⟨0, 0, 0, 0⟩)
def names : List Str := ["number", "own_is_known", "own_many", "own_number", "own_phase", "own_pieces", "own_runs", "word"]
def gm (K : PySem.W.Frag) : Gam := ⟨K, fun i => match i with | 0 => He.ga K "NotRunning" | 1 => He.ga K "NotNow" | 2 => He.ga K "Giver" | 3 => He.ga K "Taker" | _ => 0, fldOf names, fun _ => none⟩
theorem inj0 {K : PySem.W.Frag} : (gm K).Inj := fldOf_inj (by kernel_rfl)
abbrev st_NotNow_init0 : Stmt := inClass (top 2) 0
abbrev st_cut : Stmt := top 11
abbrev st_Giver_init0 : Stmt := inClass (top 12) 0
abbrev st_Giver_phase : Stmt := inClass (top 12) 1
abbrev st_Giver_freeze : Stmt := inClass (top 12) 2
abbrev st_Giver_resume : Stmt := inClass (top 12) 3
abbrev st_Giver_receive : Stmt := inClass (top 12) 4
abbrev st_Giver_messages : Stmt := inClass (top 12) 5
abbrev st_Taker_init0 : Stmt := inClass (top 13) 0
abbrev st_Taker_is_whole : Stmt := inClass (top 13) 1
abbrev st_Taker_keep : Stmt := inClass (top 13) 2
abbrev st_Taker_receive : Stmt := inClass (top 13) 3
abbrev st_Taker_messages : Stmt := inClass (top 13) 4
abbrev st_Taker_running : Stmt := inClass (top 13) 5
abbrev st__law_stream : Stmt := top 15
abbrev st__law_draw : Stmt := top 16
abbrev st__law_folded : Stmt := top 17
abbrev st__law_pick : Stmt := top 18
abbrev st__law_same : Stmt := top 19
abbrev st__law_cut : Stmt := top 20
abbrev st__law_refused : Stmt := top 21
abbrev st__law_begin : Stmt := top 22
abbrev st__law_given : Stmt := top 23
abbrev st__law_whole : Stmt := top 25
abbrev st__law_taken : Stmt := top 24
abbrev st__law_text : Stmt := top 26
abbrev st__law_giver_sends : Stmt := top 27
abbrev st__law_taker_sends : Stmt := top 28
abbrev st__law_kept : Stmt := top 29
abbrev st__law_sent : Stmt := top 30
abbrev st__law_delivered : Stmt := top 31
abbrev st__law_step : Stmt := top 32
abbrev st__law_right : Stmt := top 33
abbrev st_law : Stmt := top 34
structure Cxt (w : World) (K : PySem.W.Frag) (mg : Str → Option Value) : Prop where
  F_NotNow_init0 : ∃ fd, FunD K "__init__" "NotNow.__init__" (defArgs st_NotNow_init0) (defBody st_NotNow_init0) (defScope st_NotNow_init0) [] [] (He.fAd K ("NotNow", some "__init__")) fd
  F_cut : ∃ fd, FunD K "cut" "cut" (defArgs st_cut) (defBody st_cut) (defScope st_cut) [] [] (He.fAd K ("cut", none)) fd
  F_Giver_init0 : ∃ fd, FunD K "__init__" "Giver.__init__" (defArgs st_Giver_init0) (defBody st_Giver_init0) (defScope st_Giver_init0) [] [] (He.fAd K ("Giver", some "__init__")) fd
  F_Giver_phase : ∃ fd, FunD K "phase" "Giver.phase" (defArgs st_Giver_phase) (defBody st_Giver_phase) (defScope st_Giver_phase) [] [] (He.fAd K ("Giver", some "phase")) fd
  F_Giver_freeze : ∃ fd, FunD K "freeze" "Giver.freeze" (defArgs st_Giver_freeze) (defBody st_Giver_freeze) (defScope st_Giver_freeze) [] [] (He.fAd K ("Giver", some "freeze")) fd
  F_Giver_resume : ∃ fd, FunD K "resume" "Giver.resume" (defArgs st_Giver_resume) (defBody st_Giver_resume) (defScope st_Giver_resume) [] [] (He.fAd K ("Giver", some "resume")) fd
  F_Giver_receive : ∃ fd, FunD K "receive" "Giver.receive" (defArgs st_Giver_receive) (defBody st_Giver_receive) (defScope st_Giver_receive) [] [] (He.fAd K ("Giver", some "receive")) fd
  F_Giver_messages : ∃ fd, FunD K "messages" "Giver.messages" (defArgs st_Giver_messages) (defBody st_Giver_messages) (defScope st_Giver_messages) [] [] (He.fAd K ("Giver", some "messages")) fd
  F_Taker_init0 : ∃ fd, FunD K "__init__" "Taker.__init__" (defArgs st_Taker_init0) (defBody st_Taker_init0) (defScope st_Taker_init0) [] [] (He.fAd K ("Taker", some "__init__")) fd
  F_Taker_is_whole : ∃ fd, FunD K "is_whole" "Taker.is_whole" (defArgs st_Taker_is_whole) (defBody st_Taker_is_whole) (defScope st_Taker_is_whole) [] [] (He.fAd K ("Taker", some "is_whole")) fd
  F_Taker_keep : ∃ fd, FunD K "keep" "Taker.keep" (defArgs st_Taker_keep) (defBody st_Taker_keep) (defScope st_Taker_keep) [] [] (He.fAd K ("Taker", some "keep")) fd
  F_Taker_receive : ∃ fd, FunD K "receive" "Taker.receive" (defArgs st_Taker_receive) (defBody st_Taker_receive) (defScope st_Taker_receive) [] [] (He.fAd K ("Taker", some "receive")) fd
  F_Taker_messages : ∃ fd, FunD K "messages" "Taker.messages" (defArgs st_Taker_messages) (defBody st_Taker_messages) (defScope st_Taker_messages) [] [] (He.fAd K ("Taker", some "messages")) fd
  F_Taker_running : ∃ fd, FunD K "running" "Taker.running" (defArgs st_Taker_running) (defBody st_Taker_running) (defScope st_Taker_running) [] [] (He.fAd K ("Taker", some "running")) fd
  F__law_stream : ∃ fd, FunD K "_law_stream" "_law_stream" (defArgs st__law_stream) (defBody st__law_stream) (defScope st__law_stream) [] [] (He.fAd K ("_law_stream", none)) fd
  F__law_draw : ∃ fd, FunD K "_law_draw" "_law_draw" (defArgs st__law_draw) (defBody st__law_draw) (defScope st__law_draw) [] [] (He.fAd K ("_law_draw", none)) fd
  F__law_folded : ∃ fd, FunD K "_law_folded" "_law_folded" (defArgs st__law_folded) (defBody st__law_folded) (defScope st__law_folded) [] [] (He.fAd K ("_law_folded", none)) fd
  F__law_pick : ∃ fd, FunD K "_law_pick" "_law_pick" (defArgs st__law_pick) (defBody st__law_pick) (defScope st__law_pick) [] [] (He.fAd K ("_law_pick", none)) fd
  F__law_same : ∃ fd, FunD K "_law_same" "_law_same" (defArgs st__law_same) (defBody st__law_same) (defScope st__law_same) [] [] (He.fAd K ("_law_same", none)) fd
  F__law_cut : ∃ fd, FunD K "_law_cut" "_law_cut" (defArgs st__law_cut) (defBody st__law_cut) (defScope st__law_cut) [] [] (He.fAd K ("_law_cut", none)) fd
  F__law_refused : ∃ fd, FunD K "_law_refused" "_law_refused" (defArgs st__law_refused) (defBody st__law_refused) (defScope st__law_refused) [] [] (He.fAd K ("_law_refused", none)) fd
  F__law_begin : ∃ fd, FunD K "_law_begin" "_law_begin" (defArgs st__law_begin) (defBody st__law_begin) (defScope st__law_begin) [] [] (He.fAd K ("_law_begin", none)) fd
  F__law_given : ∃ fd, FunD K "_law_given" "_law_given" (defArgs st__law_given) (defBody st__law_given) (defScope st__law_given) [] [] (He.fAd K ("_law_given", none)) fd
  F__law_whole : ∃ fd, FunD K "_law_whole" "_law_whole" (defArgs st__law_whole) (defBody st__law_whole) (defScope st__law_whole) [] [] (He.fAd K ("_law_whole", none)) fd
  F__law_taken : ∃ fd, FunD K "_law_taken" "_law_taken" (defArgs st__law_taken) (defBody st__law_taken) (defScope st__law_taken) [] [] (He.fAd K ("_law_taken", none)) fd
  F__law_text : ∃ fd, FunD K "_law_text" "_law_text" (defArgs st__law_text) (defBody st__law_text) (defScope st__law_text) [] [] (He.fAd K ("_law_text", none)) fd
  F__law_giver_sends : ∃ fd, FunD K "_law_giver_sends" "_law_giver_sends" (defArgs st__law_giver_sends) (defBody st__law_giver_sends) (defScope st__law_giver_sends) [] [] (He.fAd K ("_law_giver_sends", none)) fd
  F__law_taker_sends : ∃ fd, FunD K "_law_taker_sends" "_law_taker_sends" (defArgs st__law_taker_sends) (defBody st__law_taker_sends) (defScope st__law_taker_sends) [] [] (He.fAd K ("_law_taker_sends", none)) fd
  F__law_kept : ∃ fd, FunD K "_law_kept" "_law_kept" (defArgs st__law_kept) (defBody st__law_kept) (defScope st__law_kept) [] [] (He.fAd K ("_law_kept", none)) fd
  F__law_sent : ∃ fd, FunD K "_law_sent" "_law_sent" (defArgs st__law_sent) (defBody st__law_sent) (defScope st__law_sent) [] [] (He.fAd K ("_law_sent", none)) fd
  F__law_delivered : ∃ fd, FunD K "_law_delivered" "_law_delivered" (defArgs st__law_delivered) (defBody st__law_delivered) (defScope st__law_delivered) [] [] (He.fAd K ("_law_delivered", none)) fd
  F__law_step : ∃ fd, FunD K "_law_step" "_law_step" (defArgs st__law_step) (defBody st__law_step) (defScope st__law_step) [] [] (He.fAd K ("_law_step", none)) fd
  F__law_right : ∃ fd, FunD K "_law_right" "_law_right" (defArgs st__law_right) (defBody st__law_right) (defScope st__law_right) [] [] (He.fAd K ("_law_right", none)) fd
  F_law : ∃ fd, FunD K "law" "law" (defArgs st_law) (defBody st_law) (defScope st_law) [] [] (He.fAd K ("law", none)) fd
  n_RuntimeError : mg "RuntimeError" = none
  n_abs : mg "abs" = none
  n_all : mg "all" = none
  n_bool : mg "bool" = none
  n_enumerate : mg "enumerate" = none
  n_int : mg "int" = none
  n_isinstance : mg "isinstance" = none
  n_len : mg "len" = none
  n_list : mg "list" = none
  n_max : mg "max" = none
  n_range : mg "range" = none
  n_sorted : mg "sorted" = none
  n_str : mg "str" = none
  n_tuple : mg "tuple" = none
  n_zip : mg "zip" = none
  cls_Giver : Cls K (He.ga K "Giver")
  cls_Taker : Cls K (He.ga K "Taker")
  xm_NotNow_NotNow : PySem.W.exmOne K (.ref (He.ga K "NotNow")) (.ref (He.ga K "NotNow")) = some true
  xm_NotNow_NotRunning : PySem.W.exmOne K (.ref (He.ga K "NotNow")) (.ref (He.ga K "NotRunning")) = some false
  g_Giver : mg "Giver" = some (.ref (He.ga K "Giver"))
  g_NotNow : mg "NotNow" = some (.ref (He.ga K "NotNow"))
  g_NotRunning : mg "NotRunning" = some (.ref (He.ga K "NotRunning"))
  g_Taker : mg "Taker" = some (.ref (He.ga K "Taker"))
  g__law_begin : mg "_law_begin" = some (.ref (He.fAd K ("_law_begin", none)))
  g__law_cut : mg "_law_cut" = some (.ref (He.fAd K ("_law_cut", none)))
  g__law_delivered : mg "_law_delivered" = some (.ref (He.fAd K ("_law_delivered", none)))
  g__law_draw : mg "_law_draw" = some (.ref (He.fAd K ("_law_draw", none)))
  g__law_folded : mg "_law_folded" = some (.ref (He.fAd K ("_law_folded", none)))
  g__law_given : mg "_law_given" = some (.ref (He.fAd K ("_law_given", none)))
  g__law_giver_sends : mg "_law_giver_sends" = some (.ref (He.fAd K ("_law_giver_sends", none)))
  g__law_kept : mg "_law_kept" = some (.ref (He.fAd K ("_law_kept", none)))
  g__law_pick : mg "_law_pick" = some (.ref (He.fAd K ("_law_pick", none)))
  g__law_refused : mg "_law_refused" = some (.ref (He.fAd K ("_law_refused", none)))
  g__law_right : mg "_law_right" = some (.ref (He.fAd K ("_law_right", none)))
  g__law_same : mg "_law_same" = some (.ref (He.fAd K ("_law_same", none)))
  g__law_sent : mg "_law_sent" = some (.ref (He.fAd K ("_law_sent", none)))
  g__law_step : mg "_law_step" = some (.ref (He.fAd K ("_law_step", none)))
  g__law_stream : mg "_law_stream" = some (.ref (He.fAd K ("_law_stream", none)))
  g__law_taken : mg "_law_taken" = some (.ref (He.fAd K ("_law_taken", none)))
  g__law_taker_sends : mg "_law_taker_sends" = some (.ref (He.fAd K ("_law_taker_sends", none)))
  g__law_text : mg "_law_text" = some (.ref (He.fAd K ("_law_text", none)))
  g__law_whole : mg "_law_whole" = some (.ref (He.fAd K ("_law_whole", none)))
  g_cut : mg "cut" = some (.ref (He.fAd K ("cut", none)))
  kt_NotNow_NotNow : PySem.W.kitOne K (.ref (He.ga K "NotNow")) (.ref (He.ga K "NotNow")) = some true
  kt_NotNow_RuntimeError : PySem.W.kitOne K (.ref (He.ga K "NotNow")) (.type "RuntimeError") = some true
  m_Giver_freeze : Meth K (He.ga K "Giver") "freeze" (He.fAd K ("Giver", some "freeze"))
  m_Giver_messages : Meth K (He.ga K "Giver") "messages" (He.fAd K ("Giver", some "messages"))
  m_Giver_phase : Meth K (He.ga K "Giver") "phase" (He.fAd K ("Giver", some "phase"))
  m_Giver_receive : Meth K (He.ga K "Giver") "receive" (He.fAd K ("Giver", some "receive"))
  m_Giver_resume : Meth K (He.ga K "Giver") "resume" (He.fAd K ("Giver", some "resume"))
  m_Taker_is_whole : Meth K (He.ga K "Taker") "is_whole" (He.fAd K ("Taker", some "is_whole"))
  m_Taker_keep : Meth K (He.ga K "Taker") "keep" (He.fAd K ("Taker", some "keep"))
  m_Taker_messages : Meth K (He.ga K "Taker") "messages" (He.fAd K ("Taker", some "messages"))
  m_Taker_receive : Meth K (He.ga K "Taker") "receive" (He.fAd K ("Taker", some "receive"))
  m_Taker_running : Meth K (He.ga K "Taker") "running" (He.fAd K ("Taker", some "running"))
  mk_Giver : Mk K (He.ga K "Giver") (He.fAd K ("Giver", some "__init__"))
  mk_Taker : Mk K (He.ga K "Taker") (He.fAd K ("Taker", some "__init__"))
  na_Giver_own_is_known : NoAttr K (He.ga K "Giver") "own_is_known"
  na_Giver_own_number : NoAttr K (He.ga K "Giver") "own_number"
  na_Giver_own_phase : NoAttr K (He.ga K "Giver") "own_phase"
  na_Giver_own_pieces : NoAttr K (He.ga K "Giver") "own_pieces"
  na_Taker_own_many : NoAttr K (He.ga K "Taker") "own_many"
  na_Taker_own_number : NoAttr K (He.ga K "Taker") "own_number"
  na_Taker_own_pieces : NoAttr K (He.ga K "Taker") "own_pieces"
  na_Taker_own_runs : NoAttr K (He.ga K "Taker") "own_runs"
  i_FROZEN : ∃ t, mg "FROZEN" = some (.str "frozen" t)
  i_GIVEN : ∃ t, mg "GIVEN" = some (.str "given" t)
  i_GO : ∃ t, mg "GO" = some (.str "go" t)
  i_GOING : ∃ t, mg "GOING" = some (.str "going" t)
  i_PIECE : ∃ t, mg "PIECE" = some (.str "piece" t)
  i_RUNS : ∃ t, mg "RUNS" = some (.str "runs" t)
  i_WHOLE : ∃ t, mg "WHOLE" = some (.str "whole" t)
  T_NotNow : EX.XC K (He.ga K "NotNow") (He.fAd K ("NotNow", some "__init__")) [.type "RuntimeError", .type "Exception", .type "BaseException", .type "object"] "RuntimeError.__new__" "word"
variable {P : Program} {w : World} {K : PySem.W.Frag} {mg : Str → Option Value} {base : Heap}
theorem sc_NotNow_init0 : FnScope ["self", "word"] ["self", "word"] (defScope st_NotNow_init0) := ⟨rfl, rfl, rfl, by decide +kernel, rfl, by decide +kernel, by decide +kernel⟩
theorem ok_NotNow_init0 (cx : Cxt w K mg) : ∃ fd, FnG P w K mg base CX0 1 (He.fAd K ("NotNow", some "__init__")) fd ["self", "word"] (EX.xSp (He.ga K "NotNow") "word") ∧ Binds K fd ["self", "word"] [] := by
  obtain ⟨fd, F⟩ := cx.F_NotNow_init0
  refine ⟨fd, xinit_ok F sc_NotNow_init0 fun cdv A outer s H E => ?_, F.bindsN (fun _ _ _ _ _ _ us hl => match us, hl with | [_, _], _ => rfl)⟩
  exact pss_cons (ps_expr (EX.pe_bi (pl := _) cx.T_NotNow bs_RuntimeError rfl cx.n_RuntimeError vv_RuntimeError (L2.pa_cons (pe_var (i := 0) rfl (.inl rfl)) (L2.pa_cons (pe_var (i := 1) rfl (.inl rfl)) L2.pa_nil)))) (pss_one (EX.ps_st cx.T_NotNow bs_RuntimeError.SF (pe_var (i := 0) rfl (.inl rfl)) (pe_var (i := 1) rfl (.inl rfl))))
def w_cut : DS := wSeq (wAsg (wLc false (iRngD3 (wCons (wC (.int 0)) (wCons (wB dLen (wCons (wVar 0) (wNil))) (wCons (wVar 1) (wNil))))) (gN 3) (wYes) (wSl false (wVar 0) (some (wVar 3)) (some (wOp (dAdd false) (wVar 3) (wVar 1)))) [3]) (gN 2)) (wRet (wIf (wBl (wOp (dRel fun i j => decide (j < i)) (wB dLen (wCons (wVar 2) (wNil))) (wC (.int 0)))) (wVar 2) (wLst false (wCons (wC (.str "")) (wNil)))))
def S_cut : DSp := arD 2 (runD 4 w_cut)
theorem sc_cut : FnScope ["text", "size", "found", "begin"] ["text", "size"] (defScope st_cut) := ⟨rfl, rfl, rfl, by decide +kernel, rfl, by decide +kernel, by decide +kernel⟩
theorem ok_cut (cx : Cxt w K mg) : ∃ fd, FD P w K mg base (gm K) 1 (He.fAd K ("cut", none)) fd ["text", "size"] S_cut ∧ FunD K "cut" "cut" (defArgs st_cut) (defBody st_cut) (defScope st_cut) [] [] (He.fAd K ("cut", none)) fd := by
  obtain ⟨fd, F⟩ := cx.F_cut
  refine ⟨fd, FD.mk' F sc_cut (fun _ _ _ _ _ _ us hl => match us, hl with | [_, _], _ => rfl) fun cdv A outer s H E hr hg => ?_, F⟩
  have dx := dx_cx (P := P) (w := w) (K := K) (mg := mg) (base := base) (G := gm K) (outer := outer) (H := H) (E := E) rfl sc_cut.nd hr hg
  exact (qss_cons (qs_lc (own := [("begin", 3)]) (i := 2) dx false rfl rfl (sw_true rfl rfl rfl rfl) (qi_range3 rfl cx.n_range (qa_cons qe_int (qa_cons (qe_callB (cd_len dx.K) rfl cx.n_len boot_len (qa_cons (qe_var (i := 0) rfl (.inr (.inl rfl))) qa_nil)) (qa_cons (qe_var (i := 1) rfl (.inr (.inl rfl))) qa_nil)))) (blk_of (by kernel_rfl)) (by decide) (fun _ _ _ _ _ => (qg_name (i := 3) (DX.blk dx _ _ _ _ _).nd rfl (.inl rfl) (.inr rfl))) (fun _ _ _ _ _ => qts_nil) (fun _ _ _ _ _ => (pd_sl (mu := false) (DX.blk dx _ _ _ _ _).K (qe_var (i := 0) rfl (.inr (.inl rfl))) (po_some' (qe_var (i := 3) rfl (.inl rfl))) (po_some' (pd_op (od_add (DX.blk dx _ _ _ _ _).K false) (qe_var (i := 3) rfl (.inl rfl)) (qe_var (i := 1) rfl (.inr (.inl rfl)))))))) (qss_one (qs_ret (qe_if (qt_cmp (od_rel op_gt) (qe_callB (cd_len dx.K) rfl cx.n_len boot_len (qa_cons (qe_var (i := 2) rfl (.inl rfl)) qa_nil)) qe_int (nomark _)) (qe_var (i := 2) rfl (.inl rfl)) (qe_lst false (qa_cons qe_str qa_nil))))))
def w_Giver_init0 : DS := wSeq (wSetF 2 4 (wVar 0) (wC (.str "runs"))) (wSeq (wSetF 2 3 (wVar 0) (wC (.int 0))) (wSeq (wSetF 2 5 (wVar 0) (wLst false (wNil))) (wSetF 2 1 (wVar 0) (wC (.bl false)))))
def S_Giver_init0 : DSp := arD 1 (runD 1 w_Giver_init0)
theorem sc_Giver_init0 : FnScope ["self"] ["self"] (defScope st_Giver_init0) := ⟨rfl, rfl, rfl, by decide +kernel, rfl, by decide +kernel, by decide +kernel⟩
theorem ok_Giver_init0 (cx : Cxt w K mg) : ∃ fd, FD P w K mg base (gm K) 1 (He.fAd K ("Giver", some "__init__")) fd ["self"] S_Giver_init0 ∧ FunD K "__init__" "Giver.__init__" (defArgs st_Giver_init0) (defBody st_Giver_init0) (defScope st_Giver_init0) [] [] (He.fAd K ("Giver", some "__init__")) fd := by
  obtain ⟨fd, F⟩ := cx.F_Giver_init0
  obtain ⟨t_RUNS, h_RUNS⟩ := cx.i_RUNS
  refine ⟨fd, FD.mk' F sc_Giver_init0 (fun _ _ _ _ _ _ us hl => match us, hl with | [_], _ => rfl) fun cdv A outer s H E hr hg => ?_, F⟩
  have dx := dx_cx (P := P) (w := w) (K := K) (mg := mg) (base := base) (G := gm K) (outer := outer) (H := H) (E := E) rfl sc_Giver_init0.nd hr hg
  exact (qss_cons (qs_fld (c := 2) (i := 4) (inj0 (K := K)) rfl cx.cls_Giver cx.na_Giver_own_phase (qe_var (i := 0) rfl (.inl rfl)) (qe_glob (v := .str "runs") rfl h_RUNS ⟨_, rfl⟩ fun _ => .str "runs")) (qss_cons (qs_fld (c := 2) (i := 3) (inj0 (K := K)) rfl cx.cls_Giver cx.na_Giver_own_number (qe_var (i := 0) rfl (.inl rfl)) qe_int) (qss_cons (qs_fld (c := 2) (i := 5) (inj0 (K := K)) rfl cx.cls_Giver cx.na_Giver_own_pieces (qe_var (i := 0) rfl (.inl rfl)) (qe_lst false qa_nil)) (qss_one (qs_fld (c := 2) (i := 1) (inj0 (K := K)) rfl cx.cls_Giver cx.na_Giver_own_is_known (qe_var (i := 0) rfl (.inl rfl)) qe_bl)))))
def w_Giver_phase : DS := wRet (wFld 2 4 (wVar 0))
def S_Giver_phase : DSp := arD 1 (runD 1 w_Giver_phase)
theorem sc_Giver_phase : FnScope ["self"] ["self"] (defScope st_Giver_phase) := ⟨rfl, rfl, rfl, by decide +kernel, rfl, by decide +kernel, by decide +kernel⟩
theorem ok_Giver_phase (cx : Cxt w K mg) : ∃ fd, FD P w K mg base (gm K) 1 (He.fAd K ("Giver", some "phase")) fd ["self"] S_Giver_phase ∧ FunD K "phase" "Giver.phase" (defArgs st_Giver_phase) (defBody st_Giver_phase) (defScope st_Giver_phase) [] [] (He.fAd K ("Giver", some "phase")) fd := by
  obtain ⟨fd, F⟩ := cx.F_Giver_phase
  refine ⟨fd, FD.mk' F sc_Giver_phase (fun _ _ _ _ _ _ us hl => match us, hl with | [_], _ => rfl) fun cdv A outer s H E hr hg => ?_, F⟩
  have dx := dx_cx (P := P) (w := w) (K := K) (mg := mg) (base := base) (G := gm K) (outer := outer) (H := H) (E := E) rfl sc_Giver_phase.nd hr hg
  exact (qss_one (qs_ret (qe_fld (c := 2) (i := 4) (inj0 (K := K)) rfl cx.cls_Giver cx.na_Giver_own_phase (qe_var (i := 0) rfl (.inl rfl)))))
def w_Giver_freeze (W0 : DW) : DS := wSeq (wIfS (wBl (wOp (dEq true) (wFld 2 4 (wVar 0)) (wC (.str "runs")))) (wRaise 1 7 (wFld 2 4 (wVar 0)) W0) (wNext)) (wSeq (wSetF 2 4 (wVar 0) (wC (.str "frozen"))) (wSeq (wAugF 2 3 dIAdd (wVar 0) (wC (.int 1))) (wSeq (wSetF 2 5 (wVar 0) (wB (dListOf false) (wCons (wVar 1) (wNil)))) (wRet (wFld 2 3 (wVar 0))))))
def S_Giver_freeze : DSx := arX 2 (runX 2 w_Giver_freeze)
theorem sc_Giver_freeze : FnScope ["self", "pieces"] ["self", "pieces"] (defScope st_Giver_freeze) := ⟨rfl, rfl, rfl, by decide +kernel, rfl, by decide +kernel, by decide +kernel⟩
theorem ok_Giver_freeze (cx : Cxt w K mg) : ∃ fd, FX P w K mg base (gm K) 3 (He.fAd K ("Giver", some "freeze")) fd ["self", "pieces"] S_Giver_freeze ∧ FunD K "freeze" "Giver.freeze" (defArgs st_Giver_freeze) (defBody st_Giver_freeze) (defScope st_Giver_freeze) [] [] (He.fAd K ("Giver", some "freeze")) fd := by
  obtain ⟨fd, F⟩ := cx.F_Giver_freeze
  obtain ⟨fd_NotNow_init0, k_NotNow_init0, b_NotNow_init0⟩ := ok_NotNow_init0 (P := P) (w := w) (base := base) cx
  obtain ⟨t_FROZEN, h_FROZEN⟩ := cx.i_FROZEN
  obtain ⟨t_RUNS, h_RUNS⟩ := cx.i_RUNS
  refine ⟨fd, FX.mk' F sc_Giver_freeze (fun _ _ _ _ _ _ us hl => match us, hl with | [_, _], _ => rfl) fun cdv A outer s H E F0 W0 hr hg hfl tk => ?_, F⟩
  have dx := (dx_cxX (P := P) (w := w) (K := K) (mg := mg) (base := base) (G := gm K) (outer := outer) (H := H) (E := E) rfl sc_Giver_freeze.nd hr hg).up (F0 := F0)
  exact (qss_cons (qs_if (qt_cmp (od_eq dx.K dx.u65 true rfl) (qe_fld (c := 2) (i := 4) (inj0 (K := K)) rfl cx.cls_Giver cx.na_Giver_own_phase (qe_var (i := 0) rfl (.inl rfl))) (qe_glob (v := .str "runs") rfl h_RUNS ⟨_, rfl⟩ fun _ => .str "runs") (nomark _)) (qss_one (qs_raise dx.calm tk rfl rfl (pmk_x cx.T_NotNow bs_RuntimeError.F k_NotNow_init0 dx (by decide) b_NotNow_init0 rfl cx.g_NotNow (qe_fld (c := 2) (i := 4) (inj0 (K := K)) rfl cx.cls_Giver cx.na_Giver_own_phase (qe_var (i := 0) rfl (.inl rfl)))))) qss_nil) (qss_cons (qs_fld (c := 2) (i := 4) (inj0 (K := K)) rfl cx.cls_Giver cx.na_Giver_own_phase (qe_var (i := 0) rfl (.inl rfl)) (qe_glob (v := .str "frozen") rfl h_FROZEN ⟨_, rfl⟩ fun _ => .str "frozen")) (qss_cons (qs_fldaug (c := 2) (i := 3) (inj0 (K := K)) rfl cx.cls_Giver cx.na_Giver_own_number (qe_var (i := 0) rfl (.inl rfl)) qe_int in_addD) (qss_cons (qs_fld (c := 2) (i := 5) (inj0 (K := K)) rfl cx.cls_Giver cx.na_Giver_own_pieces (qe_var (i := 0) rfl (.inl rfl)) (qe_callTy (cd_list dx.K dx.calm false) rfl cx.n_list boot_list (qa_cons (qe_var (i := 1) rfl (.inl rfl)) qa_nil))) (qss_one (qs_ret (qe_fld (c := 2) (i := 3) (inj0 (K := K)) rfl cx.cls_Giver cx.na_Giver_own_number (qe_var (i := 0) rfl (.inl rfl)))))))))
def w_Giver_resume (W0 : DW) : DS := wSeq (wIfS (wBl (wOp (dEq true) (wFld 2 4 (wVar 0)) (wC (.str "frozen")))) (wRaise 1 7 (wFld 2 4 (wVar 0)) W0) (wNext)) (wSetF 2 4 (wVar 0) (wC (.str "runs")))
def S_Giver_resume : DSx := arX 1 (runX 1 w_Giver_resume)
theorem sc_Giver_resume : FnScope ["self"] ["self"] (defScope st_Giver_resume) := ⟨rfl, rfl, rfl, by decide +kernel, rfl, by decide +kernel, by decide +kernel⟩
theorem ok_Giver_resume (cx : Cxt w K mg) : ∃ fd, FX P w K mg base (gm K) 3 (He.fAd K ("Giver", some "resume")) fd ["self"] S_Giver_resume ∧ FunD K "resume" "Giver.resume" (defArgs st_Giver_resume) (defBody st_Giver_resume) (defScope st_Giver_resume) [] [] (He.fAd K ("Giver", some "resume")) fd := by
  obtain ⟨fd, F⟩ := cx.F_Giver_resume
  obtain ⟨fd_NotNow_init0, k_NotNow_init0, b_NotNow_init0⟩ := ok_NotNow_init0 (P := P) (w := w) (base := base) cx
  obtain ⟨t_FROZEN, h_FROZEN⟩ := cx.i_FROZEN
  obtain ⟨t_RUNS, h_RUNS⟩ := cx.i_RUNS
  refine ⟨fd, FX.mk' F sc_Giver_resume (fun _ _ _ _ _ _ us hl => match us, hl with | [_], _ => rfl) fun cdv A outer s H E F0 W0 hr hg hfl tk => ?_, F⟩
  have dx := (dx_cxX (P := P) (w := w) (K := K) (mg := mg) (base := base) (G := gm K) (outer := outer) (H := H) (E := E) rfl sc_Giver_resume.nd hr hg).up (F0 := F0)
  exact (qss_cons (qs_if (qt_cmp (od_eq dx.K dx.u65 true rfl) (qe_fld (c := 2) (i := 4) (inj0 (K := K)) rfl cx.cls_Giver cx.na_Giver_own_phase (qe_var (i := 0) rfl (.inl rfl))) (qe_glob (v := .str "frozen") rfl h_FROZEN ⟨_, rfl⟩ fun _ => .str "frozen") (nomark _)) (qss_one (qs_raise dx.calm tk rfl rfl (pmk_x cx.T_NotNow bs_RuntimeError.F k_NotNow_init0 dx (by decide) b_NotNow_init0 rfl cx.g_NotNow (qe_fld (c := 2) (i := 4) (inj0 (K := K)) rfl cx.cls_Giver cx.na_Giver_own_phase (qe_var (i := 0) rfl (.inl rfl)))))) qss_nil) (qss_one (qs_fld (c := 2) (i := 4) (inj0 (K := K)) rfl cx.cls_Giver cx.na_Giver_own_phase (qe_var (i := 0) rfl (.inl rfl)) (qe_glob (v := .str "runs") rfl h_RUNS ⟨_, rfl⟩ fun _ => .str "runs"))))
def w_Giver_receive : DS := wSeq (wAsg (wB dTupOf (wCons (wVar 1) (wNil))) (gN 2)) (wIfS (wAndT (wBl (wOp (dEq false) (wFld 2 4 (wVar 0)) (wC (.str "frozen")))) (wBl (wOp (dEq false) (wVar 2) (wTup (wCons (wC (.str "whole")) (wCons (wFld 2 3 (wVar 0)) (wNil))))))) (wSetF 2 4 (wVar 0) (wC (.str "given"))) (wIfS (wAndT (wBl (wOp (dEq false) (wFld 2 4 (wVar 0)) (wC (.str "given")))) (wBl (wOp (dEq false) (wVar 2) (wTup (wCons (wC (.str "going")) (wCons (wFld 2 3 (wVar 0)) (wNil))))))) (wSetF 2 1 (wVar 0) (wC (.bl true))) (wNext)))
def S_Giver_receive : DSp := arD 2 (runD 3 w_Giver_receive)
theorem sc_Giver_receive : FnScope ["self", "message", "told"] ["self", "message"] (defScope st_Giver_receive) := ⟨rfl, rfl, rfl, by decide +kernel, rfl, by decide +kernel, by decide +kernel⟩
theorem ok_Giver_receive (cx : Cxt w K mg) : ∃ fd, FD P w K mg base (gm K) 1 (He.fAd K ("Giver", some "receive")) fd ["self", "message"] S_Giver_receive ∧ FunD K "receive" "Giver.receive" (defArgs st_Giver_receive) (defBody st_Giver_receive) (defScope st_Giver_receive) [] [] (He.fAd K ("Giver", some "receive")) fd := by
  obtain ⟨fd, F⟩ := cx.F_Giver_receive
  obtain ⟨t_FROZEN, h_FROZEN⟩ := cx.i_FROZEN
  obtain ⟨t_GIVEN, h_GIVEN⟩ := cx.i_GIVEN
  obtain ⟨t_GOING, h_GOING⟩ := cx.i_GOING
  obtain ⟨t_WHOLE, h_WHOLE⟩ := cx.i_WHOLE
  refine ⟨fd, FD.mk' F sc_Giver_receive (fun _ _ _ _ _ _ us hl => match us, hl with | [_, _], _ => rfl) fun cdv A outer s H E hr hg => ?_, F⟩
  have dx := dx_cx (P := P) (w := w) (K := K) (mg := mg) (base := base) (G := gm K) (outer := outer) (H := H) (E := E) rfl sc_Giver_receive.nd hr hg
  exact (qss_cons (qs_set (i := 2) dx.nd rfl (.inl rfl) (qe_callTy (cd_tup dx.K) rfl cx.n_tuple boot_tuple (qa_cons (qe_var (i := 1) rfl (.inl rfl)) qa_nil)) (by rfl) (.inl rfl)) (qss_one (qs_if (PW.pt (qw_and (qt_cmp (od_eq dx.K dx.u65 false rfl) (qe_fld (c := 2) (i := 4) (inj0 (K := K)) rfl cx.cls_Giver cx.na_Giver_own_phase (qe_var (i := 0) rfl (.inl rfl))) (qe_glob (v := .str "frozen") rfl h_FROZEN ⟨_, rfl⟩ fun _ => .str "frozen") (nomark _)) (qw_and1 (qt_cmp (od_eq dx.K dx.u65 false rfl) (qe_var (i := 2) rfl (.inl rfl)) (qe_tup (qa_cons (qe_glob (v := .str "whole") rfl h_WHOLE ⟨_, rfl⟩ fun _ => .str "whole") (qa_cons (qe_fld (c := 2) (i := 3) (inj0 (K := K)) rfl cx.cls_Giver cx.na_Giver_own_number (qe_var (i := 0) rfl (.inl rfl))) qa_nil))) (nomark _))))) (qss_one (qs_fld (c := 2) (i := 4) (inj0 (K := K)) rfl cx.cls_Giver cx.na_Giver_own_phase (qe_var (i := 0) rfl (.inl rfl)) (qe_glob (v := .str "given") rfl h_GIVEN ⟨_, rfl⟩ fun _ => .str "given"))) (qss_one (qs_if (PW.pt (qw_and (qt_cmp (od_eq dx.K dx.u65 false rfl) (qe_fld (c := 2) (i := 4) (inj0 (K := K)) rfl cx.cls_Giver cx.na_Giver_own_phase (qe_var (i := 0) rfl (.inl rfl))) (qe_glob (v := .str "given") rfl h_GIVEN ⟨_, rfl⟩ fun _ => .str "given") (nomark _)) (qw_and1 (qt_cmp (od_eq dx.K dx.u65 false rfl) (qe_var (i := 2) rfl (.inl rfl)) (qe_tup (qa_cons (qe_glob (v := .str "going") rfl h_GOING ⟨_, rfl⟩ fun _ => .str "going") (qa_cons (qe_fld (c := 2) (i := 3) (inj0 (K := K)) rfl cx.cls_Giver cx.na_Giver_own_number (qe_var (i := 0) rfl (.inl rfl))) qa_nil))) (nomark _))))) (qss_one (qs_fld (c := 2) (i := 1) (inj0 (K := K)) rfl cx.cls_Giver cx.na_Giver_own_is_known (qe_var (i := 0) rfl (.inl rfl)) qe_bl)) qss_nil)))))
def w_Giver_messages : DS := wSeq (wIfS (wBl (wOp (dEq false) (wFld 2 4 (wVar 0)) (wC (.str "frozen")))) (wSeq (wAsg (wTup (wCons (wFld 2 3 (wVar 0)) (wCons (wB dLen (wCons (wFld 2 5 (wVar 0)) (wNil))) (wNil)))) (gSeq 2 (gConsD (gN 1) (gConsD (gN 2) (gNilD))))) (wRet (wLc false (iEnumD (wCons (wFld 2 5 (wVar 0)) (wNil))) (gSeq 2 (gConsD (gN 3) (gConsD (gN 4) (gNilD)))) (wYes) (wTup (wCons (wC (.str "piece")) (wCons (wVar 1) (wCons (wVar 3) (wCons (wVar 2) (wCons (wVar 4) (wNil))))))) [3, 4]))) (wNext)) (wRet (wIf (wAndT (wBl (wOp (dEq false) (wFld 2 4 (wVar 0)) (wC (.str "given")))) (wNotT (wTru (wFld 2 1 (wVar 0))))) (wLst false (wCons (wTup (wCons (wC (.str "go")) (wCons (wFld 2 3 (wVar 0)) (wNil)))) (wNil))) (wLst false (wNil))))
def S_Giver_messages : DSp := arD 1 (runD 5 w_Giver_messages)
theorem sc_Giver_messages : FnScope ["self", "number", "many", "index", "text"] ["self"] (defScope st_Giver_messages) := ⟨rfl, rfl, rfl, by decide +kernel, rfl, by decide +kernel, by decide +kernel⟩
theorem ok_Giver_messages (cx : Cxt w K mg) : ∃ fd, FD P w K mg base (gm K) 1 (He.fAd K ("Giver", some "messages")) fd ["self"] S_Giver_messages ∧ FunD K "messages" "Giver.messages" (defArgs st_Giver_messages) (defBody st_Giver_messages) (defScope st_Giver_messages) [] [] (He.fAd K ("Giver", some "messages")) fd := by
  obtain ⟨fd, F⟩ := cx.F_Giver_messages
  obtain ⟨t_FROZEN, h_FROZEN⟩ := cx.i_FROZEN
  obtain ⟨t_GIVEN, h_GIVEN⟩ := cx.i_GIVEN
  obtain ⟨t_GO, h_GO⟩ := cx.i_GO
  obtain ⟨t_PIECE, h_PIECE⟩ := cx.i_PIECE
  refine ⟨fd, FD.mk' F sc_Giver_messages (fun _ _ _ _ _ _ us hl => match us, hl with | [_], _ => rfl) fun cdv A outer s H E hr hg => ?_, F⟩
  have dx := dx_cx (P := P) (w := w) (K := K) (mg := mg) (base := base) (G := gm K) (outer := outer) (H := H) (E := E) rfl sc_Giver_messages.nd hr hg
  exact (qss_cons (qs_if (qt_cmp (od_eq dx.K dx.u65 false rfl) (qe_fld (c := 2) (i := 4) (inj0 (K := K)) rfl cx.cls_Giver cx.na_Giver_own_phase (qe_var (i := 0) rfl (.inl rfl))) (qe_glob (v := .str "frozen") rfl h_FROZEN ⟨_, rfl⟩ fun _ => .str "frozen") (nomark _)) (qss_cons (qs_asg (qe_tup (qa_cons (qe_fld (c := 2) (i := 3) (inj0 (K := K)) rfl cx.cls_Giver cx.na_Giver_own_number (qe_var (i := 0) rfl (.inl rfl))) (qa_cons (qe_callB (cd_len dx.K) rfl cx.n_len boot_len (qa_cons (qe_fld (c := 2) (i := 5) (inj0 (K := K)) rfl cx.cls_Giver cx.na_Giver_own_pieces (qe_var (i := 0) rfl (.inl rfl))) qa_nil)) qa_nil))) (qg_tup (n := 2) dx.K dx.calm (qgs_cons (qg_name (i := 1) dx.nd rfl (.inr rfl) (.inl rfl)) (qgs_cons (qg_name (i := 2) dx.nd rfl (.inr rfl) (.inl rfl)) qgs_nil)))) (qss_one (qs_ret (qe_lc (own := [("index", 3), ("text", 4)]) dx false (qi_enum dx.K rfl cx.n_enumerate (qa_cons (qe_fld (c := 2) (i := 5) (inj0 (K := K)) rfl cx.cls_Giver cx.na_Giver_own_pieces (qe_var (i := 0) rfl (.inl rfl))) qa_nil)) (blk_of (by kernel_rfl)) (by decide) (fun _ _ _ _ _ => (qg_tup (n := 2) (DX.blk dx _ _ _ _ _).K (DX.blk dx _ _ _ _ _).calm (qgs_cons (qg_name (i := 3) (DX.blk dx _ _ _ _ _).nd rfl (.inl rfl) (.inr rfl)) (qgs_cons (qg_name (i := 4) (DX.blk dx _ _ _ _ _).nd rfl (.inl rfl) (.inr rfl)) qgs_nil)))) (fun _ _ _ _ _ => qts_nil) (fun _ _ _ _ _ => (qe_tup (qa_cons (qe_glob (v := .str "piece") rfl h_PIECE ⟨_, rfl⟩ fun _ => .str "piece") (qa_cons (qe_var (i := 1) rfl (.inr (.inl rfl))) (qa_cons (qe_var (i := 3) rfl (.inl rfl)) (qa_cons (qe_var (i := 2) rfl (.inr (.inl rfl))) (qa_cons (qe_var (i := 4) rfl (.inl rfl)) qa_nil))))))))))) qss_nil) (qss_one (qs_ret (qe_if (PW.pt (qw_and (qt_cmp (od_eq dx.K dx.u65 false rfl) (qe_fld (c := 2) (i := 4) (inj0 (K := K)) rfl cx.cls_Giver cx.na_Giver_own_phase (qe_var (i := 0) rfl (.inl rfl))) (qe_glob (v := .str "given") rfl h_GIVEN ⟨_, rfl⟩ fun _ => .str "given") (nomark _)) (qw_and1 (qt_not (qt_truth dx.K (qe_fld (c := 2) (i := 1) (inj0 (K := K)) rfl cx.cls_Giver cx.na_Giver_own_is_known (qe_var (i := 0) rfl (.inl rfl)))))))) (qe_lst false (qa_cons (qe_tup (qa_cons (qe_glob (v := .str "go") rfl h_GO ⟨_, rfl⟩ fun _ => .str "go") (qa_cons (qe_fld (c := 2) (i := 3) (inj0 (K := K)) rfl cx.cls_Giver cx.na_Giver_own_number (qe_var (i := 0) rfl (.inl rfl))) qa_nil))) qa_nil)) (qe_lst false qa_nil)))))
def w_Taker_init0 : DS := wSeq (wSetF 3 3 (wVar 0) (wC (.int 0))) (wSeq (wSetF 3 2 (wVar 0) (wC (.int 0))) (wSeq (wSetF 3 5 (wVar 0) (wDict0)) (wSetF 3 6 (wVar 0) (wC (.bl false)))))
def S_Taker_init0 : DSp := arD 1 (runD 1 w_Taker_init0)
theorem sc_Taker_init0 : FnScope ["self"] ["self"] (defScope st_Taker_init0) := ⟨rfl, rfl, rfl, by decide +kernel, rfl, by decide +kernel, by decide +kernel⟩
theorem ok_Taker_init0 (cx : Cxt w K mg) : ∃ fd, FD P w K mg base (gm K) 1 (He.fAd K ("Taker", some "__init__")) fd ["self"] S_Taker_init0 ∧ FunD K "__init__" "Taker.__init__" (defArgs st_Taker_init0) (defBody st_Taker_init0) (defScope st_Taker_init0) [] [] (He.fAd K ("Taker", some "__init__")) fd := by
  obtain ⟨fd, F⟩ := cx.F_Taker_init0
  refine ⟨fd, FD.mk' F sc_Taker_init0 (fun _ _ _ _ _ _ us hl => match us, hl with | [_], _ => rfl) fun cdv A outer s H E hr hg => ?_, F⟩
  have dx := dx_cx (P := P) (w := w) (K := K) (mg := mg) (base := base) (G := gm K) (outer := outer) (H := H) (E := E) rfl sc_Taker_init0.nd hr hg
  exact (qss_cons (qs_fld (c := 3) (i := 3) (inj0 (K := K)) rfl cx.cls_Taker cx.na_Taker_own_number (qe_var (i := 0) rfl (.inl rfl)) qe_int) (qss_cons (qs_fld (c := 3) (i := 2) (inj0 (K := K)) rfl cx.cls_Taker cx.na_Taker_own_many (qe_var (i := 0) rfl (.inl rfl)) qe_int) (qss_cons (qs_fld (c := 3) (i := 5) (inj0 (K := K)) rfl cx.cls_Taker cx.na_Taker_own_pieces (qe_var (i := 0) rfl (.inl rfl)) qe_dict0) (qss_one (qs_fld (c := 3) (i := 6) (inj0 (K := K)) rfl cx.cls_Taker cx.na_Taker_own_runs (qe_var (i := 0) rfl (.inl rfl)) qe_bl)))))
def w_Taker_is_whole : DS := wRet (wAnd (wOp (dRel fun i j => decide (j < i)) (wFld 3 3 (wVar 0)) (wC (.int 0))) (wOp (dEq false) (wB dLen (wCons (wFld 3 5 (wVar 0)) (wNil))) (wFld 3 2 (wVar 0))))
def S_Taker_is_whole : DSp := arD 1 (runD 1 w_Taker_is_whole)
theorem sc_Taker_is_whole : FnScope ["self"] ["self"] (defScope st_Taker_is_whole) := ⟨rfl, rfl, rfl, by decide +kernel, rfl, by decide +kernel, by decide +kernel⟩
theorem ok_Taker_is_whole (cx : Cxt w K mg) : ∃ fd, FD P w K mg base (gm K) 1 (He.fAd K ("Taker", some "is_whole")) fd ["self"] S_Taker_is_whole ∧ FunD K "is_whole" "Taker.is_whole" (defArgs st_Taker_is_whole) (defBody st_Taker_is_whole) (defScope st_Taker_is_whole) [] [] (He.fAd K ("Taker", some "is_whole")) fd := by
  obtain ⟨fd, F⟩ := cx.F_Taker_is_whole
  refine ⟨fd, FD.mk' F sc_Taker_is_whole (fun _ _ _ _ _ _ us hl => match us, hl with | [_], _ => rfl) fun cdv A outer s H E hr hg => ?_, F⟩
  have dx := dx_cx (P := P) (w := w) (K := K) (mg := mg) (base := base) (G := gm K) (outer := outer) (H := H) (E := E) rfl sc_Taker_is_whole.nd hr hg
  exact (qss_one (qs_ret (qe_and dx.K (pd_cmp (od_rel op_gt) (qe_fld (c := 3) (i := 3) (inj0 (K := K)) rfl cx.cls_Taker cx.na_Taker_own_number (qe_var (i := 0) rfl (.inl rfl))) qe_int (nomark _)) (qe_one (pd_cmp (od_eq dx.K dx.u65 false rfl) (qe_callB (cd_len dx.K) rfl cx.n_len boot_len (qa_cons (qe_fld (c := 3) (i := 5) (inj0 (K := K)) rfl cx.cls_Taker cx.na_Taker_own_pieces (qe_var (i := 0) rfl (.inl rfl))) qa_nil)) (qe_fld (c := 3) (i := 2) (inj0 (K := K)) rfl cx.cls_Taker cx.na_Taker_own_many (qe_var (i := 0) rfl (.inl rfl))) (nomark _))))))
def w_Taker_keep : DS := wSeq (wIfS (wBl (wOp (dRel fun i j => decide (j < i)) (wVar 1) (wFld 3 3 (wVar 0)))) (wSeq (wSetF 3 3 (wVar 0) (wVar 1)) (wSeq (wSetF 3 2 (wVar 0) (wVar 3)) (wSetF 3 5 (wVar 0) (wDict0)))) (wNext)) (wIfS (wAndT (wBl (wOp (dEq false) (wVar 1) (wFld 3 3 (wVar 0)))) (wBl (wOp (dIn true) (wVar 2) (wFld 3 5 (wVar 0))))) (wAsg (wVar 4) (gSubD (wFld 3 5 (wVar 0)) (wVar 2))) (wNext))
def S_Taker_keep : DSp := arD 5 (runD 5 w_Taker_keep)
theorem sc_Taker_keep : FnScope ["self", "number", "index", "many", "text"] ["self", "number", "index", "many", "text"] (defScope st_Taker_keep) := ⟨rfl, rfl, rfl, by decide +kernel, rfl, by decide +kernel, by decide +kernel⟩
theorem ok_Taker_keep (cx : Cxt w K mg) : ∃ fd, FD P w K mg base (gm K) 1 (He.fAd K ("Taker", some "keep")) fd ["self", "number", "index", "many", "text"] S_Taker_keep ∧ FunD K "keep" "Taker.keep" (defArgs st_Taker_keep) (defBody st_Taker_keep) (defScope st_Taker_keep) [] [] (He.fAd K ("Taker", some "keep")) fd := by
  obtain ⟨fd, F⟩ := cx.F_Taker_keep
  refine ⟨fd, FD.mk' F sc_Taker_keep (fun _ _ _ _ _ _ us hl => match us, hl with | [_, _, _, _, _], _ => rfl) fun cdv A outer s H E hr hg => ?_, F⟩
  have dx := dx_cx (P := P) (w := w) (K := K) (mg := mg) (base := base) (G := gm K) (outer := outer) (H := H) (E := E) rfl sc_Taker_keep.nd hr hg
  exact (qss_cons (qs_if (qt_cmp (od_rel op_gt) (qe_var (i := 1) rfl (.inl rfl)) (qe_fld (c := 3) (i := 3) (inj0 (K := K)) rfl cx.cls_Taker cx.na_Taker_own_number (qe_var (i := 0) rfl (.inl rfl))) (nomark _)) (qss_cons (qs_fld (c := 3) (i := 3) (inj0 (K := K)) rfl cx.cls_Taker cx.na_Taker_own_number (qe_var (i := 0) rfl (.inl rfl)) (qe_var (i := 1) rfl (.inl rfl))) (qss_cons (qs_fld (c := 3) (i := 2) (inj0 (K := K)) rfl cx.cls_Taker cx.na_Taker_own_many (qe_var (i := 0) rfl (.inl rfl)) (qe_var (i := 3) rfl (.inl rfl))) (qss_one (qs_fld (c := 3) (i := 5) (inj0 (K := K)) rfl cx.cls_Taker cx.na_Taker_own_pieces (qe_var (i := 0) rfl (.inl rfl)) qe_dict0)))) qss_nil) (qss_one (qs_if (PW.pt (qw_and (qt_cmp (od_eq dx.K dx.u65 false rfl) (qe_var (i := 1) rfl (.inl rfl)) (qe_fld (c := 3) (i := 3) (inj0 (K := K)) rfl cx.cls_Taker cx.na_Taker_own_number (qe_var (i := 0) rfl (.inl rfl))) (nomark _)) (qw_and1 (qt_cmp (od_in dx.K dx.u1 true rfl) (qe_var (i := 2) rfl (.inl rfl)) (qe_fld (c := 3) (i := 5) (inj0 (K := K)) rfl cx.cls_Taker cx.na_Taker_own_pieces (qe_var (i := 0) rfl (.inl rfl))) (by rfl))))) (qss_one (qs_asg (qe_var (i := 4) rfl (.inl rfl)) (qg_sub (vs := []) dx (qe_fld (c := 3) (i := 5) (inj0 (K := K)) rfl cx.cls_Taker cx.na_Taker_own_pieces (qe_var (i := 0) rfl (.inl rfl))) (qe_var (i := 2) rfl (.inl rfl))))) qss_nil)))
def w_Taker_receive : DS := wSeq (wAsg (wB dTupOf (wCons (wVar 1) (wNil))) (gStar 2 (gConsD (gN 2) (gConsD (gN 3) (gConsD (gN 4) (gNilD)))))) (wSeq (wIfS (wTru (wFld 3 6 (wVar 0))) (wRetN) (wNext)) (wIfS (wBl (wOp (dEq false) (wVar 2) (wC (.str "piece")))) (wDrop (wMeth 3 S_Taker_keep [] (wVar 0) (wCons (wVar 3) (wCons (wOp dIx (wVar 4) (wC (.int 0))) (wCons (wOp dIx (wVar 4) (wC (.int 1))) (wCons (wOp dIx (wVar 4) (wC (.int 2))) (wNil))))))) (wIfS (wAndT (wBl (wOp (dEq false) (wVar 2) (wC (.str "go")))) (wAndT (wBl (wOp (dEq false) (wVar 3) (wFld 3 3 (wVar 0)))) (wTru (wMeth 3 S_Taker_is_whole [] (wVar 0) wNil)))) (wSetF 3 6 (wVar 0) (wC (.bl true))) (wNext))))
def S_Taker_receive : DSp := arD 2 (runD 5 w_Taker_receive)
theorem sc_Taker_receive : FnScope ["self", "message", "word", "number", "rest"] ["self", "message"] (defScope st_Taker_receive) := ⟨rfl, rfl, rfl, by decide +kernel, rfl, by decide +kernel, by decide +kernel⟩
theorem ok_Taker_receive (cx : Cxt w K mg) : ∃ fd, FD P w K mg base (gm K) 2 (He.fAd K ("Taker", some "receive")) fd ["self", "message"] S_Taker_receive ∧ FunD K "receive" "Taker.receive" (defArgs st_Taker_receive) (defBody st_Taker_receive) (defScope st_Taker_receive) [] [] (He.fAd K ("Taker", some "receive")) fd := by
  obtain ⟨fd, F⟩ := cx.F_Taker_receive
  obtain ⟨fd_Taker_is_whole, k_Taker_is_whole, F_Taker_is_whole⟩ := ok_Taker_is_whole (P := P) (w := w) (base := base) cx
  obtain ⟨fd_Taker_keep, k_Taker_keep, F_Taker_keep⟩ := ok_Taker_keep (P := P) (w := w) (base := base) cx
  obtain ⟨t_GO, h_GO⟩ := cx.i_GO
  obtain ⟨t_PIECE, h_PIECE⟩ := cx.i_PIECE
  refine ⟨fd, FD.mk' F sc_Taker_receive (fun _ _ _ _ _ _ us hl => match us, hl with | [_, _], _ => rfl) fun cdv A outer s H E hr hg => ?_, F⟩
  have dx := dx_cx (P := P) (w := w) (K := K) (mg := mg) (base := base) (G := gm K) (outer := outer) (H := H) (E := E) rfl sc_Taker_receive.nd hr hg
  exact (qss_cons (qs_asg (qe_callTy (cd_tup dx.K) rfl cx.n_tuple boot_tuple (qa_cons (qe_var (i := 1) rfl (.inl rfl)) qa_nil)) (qg_star (n := 2) dx.K dx.calm (qgs_cons (qg_name (i := 2) dx.nd rfl (.inl rfl) (.inl rfl)) (qgs_cons (qg_name (i := 3) dx.nd rfl (.inl rfl) (.inl rfl)) (qgs_cons (qg_name (i := 4) dx.nd rfl (.inl rfl) (.inl rfl)) qgs_nil))))) (qss_cons (qs_if (qt_truth dx.K (qe_fld (c := 3) (i := 6) (inj0 (K := K)) rfl cx.cls_Taker cx.na_Taker_own_runs (qe_var (i := 0) rfl (.inl rfl)))) (qss_one (qs_retN)) qss_nil) (qss_one (qs_if (qt_cmp (od_eq dx.K dx.u65 false rfl) (qe_var (i := 2) rfl (.inl rfl)) (qe_glob (v := .str "piece") rfl h_PIECE ⟨_, rfl⟩ fun _ => .str "piece") (nomark _)) (qss_one (qs_expr (qf_meth (pl := _) k_Taker_keep dx (by decide) (qe_var (i := 0) rfl (.inl rfl)) cx.cls_Taker rfl (fldOf_ne (by kernel_rfl)) cx.m_Taker_keep (qa_cons (qe_var (i := 3) rfl (.inl rfl)) (qa_cons (pd_ix dx.K dx.u1 (qe_var (i := 4) rfl (.inl rfl)) qe_int nofun) (qa_cons (pd_ix dx.K dx.u1 (qe_var (i := 4) rfl (.inl rfl)) qe_int nofun) (qa_cons (pd_ix dx.K dx.u1 (qe_var (i := 4) rfl (.inl rfl)) qe_int nofun) qa_nil))))))) (qss_one (qs_if (PW.pt (qw_and (qt_cmp (od_eq dx.K dx.u65 false rfl) (qe_var (i := 2) rfl (.inl rfl)) (qe_glob (v := .str "go") rfl h_GO ⟨_, rfl⟩ fun _ => .str "go") (nomark _)) (qw_and (qt_cmp (od_eq dx.K dx.u65 false rfl) (qe_var (i := 3) rfl (.inl rfl)) (qe_fld (c := 3) (i := 3) (inj0 (K := K)) rfl cx.cls_Taker cx.na_Taker_own_number (qe_var (i := 0) rfl (.inl rfl))) (nomark _)) (qw_and1 (qt_truth dx.K (qf_meth0 (pl := _) k_Taker_is_whole dx (by decide) (qe_var (i := 0) rfl (.inl rfl)) cx.cls_Taker rfl (fldOf_ne (by kernel_rfl)) cx.m_Taker_is_whole)))))) (qss_one (qs_fld (c := 3) (i := 6) (inj0 (K := K)) rfl cx.cls_Taker cx.na_Taker_own_runs (qe_var (i := 0) rfl (.inl rfl)) qe_bl)) qss_nil))))))
def w_Taker_messages : DS := wSeq (wIfS (wTru (wFld 3 6 (wVar 0))) (wRet (wLst false (wCons (wTup (wCons (wC (.str "going")) (wCons (wFld 3 3 (wVar 0)) (wNil)))) (wNil)))) (wNext)) (wRet (wIf (wTru (wMeth 3 S_Taker_is_whole [] (wVar 0) wNil)) (wLst false (wCons (wTup (wCons (wC (.str "whole")) (wCons (wFld 3 3 (wVar 0)) (wNil)))) (wNil))) (wLst false (wNil))))
def S_Taker_messages : DSp := arD 1 (runD 1 w_Taker_messages)
theorem sc_Taker_messages : FnScope ["self"] ["self"] (defScope st_Taker_messages) := ⟨rfl, rfl, rfl, by decide +kernel, rfl, by decide +kernel, by decide +kernel⟩
theorem ok_Taker_messages (cx : Cxt w K mg) : ∃ fd, FD P w K mg base (gm K) 2 (He.fAd K ("Taker", some "messages")) fd ["self"] S_Taker_messages ∧ FunD K "messages" "Taker.messages" (defArgs st_Taker_messages) (defBody st_Taker_messages) (defScope st_Taker_messages) [] [] (He.fAd K ("Taker", some "messages")) fd := by
  obtain ⟨fd, F⟩ := cx.F_Taker_messages
  obtain ⟨fd_Taker_is_whole, k_Taker_is_whole, F_Taker_is_whole⟩ := ok_Taker_is_whole (P := P) (w := w) (base := base) cx
  obtain ⟨t_GOING, h_GOING⟩ := cx.i_GOING
  obtain ⟨t_WHOLE, h_WHOLE⟩ := cx.i_WHOLE
  refine ⟨fd, FD.mk' F sc_Taker_messages (fun _ _ _ _ _ _ us hl => match us, hl with | [_], _ => rfl) fun cdv A outer s H E hr hg => ?_, F⟩
  have dx := dx_cx (P := P) (w := w) (K := K) (mg := mg) (base := base) (G := gm K) (outer := outer) (H := H) (E := E) rfl sc_Taker_messages.nd hr hg
  exact (qss_cons (qs_if (qt_truth dx.K (qe_fld (c := 3) (i := 6) (inj0 (K := K)) rfl cx.cls_Taker cx.na_Taker_own_runs (qe_var (i := 0) rfl (.inl rfl)))) (qss_one (qs_ret (qe_lst false (qa_cons (qe_tup (qa_cons (qe_glob (v := .str "going") rfl h_GOING ⟨_, rfl⟩ fun _ => .str "going") (qa_cons (qe_fld (c := 3) (i := 3) (inj0 (K := K)) rfl cx.cls_Taker cx.na_Taker_own_number (qe_var (i := 0) rfl (.inl rfl))) qa_nil))) qa_nil)))) qss_nil) (qss_one (qs_ret (qe_if (qt_truth dx.K (qf_meth0 (pl := _) k_Taker_is_whole dx (by decide) (qe_var (i := 0) rfl (.inl rfl)) cx.cls_Taker rfl (fldOf_ne (by kernel_rfl)) cx.m_Taker_is_whole)) (qe_lst false (qa_cons (qe_tup (qa_cons (qe_glob (v := .str "whole") rfl h_WHOLE ⟨_, rfl⟩ fun _ => .str "whole") (qa_cons (qe_fld (c := 3) (i := 3) (inj0 (K := K)) rfl cx.cls_Taker cx.na_Taker_own_number (qe_var (i := 0) rfl (.inl rfl))) qa_nil))) qa_nil)) (qe_lst false qa_nil)))))
def w_Taker_running : DS := wSeq (wIfS (wNotT (wTru (wFld 3 6 (wVar 0)))) (wRet (wC .non)) (wNext)) (wRet (wJoin (wC (.str "")) (wLc false (iAny (wB (dSorted false) (wCons (wFld 3 5 (wVar 0)) (wNil)))) (gN 1) (wYes) (wOp dIx (wFld 3 5 (wVar 0)) (wVar 1)) [1])))
def S_Taker_running : DSp := arD 1 (runD 2 w_Taker_running)
theorem sc_Taker_running : FnScope ["self", "index"] ["self"] (defScope st_Taker_running) := ⟨rfl, rfl, rfl, by decide +kernel, rfl, by decide +kernel, by decide +kernel⟩
theorem ok_Taker_running (cx : Cxt w K mg) : ∃ fd, FD P w K mg base (gm K) 1 (He.fAd K ("Taker", some "running")) fd ["self"] S_Taker_running ∧ FunD K "running" "Taker.running" (defArgs st_Taker_running) (defBody st_Taker_running) (defScope st_Taker_running) [] [] (He.fAd K ("Taker", some "running")) fd := by
  obtain ⟨fd, F⟩ := cx.F_Taker_running
  refine ⟨fd, FD.mk' F sc_Taker_running (fun _ _ _ _ _ _ us hl => match us, hl with | [_], _ => rfl) fun cdv A outer s H E hr hg => ?_, F⟩
  have dx := dx_cx (P := P) (w := w) (K := K) (mg := mg) (base := base) (G := gm K) (outer := outer) (H := H) (E := E) rfl sc_Taker_running.nd hr hg
  exact (qss_cons (qs_if (qt_not (qt_truth dx.K (qe_fld (c := 3) (i := 6) (inj0 (K := K)) rfl cx.cls_Taker cx.na_Taker_own_runs (qe_var (i := 0) rfl (.inr (.inl rfl)))))) (qss_one (qs_ret qe_non)) qss_nil) (qss_one (qs_ret (qe_join dx.K qe_str (qe_lc (own := [("index", 1)]) dx false (qi_any dx.K (qe_callB (cd_sorted dx.K dx.calm false) rfl cx.n_sorted boot_sorted (qa_cons (qe_fld (c := 3) (i := 5) (inj0 (K := K)) rfl cx.cls_Taker cx.na_Taker_own_pieces (qe_var (i := 0) rfl (.inr (.inl rfl)))) qa_nil))) (blk_of (by kernel_rfl)) (by decide) (fun _ _ _ _ _ => (qg_name (i := 1) (DX.blk dx _ _ _ _ _).nd rfl (.inl rfl) (.inr rfl))) (fun _ _ _ _ _ => qts_nil) (fun _ _ _ _ _ => (pd_ix (DX.blk dx _ _ _ _ _).K (DX.blk dx _ _ _ _ _).u1 (qe_fld (c := 3) (i := 5) (inj0 (K := K)) rfl cx.cls_Taker cx.na_Taker_own_pieces (qe_var (i := 0) rfl (.inr (.inl rfl)))) (qe_var (i := 1) rfl (.inl rfl)) nofun)))))))
def w__law_stream : DS := wSeq (wAsg (wC (.int 0)) (gN 2)) (wSeq (wIfS (wBl (wOp (dRel fun i j => decide (i < j)) (wVar 1) (wB dLen (wCons (wVar 0) (wNil))))) (wAsg (wOp dIx (wVar 0) (wVar 1)) (gN 2)) (wNext)) (wRet (wLst true (wCons (wOp (dMul false) (wB dAbs (wCons (wVar 2) (wNil))) (wB dInt (wCons (wOp (dRel fun i j => decide (j ≤ i)) (wB dAbs (wCons (wVar 2) (wNil))) (wOp (dPow) (wC (.int 10)) (wC (.int 18)))) (wNil)))) (wCons (wOp (dAdd false) (wOp (dAdd false) (wOp (dMod) (wVar 2) (wC (.int 2305843009213693951))) (wOp (dMul false) (wC (.int 39373)) (wVar 1))) (wC (.int 29))) (wCons (wC (.int 0)) (wNil)))))))
def S__law_stream : DSp := arD 2 (runD 3 w__law_stream)
theorem sc__law_stream : FnScope ["_law_script", "_law_k", "_law_cell"] ["_law_script", "_law_k"] (defScope st__law_stream) := ⟨rfl, rfl, rfl, by decide +kernel, rfl, by decide +kernel, by decide +kernel⟩
theorem ok__law_stream (cx : Cxt w K mg) : ∃ fd, FD P w K mg base (gm K) 1 (He.fAd K ("_law_stream", none)) fd ["_law_script", "_law_k"] S__law_stream ∧ FunD K "_law_stream" "_law_stream" (defArgs st__law_stream) (defBody st__law_stream) (defScope st__law_stream) [] [] (He.fAd K ("_law_stream", none)) fd := by
  obtain ⟨fd, F⟩ := cx.F__law_stream
  refine ⟨fd, FD.mk' F sc__law_stream (fun _ _ _ _ _ _ us hl => match us, hl with | [_, _], _ => rfl) fun cdv A outer s H E hr hg => ?_, F⟩
  have dx := dx_cx (P := P) (w := w) (K := K) (mg := mg) (base := base) (G := gm K) (outer := outer) (H := H) (E := E) rfl sc__law_stream.nd hr hg
  exact (qss_cons (qs_set (i := 2) dx.nd rfl (.inl rfl) qe_int (by rfl) (.inl rfl)) (qss_cons (qs_if (qt_cmp (od_rel op_lt) (qe_var (i := 1) rfl (.inl rfl)) (qe_callB (cd_len dx.K) rfl cx.n_len boot_len (qa_cons (qe_var (i := 0) rfl (.inl rfl)) qa_nil)) (nomark _)) (qss_one (qs_set (i := 2) dx.nd rfl (.inl rfl) (pd_ix dx.K dx.u1 (qe_var (i := 0) rfl (.inl rfl)) (qe_var (i := 1) rfl (.inl rfl)) nofun) (by rfl) (.inl rfl))) qss_nil) (qss_one (qs_ret (qe_lst true (qa_cons (pd_op (od_mul dx.K false) (qe_callB cd_abs rfl cx.n_abs boot_abs (qa_cons (qe_var (i := 2) rfl (.inl rfl)) qa_nil)) (qe_callTy cd_int rfl cx.n_int boot_int (qa_cons (pd_cmp (od_rel op_ge) (qe_callB cd_abs rfl cx.n_abs boot_abs (qa_cons (qe_var (i := 2) rfl (.inl rfl)) qa_nil)) (pd_op (od_pow) qe_int qe_int) (nomark _)) qa_nil))) (qa_cons (pd_op (od_add dx.K false) (pd_op (od_add dx.K false) (pd_op (od_mod) (qe_var (i := 2) rfl (.inl rfl)) qe_int) (pd_op (od_mul dx.K false) qe_int (qe_var (i := 1) rfl (.inl rfl)))) qe_int) (qa_cons qe_int qa_nil))))))))
def w__law_draw : DS := wSeq (wIfS (wBl (wOp (dRel fun i j => decide (j < i)) (wOp dIx (wVar 0) (wC (.int 0))) (wC (.int 0)))) (wSeq (wAsg (wOp (dMod) (wOp dIx (wVar 0) (wC (.int 0))) (wVar 1)) (gN 2)) (wSeq (wAsg (wOp (dDiv) (wOp dIx (wVar 0) (wC (.int 0))) (wVar 1)) (gSubD (wVar 0) (wC (.int 0)))) (wRet (wVar 2)))) (wNext)) (wSeq (wAsg (wOp (dAdd false) (wOp dIx (wVar 0) (wC (.int 2))) (wC (.int 1))) (gSubD (wVar 0) (wC (.int 2)))) (wSeq (wAsg (wOp (dMod) (wOp (dMul false) (wOp (dAdd false) (wOp dIx (wVar 0) (wC (.int 1))) (wOp (dMul false) (wC (.int 48271)) (wOp dIx (wVar 0) (wC (.int 2))))) (wOp (dAdd false) (wC (.int 39373)) (wOp dIx (wVar 0) (wC (.int 2))))) (wC (.int 2147483647))) (gN 3)) (wSeq (wAsg (wOp (dMod) (wOp (dMul false) (wOp (dAdd false) (wOp (dAdd false) (wVar 3) (wOp dIx (wVar 0) (wC (.int 2)))) (wOp (dDiv) (wOp dIx (wVar 0) (wC (.int 1))) (wC (.int 1000003)))) (wOp (dAdd false) (wOp (dMod) (wVar 3) (wC (.int 40009))) (wC (.int 7)))) (wC (.int 2147483629))) (gN 4)) (wRet (wOp (dMod) (wOp (dDiv) (wOp (dMod) (wOp (dAdd false) (wOp (dMul false) (wVar 4) (wC (.int 48271))) (wVar 3)) (wC (.int 2147483587))) (wC (.int 64))) (wVar 1))))))
def S__law_draw : DSp := arD 2 (runD 5 w__law_draw)
theorem sc__law_draw : FnScope ["_law_source", "_law_bound", "_law_found", "_law_once", "_law_twice"] ["_law_source", "_law_bound"] (defScope st__law_draw) := ⟨rfl, rfl, rfl, by decide +kernel, rfl, by decide +kernel, by decide +kernel⟩
theorem ok__law_draw (cx : Cxt w K mg) : ∃ fd, FD P w K mg base (gm K) 1 (He.fAd K ("_law_draw", none)) fd ["_law_source", "_law_bound"] S__law_draw ∧ FunD K "_law_draw" "_law_draw" (defArgs st__law_draw) (defBody st__law_draw) (defScope st__law_draw) [] [] (He.fAd K ("_law_draw", none)) fd := by
  obtain ⟨fd, F⟩ := cx.F__law_draw
  refine ⟨fd, FD.mk' F sc__law_draw (fun _ _ _ _ _ _ us hl => match us, hl with | [_, _], _ => rfl) fun cdv A outer s H E hr hg => ?_, F⟩
  have dx := dx_cx (P := P) (w := w) (K := K) (mg := mg) (base := base) (G := gm K) (outer := outer) (H := H) (E := E) rfl sc__law_draw.nd hr hg
  exact (qss_cons (qs_if (qt_cmp (od_rel op_gt) (pd_ix dx.K dx.u1 (qe_var (i := 0) rfl (.inl rfl)) qe_int nofun) qe_int (nomark _)) (qss_cons (qs_set (i := 2) dx.nd rfl (.inl rfl) (pd_op (od_mod) (pd_ix dx.K dx.u1 (qe_var (i := 0) rfl (.inl rfl)) qe_int nofun) (qe_var (i := 1) rfl (.inl rfl))) (by rfl) (.inl rfl)) (qss_cons (qs_asg (pd_op (od_div) (pd_ix dx.K dx.u1 (qe_var (i := 0) rfl (.inl rfl)) qe_int nofun) (qe_var (i := 1) rfl (.inl rfl))) (qg_sub (vs := []) dx (qe_var (i := 0) rfl (.inl rfl)) qe_int)) (qss_one (qs_ret (qe_var (i := 2) rfl (.inl rfl)))))) qss_nil) (qss_cons (qs_asg (pd_op (od_add dx.K false) (pd_ix dx.K dx.u1 (qe_var (i := 0) rfl (.inl rfl)) qe_int nofun) qe_int) (qg_sub (vs := []) dx (qe_var (i := 0) rfl (.inl rfl)) qe_int)) (qss_cons (qs_set (i := 3) dx.nd rfl (.inl rfl) (pd_op (od_mod) (pd_op (od_mul dx.K false) (pd_op (od_add dx.K false) (pd_ix dx.K dx.u1 (qe_var (i := 0) rfl (.inl rfl)) qe_int nofun) (pd_op (od_mul dx.K false) qe_int (pd_ix dx.K dx.u1 (qe_var (i := 0) rfl (.inl rfl)) qe_int nofun))) (pd_op (od_add dx.K false) qe_int (pd_ix dx.K dx.u1 (qe_var (i := 0) rfl (.inl rfl)) qe_int nofun))) qe_int) (by rfl) (.inl rfl)) (qss_cons (qs_set (i := 4) dx.nd rfl (.inl rfl) (pd_op (od_mod) (pd_op (od_mul dx.K false) (pd_op (od_add dx.K false) (pd_op (od_add dx.K false) (qe_var (i := 3) rfl (.inl rfl)) (pd_ix dx.K dx.u1 (qe_var (i := 0) rfl (.inl rfl)) qe_int nofun)) (pd_op (od_div) (pd_ix dx.K dx.u1 (qe_var (i := 0) rfl (.inl rfl)) qe_int nofun) qe_int)) (pd_op (od_add dx.K false) (pd_op (od_mod) (qe_var (i := 3) rfl (.inl rfl)) qe_int) qe_int)) qe_int) (by rfl) (.inl rfl)) (qss_one (qs_ret (pd_op (od_mod) (pd_op (od_div) (pd_op (od_mod) (pd_op (od_add dx.K false) (pd_op (od_mul dx.K false) (qe_var (i := 4) rfl (.inl rfl)) qe_int) (qe_var (i := 3) rfl (.inl rfl))) qe_int) qe_int) (qe_var (i := 1) rfl (.inl rfl)))))))))
def w__law_folded : DS := wSeq (wAsg (wOr (wB (dListOf true) (wCons (wSl false (wVar 0) none (some (wVar 1))) (wNil))) (wLst true (wCons (wC (.int 0)) (wNil)))) (gN 2)) (wSeq (wFor (iEnumD (wCons (wSl false (wVar 0) (some (wVar 1)) (some (wC (.int 63)))) (wNil))) (gSeq 2 (gConsD (gN 3) (gConsD (gN 4) (gNilD)))) (wAsg (wOp (dAdd false) (wOp dIx (wVar 2) (wOp (dMod) (wVar 3) (wVar 1))) (wOp (dMul false) (wVar 4) (wOp (dAdd false) (wVar 3) (wC (.int 2))))) (gSubD (wVar 2) (wOp (dMod) (wVar 3) (wVar 1))))) (wRet (wVar 2)))
def S__law_folded : DSp := arD 2 (runD 5 w__law_folded)
theorem sc__law_folded : FnScope ["_law_script", "_law_most", "_law_cells", "_law_k", "_law_cell"] ["_law_script", "_law_most"] (defScope st__law_folded) := ⟨rfl, rfl, rfl, by decide +kernel, rfl, by decide +kernel, by decide +kernel⟩
theorem ok__law_folded (cx : Cxt w K mg) : ∃ fd, FD P w K mg base (gm K) 1 (He.fAd K ("_law_folded", none)) fd ["_law_script", "_law_most"] S__law_folded ∧ FunD K "_law_folded" "_law_folded" (defArgs st__law_folded) (defBody st__law_folded) (defScope st__law_folded) [] [] (He.fAd K ("_law_folded", none)) fd := by
  obtain ⟨fd, F⟩ := cx.F__law_folded
  refine ⟨fd, FD.mk' F sc__law_folded (fun _ _ _ _ _ _ us hl => match us, hl with | [_, _], _ => rfl) fun cdv A outer s H E hr hg => ?_, F⟩
  have dx := dx_cx (P := P) (w := w) (K := K) (mg := mg) (base := base) (G := gm K) (outer := outer) (H := H) (E := E) rfl sc__law_folded.nd hr hg
  exact (qss_cons (qs_set (i := 2) dx.nd rfl (.inl rfl) (qe_or dx.K (qe_callTy (cd_list dx.K dx.calm true) rfl cx.n_list boot_list (qa_cons (pd_sl (mu := false) dx.K (qe_var (i := 0) rfl (.inl rfl)) po_none' (po_some' (qe_var (i := 1) rfl (.inl rfl)))) qa_nil)) (qe_one (qe_lst true (qa_cons qe_int qa_nil)))) (by rfl) (.inl rfl)) (qss_cons (qs_for dx (qi_enum dx.K rfl cx.n_enumerate (qa_cons (pd_sl (mu := false) dx.K (qe_var (i := 0) rfl (.inl rfl)) (po_some' (qe_var (i := 1) rfl (.inl rfl))) (po_some' qe_int)) qa_nil)) (qg_tup (n := 2) dx.K dx.calm (qgs_cons (qg_name (i := 3) dx.nd rfl (.inl rfl) (.inl rfl)) (qgs_cons (qg_name (i := 4) dx.nd rfl (.inl rfl) (.inl rfl)) qgs_nil))) (qss_one (qs_asg (pd_op (od_add dx.K false) (pd_ix dx.K dx.u1 (qe_var (i := 2) rfl (.inl rfl)) (pd_op (od_mod) (qe_var (i := 3) rfl (.inl rfl)) (qe_var (i := 1) rfl (.inl rfl))) nofun) (pd_op (od_mul dx.K false) (qe_var (i := 4) rfl (.inl rfl)) (pd_op (od_add dx.K false) (qe_var (i := 3) rfl (.inl rfl)) qe_int))) (qg_sub (vs := []) dx (qe_var (i := 2) rfl (.inl rfl)) (pd_op (od_mod) (qe_var (i := 3) rfl (.inl rfl)) (qe_var (i := 1) rfl (.inl rfl))))))) (qss_one (qs_ret (qe_var (i := 2) rfl (.inl rfl))))))
def w__law_pick : DS := wRet (wOp dIx (wVar 1) (wCall S__law_draw [] (wCons (wVar 0) (wCons (wB dLen (wCons (wVar 1) (wNil))) (wNil)))))
def S__law_pick : DSp := arD 2 (runD 2 w__law_pick)
theorem sc__law_pick : FnScope ["_law_source", "_law_some"] ["_law_source", "_law_some"] (defScope st__law_pick) := ⟨rfl, rfl, rfl, by decide +kernel, rfl, by decide +kernel, by decide +kernel⟩
theorem ok__law_pick (cx : Cxt w K mg) : ∃ fd, FD P w K mg base (gm K) 2 (He.fAd K ("_law_pick", none)) fd ["_law_source", "_law_some"] S__law_pick ∧ FunD K "_law_pick" "_law_pick" (defArgs st__law_pick) (defBody st__law_pick) (defScope st__law_pick) [] [] (He.fAd K ("_law_pick", none)) fd := by
  obtain ⟨fd, F⟩ := cx.F__law_pick
  obtain ⟨fd__law_draw, k__law_draw, F__law_draw⟩ := ok__law_draw (P := P) (w := w) (base := base) cx
  refine ⟨fd, FD.mk' F sc__law_pick (fun _ _ _ _ _ _ us hl => match us, hl with | [_, _], _ => rfl) fun cdv A outer s H E hr hg => ?_, F⟩
  have dx := dx_cx (P := P) (w := w) (K := K) (mg := mg) (base := base) (G := gm K) (outer := outer) (H := H) (E := E) rfl sc__law_pick.nd hr hg
  exact (qss_one (qs_ret (pd_ix dx.K dx.u1 (qe_var (i := 1) rfl (.inl rfl)) (qf_call k__law_draw dx (by decide) rfl cx.g__law_draw (qa_cons (qe_var (i := 0) rfl (.inl rfl)) (qa_cons (qe_callB (cd_len dx.K) rfl cx.n_len boot_len (qa_cons (qe_var (i := 1) rfl (.inl rfl)) qa_nil)) qa_nil))) nofun)))
def w__law_same (S0 : DSp) : DS := wSeq (wIfS (wTru (wIsi [.lst, .tup] (wVar 1))) (wSeq (wIfS (wOrT (wBl (wOp (dEq true) (wIsi [.lst] (wVar 0)) (wIsi [.lst] (wVar 1)))) (wBl (wOp (dEq true) (wIsi [.tup] (wVar 0)) (wIsi [.tup] (wVar 1))))) (wRet (wC (.bl false))) (wNext)) (wRet (wAnd (wOp (dEq false) (wB dLen (wCons (wVar 0) (wNil))) (wB dLen (wCons (wVar 1) (wNil)))) (wB dAll (wCons (wLc false (iZipD (wCons (wVar 0) (wCons (wVar 1) (wNil)))) (gSeq 2 (gConsD (gN 2) (gConsD (gN 3) (gNilD)))) (wYes) (wCall S0 [] (wCons (wVar 2) (wCons (wVar 3) (wNil)))) [2, 3]) (wNil)))))) (wNext)) (wSeq (wIfS (wOrT (wBl (wOp (dIsN false) (wVar 1) (wC .non))) (wTru (wIsi [.bl, .str] (wVar 1)))) (wRet (wAnd (wOp (dEq false) (wVar 0) (wVar 1)) (wAnd (wOp (dEq false) (wIsi [.bl] (wVar 0)) (wIsi [.bl] (wVar 1))) (wOp (dEq false) (wOp (dIsN false) (wVar 0) (wC .non)) (wOp (dIsN false) (wVar 1) (wC .non)))))) (wNext)) (wRet (wAnd (wIsi [.int] (wVar 0)) (wAnd (wNot (wIsi [.bl] (wVar 0))) (wOp (dEq false) (wVar 0) (wVar 1))))))
def S__law_same : Nat → DSp
  | 0 => fun _ _ _ => False
  | n + 1 => arD 2 (runD 4 (w__law_same (S__law_same n)))
theorem sc__law_same : FnScope ["_law_found", "_law_due", "_law_mine", "_law_its"] ["_law_found", "_law_due"] (defScope st__law_same) := ⟨rfl, rfl, rfl, by decide +kernel, rfl, by decide +kernel, by decide +kernel⟩
theorem ok__law_same (cx : Cxt w K mg) : ∃ fd, (∀ n, FD P w K mg base (gm K) (0 + n) (He.fAd K ("_law_same", none)) fd ["_law_found", "_law_due"] (S__law_same n)) ∧ FunD K "_law_same" "_law_same" (defArgs st__law_same) (defBody st__law_same) (defScope st__law_same) [] [] (He.fAd K ("_law_same", none)) fd := by
  obtain ⟨fd, F⟩ := cx.F__law_same
  refine ⟨fd, fun n => ?_, F⟩
  induction n with
  | zero => exact FD.zero F (fun _ _ _ _ _ _ us hl => match us, hl with | [_, _], _ => rfl)
  | succ n k0 =>
    refine FD.mk' F sc__law_same (fun _ _ _ _ _ _ us hl => match us, hl with | [_, _], _ => rfl) fun cdv A outer s H E hr hg => ?_
    have dx := dx_cx (P := P) (w := w) (K := K) (mg := mg) (base := base) (G := gm K) (outer := outer) (H := H) (E := E) rfl sc__law_same.nd hr hg
    exact (qss_cons (qs_if (qt_truth dx.K (qe_isi2 (t := .lst) (t' := .tup) dx.K (by decide) (by decide) rfl cx.n_isinstance rfl cx.n_list boot_list rfl cx.n_tuple boot_tuple (qe_var (i := 1) rfl (.inl rfl)))) (qss_cons (qs_if (PW.pt (qw_or (qt_cmp (od_eq dx.K dx.u65 true rfl) (qe_isi (t := .lst) dx.K (by decide) rfl cx.n_isinstance rfl cx.n_list boot_list (qe_var (i := 0) rfl (.inl rfl))) (qe_isi (t := .lst) dx.K (by decide) rfl cx.n_isinstance rfl cx.n_list boot_list (qe_var (i := 1) rfl (.inl rfl))) (nomark _)) (qw_or1 (qt_cmp (od_eq dx.K dx.u65 true rfl) (qe_isi (t := .tup) dx.K (by decide) rfl cx.n_isinstance rfl cx.n_tuple boot_tuple (qe_var (i := 0) rfl (.inl rfl))) (qe_isi (t := .tup) dx.K (by decide) rfl cx.n_isinstance rfl cx.n_tuple boot_tuple (qe_var (i := 1) rfl (.inl rfl))) (nomark _))))) (qss_one (qs_ret qe_bl)) qss_nil) (qss_one (qs_ret (qe_and dx.K (pd_cmp (od_eq dx.K dx.u65 false rfl) (qe_callB (cd_len dx.K) rfl cx.n_len boot_len (qa_cons (qe_var (i := 0) rfl (.inl rfl)) qa_nil)) (qe_callB (cd_len dx.K) rfl cx.n_len boot_len (qa_cons (qe_var (i := 1) rfl (.inl rfl)) qa_nil)) (nomark _)) (qe_one (qe_callB (cd_all dx.K dx.calm) rfl cx.n_all boot_all (qa_cons (qe_lc (own := [("_law_mine", 2), ("_law_its", 3)]) dx false (qi_zip dx.K rfl cx.n_zip (qa_cons (qe_var (i := 0) rfl (.inl rfl)) (qa_cons (qe_var (i := 1) rfl (.inl rfl)) qa_nil))) (blk_of (by kernel_rfl)) (by decide) (fun _ _ _ _ _ => (qg_tup (n := 2) (DX.blk dx _ _ _ _ _).K (DX.blk dx _ _ _ _ _).calm (qgs_cons (qg_name (i := 2) (DX.blk dx _ _ _ _ _).nd rfl (.inl rfl) (.inr rfl)) (qgs_cons (qg_name (i := 3) (DX.blk dx _ _ _ _ _).nd rfl (.inl rfl) (.inr rfl)) qgs_nil)))) (fun _ _ _ _ _ => qts_nil) (fun _ _ _ _ _ => (qf_call k0 (DX.blk dx _ _ _ _ _) (Nat.le_refl _) rfl cx.g__law_same (qa_cons (qe_var (i := 2) rfl (.inl rfl)) (qa_cons (qe_var (i := 3) rfl (.inl rfl)) qa_nil))))) qa_nil))))))) qss_nil) (qss_cons (qs_if (PW.pt (qw_or (qt_cmp (od_isN false rfl) (qe_var (i := 1) rfl (.inl rfl)) qe_non (nomark _)) (qw_or1 (qt_truth dx.K (qe_isi2 (t := .bl) (t' := .str) dx.K (by decide) (by decide) rfl cx.n_isinstance rfl cx.n_bool boot_bool rfl cx.n_str boot_str (qe_var (i := 1) rfl (.inl rfl))))))) (qss_one (qs_ret (qe_and dx.K (pd_cmp (od_eq dx.K dx.u65 false rfl) (qe_var (i := 0) rfl (.inl rfl)) (qe_var (i := 1) rfl (.inl rfl)) (nomark _)) (qe_and dx.K (pd_cmp (od_eq dx.K dx.u65 false rfl) (qe_isi (t := .bl) dx.K (by decide) rfl cx.n_isinstance rfl cx.n_bool boot_bool (qe_var (i := 0) rfl (.inl rfl))) (qe_isi (t := .bl) dx.K (by decide) rfl cx.n_isinstance rfl cx.n_bool boot_bool (qe_var (i := 1) rfl (.inl rfl))) (nomark _)) (qe_one (pd_cmp (od_eq dx.K dx.u65 false rfl) (pd_cmp (od_isN false rfl) (qe_var (i := 0) rfl (.inl rfl)) qe_non (nomark _)) (pd_cmp (od_isN false rfl) (qe_var (i := 1) rfl (.inl rfl)) qe_non (nomark _)) (nomark _))))))) qss_nil) (qss_one (qs_ret (qe_and dx.K (qe_isi (t := .int) dx.K (by decide) rfl cx.n_isinstance rfl cx.n_int boot_int (qe_var (i := 0) rfl (.inl rfl))) (qe_and dx.K (qe_not dx.K (qe_isi (t := .bl) dx.K (by decide) rfl cx.n_isinstance rfl cx.n_bool boot_bool (qe_var (i := 0) rfl (.inl rfl)))) (qe_one (pd_cmp (od_eq dx.K dx.u65 false rfl) (qe_var (i := 0) rfl (.inl rfl)) (qe_var (i := 1) rfl (.inl rfl)) (nomark _)))))))))
def w__law_cut : DS := wRet (wLc false (iRngD3 (wCons (wC (.int 0)) (wCons (wB dMax (wCons (wC (.int 1)) (wCons (wB dLen (wCons (wVar 0) (wNil))) (wNil)))) (wCons (wVar 1) (wNil))))) (gN 2) (wYes) (wSl false (wVar 0) (some (wVar 2)) (some (wOp (dAdd false) (wVar 2) (wVar 1)))) [2])
def S__law_cut : DSp := arD 2 (runD 3 w__law_cut)
theorem sc__law_cut : FnScope ["_law_words", "_law_size", "_law_at"] ["_law_words", "_law_size"] (defScope st__law_cut) := ⟨rfl, rfl, rfl, by decide +kernel, rfl, by decide +kernel, by decide +kernel⟩
theorem ok__law_cut (cx : Cxt w K mg) : ∃ fd, FD P w K mg base (gm K) 1 (He.fAd K ("_law_cut", none)) fd ["_law_words", "_law_size"] S__law_cut ∧ FunD K "_law_cut" "_law_cut" (defArgs st__law_cut) (defBody st__law_cut) (defScope st__law_cut) [] [] (He.fAd K ("_law_cut", none)) fd := by
  obtain ⟨fd, F⟩ := cx.F__law_cut
  refine ⟨fd, FD.mk' F sc__law_cut (fun _ _ _ _ _ _ us hl => match us, hl with | [_, _], _ => rfl) fun cdv A outer s H E hr hg => ?_, F⟩
  have dx := dx_cx (P := P) (w := w) (K := K) (mg := mg) (base := base) (G := gm K) (outer := outer) (H := H) (E := E) rfl sc__law_cut.nd hr hg
  exact (qss_one (qs_ret (qe_lc (own := [("_law_at", 2)]) dx false (qi_range3 rfl cx.n_range (qa_cons qe_int (qa_cons (qe_callB (cd_max dx.K dx.calm) rfl cx.n_max boot_max (qa_cons qe_int (qa_cons (qe_callB (cd_len dx.K) rfl cx.n_len boot_len (qa_cons (qe_var (i := 0) rfl (.inr (.inl rfl))) qa_nil)) qa_nil))) (qa_cons (qe_var (i := 1) rfl (.inr (.inl rfl))) qa_nil)))) (blk_of (by kernel_rfl)) (by decide) (fun _ _ _ _ _ => (qg_name (i := 2) (DX.blk dx _ _ _ _ _).nd rfl (.inl rfl) (.inr rfl))) (fun _ _ _ _ _ => qts_nil) (fun _ _ _ _ _ => (pd_sl (mu := false) (DX.blk dx _ _ _ _ _).K (qe_var (i := 0) rfl (.inr (.inl rfl))) (po_some' (qe_var (i := 2) rfl (.inl rfl))) (po_some' (pd_op (od_add (DX.blk dx _ _ _ _ _).K false) (qe_var (i := 2) rfl (.inl rfl)) (qe_var (i := 1) rfl (.inr (.inl rfl))))))))))
def w__law_refused : DS := wSeq (wAsg (wTup (wCons (wC .non) (wCons (wC .non) (wNil)))) (gSeq 2 (gConsD (gN 3) (gConsD (gN 4) (gNilD))))) (wSeq (wTryK 5 4 (fun c => c = 1) (fun Wt => wAsg (wIf (wBl (wOp (dEq false) (wVar 1) (wC (.str "freeze")))) (wMethX 2 S_Giver_freeze (wVar 0) (wCons (wVar 2) (wNil)) Wt) (wMethX 2 S_Giver_resume (wVar 0) wNil Wt)) (gN 3))) (wSeq (wIfS (wBl (wOp (dIsN false) (wVar 4) (wC .non))) (wRet (wVar 3)) (wNext)) (wRet (wIf (wAndT (wTru (wIsx [(1, true)] (wVar 4))) (wTru (wIsx [(1, true)] (wVar 4)))) (wTup (wCons (wC (.str "refused")) (wCons (wXf 1 7 (wVar 4)) (wNil)))) (wC (.str "other"))))))
def S__law_refused : DSp := arD 3 (runD 6 w__law_refused)
theorem sc__law_refused : FnScope ["_law_giver", "_law_word", "_law_pieces", "_law_found", "_law_caught", "error"] ["_law_giver", "_law_word", "_law_pieces"] (defScope st__law_refused) := ⟨rfl, rfl, rfl, by decide +kernel, rfl, by decide +kernel, by decide +kernel⟩
theorem ok__law_refused (cx : Cxt w K mg) : ∃ fd, FD P w K mg base (gm K) 4 (He.fAd K ("_law_refused", none)) fd ["_law_giver", "_law_word", "_law_pieces"] S__law_refused ∧ FunD K "_law_refused" "_law_refused" (defArgs st__law_refused) (defBody st__law_refused) (defScope st__law_refused) [] [] (He.fAd K ("_law_refused", none)) fd := by
  obtain ⟨fd, F⟩ := cx.F__law_refused
  obtain ⟨fd_Giver_freeze, k_Giver_freeze, F_Giver_freeze⟩ := ok_Giver_freeze (P := P) (w := w) (base := base) cx
  obtain ⟨fd_Giver_resume, k_Giver_resume, F_Giver_resume⟩ := ok_Giver_resume (P := P) (w := w) (base := base) cx
  refine ⟨fd, FD.mk' F sc__law_refused (fun _ _ _ _ _ _ us hl => match us, hl with | [_, _, _], _ => rfl) fun cdv A outer s H E hr hg => ?_, F⟩
  have dx := dx_cx (P := P) (w := w) (K := K) (mg := mg) (base := base) (G := gm K) (outer := outer) (H := H) (E := E) rfl sc__law_refused.nd hr hg
  exact (qss_cons (qs_asg (qe_tup (qa_cons qe_non (qa_cons qe_non qa_nil))) (qg_tup (n := 2) dx.K dx.calm (qgs_cons (qg_name (i := 3) dx.nd rfl (.inl rfl) (.inl rfl)) (qgs_cons (qg_name (i := 4) dx.nd rfl (.inl rfl) (.inl rfl)) qgs_nil)))) (qss_cons (qs_tryK (i := 5) (j := 4) rfl rfl rfl dx.nd rfl rfl (fun c hc => by subst hc; exact EX.tst_two ⟨rfl, by decide, .inl cx.g_NotNow⟩ ⟨rfl, by decide, .inl cx.g_NotRunning⟩ (exm_two (b1 := true) (b2 := false) cx.xm_NotNow_NotNow cx.xm_NotNow_NotRunning)) (fun F0 Wt pn xe hflt tkt past => by have k_Giver_freeze := k_Giver_freeze.flo hflt; have k_Giver_resume := k_Giver_resume.flo hflt; have dx := (DX.tr (pn := pn) (xe := xe) dx past).up (F0 := F0); exact (qss_one (qs_set (i := 3) dx.nd rfl (.inl rfl) (qe_if (qt_cmp (od_eq dx.K dx.u65 false rfl) (qe_var (i := 1) rfl (.inl rfl)) qe_str (nomark _)) (qx_meth (pl := _) k_Giver_freeze dx (by decide) tkt (qe_var (i := 0) rfl (.inl rfl)) cx.cls_Giver rfl (fldOf_ne (by kernel_rfl)) cx.m_Giver_freeze (qa_cons (qe_var (i := 2) rfl (.inl rfl)) qa_nil)) (qx_meth0 (pl := _) k_Giver_resume dx (by decide) tkt (qe_var (i := 0) rfl (.inl rfl)) cx.cls_Giver rfl (fldOf_ne (by kernel_rfl)) cx.m_Giver_resume)) (by rfl) (.inl rfl)))) (fun a oe pn => pss_one (ps_set (i := 4) dx.nd rfl (.inl rfl) (pe_var (i := 5) rfl (.inl rfl)) (by rfl) (.inl rfl)))) (qss_cons (qs_if (qt_cmp (od_isN false rfl) (qe_var (i := 4) rfl (.inl rfl)) qe_non (nomark _)) (qss_one (qs_ret (qe_var (i := 3) rfl (.inl rfl)))) qss_nil) (qss_one (qs_ret (qe_if (PW.pt (qw_and (qt_truth dx.K (qe_isx (IsxOk.cons (c := 1) cx.T_NotNow cx.kt_NotNow_NotNow IsxOk.nil) rfl cx.n_isinstance rfl cx.g_NotNow (qe_var (i := 4) rfl (.inl rfl)))) (qw_and1 (qt_truth dx.K (qe_isxB (IsxOk.cons (c := 1) cx.T_NotNow cx.kt_NotNow_RuntimeError IsxOk.nil) rfl cx.n_isinstance rfl cx.n_RuntimeError PyProof.Rows.Boot.«RuntimeError» (qe_var (i := 4) rfl (.inl rfl))))))) (qe_tup (qa_cons qe_str (qa_cons (qe_xf (c := 1) (i := 7) (inj0 (K := K)) rfl rfl cx.T_NotNow (qe_var (i := 4) rfl (.inl rfl))) qa_nil))) qe_str))))))
def w__law_begin : DS := wSeq (wPar 4 5 (wCons (wTup (wCons (wC (.str "refused")) (wCons (wOp dIx (wVar 0) (wC (.str "phase"))) (wNil)))) (wCons (wIf (wBl (wOp (dEq false) (wVar 2) (wC (.str "freeze")))) (wC (.str "runs")) (wC (.str "frozen"))) (wNil)))) (wSeq (wIfS (wBl (wOp (dEq false) (wOp dIx (wVar 0) (wC (.str "phase"))) (wVar 5))) (wSeq (wAsg (wC .non) (gN 4)) (wSeq (wAsg (wIf (wBl (wOp (dEq false) (wVar 2) (wC (.str "freeze")))) (wC (.str "frozen")) (wC (.str "runs"))) (gSubD (wVar 0) (wC (.str "phase")))) (wIfS (wBl (wOp (dEq false) (wVar 2) (wC (.str "freeze")))) (wSeq (wAsg (wB (dListOf false) (wCons (wVar 3) (wNil))) (gSubD (wVar 0) (wC (.str "pieces")))) (wSeq (wAsg (wOp (dAdd false) (wOp dIx (wVar 0) (wC (.str "many"))) (wC (.int 1))) (gSubD (wVar 0) (wC (.str "many")))) (wAsg (wOp dIx (wVar 0) (wC (.str "many"))) (gN 4)))) (wNext)))) (wNext)) (wRet (wCall (S__law_same 6) [] (wCons (wCall S__law_refused [] (wCons (wVar 1) (wCons (wVar 2) (wCons (wVar 3) (wNil))))) (wCons (wVar 4) (wNil))))))
def S__law_begin : DSp := arD 4 (runD 6 w__law_begin)
theorem sc__law_begin : FnScope ["_law_mine", "_law_giver", "_law_word", "_law_pieces", "_law_due", "_law_wanted"] ["_law_mine", "_law_giver", "_law_word", "_law_pieces"] (defScope st__law_begin) := ⟨rfl, rfl, rfl, by decide +kernel, rfl, by decide +kernel, by decide +kernel⟩
theorem ok__law_begin (cx : Cxt w K mg) : ∃ fd, FD P w K mg base (gm K) 7 (He.fAd K ("_law_begin", none)) fd ["_law_mine", "_law_giver", "_law_word", "_law_pieces"] S__law_begin ∧ FunD K "_law_begin" "_law_begin" (defArgs st__law_begin) (defBody st__law_begin) (defScope st__law_begin) [] [] (He.fAd K ("_law_begin", none)) fd := by
  obtain ⟨fd, F⟩ := cx.F__law_begin
  obtain ⟨fd__law_refused, k__law_refused, F__law_refused⟩ := ok__law_refused (P := P) (w := w) (base := base) cx
  obtain ⟨fd__law_same, kr__law_same, F__law_same⟩ := ok__law_same (P := P) (w := w) (base := base) cx
  have k__law_same := kr__law_same 6
  refine ⟨fd, FD.mk' F sc__law_begin (fun _ _ _ _ _ _ us hl => match us, hl with | [_, _, _, _], _ => rfl) fun cdv A outer s H E hr hg => ?_, F⟩
  have dx := dx_cx (P := P) (w := w) (K := K) (mg := mg) (base := base) (G := gm K) (outer := outer) (H := H) (E := E) rfl sc__law_begin.nd hr hg
  exact (qss_cons (qs_par (i := 4) (j := 5) dx.calm dx.nd rfl rfl (by decide) rfl rfl (qa_cons (qe_tup (qa_cons qe_str (qa_cons (pd_ix dx.K dx.u1 (qe_var (i := 0) rfl (.inl rfl)) qe_str nofun) qa_nil))) (qa_cons (qe_if (qt_cmp (od_eq dx.K dx.u65 false rfl) (qe_var (i := 2) rfl (.inl rfl)) qe_str (nomark _)) qe_str qe_str) qa_nil))) (qss_cons (qs_if (qt_cmp (od_eq dx.K dx.u65 false rfl) (pd_ix dx.K dx.u1 (qe_var (i := 0) rfl (.inl rfl)) qe_str nofun) (qe_var (i := 5) rfl (.inl rfl)) (nomark _)) (qss_cons (qs_set (i := 4) dx.nd rfl (.inl rfl) qe_non (by rfl) (.inl rfl)) (qss_cons (qs_asg (qe_if (qt_cmp (od_eq dx.K dx.u65 false rfl) (qe_var (i := 2) rfl (.inl rfl)) qe_str (nomark _)) qe_str qe_str) (qg_sub (vs := []) dx (qe_var (i := 0) rfl (.inl rfl)) qe_str)) (qss_one (qs_if (qt_cmp (od_eq dx.K dx.u65 false rfl) (qe_var (i := 2) rfl (.inl rfl)) qe_str (nomark _)) (qss_cons (qs_asg (qe_callTy (cd_list dx.K dx.calm false) rfl cx.n_list boot_list (qa_cons (qe_var (i := 3) rfl (.inl rfl)) qa_nil)) (qg_sub (vs := []) dx (qe_var (i := 0) rfl (.inl rfl)) qe_str)) (qss_cons (qs_asg (pd_op (od_add dx.K false) (pd_ix dx.K dx.u1 (qe_var (i := 0) rfl (.inl rfl)) qe_str nofun) qe_int) (qg_sub (vs := []) dx (qe_var (i := 0) rfl (.inl rfl)) qe_str)) (qss_one (qs_set (i := 4) dx.nd rfl (.inl rfl) (pd_ix dx.K dx.u1 (qe_var (i := 0) rfl (.inl rfl)) qe_str nofun) (by rfl) (.inl rfl))))) qss_nil)))) qss_nil) (qss_one (qs_ret (qf_call k__law_same dx (by decide) rfl cx.g__law_same (qa_cons (qf_call k__law_refused dx (by decide) rfl cx.g__law_refused (qa_cons (qe_var (i := 1) rfl (.inl rfl)) (qa_cons (qe_var (i := 2) rfl (.inl rfl)) (qa_cons (qe_var (i := 3) rfl (.inl rfl)) qa_nil)))) (qa_cons (qe_var (i := 4) rfl (.inl rfl)) qa_nil)))))))
def w__law_given : DS := wSeq (wIfS (wAndT (wBl (wOp (dEq false) (wVar 1) (wTup (wCons (wC (.str "whole")) (wCons (wOp dIx (wVar 0) (wC (.str "many"))) (wNil)))))) (wBl (wOp (dEq false) (wOp dIx (wVar 0) (wC (.str "phase"))) (wC (.str "frozen"))))) (wAsg (wC (.str "given")) (gSubD (wVar 0) (wC (.str "phase")))) (wNext)) (wIfS (wAndT (wBl (wOp (dEq false) (wVar 1) (wTup (wCons (wC (.str "going")) (wCons (wOp dIx (wVar 0) (wC (.str "many"))) (wNil)))))) (wBl (wOp (dEq false) (wOp dIx (wVar 0) (wC (.str "phase"))) (wC (.str "given"))))) (wAsg (wC (.bl true)) (gSubD (wVar 0) (wC (.str "known")))) (wNext))
def S__law_given : DSp := arD 2 (runD 2 w__law_given)
theorem sc__law_given : FnScope ["_law_mine", "_law_message"] ["_law_mine", "_law_message"] (defScope st__law_given) := ⟨rfl, rfl, rfl, by decide +kernel, rfl, by decide +kernel, by decide +kernel⟩
theorem ok__law_given (cx : Cxt w K mg) : ∃ fd, FD P w K mg base (gm K) 1 (He.fAd K ("_law_given", none)) fd ["_law_mine", "_law_message"] S__law_given ∧ FunD K "_law_given" "_law_given" (defArgs st__law_given) (defBody st__law_given) (defScope st__law_given) [] [] (He.fAd K ("_law_given", none)) fd := by
  obtain ⟨fd, F⟩ := cx.F__law_given
  refine ⟨fd, FD.mk' F sc__law_given (fun _ _ _ _ _ _ us hl => match us, hl with | [_, _], _ => rfl) fun cdv A outer s H E hr hg => ?_, F⟩
  have dx := dx_cx (P := P) (w := w) (K := K) (mg := mg) (base := base) (G := gm K) (outer := outer) (H := H) (E := E) rfl sc__law_given.nd hr hg
  exact (qss_cons (qs_if (PW.pt (qw_and (qt_cmp (od_eq dx.K dx.u65 false rfl) (qe_var (i := 1) rfl (.inl rfl)) (qe_tup (qa_cons qe_str (qa_cons (pd_ix dx.K dx.u1 (qe_var (i := 0) rfl (.inl rfl)) qe_str nofun) qa_nil))) (nomark _)) (qw_and1 (qt_cmp (od_eq dx.K dx.u65 false rfl) (pd_ix dx.K dx.u1 (qe_var (i := 0) rfl (.inl rfl)) qe_str nofun) qe_str (nomark _))))) (qss_one (qs_asg qe_str (qg_sub (vs := []) dx (qe_var (i := 0) rfl (.inl rfl)) qe_str))) qss_nil) (qss_one (qs_if (PW.pt (qw_and (qt_cmp (od_eq dx.K dx.u65 false rfl) (qe_var (i := 1) rfl (.inl rfl)) (qe_tup (qa_cons qe_str (qa_cons (pd_ix dx.K dx.u1 (qe_var (i := 0) rfl (.inl rfl)) qe_str nofun) qa_nil))) (nomark _)) (qw_and1 (qt_cmp (od_eq dx.K dx.u65 false rfl) (pd_ix dx.K dx.u1 (qe_var (i := 0) rfl (.inl rfl)) qe_str nofun) qe_str (nomark _))))) (qss_one (qs_asg qe_bl (qg_sub (vs := []) dx (qe_var (i := 0) rfl (.inl rfl)) qe_str))) qss_nil)))
def w__law_whole : DS := wRet (wAnd (wOp (dRel fun i j => decide (j < i)) (wOp dIx (wVar 0) (wC (.str "turn"))) (wC (.int 0))) (wOp (dEq false) (wB dLen (wCons (wOp dIx (wVar 0) (wC (.str "kept"))) (wNil))) (wOp dIx (wVar 0) (wC (.str "many")))))
def S__law_whole : DSp := arD 1 (runD 1 w__law_whole)
theorem sc__law_whole : FnScope ["_law_its"] ["_law_its"] (defScope st__law_whole) := ⟨rfl, rfl, rfl, by decide +kernel, rfl, by decide +kernel, by decide +kernel⟩
theorem ok__law_whole (cx : Cxt w K mg) : ∃ fd, FD P w K mg base (gm K) 1 (He.fAd K ("_law_whole", none)) fd ["_law_its"] S__law_whole ∧ FunD K "_law_whole" "_law_whole" (defArgs st__law_whole) (defBody st__law_whole) (defScope st__law_whole) [] [] (He.fAd K ("_law_whole", none)) fd := by
  obtain ⟨fd, F⟩ := cx.F__law_whole
  refine ⟨fd, FD.mk' F sc__law_whole (fun _ _ _ _ _ _ us hl => match us, hl with | [_], _ => rfl) fun cdv A outer s H E hr hg => ?_, F⟩
  have dx := dx_cx (P := P) (w := w) (K := K) (mg := mg) (base := base) (G := gm K) (outer := outer) (H := H) (E := E) rfl sc__law_whole.nd hr hg
  exact (qss_one (qs_ret (qe_and dx.K (pd_cmp (od_rel op_gt) (pd_ix dx.K dx.u1 (qe_var (i := 0) rfl (.inl rfl)) qe_str nofun) qe_int (nomark _)) (qe_one (pd_cmp (od_eq dx.K dx.u65 false rfl) (qe_callB (cd_len dx.K) rfl cx.n_len boot_len (qa_cons (pd_ix dx.K dx.u1 (qe_var (i := 0) rfl (.inl rfl)) qe_str nofun) qa_nil)) (pd_ix dx.K dx.u1 (qe_var (i := 0) rfl (.inl rfl)) qe_str nofun) (nomark _))))))
def w__law_taken : DS := wSeq (wIfS (wTru (wOp dIx (wVar 0) (wC (.str "runs")))) (wRetN) (wNext)) (wSeq (wIfS (wAndT (wBl (wOp (dEq false) (wOp dIx (wVar 1) (wC (.int 0))) (wC (.str "piece")))) (wBl (wOp (dRel fun i j => decide (j < i)) (wOp dIx (wVar 1) (wC (.int 1))) (wOp dIx (wVar 0) (wC (.str "turn")))))) (wSeq (wAsg (wOp dIx (wVar 1) (wC (.int 1))) (gSubD (wVar 0) (wC (.str "turn")))) (wSeq (wAsg (wOp dIx (wVar 1) (wC (.int 3))) (gSubD (wVar 0) (wC (.str "many")))) (wAsg (wDict0) (gSubD (wVar 0) (wC (.str "kept")))))) (wNext)) (wSeq (wIfS (wAndT (wBl (wOp (dEq false) (wOp dIx (wVar 1) (wC (.int 0))) (wC (.str "piece")))) (wAndT (wBl (wOp (dEq false) (wOp dIx (wVar 1) (wC (.int 1))) (wOp dIx (wVar 0) (wC (.str "turn"))))) (wBl (wOp (dIn true) (wOp dIx (wVar 1) (wC (.int 2))) (wOp dIx (wVar 0) (wC (.str "kept"))))))) (wAsg (wOp dIx (wVar 1) (wC (.int 4))) (gSubD (wOp dIx (wVar 0) (wC (.str "kept"))) (wOp dIx (wVar 1) (wC (.int 2))))) (wNext)) (wIfS (wAndT (wBl (wOp (dEq false) (wVar 1) (wTup (wCons (wC (.str "go")) (wCons (wOp dIx (wVar 0) (wC (.str "turn"))) (wNil)))))) (wTru (wCall S__law_whole [] (wCons (wVar 0) (wNil))))) (wAsg (wC (.bl true)) (gSubD (wVar 0) (wC (.str "runs")))) (wNext))))
def S__law_taken : DSp := arD 2 (runD 2 w__law_taken)
theorem sc__law_taken : FnScope ["_law_its", "_law_message"] ["_law_its", "_law_message"] (defScope st__law_taken) := ⟨rfl, rfl, rfl, by decide +kernel, rfl, by decide +kernel, by decide +kernel⟩
theorem ok__law_taken (cx : Cxt w K mg) : ∃ fd, FD P w K mg base (gm K) 2 (He.fAd K ("_law_taken", none)) fd ["_law_its", "_law_message"] S__law_taken ∧ FunD K "_law_taken" "_law_taken" (defArgs st__law_taken) (defBody st__law_taken) (defScope st__law_taken) [] [] (He.fAd K ("_law_taken", none)) fd := by
  obtain ⟨fd, F⟩ := cx.F__law_taken
  obtain ⟨fd__law_whole, k__law_whole, F__law_whole⟩ := ok__law_whole (P := P) (w := w) (base := base) cx
  refine ⟨fd, FD.mk' F sc__law_taken (fun _ _ _ _ _ _ us hl => match us, hl with | [_, _], _ => rfl) fun cdv A outer s H E hr hg => ?_, F⟩
  have dx := dx_cx (P := P) (w := w) (K := K) (mg := mg) (base := base) (G := gm K) (outer := outer) (H := H) (E := E) rfl sc__law_taken.nd hr hg
  exact (qss_cons (qs_if (qt_truth dx.K (pd_ix dx.K dx.u1 (qe_var (i := 0) rfl (.inl rfl)) qe_str nofun)) (qss_one (qs_retN)) qss_nil) (qss_cons (qs_if (PW.pt (qw_and (qt_cmp (od_eq dx.K dx.u65 false rfl) (pd_ix dx.K dx.u1 (qe_var (i := 1) rfl (.inl rfl)) qe_int nofun) qe_str (nomark _)) (qw_and1 (qt_cmp (od_rel op_gt) (pd_ix dx.K dx.u1 (qe_var (i := 1) rfl (.inl rfl)) qe_int nofun) (pd_ix dx.K dx.u1 (qe_var (i := 0) rfl (.inl rfl)) qe_str nofun) (nomark _))))) (qss_cons (qs_asg (pd_ix dx.K dx.u1 (qe_var (i := 1) rfl (.inl rfl)) qe_int nofun) (qg_sub (vs := []) dx (qe_var (i := 0) rfl (.inl rfl)) qe_str)) (qss_cons (qs_asg (pd_ix dx.K dx.u1 (qe_var (i := 1) rfl (.inl rfl)) qe_int nofun) (qg_sub (vs := []) dx (qe_var (i := 0) rfl (.inl rfl)) qe_str)) (qss_one (qs_asg qe_dict0 (qg_sub (vs := []) dx (qe_var (i := 0) rfl (.inl rfl)) qe_str))))) qss_nil) (qss_cons (qs_if (PW.pt (qw_and (qt_cmp (od_eq dx.K dx.u65 false rfl) (pd_ix dx.K dx.u1 (qe_var (i := 1) rfl (.inl rfl)) qe_int nofun) qe_str (nomark _)) (qw_and (qt_cmp (od_eq dx.K dx.u65 false rfl) (pd_ix dx.K dx.u1 (qe_var (i := 1) rfl (.inl rfl)) qe_int nofun) (pd_ix dx.K dx.u1 (qe_var (i := 0) rfl (.inl rfl)) qe_str nofun) (nomark _)) (qw_and1 (qt_cmp (od_in dx.K dx.u1 true rfl) (pd_ix dx.K dx.u1 (qe_var (i := 1) rfl (.inl rfl)) qe_int nofun) (pd_ix dx.K dx.u1 (qe_var (i := 0) rfl (.inl rfl)) qe_str nofun) (by rfl)))))) (qss_one (qs_asg (pd_ix dx.K dx.u1 (qe_var (i := 1) rfl (.inl rfl)) qe_int nofun) (qg_sub (vs := []) dx (pd_ix dx.K dx.u1 (qe_var (i := 0) rfl (.inl rfl)) qe_str nofun) (pd_ix dx.K dx.u1 (qe_var (i := 1) rfl (.inl rfl)) qe_int nofun)))) qss_nil) (qss_one (qs_if (PW.pt (qw_and (qt_cmp (od_eq dx.K dx.u65 false rfl) (qe_var (i := 1) rfl (.inl rfl)) (qe_tup (qa_cons qe_str (qa_cons (pd_ix dx.K dx.u1 (qe_var (i := 0) rfl (.inl rfl)) qe_str nofun) qa_nil))) (nomark _)) (qw_and1 (qt_truth dx.K (qf_call k__law_whole dx (by decide) rfl cx.g__law_whole (qa_cons (qe_var (i := 0) rfl (.inl rfl)) qa_nil)))))) (qss_one (qs_asg qe_bl (qg_sub (vs := []) dx (qe_var (i := 0) rfl (.inl rfl)) qe_str))) qss_nil)))))
def w__law_text : DS := wRet (wJoin (wC (.str "")) (wLc false (iAny (wB (dSorted false) (wCons (wOp dIx (wVar 0) (wC (.str "kept"))) (wNil)))) (gN 1) (wYes) (wOp dIx (wOp dIx (wVar 0) (wC (.str "kept"))) (wVar 1)) [1]))
def S__law_text : DSp := arD 1 (runD 2 w__law_text)
theorem sc__law_text : FnScope ["_law_its", "_law_at"] ["_law_its"] (defScope st__law_text) := ⟨rfl, rfl, rfl, by decide +kernel, rfl, by decide +kernel, by decide +kernel⟩
theorem ok__law_text (cx : Cxt w K mg) : ∃ fd, FD P w K mg base (gm K) 1 (He.fAd K ("_law_text", none)) fd ["_law_its"] S__law_text ∧ FunD K "_law_text" "_law_text" (defArgs st__law_text) (defBody st__law_text) (defScope st__law_text) [] [] (He.fAd K ("_law_text", none)) fd := by
  obtain ⟨fd, F⟩ := cx.F__law_text
  refine ⟨fd, FD.mk' F sc__law_text (fun _ _ _ _ _ _ us hl => match us, hl with | [_], _ => rfl) fun cdv A outer s H E hr hg => ?_, F⟩
  have dx := dx_cx (P := P) (w := w) (K := K) (mg := mg) (base := base) (G := gm K) (outer := outer) (H := H) (E := E) rfl sc__law_text.nd hr hg
  exact (qss_one (qs_ret (qe_join dx.K qe_str (qe_lc (own := [("_law_at", 1)]) dx false (qi_any dx.K (qe_callB (cd_sorted dx.K dx.calm false) rfl cx.n_sorted boot_sorted (qa_cons (pd_ix dx.K dx.u1 (qe_var (i := 0) rfl (.inr (.inl rfl))) qe_str nofun) qa_nil))) (blk_of (by kernel_rfl)) (by decide) (fun _ _ _ _ _ => (qg_name (i := 1) (DX.blk dx _ _ _ _ _).nd rfl (.inl rfl) (.inr rfl))) (fun _ _ _ _ _ => qts_nil) (fun _ _ _ _ _ => (pd_ix (DX.blk dx _ _ _ _ _).K (DX.blk dx _ _ _ _ _).u1 (pd_ix (DX.blk dx _ _ _ _ _).K (DX.blk dx _ _ _ _ _).u1 (qe_var (i := 0) rfl (.inr (.inl rfl))) qe_str nofun) (qe_var (i := 1) rfl (.inl rfl)) nofun))))))
def w__law_giver_sends : DS := wSeq (wAsg (wOp dIx (wVar 0) (wC (.str "many"))) (gN 1)) (wSeq (wIfS (wBl (wOp (dEq false) (wOp dIx (wVar 0) (wC (.str "phase"))) (wC (.str "frozen")))) (wRet (wLc false (iEnumD (wCons (wOp dIx (wVar 0) (wC (.str "pieces"))) (wNil))) (gSeq 2 (gConsD (gN 2) (gConsD (gN 3) (gNilD)))) (wYes) (wTup (wCons (wC (.str "piece")) (wCons (wVar 1) (wCons (wVar 2) (wCons (wB dLen (wCons (wOp dIx (wVar 0) (wC (.str "pieces"))) (wNil))) (wCons (wVar 3) (wNil))))))) [2, 3])) (wNext)) (wRet (wIf (wAndT (wBl (wOp (dEq false) (wOp dIx (wVar 0) (wC (.str "phase"))) (wC (.str "given")))) (wNotT (wTru (wOp dIx (wVar 0) (wC (.str "known")))))) (wLst false (wCons (wTup (wCons (wC (.str "go")) (wCons (wVar 1) (wNil)))) (wNil))) (wLst false (wNil)))))
def S__law_giver_sends : DSp := arD 1 (runD 4 w__law_giver_sends)
theorem sc__law_giver_sends : FnScope ["_law_mine", "_law_turn", "_law_at", "_law_words"] ["_law_mine"] (defScope st__law_giver_sends) := ⟨rfl, rfl, rfl, by decide +kernel, rfl, by decide +kernel, by decide +kernel⟩
theorem ok__law_giver_sends (cx : Cxt w K mg) : ∃ fd, FD P w K mg base (gm K) 1 (He.fAd K ("_law_giver_sends", none)) fd ["_law_mine"] S__law_giver_sends ∧ FunD K "_law_giver_sends" "_law_giver_sends" (defArgs st__law_giver_sends) (defBody st__law_giver_sends) (defScope st__law_giver_sends) [] [] (He.fAd K ("_law_giver_sends", none)) fd := by
  obtain ⟨fd, F⟩ := cx.F__law_giver_sends
  refine ⟨fd, FD.mk' F sc__law_giver_sends (fun _ _ _ _ _ _ us hl => match us, hl with | [_], _ => rfl) fun cdv A outer s H E hr hg => ?_, F⟩
  have dx := dx_cx (P := P) (w := w) (K := K) (mg := mg) (base := base) (G := gm K) (outer := outer) (H := H) (E := E) rfl sc__law_giver_sends.nd hr hg
  exact (qss_cons (qs_set (i := 1) dx.nd rfl (.inr rfl) (pd_ix dx.K dx.u1 (qe_var (i := 0) rfl (.inr (.inl rfl))) qe_str nofun) (by rfl) (.inl rfl)) (qss_cons (qs_if (qt_cmp (od_eq dx.K dx.u65 false rfl) (pd_ix dx.K dx.u1 (qe_var (i := 0) rfl (.inr (.inl rfl))) qe_str nofun) qe_str (nomark _)) (qss_one (qs_ret (qe_lc (own := [("_law_at", 2), ("_law_words", 3)]) dx false (qi_enum dx.K rfl cx.n_enumerate (qa_cons (pd_ix dx.K dx.u1 (qe_var (i := 0) rfl (.inr (.inl rfl))) qe_str nofun) qa_nil)) (blk_of (by kernel_rfl)) (by decide) (fun _ _ _ _ _ => (qg_tup (n := 2) (DX.blk dx _ _ _ _ _).K (DX.blk dx _ _ _ _ _).calm (qgs_cons (qg_name (i := 2) (DX.blk dx _ _ _ _ _).nd rfl (.inl rfl) (.inr rfl)) (qgs_cons (qg_name (i := 3) (DX.blk dx _ _ _ _ _).nd rfl (.inl rfl) (.inr rfl)) qgs_nil)))) (fun _ _ _ _ _ => qts_nil) (fun _ _ _ _ _ => (qe_tup (qa_cons qe_str (qa_cons (qe_var (i := 1) rfl (.inr (.inl rfl))) (qa_cons (qe_var (i := 2) rfl (.inl rfl)) (qa_cons (qe_callB (cd_len (DX.blk dx _ _ _ _ _).K) rfl cx.n_len boot_len (qa_cons (pd_ix (DX.blk dx _ _ _ _ _).K (DX.blk dx _ _ _ _ _).u1 (qe_var (i := 0) rfl (.inr (.inl rfl))) qe_str nofun) qa_nil)) (qa_cons (qe_var (i := 3) rfl (.inl rfl)) qa_nil)))))))))) qss_nil) (qss_one (qs_ret (qe_if (PW.pt (qw_and (qt_cmp (od_eq dx.K dx.u65 false rfl) (pd_ix dx.K dx.u1 (qe_var (i := 0) rfl (.inr (.inl rfl))) qe_str nofun) qe_str (nomark _)) (qw_and1 (qt_not (qt_truth dx.K (pd_ix dx.K dx.u1 (qe_var (i := 0) rfl (.inr (.inl rfl))) qe_str nofun)))))) (qe_lst false (qa_cons (qe_tup (qa_cons qe_str (qa_cons (qe_var (i := 1) rfl (.inr (.inl rfl))) qa_nil))) qa_nil)) (qe_lst false qa_nil))))))
def w__law_taker_sends : DS := wSeq (wIfS (wTru (wOp dIx (wVar 0) (wC (.str "runs")))) (wRet (wLst false (wCons (wTup (wCons (wC (.str "going")) (wCons (wOp dIx (wVar 0) (wC (.str "turn"))) (wNil)))) (wNil)))) (wNext)) (wRet (wIf (wTru (wCall S__law_whole [] (wCons (wVar 0) (wNil)))) (wLst false (wCons (wTup (wCons (wC (.str "whole")) (wCons (wOp dIx (wVar 0) (wC (.str "turn"))) (wNil)))) (wNil))) (wLst false (wNil))))
def S__law_taker_sends : DSp := arD 1 (runD 1 w__law_taker_sends)
theorem sc__law_taker_sends : FnScope ["_law_its"] ["_law_its"] (defScope st__law_taker_sends) := ⟨rfl, rfl, rfl, by decide +kernel, rfl, by decide +kernel, by decide +kernel⟩
theorem ok__law_taker_sends (cx : Cxt w K mg) : ∃ fd, FD P w K mg base (gm K) 2 (He.fAd K ("_law_taker_sends", none)) fd ["_law_its"] S__law_taker_sends ∧ FunD K "_law_taker_sends" "_law_taker_sends" (defArgs st__law_taker_sends) (defBody st__law_taker_sends) (defScope st__law_taker_sends) [] [] (He.fAd K ("_law_taker_sends", none)) fd := by
  obtain ⟨fd, F⟩ := cx.F__law_taker_sends
  obtain ⟨fd__law_whole, k__law_whole, F__law_whole⟩ := ok__law_whole (P := P) (w := w) (base := base) cx
  refine ⟨fd, FD.mk' F sc__law_taker_sends (fun _ _ _ _ _ _ us hl => match us, hl with | [_], _ => rfl) fun cdv A outer s H E hr hg => ?_, F⟩
  have dx := dx_cx (P := P) (w := w) (K := K) (mg := mg) (base := base) (G := gm K) (outer := outer) (H := H) (E := E) rfl sc__law_taker_sends.nd hr hg
  exact (qss_cons (qs_if (qt_truth dx.K (pd_ix dx.K dx.u1 (qe_var (i := 0) rfl (.inl rfl)) qe_str nofun)) (qss_one (qs_ret (qe_lst false (qa_cons (qe_tup (qa_cons qe_str (qa_cons (pd_ix dx.K dx.u1 (qe_var (i := 0) rfl (.inl rfl)) qe_str nofun) qa_nil))) qa_nil)))) qss_nil) (qss_one (qs_ret (qe_if (qt_truth dx.K (qf_call k__law_whole dx (by decide) rfl cx.g__law_whole (qa_cons (qe_var (i := 0) rfl (.inl rfl)) qa_nil))) (qe_lst false (qa_cons (qe_tup (qa_cons qe_str (qa_cons (pd_ix dx.K dx.u1 (qe_var (i := 0) rfl (.inl rfl)) qe_str nofun) qa_nil))) qa_nil)) (qe_lst false qa_nil)))))
def w__law_kept : DS := wSeq (wAsg (wLst false (wCons (wMeth 2 S_Giver_phase [] (wVar 0) wNil) (wCons (wMeth 2 S_Giver_messages [] (wVar 0) wNil) (wCons (wMeth 3 S_Taker_messages [] (wVar 1) wNil) (wCons (wMeth 3 S_Taker_running [] (wVar 1) wNil) (wNil)))))) (gN 4)) (wSeq (wAsg (wLst false (wCons (wOp dIx (wVar 2) (wC (.str "phase"))) (wCons (wCall S__law_giver_sends [] (wCons (wVar 2) (wNil))) (wCons (wCall S__law_taker_sends [] (wCons (wVar 3) (wNil))) (wCons (wIf (wTru (wOp dIx (wVar 3) (wC (.str "runs")))) (wCall S__law_text [] (wCons (wVar 3) (wNil))) (wC .non)) (wNil)))))) (gN 5)) (wSeq (wIfS (wNotT (wTru (wCall (S__law_same 6) [] (wCons (wVar 4) (wCons (wVar 5) (wNil)))))) (wRet (wC (.bl false))) (wNext)) (wSeq (wIfS (wAndT (wBl (wOp (dIsN true) (wMeth 3 S_Taker_running [] (wVar 1) wNil) (wC .non))) (wBl (wOp (dEq true) (wMeth 2 S_Giver_phase [] (wVar 0) wNil) (wC (.str "given"))))) (wRet (wC (.bl false))) (wNext)) (wSeq (wIfS (wBl (wOp (dEq true) (wMeth 2 S_Giver_phase [] (wVar 0) wNil) (wC (.str "given")))) (wRet (wC (.bl true))) (wNext)) (wSeq (wIfS (wBl (wOp (dInXT true) (wMeth 3 S_Taker_messages [] (wVar 1) wNil) (wTup (wCons (wLst false (wCons (wTup (wCons (wC (.str "whole")) (wCons (wOp dIx (wVar 2) (wC (.str "many"))) (wNil)))) (wNil))) (wCons (wLst false (wCons (wTup (wCons (wC (.str "going")) (wCons (wOp dIx (wVar 2) (wC (.str "many"))) (wNil)))) (wNil))) (wNil)))))) (wRet (wC (.bl false))) (wNext)) (wRet (wOp (dIn false) (wMeth 3 S_Taker_running [] (wVar 1) wNil) (wTup (wCons (wC .non) (wCons (wJoin (wC (.str "")) (wOp dIx (wVar 2) (wC (.str "pieces")))) (wNil)))))))))))
def S__law_kept : DSp := arD 4 (runD 6 w__law_kept)
theorem sc__law_kept : FnScope ["_law_giver", "_law_taker", "_law_mine", "_law_its", "_law_told", "_law_due"] ["_law_giver", "_law_taker", "_law_mine", "_law_its"] (defScope st__law_kept) := ⟨rfl, rfl, rfl, by decide +kernel, rfl, by decide +kernel, by decide +kernel⟩
theorem ok__law_kept (cx : Cxt w K mg) : ∃ fd, FD P w K mg base (gm K) 7 (He.fAd K ("_law_kept", none)) fd ["_law_giver", "_law_taker", "_law_mine", "_law_its"] S__law_kept ∧ FunD K "_law_kept" "_law_kept" (defArgs st__law_kept) (defBody st__law_kept) (defScope st__law_kept) [] [] (He.fAd K ("_law_kept", none)) fd := by
  obtain ⟨fd, F⟩ := cx.F__law_kept
  obtain ⟨fd_Giver_messages, k_Giver_messages, F_Giver_messages⟩ := ok_Giver_messages (P := P) (w := w) (base := base) cx
  obtain ⟨fd_Giver_phase, k_Giver_phase, F_Giver_phase⟩ := ok_Giver_phase (P := P) (w := w) (base := base) cx
  obtain ⟨fd_Taker_messages, k_Taker_messages, F_Taker_messages⟩ := ok_Taker_messages (P := P) (w := w) (base := base) cx
  obtain ⟨fd_Taker_running, k_Taker_running, F_Taker_running⟩ := ok_Taker_running (P := P) (w := w) (base := base) cx
  obtain ⟨fd__law_giver_sends, k__law_giver_sends, F__law_giver_sends⟩ := ok__law_giver_sends (P := P) (w := w) (base := base) cx
  obtain ⟨fd__law_same, kr__law_same, F__law_same⟩ := ok__law_same (P := P) (w := w) (base := base) cx
  have k__law_same := kr__law_same 6
  obtain ⟨fd__law_taker_sends, k__law_taker_sends, F__law_taker_sends⟩ := ok__law_taker_sends (P := P) (w := w) (base := base) cx
  obtain ⟨fd__law_text, k__law_text, F__law_text⟩ := ok__law_text (P := P) (w := w) (base := base) cx
  refine ⟨fd, FD.mk' F sc__law_kept (fun _ _ _ _ _ _ us hl => match us, hl with | [_, _, _, _], _ => rfl) fun cdv A outer s H E hr hg => ?_, F⟩
  have dx := dx_cx (P := P) (w := w) (K := K) (mg := mg) (base := base) (G := gm K) (outer := outer) (H := H) (E := E) rfl sc__law_kept.nd hr hg
  exact (qss_cons (qs_set (i := 4) dx.nd rfl (.inl rfl) (qe_lst false (qa_cons (qf_meth0 (pl := _) k_Giver_phase dx (by decide) (qe_var (i := 0) rfl (.inl rfl)) cx.cls_Giver rfl (fldOf_ne (by kernel_rfl)) cx.m_Giver_phase) (qa_cons (qf_meth0 (pl := _) k_Giver_messages dx (by decide) (qe_var (i := 0) rfl (.inl rfl)) cx.cls_Giver rfl (fldOf_ne (by kernel_rfl)) cx.m_Giver_messages) (qa_cons (qf_meth0 (pl := _) k_Taker_messages dx (by decide) (qe_var (i := 1) rfl (.inl rfl)) cx.cls_Taker rfl (fldOf_ne (by kernel_rfl)) cx.m_Taker_messages) (qa_cons (qf_meth0 (pl := _) k_Taker_running dx (by decide) (qe_var (i := 1) rfl (.inl rfl)) cx.cls_Taker rfl (fldOf_ne (by kernel_rfl)) cx.m_Taker_running) qa_nil))))) (by rfl) (.inl rfl)) (qss_cons (qs_set (i := 5) dx.nd rfl (.inl rfl) (qe_lst false (qa_cons (pd_ix dx.K dx.u1 (qe_var (i := 2) rfl (.inl rfl)) qe_str nofun) (qa_cons (qf_call k__law_giver_sends dx (by decide) rfl cx.g__law_giver_sends (qa_cons (qe_var (i := 2) rfl (.inl rfl)) qa_nil)) (qa_cons (qf_call k__law_taker_sends dx (by decide) rfl cx.g__law_taker_sends (qa_cons (qe_var (i := 3) rfl (.inl rfl)) qa_nil)) (qa_cons (qe_if (qt_truth dx.K (pd_ix dx.K dx.u1 (qe_var (i := 3) rfl (.inl rfl)) qe_str nofun)) (qf_call k__law_text dx (by decide) rfl cx.g__law_text (qa_cons (qe_var (i := 3) rfl (.inl rfl)) qa_nil)) qe_non) qa_nil))))) (by rfl) (.inl rfl)) (qss_cons (qs_if (qt_not (qt_truth dx.K (qf_call k__law_same dx (by decide) rfl cx.g__law_same (qa_cons (qe_var (i := 4) rfl (.inl rfl)) (qa_cons (qe_var (i := 5) rfl (.inl rfl)) qa_nil))))) (qss_one (qs_ret qe_bl)) qss_nil) (qss_cons (qs_if (PW.pt (qw_and (qt_cmp (od_isN true rfl) (qf_meth0 (pl := _) k_Taker_running dx (by decide) (qe_var (i := 1) rfl (.inl rfl)) cx.cls_Taker rfl (fldOf_ne (by kernel_rfl)) cx.m_Taker_running) qe_non (nomark _)) (qw_and1 (qt_cmp (od_eq dx.K dx.u65 true rfl) (qf_meth0 (pl := _) k_Giver_phase dx (by decide) (qe_var (i := 0) rfl (.inl rfl)) cx.cls_Giver rfl (fldOf_ne (by kernel_rfl)) cx.m_Giver_phase) qe_str (nomark _))))) (qss_one (qs_ret qe_bl)) qss_nil) (qss_cons (qs_if (qt_cmp (od_eq dx.K dx.u65 true rfl) (qf_meth0 (pl := _) k_Giver_phase dx (by decide) (qe_var (i := 0) rfl (.inl rfl)) cx.cls_Giver rfl (fldOf_ne (by kernel_rfl)) cx.m_Giver_phase) qe_str (nomark _)) (qss_one (qs_ret qe_bl)) qss_nil) (qss_cons (qs_if (qt_cmp (od_inXT dx.K dx.u65 true rfl) (qf_meth0 (pl := _) k_Taker_messages dx (by decide) (qe_var (i := 1) rfl (.inl rfl)) cx.cls_Taker rfl (fldOf_ne (by kernel_rfl)) cx.m_Taker_messages) (qe_tup (qa_cons (qe_lst false (qa_cons (qe_tup (qa_cons qe_str (qa_cons (pd_ix dx.K dx.u1 (qe_var (i := 2) rfl (.inl rfl)) qe_str nofun) qa_nil))) qa_nil)) (qa_cons (qe_lst false (qa_cons (qe_tup (qa_cons qe_str (qa_cons (pd_ix dx.K dx.u1 (qe_var (i := 2) rfl (.inl rfl)) qe_str nofun) qa_nil))) qa_nil)) qa_nil))) (by rfl)) (qss_one (qs_ret qe_bl)) qss_nil) (qss_one (qs_ret (pd_cmp (od_in dx.K dx.u1 false rfl) (qf_meth0 (pl := _) k_Taker_running dx (by decide) (qe_var (i := 1) rfl (.inl rfl)) cx.cls_Taker rfl (fldOf_ne (by kernel_rfl)) cx.m_Taker_running) (qe_tup (qa_cons qe_non (qa_cons (qe_join dx.K qe_str (pd_ix dx.K dx.u1 (qe_var (i := 2) rfl (.inl rfl)) qe_str nofun)) qa_nil))) (by rfl))))))))))
def w__law_sent : DS := wFor (iAny (wVar 2)) (gN 3) (wDrop (wM .lst mExtend (wVar 1) (wCons (wOp (dMul false) (wLst false (wCons (wVar 3) (wNil))) (wCall S__law_pick [] (wCons (wVar 0) (wCons (wLst false (wCons (wC (.int 0)) (wCons (wC (.int 1)) (wCons (wC (.int 1)) (wCons (wC (.int 1)) (wCons (wC (.int 2)) (wNil))))))) (wNil))))) (wNil))))
def S__law_sent : DSp := arD 3 (runD 4 w__law_sent)
theorem sc__law_sent : FnScope ["_law_source", "_law_link", "_law_some", "_law_message"] ["_law_source", "_law_link", "_law_some"] (defScope st__law_sent) := ⟨rfl, rfl, rfl, by decide +kernel, rfl, by decide +kernel, by decide +kernel⟩
theorem ok__law_sent (cx : Cxt w K mg) : ∃ fd, FD P w K mg base (gm K) 3 (He.fAd K ("_law_sent", none)) fd ["_law_source", "_law_link", "_law_some"] S__law_sent ∧ FunD K "_law_sent" "_law_sent" (defArgs st__law_sent) (defBody st__law_sent) (defScope st__law_sent) [] [] (He.fAd K ("_law_sent", none)) fd := by
  obtain ⟨fd, F⟩ := cx.F__law_sent
  obtain ⟨fd__law_pick, k__law_pick, F__law_pick⟩ := ok__law_pick (P := P) (w := w) (base := base) cx
  refine ⟨fd, FD.mk' F sc__law_sent (fun _ _ _ _ _ _ us hl => match us, hl with | [_, _, _], _ => rfl) fun cdv A outer s H E hr hg => ?_, F⟩
  have dx := dx_cx (P := P) (w := w) (K := K) (mg := mg) (base := base) (G := gm K) (outer := outer) (H := H) (E := E) rfl sc__law_sent.nd hr hg
  exact (qss_one (qs_for dx (qi_any dx.K (qe_var (i := 2) rfl (.inl rfl))) (qg_name (i := 3) dx.nd rfl (.inl rfl) (.inl rfl)) (qss_one (qs_expr (qe_m (t := .lst) dx.K (.inl rfl) PySem.F.plainAttrs_list PySem.F.slot_list_extend PySem.F.type_list_extend md_extend (qe_var (i := 1) rfl (.inl rfl)) (qa_cons (pd_op (od_mul dx.K false) (qe_lst false (qa_cons (qe_var (i := 3) rfl (.inl rfl)) qa_nil)) (qf_call k__law_pick dx (by decide) rfl cx.g__law_pick (qa_cons (qe_var (i := 0) rfl (.inl rfl)) (qa_cons (qe_lst false (qa_cons qe_int (qa_cons qe_int (qa_cons qe_int (qa_cons qe_int (qa_cons qe_int qa_nil)))))) qa_nil)))) qa_nil))))))
def w__law_delivered : DS := wSeq (wAsg (wVar 4) (gSeq 2 (gConsD (gN 5) (gConsD (gN 6) (gNilD))))) (wSeq (wAsg (wCall S__law_draw [] (wCons (wVar 0) (wCons (wB dLen (wCons (wVar 1) (wNil))) (wNil)))) (gN 7)) (wSeq (wAsg (wIf (wBl (wOp (dEq false) (wCall S__law_draw [] (wCons (wVar 0) (wCons (wC (.int 4)) (wNil)))) (wC (.int 0)))) (wOp dIx (wVar 1) (wVar 7)) (wM .lst mPop (wVar 1) (wCons (wVar 7) (wNil)))) (gN 8)) (wSeq (wAsg (wIf (wBl (wOp (dEq false) (wCall S__law_draw [] (wCons (wVar 0) (wCons (wC (.int 5)) (wNil)))) (wC (.int 0)))) (wB (dListOf false) (wCons (wVar 8) (wNil))) (wVar 8)) (gN 9)) (wSeq (wAsg (wIf (wBl (wOp (dIn false) (wOp dIx (wVar 8) (wC (.int 0))) (wTup (wCons (wC (.str "whole")) (wCons (wC (.str "going")) (wNil)))))) (wMeth 2 S_Giver_receive [] (wVar 2) (wCons (wVar 9) (wNil))) (wMeth 3 S_Taker_receive [] (wVar 3) (wCons (wVar 9) (wNil)))) (gN 10)) (wSeq (wIfS (wBl (wOp (dIn false) (wOp dIx (wVar 8) (wC (.int 0))) (wTup (wCons (wC (.str "whole")) (wCons (wC (.str "going")) (wNil)))))) (wDrop (wCall S__law_given [] (wCons (wVar 5) (wCons (wVar 8) (wNil))))) (wDrop (wCall S__law_taken [] (wCons (wVar 6) (wCons (wVar 8) (wNil)))))) (wRet (wOp (dIsN false) (wVar 10) (wC .non))))))))
def S__law_delivered : DSp := arD 5 (runD 11 w__law_delivered)
theorem sc__law_delivered : FnScope ["_law_source", "_law_link", "_law_giver", "_law_taker", "_law_records", "_law_mine", "_law_its", "_law_at", "_law_message", "_law_soft", "_law_told"] ["_law_source", "_law_link", "_law_giver", "_law_taker", "_law_records"] (defScope st__law_delivered) := ⟨rfl, rfl, rfl, by decide +kernel, rfl, by decide +kernel, by decide +kernel⟩
theorem ok__law_delivered (cx : Cxt w K mg) : ∃ fd, FD P w K mg base (gm K) 3 (He.fAd K ("_law_delivered", none)) fd ["_law_source", "_law_link", "_law_giver", "_law_taker", "_law_records"] S__law_delivered ∧ FunD K "_law_delivered" "_law_delivered" (defArgs st__law_delivered) (defBody st__law_delivered) (defScope st__law_delivered) [] [] (He.fAd K ("_law_delivered", none)) fd := by
  obtain ⟨fd, F⟩ := cx.F__law_delivered
  obtain ⟨fd_Giver_receive, k_Giver_receive, F_Giver_receive⟩ := ok_Giver_receive (P := P) (w := w) (base := base) cx
  obtain ⟨fd_Taker_receive, k_Taker_receive, F_Taker_receive⟩ := ok_Taker_receive (P := P) (w := w) (base := base) cx
  obtain ⟨fd__law_draw, k__law_draw, F__law_draw⟩ := ok__law_draw (P := P) (w := w) (base := base) cx
  obtain ⟨fd__law_given, k__law_given, F__law_given⟩ := ok__law_given (P := P) (w := w) (base := base) cx
  obtain ⟨fd__law_taken, k__law_taken, F__law_taken⟩ := ok__law_taken (P := P) (w := w) (base := base) cx
  refine ⟨fd, FD.mk' F sc__law_delivered (fun _ _ _ _ _ _ us hl => match us, hl with | [_, _, _, _, _], _ => rfl) fun cdv A outer s H E hr hg => ?_, F⟩
  have dx := dx_cx (P := P) (w := w) (K := K) (mg := mg) (base := base) (G := gm K) (outer := outer) (H := H) (E := E) rfl sc__law_delivered.nd hr hg
  exact (qss_cons (qs_asg (qe_var (i := 4) rfl (.inl rfl)) (qg_tup (n := 2) dx.K dx.calm (qgs_cons (qg_name (i := 5) dx.nd rfl (.inl rfl) (.inl rfl)) (qgs_cons (qg_name (i := 6) dx.nd rfl (.inl rfl) (.inl rfl)) qgs_nil)))) (qss_cons (qs_set (i := 7) dx.nd rfl (.inl rfl) (qf_call k__law_draw dx (by decide) rfl cx.g__law_draw (qa_cons (qe_var (i := 0) rfl (.inl rfl)) (qa_cons (qe_callB (cd_len dx.K) rfl cx.n_len boot_len (qa_cons (qe_var (i := 1) rfl (.inl rfl)) qa_nil)) qa_nil))) (by rfl) (.inl rfl)) (qss_cons (qs_set (i := 8) dx.nd rfl (.inl rfl) (qe_if (qt_cmp (od_eq dx.K dx.u65 false rfl) (qf_call k__law_draw dx (by decide) rfl cx.g__law_draw (qa_cons (qe_var (i := 0) rfl (.inl rfl)) (qa_cons qe_int qa_nil))) qe_int (nomark _)) (pd_ix dx.K dx.u1 (qe_var (i := 1) rfl (.inl rfl)) (qe_var (i := 7) rfl (.inl rfl)) nofun) (qe_m (t := .lst) dx.K (.inl rfl) PySem.F.plainAttrs_list PySem.F.slot_list_pop PySem.F.type_list_pop md_pop (qe_var (i := 1) rfl (.inl rfl)) (qa_cons (qe_var (i := 7) rfl (.inl rfl)) qa_nil))) (by rfl) (.inl rfl)) (qss_cons (qs_set (i := 9) dx.nd rfl (.inl rfl) (qe_if (qt_cmp (od_eq dx.K dx.u65 false rfl) (qf_call k__law_draw dx (by decide) rfl cx.g__law_draw (qa_cons (qe_var (i := 0) rfl (.inl rfl)) (qa_cons qe_int qa_nil))) qe_int (nomark _)) (qe_callTy (cd_list dx.K dx.calm false) rfl cx.n_list boot_list (qa_cons (qe_var (i := 8) rfl (.inl rfl)) qa_nil)) (qe_var (i := 8) rfl (.inl rfl))) (by rfl) (.inl rfl)) (qss_cons (qs_set (i := 10) dx.nd rfl (.inl rfl) (qe_if (qt_cmp (od_in dx.K dx.u1 false rfl) (pd_ix dx.K dx.u1 (qe_var (i := 8) rfl (.inl rfl)) qe_int nofun) (qe_tup (qa_cons qe_str (qa_cons qe_str qa_nil))) (by rfl)) (qf_meth (pl := _) k_Giver_receive dx (by decide) (qe_var (i := 2) rfl (.inl rfl)) cx.cls_Giver rfl (fldOf_ne (by kernel_rfl)) cx.m_Giver_receive (qa_cons (qe_var (i := 9) rfl (.inl rfl)) qa_nil)) (qf_meth (pl := _) k_Taker_receive dx (by decide) (qe_var (i := 3) rfl (.inl rfl)) cx.cls_Taker rfl (fldOf_ne (by kernel_rfl)) cx.m_Taker_receive (qa_cons (qe_var (i := 9) rfl (.inl rfl)) qa_nil))) (by rfl) (.inl rfl)) (qss_cons (qs_if (qt_cmp (od_in dx.K dx.u1 false rfl) (pd_ix dx.K dx.u1 (qe_var (i := 8) rfl (.inl rfl)) qe_int nofun) (qe_tup (qa_cons qe_str (qa_cons qe_str qa_nil))) (by rfl)) (qss_one (qs_expr (qf_call k__law_given dx (by decide) rfl cx.g__law_given (qa_cons (qe_var (i := 5) rfl (.inl rfl)) (qa_cons (qe_var (i := 8) rfl (.inl rfl)) qa_nil))))) (qss_one (qs_expr (qf_call k__law_taken dx (by decide) rfl cx.g__law_taken (qa_cons (qe_var (i := 6) rfl (.inl rfl)) (qa_cons (qe_var (i := 8) rfl (.inl rfl)) qa_nil)))))) (qss_one (qs_ret (pd_cmp (od_isN false rfl) (qe_var (i := 10) rfl (.inl rfl)) qe_non (nomark _))))))))))
def w__law_step : DS := wSeq (wAsg (wVar 4) (gSeq 2 (gConsD (gN 5) (gConsD (gN 6) (gNilD))))) (wSeq (wAsg (wCall S__law_draw [] (wCons (wVar 0) (wCons (wC (.int 12)) (wNil)))) (gN 7)) (wSeq (wIfS (wOrT (wBl (wOp (dEq false) (wVar 7) (wC (.int 0)))) (wBl (wOp (dEq false) (wVar 7) (wC (.int 1))))) (wSeq (wAsg (wJoin (wC (.str "")) (wLc false (iRngD (wCons (wCall S__law_draw [] (wCons (wVar 0) (wCons (wC (.int 7)) (wNil)))) (wNil))) (gN 10) (wYes) (wCall S__law_pick [] (wCons (wVar 0) (wCons (wLst false (wCons (wC (.str "a")) (wCons (wC (.str "bc")) (wCons (wC (.str " ")) (wCons (wC (.str "~")) (wCons (wC (.str "d")) (wNil))))))) (wNil)))) [10])) (gN 8)) (wSeq (wAsg (wOp (dAdd false) (wC (.int 1)) (wCall S__law_draw [] (wCons (wVar 0) (wCons (wC (.int 3)) (wNil))))) (gN 9)) (wSeq (wIfS (wNotT (wTru (wCall (S__law_same 6) [] (wCons (wCall S_cut [] (wCons (wVar 8) (wCons (wVar 9) (wNil)))) (wCons (wCall S__law_cut [] (wCons (wVar 8) (wCons (wVar 9) (wNil)))) (wNil)))))) (wRet (wC (.bl false))) (wNext)) (wRet (wCall S__law_begin [] (wCons (wVar 5) (wCons (wVar 2) (wCons (wC (.str "freeze")) (wCons (wCall S__law_cut [] (wCons (wVar 8) (wCons (wVar 9) (wNil)))) (wNil)))))))))) (wNext)) (wSeq (wIfS (wBl (wOp (dEq false) (wVar 7) (wC (.int 2)))) (wRet (wOr (wOp (dEq false) (wCall S__law_draw [] (wCons (wVar 0) (wCons (wC (.int 2)) (wNil)))) (wC (.int 0))) (wCall S__law_begin [] (wCons (wVar 5) (wCons (wVar 2) (wCons (wC (.str "resume")) (wCons (wLst false (wNil)) (wNil)))))))) (wNext)) (wSeq (wIfS (wBl (wOp (dRel fun i j => decide (i < j)) (wVar 7) (wC (.int 6)))) (wSeq (wDrop (wCall S__law_sent [] (wCons (wVar 0) (wCons (wVar 1) (wCons (wMeth 2 S_Giver_messages [] (wVar 2) wNil) (wNil)))))) (wRet (wC (.bl true)))) (wNext)) (wSeq (wIfS (wBl (wOp (dEq false) (wVar 7) (wC (.int 6)))) (wSeq (wDrop (wCall S__law_sent [] (wCons (wVar 0) (wCons (wVar 1) (wCons (wMeth 3 S_Taker_messages [] (wVar 3) wNil) (wNil)))))) (wRet (wC (.bl true)))) (wNext)) (wRet (wOr (wOp (dEq false) (wVar 1) (wLst false (wNil))) (wCall S__law_delivered [] (wCons (wVar 0) (wCons (wVar 1) (wCons (wVar 2) (wCons (wVar 3) (wCons (wVar 4) (wNil))))))))))))))
def S__law_step : DSp := arD 5 (runD 11 w__law_step)
theorem sc__law_step : FnScope ["_law_source", "_law_link", "_law_giver", "_law_taker", "_law_records", "_law_mine", "_law_its", "_law_way", "_law_words", "_law_size", "_law_turn"] ["_law_source", "_law_link", "_law_giver", "_law_taker", "_law_records"] (defScope st__law_step) := ⟨rfl, rfl, rfl, by decide +kernel, rfl, by decide +kernel, by decide +kernel⟩
theorem ok__law_step (cx : Cxt w K mg) : ∃ fd, FD P w K mg base (gm K) 8 (He.fAd K ("_law_step", none)) fd ["_law_source", "_law_link", "_law_giver", "_law_taker", "_law_records"] S__law_step ∧ FunD K "_law_step" "_law_step" (defArgs st__law_step) (defBody st__law_step) (defScope st__law_step) [] [] (He.fAd K ("_law_step", none)) fd := by
  obtain ⟨fd, F⟩ := cx.F__law_step
  obtain ⟨fd_Giver_messages, k_Giver_messages, F_Giver_messages⟩ := ok_Giver_messages (P := P) (w := w) (base := base) cx
  obtain ⟨fd_Taker_messages, k_Taker_messages, F_Taker_messages⟩ := ok_Taker_messages (P := P) (w := w) (base := base) cx
  obtain ⟨fd__law_begin, k__law_begin, F__law_begin⟩ := ok__law_begin (P := P) (w := w) (base := base) cx
  obtain ⟨fd__law_cut, k__law_cut, F__law_cut⟩ := ok__law_cut (P := P) (w := w) (base := base) cx
  obtain ⟨fd__law_delivered, k__law_delivered, F__law_delivered⟩ := ok__law_delivered (P := P) (w := w) (base := base) cx
  obtain ⟨fd__law_draw, k__law_draw, F__law_draw⟩ := ok__law_draw (P := P) (w := w) (base := base) cx
  obtain ⟨fd__law_pick, k__law_pick, F__law_pick⟩ := ok__law_pick (P := P) (w := w) (base := base) cx
  obtain ⟨fd__law_same, kr__law_same, F__law_same⟩ := ok__law_same (P := P) (w := w) (base := base) cx
  have k__law_same := kr__law_same 6
  obtain ⟨fd__law_sent, k__law_sent, F__law_sent⟩ := ok__law_sent (P := P) (w := w) (base := base) cx
  obtain ⟨fd_cut, k_cut, F_cut⟩ := ok_cut (P := P) (w := w) (base := base) cx
  refine ⟨fd, FD.mk' F sc__law_step (fun _ _ _ _ _ _ us hl => match us, hl with | [_, _, _, _, _], _ => rfl) fun cdv A outer s H E hr hg => ?_, F⟩
  have dx := dx_cx (P := P) (w := w) (K := K) (mg := mg) (base := base) (G := gm K) (outer := outer) (H := H) (E := E) rfl sc__law_step.nd hr hg
  exact (qss_cons (qs_asg (qe_var (i := 4) rfl (.inl rfl)) (qg_tup (n := 2) dx.K dx.calm (qgs_cons (qg_name (i := 5) dx.nd rfl (.inl rfl) (.inl rfl)) (qgs_cons (qg_name (i := 6) dx.nd rfl (.inl rfl) (.inl rfl)) qgs_nil)))) (qss_cons (qs_set (i := 7) dx.nd rfl (.inl rfl) (qf_call k__law_draw dx (by decide) rfl cx.g__law_draw (qa_cons (qe_var (i := 0) rfl (.inr (.inl rfl))) (qa_cons qe_int qa_nil))) (by rfl) (.inl rfl)) (qss_cons (qs_if (PW.pt (qw_or (qt_cmp (od_eq dx.K dx.u65 false rfl) (qe_var (i := 7) rfl (.inl rfl)) qe_int (nomark _)) (qw_or1 (qt_cmp (od_eq dx.K dx.u65 false rfl) (qe_var (i := 7) rfl (.inl rfl)) qe_int (nomark _))))) (qss_cons (qs_set (i := 8) dx.nd rfl (.inl rfl) (qe_join dx.K qe_str (qe_lc (own := [("_law_turn", 10)]) dx false (qi_range1 rfl cx.n_range (qa_cons (qf_call k__law_draw dx (by decide) rfl cx.g__law_draw (qa_cons (qe_var (i := 0) rfl (.inr (.inl rfl))) (qa_cons qe_int qa_nil))) qa_nil)) (blk_of (by kernel_rfl)) (by decide) (fun _ _ _ _ _ => (qg_name (i := 10) (DX.blk dx _ _ _ _ _).nd rfl (.inl rfl) (.inr rfl))) (fun _ _ _ _ _ => qts_nil) (fun _ _ _ _ _ => (qf_call k__law_pick (DX.blk dx _ _ _ _ _) (by decide) rfl cx.g__law_pick (qa_cons (qe_var (i := 0) rfl (.inr (.inl rfl))) (qa_cons (qe_lst false (qa_cons qe_str (qa_cons qe_str (qa_cons qe_str (qa_cons qe_str (qa_cons qe_str qa_nil)))))) qa_nil)))))) (by rfl) (.inl rfl)) (qss_cons (qs_set (i := 9) dx.nd rfl (.inl rfl) (pd_op (od_add dx.K false) qe_int (qf_call k__law_draw dx (by decide) rfl cx.g__law_draw (qa_cons (qe_var (i := 0) rfl (.inr (.inl rfl))) (qa_cons qe_int qa_nil)))) (by rfl) (.inl rfl)) (qss_cons (qs_if (qt_not (qt_truth dx.K (qf_call k__law_same dx (by decide) rfl cx.g__law_same (qa_cons (qf_call k_cut dx (by decide) rfl cx.g_cut (qa_cons (qe_var (i := 8) rfl (.inl rfl)) (qa_cons (qe_var (i := 9) rfl (.inl rfl)) qa_nil))) (qa_cons (qf_call k__law_cut dx (by decide) rfl cx.g__law_cut (qa_cons (qe_var (i := 8) rfl (.inl rfl)) (qa_cons (qe_var (i := 9) rfl (.inl rfl)) qa_nil))) qa_nil))))) (qss_one (qs_ret qe_bl)) qss_nil) (qss_one (qs_ret (qf_call k__law_begin dx (by decide) rfl cx.g__law_begin (qa_cons (qe_var (i := 5) rfl (.inl rfl)) (qa_cons (qe_var (i := 2) rfl (.inl rfl)) (qa_cons qe_str (qa_cons (qf_call k__law_cut dx (by decide) rfl cx.g__law_cut (qa_cons (qe_var (i := 8) rfl (.inl rfl)) (qa_cons (qe_var (i := 9) rfl (.inl rfl)) qa_nil))) qa_nil)))))))))) qss_nil) (qss_cons (qs_if (qt_cmp (od_eq dx.K dx.u65 false rfl) (qe_var (i := 7) rfl (.inl rfl)) qe_int (nomark _)) (qss_one (qs_ret (qe_or dx.K (pd_cmp (od_eq dx.K dx.u65 false rfl) (qf_call k__law_draw dx (by decide) rfl cx.g__law_draw (qa_cons (qe_var (i := 0) rfl (.inr (.inl rfl))) (qa_cons qe_int qa_nil))) qe_int (nomark _)) (qe_one (qf_call k__law_begin dx (by decide) rfl cx.g__law_begin (qa_cons (qe_var (i := 5) rfl (.inl rfl)) (qa_cons (qe_var (i := 2) rfl (.inl rfl)) (qa_cons qe_str (qa_cons (qe_lst false qa_nil) qa_nil))))))))) qss_nil) (qss_cons (qs_if (qt_cmp (od_rel op_lt) (qe_var (i := 7) rfl (.inl rfl)) qe_int (nomark _)) (qss_cons (qs_expr (qf_call k__law_sent dx (by decide) rfl cx.g__law_sent (qa_cons (qe_var (i := 0) rfl (.inr (.inl rfl))) (qa_cons (qe_var (i := 1) rfl (.inl rfl)) (qa_cons (qf_meth0 (pl := _) k_Giver_messages dx (by decide) (qe_var (i := 2) rfl (.inl rfl)) cx.cls_Giver rfl (fldOf_ne (by kernel_rfl)) cx.m_Giver_messages) qa_nil))))) (qss_one (qs_ret qe_bl))) qss_nil) (qss_cons (qs_if (qt_cmp (od_eq dx.K dx.u65 false rfl) (qe_var (i := 7) rfl (.inl rfl)) qe_int (nomark _)) (qss_cons (qs_expr (qf_call k__law_sent dx (by decide) rfl cx.g__law_sent (qa_cons (qe_var (i := 0) rfl (.inr (.inl rfl))) (qa_cons (qe_var (i := 1) rfl (.inl rfl)) (qa_cons (qf_meth0 (pl := _) k_Taker_messages dx (by decide) (qe_var (i := 3) rfl (.inl rfl)) cx.cls_Taker rfl (fldOf_ne (by kernel_rfl)) cx.m_Taker_messages) qa_nil))))) (qss_one (qs_ret qe_bl))) qss_nil) (qss_one (qs_ret (qe_or dx.K (pd_cmp (od_eq dx.K dx.u65 false rfl) (qe_var (i := 1) rfl (.inl rfl)) (qe_lst false qa_nil) (nomark _)) (qe_one (qf_call k__law_delivered dx (by decide) rfl cx.g__law_delivered (qa_cons (qe_var (i := 0) rfl (.inr (.inl rfl))) (qa_cons (qe_var (i := 1) rfl (.inl rfl)) (qa_cons (qe_var (i := 2) rfl (.inl rfl)) (qa_cons (qe_var (i := 3) rfl (.inl rfl)) (qa_cons (qe_var (i := 4) rfl (.inl rfl)) qa_nil))))))))))))))))
def w__law_right : DS := wSeq (wPar3 1 2 3 (wCons (wMake 2 S_Giver_init0 [] wNil) (wCons (wMake 3 S_Taker_init0 [] wNil) (wCons (wLst true (wNil)) (wNil))))) (wSeq (wAsg (wDisp [("phase", wC (.str "runs")), ("many", wC (.int 0)), ("pieces", wLst false (wNil)), ("known", wC (.bl false))]) (gN 4)) (wSeq (wAsg (wDisp [("turn", wC (.int 0)), ("many", wC (.int 0)), ("kept", wDict0), ("runs", wC (.bl false))]) (gN 5)) (wSeq (wFor (iRngD (wCons (wC (.int 70)) (wNil))) (gN 6) (wIfS (wOrT (wNotT (wTru (wCall S__law_step [] (wCons (wVar 0) (wCons (wVar 3) (wCons (wVar 1) (wCons (wVar 2) (wCons (wTup (wCons (wVar 4) (wCons (wVar 5) (wNil)))) (wNil))))))))) (wNotT (wTru (wCall S__law_kept [] (wCons (wVar 1) (wCons (wVar 2) (wCons (wVar 4) (wCons (wVar 5) (wNil))))))))) (wRet (wC (.bl false))) (wNext))) (wSeq (wIfS (wBl (wOp (dEq false) (wMeth 2 S_Giver_phase [] (wVar 1) wNil) (wC (.str "runs")))) (wRet (wOp (dIsN false) (wMeth 3 S_Taker_running [] (wVar 2) wNil) (wC .non))) (wNext)) (wSeq (wFor (iRngD (wCons (wC (.int 3)) (wNil))) (gN 6) (wSeq (wFor (iAny (wMeth 2 S_Giver_messages [] (wVar 1) wNil)) (gN 7) (wDrop (wMeth 3 S_Taker_receive [] (wVar 2) (wCons (wVar 7) (wNil))))) (wFor (iAny (wMeth 3 S_Taker_messages [] (wVar 2) wNil)) (gN 7) (wDrop (wMeth 2 S_Giver_receive [] (wVar 1) (wCons (wVar 7) (wNil))))))) (wRet (wOp (dEq false) (wLst false (wCons (wMeth 2 S_Giver_phase [] (wVar 1) wNil) (wCons (wMeth 2 S_Giver_messages [] (wVar 1) wNil) (wCons (wMeth 3 S_Taker_running [] (wVar 2) wNil) (wNil))))) (wLst false (wCons (wC (.str "given")) (wCons (wLst false (wNil)) (wCons (wJoin (wC (.str "")) (wOp dIx (wVar 4) (wC (.str "pieces")))) (wNil))))))))))))
def S__law_right : DSp := arD 1 (runD 8 w__law_right)
theorem sc__law_right : FnScope ["_law_source", "_law_giver", "_law_taker", "_law_link", "_law_mine", "_law_its", "_law_turn", "_law_message"] ["_law_source"] (defScope st__law_right) := ⟨rfl, rfl, rfl, by decide +kernel, rfl, by decide +kernel, by decide +kernel⟩
theorem ok__law_right (cx : Cxt w K mg) : ∃ fd, FD P w K mg base (gm K) 9 (He.fAd K ("_law_right", none)) fd ["_law_source"] S__law_right ∧ FunD K "_law_right" "_law_right" (defArgs st__law_right) (defBody st__law_right) (defScope st__law_right) [] [] (He.fAd K ("_law_right", none)) fd := by
  obtain ⟨fd, F⟩ := cx.F__law_right
  obtain ⟨fd_Giver_init0, k_Giver_init0, F_Giver_init0⟩ := ok_Giver_init0 (P := P) (w := w) (base := base) cx
  obtain ⟨fd_Giver_messages, k_Giver_messages, F_Giver_messages⟩ := ok_Giver_messages (P := P) (w := w) (base := base) cx
  obtain ⟨fd_Giver_phase, k_Giver_phase, F_Giver_phase⟩ := ok_Giver_phase (P := P) (w := w) (base := base) cx
  obtain ⟨fd_Giver_receive, k_Giver_receive, F_Giver_receive⟩ := ok_Giver_receive (P := P) (w := w) (base := base) cx
  obtain ⟨fd_Taker_init0, k_Taker_init0, F_Taker_init0⟩ := ok_Taker_init0 (P := P) (w := w) (base := base) cx
  obtain ⟨fd_Taker_messages, k_Taker_messages, F_Taker_messages⟩ := ok_Taker_messages (P := P) (w := w) (base := base) cx
  obtain ⟨fd_Taker_receive, k_Taker_receive, F_Taker_receive⟩ := ok_Taker_receive (P := P) (w := w) (base := base) cx
  obtain ⟨fd_Taker_running, k_Taker_running, F_Taker_running⟩ := ok_Taker_running (P := P) (w := w) (base := base) cx
  obtain ⟨fd__law_kept, k__law_kept, F__law_kept⟩ := ok__law_kept (P := P) (w := w) (base := base) cx
  obtain ⟨fd__law_step, k__law_step, F__law_step⟩ := ok__law_step (P := P) (w := w) (base := base) cx
  refine ⟨fd, FD.mk' F sc__law_right (fun _ _ _ _ _ _ us hl => match us, hl with | [_], _ => rfl) fun cdv A outer s H E hr hg => ?_, F⟩
  have dx := dx_cx (P := P) (w := w) (K := K) (mg := mg) (base := base) (G := gm K) (outer := outer) (H := H) (E := E) rfl sc__law_right.nd hr hg
  exact (qss_cons (qs_par3 (i := 1) (j := 2) (l := 3) dx.calm dx.nd rfl rfl rfl (by decide) (by decide) (by decide) rfl rfl rfl (qa_cons (qf_make0 k_Giver_init0 cx.mk_Giver dx (by decide) rfl rfl cx.g_Giver) (qa_cons (qf_make0 k_Taker_init0 cx.mk_Taker dx (by decide) rfl rfl cx.g_Taker) (qa_cons (qe_lst true qa_nil) qa_nil)))) (qss_cons (qs_set (i := 4) dx.nd rfl (.inl rfl) (qe_disp (kws := [("phase", wC (.str "runs")), ("many", wC (.int 0)), ("pieces", wLst false (wNil)), ("known", wC (.bl false))]) (pps_cons qe_str qe_str (pps_cons qe_str qe_int (pps_cons qe_str (qe_lst false qa_nil) (pps_cons qe_str qe_bl pps_nil)))) rfl rfl (fun z => by cases z) (by decide) (by decide)) (by rfl) (.inl rfl)) (qss_cons (qs_set (i := 5) dx.nd rfl (.inl rfl) (qe_disp (kws := [("turn", wC (.int 0)), ("many", wC (.int 0)), ("kept", wDict0), ("runs", wC (.bl false))]) (pps_cons qe_str qe_int (pps_cons qe_str qe_int (pps_cons qe_str qe_dict0 (pps_cons qe_str qe_bl pps_nil)))) rfl rfl (fun z => by cases z) (by decide) (by decide)) (by rfl) (.inl rfl)) (qss_cons (qs_for dx (qi_range1 rfl cx.n_range (qa_cons qe_int qa_nil)) (qg_name (i := 6) dx.nd rfl (.inl rfl) (.inl rfl)) (qss_one (qs_if (PW.pt (qw_or (qt_not (qt_truth dx.K (qf_call k__law_step dx (by decide) rfl cx.g__law_step (qa_cons (qe_var (i := 0) rfl (.inl rfl)) (qa_cons (qe_var (i := 3) rfl (.inl rfl)) (qa_cons (qe_var (i := 1) rfl (.inl rfl)) (qa_cons (qe_var (i := 2) rfl (.inl rfl)) (qa_cons (qe_tup (qa_cons (qe_var (i := 4) rfl (.inl rfl)) (qa_cons (qe_var (i := 5) rfl (.inl rfl)) qa_nil))) qa_nil)))))))) (qw_or1 (qt_not (qt_truth dx.K (qf_call k__law_kept dx (by decide) rfl cx.g__law_kept (qa_cons (qe_var (i := 1) rfl (.inl rfl)) (qa_cons (qe_var (i := 2) rfl (.inl rfl)) (qa_cons (qe_var (i := 4) rfl (.inl rfl)) (qa_cons (qe_var (i := 5) rfl (.inl rfl)) qa_nil)))))))))) (qss_one (qs_ret qe_bl)) qss_nil))) (qss_cons (qs_if (qt_cmp (od_eq dx.K dx.u65 false rfl) (qf_meth0 (pl := _) k_Giver_phase dx (by decide) (qe_var (i := 1) rfl (.inl rfl)) cx.cls_Giver rfl (fldOf_ne (by kernel_rfl)) cx.m_Giver_phase) qe_str (nomark _)) (qss_one (qs_ret (pd_cmp (od_isN false rfl) (qf_meth0 (pl := _) k_Taker_running dx (by decide) (qe_var (i := 2) rfl (.inl rfl)) cx.cls_Taker rfl (fldOf_ne (by kernel_rfl)) cx.m_Taker_running) qe_non (nomark _)))) qss_nil) (qss_cons (qs_for dx (qi_range1 rfl cx.n_range (qa_cons qe_int qa_nil)) (qg_name (i := 6) dx.nd rfl (.inl rfl) (.inl rfl)) (qss_cons (qs_for dx (qi_any dx.K (qf_meth0 (pl := _) k_Giver_messages dx (by decide) (qe_var (i := 1) rfl (.inl rfl)) cx.cls_Giver rfl (fldOf_ne (by kernel_rfl)) cx.m_Giver_messages)) (qg_name (i := 7) dx.nd rfl (.inl rfl) (.inl rfl)) (qss_one (qs_expr (qf_meth (pl := _) k_Taker_receive dx (by decide) (qe_var (i := 2) rfl (.inl rfl)) cx.cls_Taker rfl (fldOf_ne (by kernel_rfl)) cx.m_Taker_receive (qa_cons (qe_var (i := 7) rfl (.inl rfl)) qa_nil))))) (qss_one (qs_for dx (qi_any dx.K (qf_meth0 (pl := _) k_Taker_messages dx (by decide) (qe_var (i := 2) rfl (.inl rfl)) cx.cls_Taker rfl (fldOf_ne (by kernel_rfl)) cx.m_Taker_messages)) (qg_name (i := 7) dx.nd rfl (.inl rfl) (.inl rfl)) (qss_one (qs_expr (qf_meth (pl := _) k_Giver_receive dx (by decide) (qe_var (i := 1) rfl (.inl rfl)) cx.cls_Giver rfl (fldOf_ne (by kernel_rfl)) cx.m_Giver_receive (qa_cons (qe_var (i := 7) rfl (.inl rfl)) qa_nil)))))))) (qss_one (qs_ret (pd_cmp (od_eq dx.K dx.u65 false rfl) (qe_lst false (qa_cons (qf_meth0 (pl := _) k_Giver_phase dx (by decide) (qe_var (i := 1) rfl (.inl rfl)) cx.cls_Giver rfl (fldOf_ne (by kernel_rfl)) cx.m_Giver_phase) (qa_cons (qf_meth0 (pl := _) k_Giver_messages dx (by decide) (qe_var (i := 1) rfl (.inl rfl)) cx.cls_Giver rfl (fldOf_ne (by kernel_rfl)) cx.m_Giver_messages) (qa_cons (qf_meth0 (pl := _) k_Taker_running dx (by decide) (qe_var (i := 2) rfl (.inl rfl)) cx.cls_Taker rfl (fldOf_ne (by kernel_rfl)) cx.m_Taker_running) qa_nil)))) (qe_lst false (qa_cons qe_str (qa_cons (qe_lst false qa_nil) (qa_cons (qe_join dx.K qe_str (pd_ix dx.K dx.u1 (qe_var (i := 4) rfl (.inl rfl)) qe_str nofun)) qa_nil)))) (nomark _))))))))))
def w_law : DS := wSeq (wAsg (wCall S__law_folded [] (wCons (wVar 0) (wCons (wC (.int 3)) (wNil)))) (gN 1)) (wSeq (wFor (iRngD (wCons (wB dLen (wCons (wVar 1) (wNil))) (wNil))) (gN 2) (wSeq (wAsg (wCall S__law_stream [] (wCons (wVar 1) (wCons (wVar 2) (wNil)))) (gN 3)) (wIfS (wNotT (wTru (wB dAll (wCons (wLc false (iRngD (wCons (wC (.int 3)) (wNil))) (gN 4) (wYes) (wCall S__law_right [] (wCons (wVar 3) (wNil))) [4]) (wNil))))) (wRet (wC (.bl false))) (wNext)))) (wRet (wC (.bl true))))
def S_law : DSp := arD 1 (runD 5 w_law)
theorem sc_law : FnScope ["_law_script", "_law_cells", "_law_k", "_law_source", "_law_turn"] ["_law_script"] (defScope st_law) := ⟨rfl, rfl, rfl, by decide +kernel, rfl, by decide +kernel, by decide +kernel⟩
theorem ok_law (cx : Cxt w K mg) : ∃ fd, FD P w K mg base (gm K) 10 (He.fAd K ("law", none)) fd ["_law_script"] S_law ∧ FunD K "law" "law" (defArgs st_law) (defBody st_law) (defScope st_law) [] [] (He.fAd K ("law", none)) fd := by
  obtain ⟨fd, F⟩ := cx.F_law
  obtain ⟨fd__law_folded, k__law_folded, F__law_folded⟩ := ok__law_folded (P := P) (w := w) (base := base) cx
  obtain ⟨fd__law_right, k__law_right, F__law_right⟩ := ok__law_right (P := P) (w := w) (base := base) cx
  obtain ⟨fd__law_stream, k__law_stream, F__law_stream⟩ := ok__law_stream (P := P) (w := w) (base := base) cx
  refine ⟨fd, FD.mk' F sc_law (fun _ _ _ _ _ _ us hl => match us, hl with | [_], _ => rfl) fun cdv A outer s H E hr hg => ?_, F⟩
  have dx := dx_cx (P := P) (w := w) (K := K) (mg := mg) (base := base) (G := gm K) (outer := outer) (H := H) (E := E) rfl sc_law.nd hr hg
  exact (qss_cons (qs_set (i := 1) dx.nd rfl (.inl rfl) (qf_call k__law_folded dx (by decide) rfl cx.g__law_folded (qa_cons (qe_var (i := 0) rfl (.inl rfl)) (qa_cons qe_int qa_nil))) (by rfl) (.inl rfl)) (qss_cons (qs_for dx (qi_range1 rfl cx.n_range (qa_cons (qe_callB (cd_len dx.K) rfl cx.n_len boot_len (qa_cons (qe_var (i := 1) rfl (.inl rfl)) qa_nil)) qa_nil)) (qg_name (i := 2) dx.nd rfl (.inl rfl) (.inl rfl)) (qss_cons (qs_set (i := 3) dx.nd rfl (.inr rfl) (qf_call k__law_stream dx (by decide) rfl cx.g__law_stream (qa_cons (qe_var (i := 1) rfl (.inl rfl)) (qa_cons (qe_var (i := 2) rfl (.inl rfl)) qa_nil))) (by rfl) (.inl rfl)) (qss_one (qs_if (qt_not (qt_truth dx.K (qe_callB (cd_all dx.K dx.calm) rfl cx.n_all boot_all (qa_cons (qe_lc (own := [("_law_turn", 4)]) dx false (qi_range1 rfl cx.n_range (qa_cons qe_int qa_nil)) (blk_of (by kernel_rfl)) (by decide) (fun _ _ _ _ _ => (qg_name (i := 4) (DX.blk dx _ _ _ _ _).nd rfl (.inl rfl) (.inr rfl))) (fun _ _ _ _ _ => qts_nil) (fun _ _ _ _ _ => (qf_call k__law_right (DX.blk dx _ _ _ _ _) (by decide) rfl cx.g__law_right (qa_cons (qe_var (i := 3) rfl (.inr (.inl rfl))) qa_nil)))) qa_nil)))) (qss_one (qs_ret qe_bl)) qss_nil)))) (qss_one (qs_ret qe_bl))))
def d_NotNow_init0 : He.DefD := ⟨("NotNow", some "__init__"), "__init__", "NotNow.__init__", defArgs st_NotNow_init0, defBody st_NotNow_init0, defScope st_NotNow_init0, [], []⟩
def d_cut : He.DefD := ⟨("cut", none), "cut", "cut", defArgs st_cut, defBody st_cut, defScope st_cut, [], []⟩
def d_Giver_init0 : He.DefD := ⟨("Giver", some "__init__"), "__init__", "Giver.__init__", defArgs st_Giver_init0, defBody st_Giver_init0, defScope st_Giver_init0, [], []⟩
def d_Giver_phase : He.DefD := ⟨("Giver", some "phase"), "phase", "Giver.phase", defArgs st_Giver_phase, defBody st_Giver_phase, defScope st_Giver_phase, [], []⟩
def d_Giver_freeze : He.DefD := ⟨("Giver", some "freeze"), "freeze", "Giver.freeze", defArgs st_Giver_freeze, defBody st_Giver_freeze, defScope st_Giver_freeze, [], []⟩
def d_Giver_resume : He.DefD := ⟨("Giver", some "resume"), "resume", "Giver.resume", defArgs st_Giver_resume, defBody st_Giver_resume, defScope st_Giver_resume, [], []⟩
def d_Giver_receive : He.DefD := ⟨("Giver", some "receive"), "receive", "Giver.receive", defArgs st_Giver_receive, defBody st_Giver_receive, defScope st_Giver_receive, [], []⟩
def d_Giver_messages : He.DefD := ⟨("Giver", some "messages"), "messages", "Giver.messages", defArgs st_Giver_messages, defBody st_Giver_messages, defScope st_Giver_messages, [], []⟩
def d_Taker_init0 : He.DefD := ⟨("Taker", some "__init__"), "__init__", "Taker.__init__", defArgs st_Taker_init0, defBody st_Taker_init0, defScope st_Taker_init0, [], []⟩
def d_Taker_is_whole : He.DefD := ⟨("Taker", some "is_whole"), "is_whole", "Taker.is_whole", defArgs st_Taker_is_whole, defBody st_Taker_is_whole, defScope st_Taker_is_whole, [], []⟩
def d_Taker_keep : He.DefD := ⟨("Taker", some "keep"), "keep", "Taker.keep", defArgs st_Taker_keep, defBody st_Taker_keep, defScope st_Taker_keep, [], []⟩
def d_Taker_receive : He.DefD := ⟨("Taker", some "receive"), "receive", "Taker.receive", defArgs st_Taker_receive, defBody st_Taker_receive, defScope st_Taker_receive, [], []⟩
def d_Taker_messages : He.DefD := ⟨("Taker", some "messages"), "messages", "Taker.messages", defArgs st_Taker_messages, defBody st_Taker_messages, defScope st_Taker_messages, [], []⟩
def d_Taker_running : He.DefD := ⟨("Taker", some "running"), "running", "Taker.running", defArgs st_Taker_running, defBody st_Taker_running, defScope st_Taker_running, [], []⟩
def d__law_stream : He.DefD := ⟨("_law_stream", none), "_law_stream", "_law_stream", defArgs st__law_stream, defBody st__law_stream, defScope st__law_stream, [], []⟩
def d__law_draw : He.DefD := ⟨("_law_draw", none), "_law_draw", "_law_draw", defArgs st__law_draw, defBody st__law_draw, defScope st__law_draw, [], []⟩
def d__law_folded : He.DefD := ⟨("_law_folded", none), "_law_folded", "_law_folded", defArgs st__law_folded, defBody st__law_folded, defScope st__law_folded, [], []⟩
def d__law_pick : He.DefD := ⟨("_law_pick", none), "_law_pick", "_law_pick", defArgs st__law_pick, defBody st__law_pick, defScope st__law_pick, [], []⟩
def d__law_same : He.DefD := ⟨("_law_same", none), "_law_same", "_law_same", defArgs st__law_same, defBody st__law_same, defScope st__law_same, [], []⟩
def d__law_cut : He.DefD := ⟨("_law_cut", none), "_law_cut", "_law_cut", defArgs st__law_cut, defBody st__law_cut, defScope st__law_cut, [], []⟩
def d__law_refused : He.DefD := ⟨("_law_refused", none), "_law_refused", "_law_refused", defArgs st__law_refused, defBody st__law_refused, defScope st__law_refused, [], []⟩
def d__law_begin : He.DefD := ⟨("_law_begin", none), "_law_begin", "_law_begin", defArgs st__law_begin, defBody st__law_begin, defScope st__law_begin, [], []⟩
def d__law_given : He.DefD := ⟨("_law_given", none), "_law_given", "_law_given", defArgs st__law_given, defBody st__law_given, defScope st__law_given, [], []⟩
def d__law_whole : He.DefD := ⟨("_law_whole", none), "_law_whole", "_law_whole", defArgs st__law_whole, defBody st__law_whole, defScope st__law_whole, [], []⟩
def d__law_taken : He.DefD := ⟨("_law_taken", none), "_law_taken", "_law_taken", defArgs st__law_taken, defBody st__law_taken, defScope st__law_taken, [], []⟩
def d__law_text : He.DefD := ⟨("_law_text", none), "_law_text", "_law_text", defArgs st__law_text, defBody st__law_text, defScope st__law_text, [], []⟩
def d__law_giver_sends : He.DefD := ⟨("_law_giver_sends", none), "_law_giver_sends", "_law_giver_sends", defArgs st__law_giver_sends, defBody st__law_giver_sends, defScope st__law_giver_sends, [], []⟩
def d__law_taker_sends : He.DefD := ⟨("_law_taker_sends", none), "_law_taker_sends", "_law_taker_sends", defArgs st__law_taker_sends, defBody st__law_taker_sends, defScope st__law_taker_sends, [], []⟩
def d__law_kept : He.DefD := ⟨("_law_kept", none), "_law_kept", "_law_kept", defArgs st__law_kept, defBody st__law_kept, defScope st__law_kept, [], []⟩
def d__law_sent : He.DefD := ⟨("_law_sent", none), "_law_sent", "_law_sent", defArgs st__law_sent, defBody st__law_sent, defScope st__law_sent, [], []⟩
def d__law_delivered : He.DefD := ⟨("_law_delivered", none), "_law_delivered", "_law_delivered", defArgs st__law_delivered, defBody st__law_delivered, defScope st__law_delivered, [], []⟩
def d__law_step : He.DefD := ⟨("_law_step", none), "_law_step", "_law_step", defArgs st__law_step, defBody st__law_step, defScope st__law_step, [], []⟩
def d__law_right : He.DefD := ⟨("_law_right", none), "_law_right", "_law_right", defArgs st__law_right, defBody st__law_right, defScope st__law_right, [], []⟩
def d_law : He.DefD := ⟨("law", none), "law", "law", defArgs st_law, defBody st_law, defScope st_law, [], []⟩
def fnP0 : List He.DefD := [d_NotNow_init0, d_cut, d_Giver_init0, d_Giver_phase, d_Giver_freeze, d_Giver_resume, d_Giver_receive, d_Giver_messages, d_Taker_init0, d_Taker_is_whole, d_Taker_keep, d_Taker_receive, d_Taker_messages, d_Taker_running, d__law_stream, d__law_draw, d__law_folded, d__law_pick, d__law_same, d__law_cut, d__law_refused, d__law_begin, d__law_given, d__law_whole, d__law_taken, d__law_text, d__law_giver_sends, d__law_taker_sends, d__law_kept, d__law_sent]
def fnP1 : List He.DefD := [d__law_delivered, d__law_step, d__law_right, d_law]
def fnP : List He.DefD := fnP0 ++ fnP1
def faP0 : List He.Fa := [.free "RuntimeError", .free "abs", .free "all", .free "bool", .free "enumerate", .free "int", .free "isinstance", .free "len", .free "list", .free "max", .free "range", .free "sorted", .free "str", .free "tuple", .free "zip", .cls "Giver", .cls "Taker", .exm "NotNow" "NotNow" true, .exm "NotNow" "NotRunning" false, .glo "Giver", .glo "NotNow", .glo "NotRunning", .glo "Taker", .glo "_law_begin", .glo "_law_cut", .glo "_law_delivered", .glo "_law_draw", .glo "_law_folded", .glo "_law_given", .glo "_law_giver_sends"]
def faP1 : List He.Fa := [.glo "_law_kept", .glo "_law_pick", .glo "_law_refused", .glo "_law_right", .glo "_law_same", .glo "_law_sent", .glo "_law_step", .glo "_law_stream", .glo "_law_taken", .glo "_law_taker_sends", .glo "_law_text", .glo "_law_whole", .glo "cut", .meth "Giver" "freeze", .meth "Giver" "messages", .meth "Giver" "phase", .meth "Giver" "receive", .meth "Giver" "resume", .meth "Taker" "is_whole", .meth "Taker" "keep", .meth "Taker" "messages", .meth "Taker" "receive", .meth "Taker" "running", .mkr "Giver", .mkr "Taker", .noat "Giver" "own_is_known", .noat "Giver" "own_number", .noat "Giver" "own_phase", .noat "Giver" "own_pieces", .noat "Taker" "own_many"]
def faP2 : List He.Fa := [.noat "Taker" "own_number", .noat "Taker" "own_pieces", .noat "Taker" "own_runs", .str "FROZEN" "frozen", .str "GIVEN" "given", .str "GO" "go", .str "GOING" "going", .str "PIECE" "piece", .str "RUNS" "runs", .str "WHOLE" "whole", .glo "law"]
def faP : List He.Fa := faP0 ++ faP1 ++ faP2
abbrev R : PySem.W.OpenRow := PySem.W.OpenLaw.row PySem.Challenge.rw_treethaw_k70_whole_moving_over_a_bad_lin
def exP (K : PySem.W.Frag) : Bool := (decide (PySem.W.kitOne K (.ref (He.ga K "NotNow")) (.ref (He.ga K "NotNow")) = some true)) && (decide (PySem.W.kitOne K (.ref (He.ga K "NotNow")) (.type "RuntimeError") = some true)) && (EX.xcB K (He.ga K "NotNow") (He.fAd K ("NotNow", some "__init__")) [.type "RuntimeError", .type "Exception", .type "BaseException", .type "object"] "RuntimeError.__new__" "word")
theorem ex_NotNow_NotNow {K : PySem.W.Frag} (h : exP K = true) : (decide (PySem.W.kitOne K (.ref (He.ga K "NotNow")) (.ref (He.ga K "NotNow")) = some true)) = true := by
  unfold exP at h
  simp only [Bool.and_eq_true] at h
  exact h.1.1
theorem ex_NotNow_RuntimeError {K : PySem.W.Frag} (h : exP K = true) : (decide (PySem.W.kitOne K (.ref (He.ga K "NotNow")) (.type "RuntimeError") = some true)) = true := by
  unfold exP at h
  simp only [Bool.and_eq_true] at h
  exact h.1.2
theorem ex_NotNow {K : PySem.W.Frag} (h : exP K = true) : (EX.xcB K (He.ga K "NotNow") (He.fAd K ("NotNow", some "__init__")) [.type "RuntimeError", .type "Exception", .type "BaseException", .type "object"] "RuntimeError.__new__" "word") = true := by
  unfold exP at h
  simp only [Bool.and_eq_true] at h
  exact h.2
def tsP : List He.Tab := []
abbrev hk : PySem.W.Hook := He.hookX 6 faP fnP tsP [] exP
def ob (s : PySem.W.SharedT) : He.AlX := He.obsX 6 faP fnP tsP [] exP (HandSHeadRun.getT s)
theorem ob_eq (s : PySem.W.SharedT) : ob s = hk.obs s.abs := He.obsX_eq (HandSHeadRun.getT_eq s)
def looseP0 : List PySem.Str := ["NotRunning", "NotNow", "RUNS", "FROZEN", "GIVEN", "PIECE", "WHOLE", "GO", "GOING", "cut", "Giver", "Taker", "_law_stream", "_law_draw", "_law_folded", "_law_pick", "_law_same", "_law_cut", "_law_refused", "_law_begin", "_law_given", "_law_taken", "_law_whole", "_law_text", "_law_giver_sends", "_law_taker_sends", "_law_kept", "_law_sent", "_law_delivered", "_law_step"]
def looseP1 : List PySem.Str := ["_law_right"]
def looseP : List PySem.Str := looseP0 ++ looseP1
theorem run (w : World) : HandSHeadRun.RunEq R (PySem.W.view R.prog [34]) hk ob 20000 looseP w :=
  PySem.W.byRow2 "special-get-raises" (P := fun w => HandSHeadRun.RunEq R (PySem.W.view R.prog [34]) hk ob 20000 looseP w) (fun w => by intro os; kernel_rfl) (fun w => by intro os; kernel_rfl) w
theorem cxt_of {w : World} {K : PySem.W.Frag} {h : Heap} {mg : Str → Option Value} (X : K.In h) (G : h.Ns mainGlobals mg) (c : He.SaysX faP fnP tsP [] exP w h K) : Cxt w K mg where
  F_NotNow_init0 := c.t.d.def_ 0 (d := d_NotNow_init0) rfl
  F_cut := c.t.d.def_ 1 (d := d_cut) rfl
  F_Giver_init0 := c.t.d.def_ 2 (d := d_Giver_init0) rfl
  F_Giver_phase := c.t.d.def_ 3 (d := d_Giver_phase) rfl
  F_Giver_freeze := c.t.d.def_ 4 (d := d_Giver_freeze) rfl
  F_Giver_resume := c.t.d.def_ 5 (d := d_Giver_resume) rfl
  F_Giver_receive := c.t.d.def_ 6 (d := d_Giver_receive) rfl
  F_Giver_messages := c.t.d.def_ 7 (d := d_Giver_messages) rfl
  F_Taker_init0 := c.t.d.def_ 8 (d := d_Taker_init0) rfl
  F_Taker_is_whole := c.t.d.def_ 9 (d := d_Taker_is_whole) rfl
  F_Taker_keep := c.t.d.def_ 10 (d := d_Taker_keep) rfl
  F_Taker_receive := c.t.d.def_ 11 (d := d_Taker_receive) rfl
  F_Taker_messages := c.t.d.def_ 12 (d := d_Taker_messages) rfl
  F_Taker_running := c.t.d.def_ 13 (d := d_Taker_running) rfl
  F__law_stream := c.t.d.def_ 14 (d := d__law_stream) rfl
  F__law_draw := c.t.d.def_ 15 (d := d__law_draw) rfl
  F__law_folded := c.t.d.def_ 16 (d := d__law_folded) rfl
  F__law_pick := c.t.d.def_ 17 (d := d__law_pick) rfl
  F__law_same := c.t.d.def_ 18 (d := d__law_same) rfl
  F__law_cut := c.t.d.def_ 19 (d := d__law_cut) rfl
  F__law_refused := c.t.d.def_ 20 (d := d__law_refused) rfl
  F__law_begin := c.t.d.def_ 21 (d := d__law_begin) rfl
  F__law_given := c.t.d.def_ 22 (d := d__law_given) rfl
  F__law_whole := c.t.d.def_ 23 (d := d__law_whole) rfl
  F__law_taken := c.t.d.def_ 24 (d := d__law_taken) rfl
  F__law_text := c.t.d.def_ 25 (d := d__law_text) rfl
  F__law_giver_sends := c.t.d.def_ 26 (d := d__law_giver_sends) rfl
  F__law_taker_sends := c.t.d.def_ 27 (d := d__law_taker_sends) rfl
  F__law_kept := c.t.d.def_ 28 (d := d__law_kept) rfl
  F__law_sent := c.t.d.def_ 29 (d := d__law_sent) rfl
  F__law_delivered := c.t.d.def_ 30 (d := d__law_delivered) rfl
  F__law_step := c.t.d.def_ 31 (d := d__law_step) rfl
  F__law_right := c.t.d.def_ 32 (d := d__law_right) rfl
  F_law := c.t.d.def_ 33 (d := d_law) rfl
  n_RuntimeError := He.free_ok X G (c.t.d.fact 0 (f := .free "RuntimeError") rfl)
  n_abs := He.free_ok X G (c.t.d.fact 1 (f := .free "abs") rfl)
  n_all := He.free_ok X G (c.t.d.fact 2 (f := .free "all") rfl)
  n_bool := He.free_ok X G (c.t.d.fact 3 (f := .free "bool") rfl)
  n_enumerate := He.free_ok X G (c.t.d.fact 4 (f := .free "enumerate") rfl)
  n_int := He.free_ok X G (c.t.d.fact 5 (f := .free "int") rfl)
  n_isinstance := He.free_ok X G (c.t.d.fact 6 (f := .free "isinstance") rfl)
  n_len := He.free_ok X G (c.t.d.fact 7 (f := .free "len") rfl)
  n_list := He.free_ok X G (c.t.d.fact 8 (f := .free "list") rfl)
  n_max := He.free_ok X G (c.t.d.fact 9 (f := .free "max") rfl)
  n_range := He.free_ok X G (c.t.d.fact 10 (f := .free "range") rfl)
  n_sorted := He.free_ok X G (c.t.d.fact 11 (f := .free "sorted") rfl)
  n_str := He.free_ok X G (c.t.d.fact 12 (f := .free "str") rfl)
  n_tuple := He.free_ok X G (c.t.d.fact 13 (f := .free "tuple") rfl)
  n_zip := He.free_ok X G (c.t.d.fact 14 (f := .free "zip") rfl)
  cls_Giver := He.cls_ok (c.t.d.fact 15 (f := .cls "Giver") rfl)
  cls_Taker := He.cls_ok (c.t.d.fact 16 (f := .cls "Taker") rfl)
  xm_NotNow_NotNow := He.exm_ok (c.t.d.fact 17 (f := .exm "NotNow" "NotNow" true) rfl)
  xm_NotNow_NotRunning := He.exm_ok (c.t.d.fact 18 (f := .exm "NotNow" "NotRunning" false) rfl)
  g_Giver := He.glo_ok X G (c.t.d.fact 19 (f := .glo "Giver") rfl)
  g_NotNow := He.glo_ok X G (c.t.d.fact 20 (f := .glo "NotNow") rfl)
  g_NotRunning := He.glo_ok X G (c.t.d.fact 21 (f := .glo "NotRunning") rfl)
  g_Taker := He.glo_ok X G (c.t.d.fact 22 (f := .glo "Taker") rfl)
  g__law_begin := He.glo_ok X G (c.t.d.fact 23 (f := .glo "_law_begin") rfl)
  g__law_cut := He.glo_ok X G (c.t.d.fact 24 (f := .glo "_law_cut") rfl)
  g__law_delivered := He.glo_ok X G (c.t.d.fact 25 (f := .glo "_law_delivered") rfl)
  g__law_draw := He.glo_ok X G (c.t.d.fact 26 (f := .glo "_law_draw") rfl)
  g__law_folded := He.glo_ok X G (c.t.d.fact 27 (f := .glo "_law_folded") rfl)
  g__law_given := He.glo_ok X G (c.t.d.fact 28 (f := .glo "_law_given") rfl)
  g__law_giver_sends := He.glo_ok X G (c.t.d.fact 29 (f := .glo "_law_giver_sends") rfl)
  g__law_kept := He.glo_ok X G (c.t.d.fact 30 (f := .glo "_law_kept") rfl)
  g__law_pick := He.glo_ok X G (c.t.d.fact 31 (f := .glo "_law_pick") rfl)
  g__law_refused := He.glo_ok X G (c.t.d.fact 32 (f := .glo "_law_refused") rfl)
  g__law_right := He.glo_ok X G (c.t.d.fact 33 (f := .glo "_law_right") rfl)
  g__law_same := He.glo_ok X G (c.t.d.fact 34 (f := .glo "_law_same") rfl)
  g__law_sent := He.glo_ok X G (c.t.d.fact 35 (f := .glo "_law_sent") rfl)
  g__law_step := He.glo_ok X G (c.t.d.fact 36 (f := .glo "_law_step") rfl)
  g__law_stream := He.glo_ok X G (c.t.d.fact 37 (f := .glo "_law_stream") rfl)
  g__law_taken := He.glo_ok X G (c.t.d.fact 38 (f := .glo "_law_taken") rfl)
  g__law_taker_sends := He.glo_ok X G (c.t.d.fact 39 (f := .glo "_law_taker_sends") rfl)
  g__law_text := He.glo_ok X G (c.t.d.fact 40 (f := .glo "_law_text") rfl)
  g__law_whole := He.glo_ok X G (c.t.d.fact 41 (f := .glo "_law_whole") rfl)
  g_cut := He.glo_ok X G (c.t.d.fact 42 (f := .glo "cut") rfl)
  kt_NotNow_NotNow := of_decide_eq_true (ex_NotNow_NotNow c.more)
  kt_NotNow_RuntimeError := of_decide_eq_true (ex_NotNow_RuntimeError c.more)
  m_Giver_freeze := He.meth_ok (c.t.d.fact 43 (f := .meth "Giver" "freeze") rfl)
  m_Giver_messages := He.meth_ok (c.t.d.fact 44 (f := .meth "Giver" "messages") rfl)
  m_Giver_phase := He.meth_ok (c.t.d.fact 45 (f := .meth "Giver" "phase") rfl)
  m_Giver_receive := He.meth_ok (c.t.d.fact 46 (f := .meth "Giver" "receive") rfl)
  m_Giver_resume := He.meth_ok (c.t.d.fact 47 (f := .meth "Giver" "resume") rfl)
  m_Taker_is_whole := He.meth_ok (c.t.d.fact 48 (f := .meth "Taker" "is_whole") rfl)
  m_Taker_keep := He.meth_ok (c.t.d.fact 49 (f := .meth "Taker" "keep") rfl)
  m_Taker_messages := He.meth_ok (c.t.d.fact 50 (f := .meth "Taker" "messages") rfl)
  m_Taker_receive := He.meth_ok (c.t.d.fact 51 (f := .meth "Taker" "receive") rfl)
  m_Taker_running := He.meth_ok (c.t.d.fact 52 (f := .meth "Taker" "running") rfl)
  mk_Giver := He.mkr_ok (c.t.d.fact 53 (f := .mkr "Giver") rfl)
  mk_Taker := He.mkr_ok (c.t.d.fact 54 (f := .mkr "Taker") rfl)
  na_Giver_own_is_known := He.noat_ok (c.t.d.fact 55 (f := .noat "Giver" "own_is_known") rfl)
  na_Giver_own_number := He.noat_ok (c.t.d.fact 56 (f := .noat "Giver" "own_number") rfl)
  na_Giver_own_phase := He.noat_ok (c.t.d.fact 57 (f := .noat "Giver" "own_phase") rfl)
  na_Giver_own_pieces := He.noat_ok (c.t.d.fact 58 (f := .noat "Giver" "own_pieces") rfl)
  na_Taker_own_many := He.noat_ok (c.t.d.fact 59 (f := .noat "Taker" "own_many") rfl)
  na_Taker_own_number := He.noat_ok (c.t.d.fact 60 (f := .noat "Taker" "own_number") rfl)
  na_Taker_own_pieces := He.noat_ok (c.t.d.fact 61 (f := .noat "Taker" "own_pieces") rfl)
  na_Taker_own_runs := He.noat_ok (c.t.d.fact 62 (f := .noat "Taker" "own_runs") rfl)
  i_FROZEN := He.str_ok X G (c.t.d.fact 63 (f := .str "FROZEN" "frozen") rfl)
  i_GIVEN := He.str_ok X G (c.t.d.fact 64 (f := .str "GIVEN" "given") rfl)
  i_GO := He.str_ok X G (c.t.d.fact 65 (f := .str "GO" "go") rfl)
  i_GOING := He.str_ok X G (c.t.d.fact 66 (f := .str "GOING" "going") rfl)
  i_PIECE := He.str_ok X G (c.t.d.fact 67 (f := .str "PIECE" "piece") rfl)
  i_RUNS := He.str_ok X G (c.t.d.fact 68 (f := .str "RUNS" "runs") rfl)
  i_WHOLE := He.str_ok X G (c.t.d.fact 69 (f := .str "WHOLE" "whole") rfl)
  T_NotNow := EX.xcB_ok (ex_NotNow c.more)
end Law
namespace Law
open PySem PySem.Spec PyProof.Rows L2 DL
/-- from the plain law -/
theorem law_sp {K : PySem.W.Frag} (plain : ∀ (d : DV) (ns : List Int) (m : Sto) (Q : DK), asL m d = some (ns.map DV.int) → ns.length ≤ 63 → (∀ m', Q (.bl true) m') → S_law [d] m Q)
    (H : Hp) (a : Addr) (ns : List Int) (hl : ns.length ≤ 63) (hS : SqL K H a (ns.map V.int)) : spL (gm K) S_law [.ref a] H (fun v _ => v = .bl true) fun _ _ _ => False := by
  have r : Rel (gm K) H (fun _ => none) H := ⟨Ex.refl H, (fun a o e => by cases e), ex_none⟩
  have k : Kt (gm K) H (fun d _ => d = .bl true) (fun v _ => v = .bl true) := fun d m v F' H' e _ _ rv => by
    subst e
    cases rv
    rfl
  rcases hS with h | h
  · exact ⟨H, _, [.lst (ns.map DV.int)], _, r, .cons (.lst h (VRs.of_ints ns)) .nil, plain _ ns _ _ rfl hl fun _ => rfl, k⟩
  · exact ⟨H, _, [.klst (ns.map DV.int)], _, r, .cons (.klst (.inr h) (VRs.of_ints ns)) .nil, plain _ ns _ _ rfl hl fun _ => rfl, k⟩
end Law
namespace Law
open PySem PySem.Spec PyProof.Rows L2 DL
section
variable {m : Sto} {δ : Slots} {w wa wb : DE} {ns ms : List Int} {k n : Int} {b : Bool} {i j : Int}
theorem dEq_int {neg : Bool} {i j : Int} : Pu2 (dEq neg) (.int i) (.int j) m (.bl (xor neg (decide (i = j)))) := fun m' Q _ q => q _ (.refl _)
abbrev iL (ns : List Int) : DV := .lst (ns.map DV.int)
theorem line_eq : sizeLine = 16777216 := sizeLine_eq
theorem cat_L {xs ys : List DV} (h : xs.length + ys.length ≤ sizeLine) : Pu2 (dAdd false) (.lst xs) (.lst ys) m (.lst (xs ++ ys)) := fun m' Q _ q => ⟨xs, ys, rfl, rfl, h, q _ (.refl _)⟩
theorem cat_I (h : ns.length + ms.length ≤ sizeLine) : Pu2 (dAdd false) (iL ns) (iL ms) m (iL (ns ++ ms)) := by
  unfold iL
  rw [List.map_append]
  exact cat_L (by simpa using h)
theorem rep_one : Pu2 (dMul false) (iL [n]) (.int (if b then 1 else 0)) m (iL (if b then [n] else [])) := fun m' Q _ q => by
  refine ⟨[.int n], rfl, ?_, ?_, ?_, ?_⟩
  · split <;> decide
  · split <;> decide
  · have := line_eq
    split <;> simp <;> omega
  · cases b <;> exact q _ (.refl _)
theorem pu_sortI (h : PuE w δ m (iL ns)) : PuE (wB (dSorted false) (wCons w wNil)) δ m (iL (sortI ns)) := pu_b (pa_cons h pa_nil) fun m' Q _ q => by
  show match ints? (ns.map DV.int) with
    | some ns => newL false ((sortI ns).map DV.int) m' Q
    | none => _
  rw [DL.ints_of]
  exact q _ (.refl _)
theorem pu_lenL {xs : List DV} (h : PuE w δ m (.lst xs)) : PuE (wB dLen (wCons w wNil)) δ m (.int (xs.length : Int)) := pu_b (pa_cons h pa_nil) fun m' Q _ q => q _ (.refl _)
theorem pu_len (h : PuE w δ m (iL ns)) : PuE (wB dLen (wCons w wNil)) δ m (.int (ns.length : Int)) := by
  have := pu_lenL h
  rw [List.length_map] at this
  exact this
theorem ix_L {xs : List DV} {k : Nat} {d : DV} (h : xs[k]? = some d) : Pu2 dIx (.lst xs) (.int (k : Int)) m d := fun m' Q _ q => by
  have e : atI xs (k : Int) = some d := by
    unfold atI ixN
    have hk : k < xs.length := (List.getElem?_eq_some_iff.mp h).1
    rw [if_pos (by omega), if_pos (by omega)]
    exact h
  show match atI xs (k : Int) with
    | some d => Q d m'
    | none => False
  rw [e]
  exact q _ (.refl _)
theorem any_int : ((ns.map DV.int).any fun z => eqF z (.int n)) = ns.contains n := by
  induction ns with
  | nil => rfl
  | cons a r ih =>
    rw [List.map_cons, List.any_cons, ih, List.contains_cons]
    show (a == n || r.contains n) = (n == a || r.contains n)
    rw [Bool.beq_comm]
theorem flat_int : ((ns.map DV.int).all flatD) = true := by
  induction ns with
  | nil => rfl
  | cons a r ih => rw [List.map_cons, List.all_cons, ih]; rfl
theorem in_I {neg : Bool} : Pu2 (dIn neg) (.int n) (iL ns) m (.bl (xor neg (ns.contains n))) := fun m' Q _ q => by
  show (flatD (.int n) && (ns.map DV.int).all flatD) = true ∧ Q (.bl (xor neg ((ns.map DV.int).any fun z => eqF z (.int n)))) m'
  rw [any_int, flat_int]
  exact ⟨rfl, q _ (.refl _)⟩
theorem rel_I {p : Int → Int → Bool} : Pu2 (dRel p) (.int i) (.int j) m (.bl (p i j)) := fun m' Q _ q => q _ (.refl _)
theorem pt_eq {neg : Bool} (ha : PuE wa δ m (.int i)) (hb : PuE wb δ m (.int j)) : PuT (wBl (wOp (dEq neg) wa wb)) δ m (xor neg (decide (i = j))) := pt_bl (pu_op ha hb dEq_int)
theorem pt_e (ha : PuE wa δ m (.int i)) (hb : PuE wb δ m (.int j)) : PuT (wBl (wOp (dEq false) wa wb)) δ m (decide (i = j)) := by simpa using pt_eq (neg := false) ha hb
theorem pt_ne (ha : PuE wa δ m (.int i)) (hb : PuE wb δ m (.int j)) : PuT (wBl (wOp (dEq true) wa wb)) δ m (!decide (i = j)) := by simpa using pt_eq (neg := true) ha hb
theorem pu_e (ha : PuE wa δ m (.int i)) (hb : PuE wb δ m (.int j)) : PuE (wOp (dEq false) wa wb) δ m (.bl (decide (i = j))) := by simpa using pu_op ha hb (dEq_int (neg := false))
theorem pu_ne (ha : PuE wa δ m (.int i)) (hb : PuE wb δ m (.int j)) : PuE (wOp (dEq true) wa wb) δ m (.bl (!decide (i = j))) := by simpa using pu_op ha hb (dEq_int (neg := true))
theorem pt_gt (ha : PuE wa δ m (.int i)) (hb : PuE wb δ m (.int j)) : PuT (wBl (wOp (dRel fun i j => decide (j < i)) wa wb)) δ m (decide (j < i)) := pt_bl (pu_op ha hb rel_I)
theorem pi_I (h : PuE w δ m (iL ns)) : PuI (iAny w) δ m (ns.map DV.int) := pi_any h rfl
theorem nil_I : PuE (wLst false wNil) δ m (iL []) := pu_lst pa_nil (Nat.zero_le _)
theorem one_I (h : PuE w δ m (.int n)) : PuE (wLst false (wCons w wNil)) δ m (iL [n]) := pu_lst (pa_cons h pa_nil) (by have := line_eq; simp; omega)
theorem st_asL {m : Sto} {q : Addr} {xs : List DV} (h : m q = some (.lst xs)) : asL m (.ref q) = some xs := by unfold asL; simp only [h]
theorem st_asQ {m : Sto} {q : Addr} {xs : List DV} (h : m q = some (.lst xs)) : asQ m (.ref q) = some xs := st_asL h
theorem st_ty {m : Sto} {q : Addr} {xs : List DV} (h : m q = some (.lst xs)) : ofTy m .lst (.ref q) := ⟨by unfold tyD; simp only [h], by simp only [h]⟩
theorem st_app {m : Sto} {q : Addr} {xs : List DV} {d : DV} {Q : DK} (h : m q = some (.lst xs)) (hl : xs.length < sizeLine) (hq : Q .non (put m q (.lst (xs ++ [d])))) : mAppend (.ref q) [d] m Q := by
  show ownL m (.ref q) fun p xs => xs.length < sizeLine ∧ Q .non (put m p (.lst (xs ++ [d])))
  unfold ownL
  simp only [h]
  exact ⟨hl, hq⟩
theorem map_get {ns : List Int} {i : Nat} {y : DV} (h : (ns.map DV.int)[i]? = some y) : ∃ n, ns[i]? = some n ∧ y = .int n := by
  rw [List.getElem?_map] at h
  cases e : ns[i]? with
  | none => rw [e] at h; cases h
  | some n => rw [e] at h; cases h; exact ⟨n, rfl, rfl⟩
theorem call1 {S0 : DSp} {x v : DV} {wa : DE} (ha : PuE wa δ m x) (hs : PuS S0 [x] m v) : PuE (wCall S0 [] (wCons wa wNil)) δ m v := pu_call (ds := [x]) (dds := []) (pa_cons ha pa_nil) hs
theorem call2 {S0 : DSp} {x y v : DV} {wa wb : DE} (ha : PuE wa δ m x) (hb : PuE wb δ m y) (hs : PuS S0 [x, y] m v) : PuE (wCall S0 [] (wCons wa (wCons wb wNil))) δ m v := pu_call (ds := [x, y]) (dds := []) (pa_cons ha (pa_cons hb pa_nil)) hs
theorem tup2 {x y : DV} {wa wb : DE} (ha : PuE wa δ m x) (hb : PuE wb δ m y) : PuE (wTup (wCons wa (wCons wb wNil))) δ m (.tup [x, y]) := pu_tup (pa_cons ha (pa_cons hb pa_nil)) (by have := line_eq; simp; omega)
theorem tup3 {x y z : DV} {wa wb wc : DE} (ha : PuE wa δ m x) (hb : PuE wb δ m y) (hc : PuE wc δ m z) : PuE (wTup (wCons wa (wCons wb (wCons wc wNil)))) δ m (.tup [x, y, z]) := pu_tup (pa_cons ha (pa_cons hb (pa_cons hc pa_nil))) (by have := line_eq; simp; omega)
theorem pos_int {n : Nat} : decide ((0 : Int) < (n : Int)) = decide (0 < n) := by
  by_cases h : 0 < n
  · rw [decide_eq_true h, decide_eq_true (by omega)]
  · rw [decide_eq_false h, decide_eq_false (by omega)]
end
def SubX (p : Addr) (m m' : Sto) : Prop := ∀ a o, a ≠ p → m a = some o → m' a = some o
theorem SubX.refl {p : Addr} (m : Sto) : SubX p m m := fun _ _ _ h => h
theorem SubX.trans {p : Addr} {a b c : Sto} (h : SubX p a b) (g : SubX p b c) : SubX p a c := fun x o n e => g x o n (h x o n e)
theorem Sub.x {p : Addr} {m m' : Sto} (h : Sub m m') : SubX p m m' := fun a o _ e => h a o e
theorem SubX.put {p : Addr} {m : Sto} {o : MO} : SubX p m (DL.put m p o) := fun a u n e => by rw [put_ne n]; exact e
theorem ix_at {m : Sto} {p : Addr} {xs : List DV} {i : Int} {d : DV} {Q : DK} (h : m p = some (.lst xs)) (hi : atI xs i = some d) (q : Q d m) : dIx (.ref p) (.int i) m Q := by
  unfold dIx dictAt asQ asL
  simp only [h, hi]
  exact q
theorem set_at {m : Sto} {p : Addr} {xs : List DV} {i : Int} {j : Nat} {d : DV} {Q : Sto → Prop} (h : m p = some (.lst xs)) (hi : ixN xs.length i = some j) (q : Q (DL.put m p (.lst (xs.set j d)))) : setD (.ref p) (.int i) d m Q := by
  unfold setD
  simp only [h, hi]
  exact q
theorem go_asgS {D : DEnds} {δ : Slots} {m : Sto} {w wo wi : DE} (h : w δ m fun d m1 => wo δ m1 fun o m2 => wi δ m2 fun i m3 => setD o i d m3 fun m4 => D.nx δ m4) : wAsg w (gSubD wo wi) D δ m := h
section
variable {i j : Int} {m : Sto} {Q : DK} {mu : Bool}
theorem go_rel {p : Int → Int → Bool} (h : Q (.bl (p i j)) m) : dRel p (.int i) (.int j) m Q := h
theorem go_add (h : Q (.int (i + j)) m) : dAdd mu (.int i) (.int j) m Q := h
theorem go_mod (h0 : 0 < j) (h : Q (.int (i % j)) m) : dMod (.int i) (.int j) m Q := ⟨h0, h⟩
theorem go_div (h0 : 0 < j) (h1 : j.natAbs.log2 < 9000) (h : Q (.int (i / j)) m) : dDiv (.int i) (.int j) m Q := ⟨h0, h1, h⟩
theorem go_mul (h0 : (-(2 ^ 64) < i ∧ i < 2 ^ 64) ∨ (-(2 ^ 64) < j ∧ j < 2 ^ 64)) (h : Q (.int (i * j)) m) : dMul mu (.int i) (.int j) m Q := ⟨.inl h0, h⟩
theorem go_pow (h0 : 0 ≤ j) (h1 : j ≤ 1000000) (h2 : i.natAbs < 2 ^ 64) (h : Q (.int (i ^ j.toNat)) m) : dPow (.int i) (.int j) m Q := ⟨h0, h1, h2, h⟩
theorem go_int {b : Bool} (h : Q (.int (if b then 1 else 0)) m) : dInt [.bl b] m Q := h
theorem go_abs (h : Q (.int (if i < 0 then -i else i)) m) : dAbs [.int i] m Q := h
end
theorem go_sset {D : DEnds} {δ : Slots} {w : DE} {s : DS} {k : Nat} (h : w δ m fun d m1 => s D (δ.set k (some d)) m1) : wSeq (wAsg w (gN k)) s D δ m := h
theorem go_sasg {D : DEnds} {δ : Slots} {w wo wi : DE} {s : DS} (h : w δ m fun d m1 => wo δ m1 fun o m2 => wi δ m2 fun i m3 => setD o i d m3 fun m4 => s D δ m4) : wSeq (wAsg w (gSubD wo wi)) s D δ m := h
theorem go_sif {D : DEnds} {δ : Slots} {t : DT} {s s' : DS} (h : t δ m fun b m1 => if b = true then s { D with nx := s' D } δ m1 else s' D δ m1) : wSeq (wIfS t s wNext) s' D δ m := h
theorem go_sdrop {D : DEnds} {δ : Slots} {w : DE} {s : DS} (h : w δ m fun _ m1 => s D δ m1) : wSeq (wDrop w) s D δ m := h
theorem go_spar {D : DEnds} {δ : Slots} {ta : DA} {s : DS} {k l : Nat} (h : ta δ m fun ds m1 => match ds with
  | [a, b] => s D ((δ.set k (some a)).set l (some b)) m1
  | _ => False) : wSeq (wPar k l ta) s D δ m := h
theorem go_ifE {t : DT} {wa wb : DE} {δ : Slots} (h : t δ m fun b m1 => if b = true then wa δ m1 Q else wb δ m1 Q) : wIf t wa wb δ m Q := h
theorem go_blI {b : Bool} {QT : Bool → Sto → Prop} (h : QT b m) : (match DV.bl b with
  | .bl b => QT b m
  | _ => False) := h
theorem go_lenI {d : DV} {xs : List DV} (h : asQ m d = some xs) (q : Q (.int (xs.length : Int)) m) : dLen [d] m Q := by
  show lenD m d fun n => Q (.int n) m
  unfold lenD
  cases d <;> first | (simp only [h]; exact q) | (simp [asQ, asL] at h)
theorem ix_lst {xs : List DV} {r : Int} {m : Sto} {Q : DK} (h0 : 0 ≤ r) (h1 : r < xs.length) (q : ∀ d, d ∈ xs → xs[r.toNat]? = some d → Q d m) : dIx (.lst xs) (.int r) m Q := by
  have hlt : r.toNat < xs.length := by omega
  have hat : atI xs r = some xs[r.toNat] := by
    unfold atI ixN
    rw [if_pos (by omega), if_pos (by omega)]
    simp [hlt]
  unfold dIx
  have hn : dictAt m (.lst xs) (.int r) = none := rfl
  have hq : asQ m (.lst xs) = some xs := rfl
  simp only [hn, hq, hat]
  exact q _ (List.getElem_mem hlt) (List.getElem?_eq_getElem hlt)
def leafD : DV → Bool
  | .non | .bl _ | .int _ | .str _ => true
  | _ => false
def Same (m : Sto) : Nat → DV → DV → Prop
  | 0, _, _ => False
  | n + 1, x, y => (leafD x = true ∧ x = y) ∨ (∃ xs ys, asL m x = some xs ∧ asL m y = some ys ∧ xs.length ≤ sizeLine ∧ Paired (Same m n) xs ys) ∨ (∃ xs ys, x = .tup xs ∧ y = .tup ys ∧ xs.length ≤ sizeLine ∧ Paired (Same m n) xs ys)
theorem asL_sub {m m' : Sto} {d : DV} {xs : List DV} (h : asL m d = some xs) (s : Sub m m') : asL m' d = some xs := by
  cases d with
  | ref a =>
    have h : (match m a with
      | some (.lst xs) => some xs
      | _ => none) = some xs := h
    show (match m' a with
      | some (.lst xs) => some xs
      | _ => none) = some xs
    cases e : m a with
    | none => rw [e] at h; cases h
    | some o =>
      rw [e] at h
      rw [s _ _ e]; exact h
  | _ => exact h
theorem Same.mono {m m' : Sto} (s : Sub m m') : ∀ (n : Nat) {x y : DV}, Same m n x y → Same m' n x y
  | 0, _, _, h => h
  | n + 1, x, y, h => by
    rcases h with h | ⟨xs, ys, h1, h2, h3, h4⟩ | ⟨xs, ys, h1, h2, h3, h4⟩
    · exact .inl h
    · exact .inr (.inl ⟨xs, ys, asL_sub h1 s, asL_sub h2 s, h3, Paired.mapP h4 fun _ _ z => Same.mono s n z⟩)
    · exact .inr (.inr ⟨xs, ys, h1, h2, h3, Paired.mapP h4 fun _ _ z => Same.mono s n z⟩)
theorem asL_ty {m : Sto} {d : DV} {xs : List DV} (h : asL m d = some xs) : tyD m d = some .lst := by
  cases d with
  | ref a =>
    have h : (match m a with
      | some (.lst xs) => some xs
      | _ => none) = some xs := h
    show (match m a with
      | some (.lst _) => some Ty0.lst
      | some (.dct _) => some .dct
      | some (.dcT _) => some .dct
      | some (.lck _ _ _) => some .dct
      | _ => none) = some .lst
    cases e : m a with
    | none => rw [e] at h; cases h
    | some o =>
      rw [e] at h
      cases o <;> first | rfl | cases h
  | lst _ => rfl
  | klst _ => rfl
  | _ => cases h
theorem asL_Q {m : Sto} {d : DV} {xs : List DV} (h : asL m d = some xs) : asQ m d = some xs := by
  cases d <;> first | exact h | (simp [asL] at h)
section
variable {m : Sto} {δ : Slots}
theorem pu_isi {w : DE} {d : DV} {t : Ty0} {ts : List Ty0} (h : PuE w δ m d) (ht : ∀ m', Sub m m' → tyD m' d = some t) : PuE (wIsi ts w) δ m (.bl (ts.any (isA t))) := fun m' Q s q => h m' _ s fun m1 s1 => by
  show match tyD m1 d with
    | some t => Q (.bl (ts.any (isA t))) m1
    | none => False
  rw [ht m1 (s.trans s1)]
  exact q m1 s1
theorem eq_bl {neg b c : Bool} : Pu2 (dEq neg) (.bl b) (.bl c) m (.bl (xor neg (decide (b = c)))) := fun m' Q _ q => q _ (.refl _)
theorem len_Q {d : DV} {xs : List DV} {w : DE} (h : PuE w δ m d) (hx : ∀ m', Sub m m' → asQ m' d = some xs) : PuE (wB dLen (wCons w wNil)) δ m (.int xs.length) := pu_b (pa_cons h pa_nil) fun m' Q s q => go_lenI (hx m' s) (q _ (.refl _))
theorem zip_mem {R : DV → DV → Prop} {xs ys : List DV} (h : Paired R xs ys) : ∀ z ∈ zipD xs ys, ∃ x y, z = .tup [x, y] ∧ R x y := by
  induction h with
  | nil => intro z hz; cases hz
  | @cons a b as bs h t ih =>
    intro z hz
    rcases List.mem_cons.mp hz with rfl | hz
    · exact ⟨a, b, rfl, h⟩
    · exact ih z hz
theorem zip_len : ∀ (xs ys : List DV), (zipD xs ys).length ≤ xs.length
  | [], ys => by cases ys <;> exact Nat.le_refl _
  | x :: xs, [] => Nat.zero_le _
  | x :: xs, y :: ys => Nat.succ_le_succ (zip_len xs ys)
theorem all_true : ∀ {bs : List DV}, (∀ b ∈ bs, b = .bl true) → ∃ cs : List Bool, bls? bs = some cs ∧ cs.all id = true
  | [], _ => ⟨[], rfl, rfl⟩
  | b :: bs, h => by
    obtain ⟨cs, e, h2⟩ := all_true (bs := bs) fun b hb => h b (List.mem_cons_of_mem _ hb)
    refine ⟨true :: cs, ?_, by simpa using h2⟩
    rw [h b List.mem_cons_self]
    simp [bls?, e]
theorem pu_all {w : DE} {bs : List DV} (h : PuE w δ m (.lst bs)) (hb : ∀ b ∈ bs, b = .bl true) : PuE (wB dAll (wCons w wNil)) δ m (.bl true) := pu_b (pa_cons h pa_nil) fun m' Q s q => by
  obtain ⟨cs, e, h2⟩ := all_true hb
  have ea : asL m' (.lst bs) = some bs := rfl
  show dBls (fun bs => bs.all id) [.lst bs] m' Q
  unfold dBls
  simp only [ea, e, h2]
  exact q _ (.refl _)
theorem zip_I {wa wb : DE} {x y : DV} {xs ys : List DV} (ha : PuE wa δ m x) (hb : PuE wb δ m y) (h : (asL m x = some xs ∧ asL m y = some ys) ∨ (x = .tup xs ∧ y = .tup ys)) : PuI (iZipD (wCons wa (wCons wb wNil))) δ m (zipD xs ys) := fun m' K s k => by
  refine (pa_cons ha (pa_cons hb pa_nil)) m' _ s fun m1 s1 => ?_
  rcases h with ⟨h1, h2⟩ | ⟨rfl, rfl⟩
  · have g1 := asL_sub h1 (s.trans s1)
    have g2 := asL_sub h2 (s.trans s1)
    simp only [g1, g2]
    exact k _ m1 s1 rfl rfl fun m2 s2 => ⟨asL_sub h1 s2, asL_sub h2 s2⟩
  · exact k _ m1 s1 rfl rfl fun m2 s2 => trivial
theorem same_leaf {x : DV} (h : leafD x = true) : Pu2 (dEq false) x x m (.bl true) := fun m' Q s q => by
  cases x <;> first | cases h | skip
  all_goals (unfold dEq scEq; first | exact q _ (.refl _) | (simp only [decide_true]; exact q _ (.refl _)))
def isNb : DV → Bool
  | .non => true
  | _ => false
theorem isN_any {x : DV} : Pu2 (dIsN false) x .non m (.bl (isNb x)) := fun m' Q s q => by
  cases x <;> exact q _ (.refl _)
theorem tyb {x : DV} {t : Ty0} {ts : List Ty0} {i : Nat} (hd : δ[i]? = some (some x)) (ht : ∀ m' : Sto, tyD m' x = some t) : PuE (wIsi ts (wVar i)) δ m (.bl (ts.any (isA t))) := pu_isi (pu_var hd) fun m' _ => ht m'
theorem sp_same : ∀ (n : Nat) (x y : DV) (m : Sto), Same m n x y → PuS (S__law_same n) [x, y] m (.bl true)
  | 0, _, _, _, h => False.elim h
  | n + 1, x, y, m, h => by
    have body : (∃ t, (t = .lst ∨ t = .tup) ∧ (∀ m', Sub m m' → tyD m' x = some t) ∧ (∀ m', Sub m m' → tyD m' y = some t)) → (∃ xs ys, (∀ m', Sub m m' → asQ m' x = some xs) ∧ (∀ m', Sub m m' → asQ m' y = some ys) ∧ xs.length ≤ sizeLine ∧ Paired (Same m n) xs ys ∧ ((asL m x = some xs ∧ asL m y = some ys) ∨ (x = .tup xs ∧ y = .tup ys))) → PuS (S__law_same (n + 1)) [x, y] m (.bl true) := fun ⟨t, ht, hx, hy⟩ ⟨xs, ys, qx, qy, hl, hp, hz⟩ => by
      refine ps_run rfl ?_
      unfold w__law_same
      refine px_seq (M := fun _ => False) (px_if (pt_tru (pu_isi (pu_var (i := 1) rfl) hy)) (fun _ => ?_) fun z => ?_) fun δ' z => False.elim z
      · refine px_seq (M := fun δ' => δ' = startD 4 [x, y]) (px_if (pt_or (b := false) (c := false) (pt_bl ?_) fun _ => pt_bl ?_) (fun z => Bool.noConfusion z) fun _ => px_next rfl) ?_
        · have := pu_op (R2 := dEq true) (m := m) (δ := startD 4 [x, y]) (pu_isi (ts := [.lst]) (pu_var (i := 0) rfl) hx) (pu_isi (ts := [.lst]) (pu_var (i := 1) rfl) hy) eq_bl
          simpa using this
        · have := pu_op (R2 := dEq true) (m := m) (δ := startD 4 [x, y]) (pu_isi (ts := [.tup]) (pu_var (i := 0) rfl) hx) (pu_isi (ts := [.tup]) (pu_var (i := 1) rfl) hy) eq_bl
          simpa using this
        rintro _ rfl
        have hlen : xs.length = ys.length := Paired.length hp
        refine px_ret (v := .bl true) (pu_and (b := true) (c := true) ?_ fun _ => ?_) rfl
        · have := pu_op (R2 := dEq false) (m := m) (δ := startD 4 [x, y]) (len_Q (pu_var (i := 0) rfl) qx) (len_Q (pu_var (i := 1) rfl) qy) dEq_int
          simpa [hlen] using this
        · refine pu_all (pu_lc (fun _ => true) (fun _ => .bl true) (zip_I (pu_var rfl) (pu_var rfl) hz) (Nat.le_trans (zip_len xs ys) hl) fun z hz => ?_) fun b hb => ?_
          · obtain ⟨a, b, rfl, hab⟩ := zip_mem hp z hz
            exact ⟨[some x, some y, some a, some b], fun m' Q q => ⟨rfl, rfl, q⟩, pt_yes, fun _ => pu_call (ds := [a, b]) (dds := []) (pa_cons (pu_var rfl) (pa_cons (pu_var rfl) pa_nil)) (sp_same n a b m hab)⟩
          · rw [lcF_map] at hb
            obtain ⟨_, _, rfl⟩ := List.mem_map.mp hb
            rfl
      · rcases ht with rfl | rfl <;> cases z
    rcases h with ⟨hl, rfl⟩ | ⟨xs, ys, h1, h2, h3, h4⟩ | ⟨xs, ys, rfl, rfl, h3, h4⟩
    · refine ps_run rfl ?_
      unfold w__law_same
      have ty : ∃ t, (∀ m' : Sto, tyD m' x = some t) ∧ ([.lst, .tup] : List Ty0).any (isA t) = false ∧ ((isNb x || ([.bl, .str] : List Ty0).any (isA t)) = true ∨ (isNb x || ([.bl, .str] : List Ty0).any (isA t)) = false ∧ t = .int) := by
        cases x <;> first | cases hl | skip
        · exact ⟨.non, fun _ => rfl, by decide, .inl rfl⟩
        · exact ⟨.bl, fun _ => rfl, by decide, .inl rfl⟩
        · exact ⟨.int, fun _ => rfl, by decide, .inr ⟨rfl, rfl⟩⟩
        · exact ⟨.str, fun _ => rfl, by decide, .inl rfl⟩
      obtain ⟨t, ht, h1, h2⟩ := ty
      refine px_seq (M := fun δ' => δ' = startD 4 [x, x]) (px_if (pt_tru (tyb (i := 1) rfl ht)) (fun z => ?_) fun _ => px_next rfl) ?_
      · rw [h1] at z; cases z
      rintro _ rfl
      refine px_seq (M := fun δ' => δ' = startD 4 [x, x] ∧ t = .int) (px_if (pt_or (pt_bl (pu_op (pu_var (i := 1) rfl) pu_c isN_any)) fun _ => pt_tru (tyb (i := 1) rfl ht)) (fun _ => ?_) fun z => px_next ⟨rfl, ?_⟩) ?_
      · refine px_ret (v := .bl true) (pu_and (b := true) (c := true) (pu_op (pu_var rfl) (pu_var rfl) (same_leaf hl)) fun _ => pu_and (b := true) (c := true) ?_ fun _ => ?_) rfl
        · have := pu_op (R2 := dEq false) (m := m) (δ := startD 4 [x, x]) (tyb (ts := [.bl]) (i := 0) rfl ht) (tyb (ts := [.bl]) (i := 1) rfl ht) eq_bl
          simpa using this
        · have := pu_op (R2 := dEq false) (m := m) (δ := startD 4 [x, x]) (pu_op (pu_var (i := 0) rfl) pu_c isN_any) (pu_op (pu_var (i := 1) rfl) pu_c isN_any) eq_bl
          simpa using this
      · rcases h2 with h2 | h2
        · rw [h2] at z; cases z
        · exact h2.2
      rintro _ ⟨rfl, rfl⟩
      refine px_ret (v := .bl true) (pu_and (b := true) (c := true) (tyb (ts := [.int]) (i := 0) rfl ht) fun _ => pu_and (b := true) (c := true) ?_ fun _ => pu_op (pu_var rfl) (pu_var rfl) (same_leaf hl)) rfl
      exact pu_not (b := false) (tyb (ts := [.bl]) (i := 0) rfl ht)
    · exact body ⟨.lst, .inl rfl, fun m' s => asL_ty (asL_sub h1 s), fun m' s => asL_ty (asL_sub h2 s)⟩ ⟨xs, ys, fun m' s => asL_Q (asL_sub h1 s), fun m' s => asL_Q (asL_sub h2 s), h3, h4, .inl ⟨h1, h2⟩⟩
    · exact body ⟨.tup, .inr rfl, fun _ _ => rfl, fun _ _ => rfl⟩ ⟨xs, ys, fun _ _ => rfl, fun _ _ => rfl, h3, h4, .inr ⟨rfl, rfl⟩⟩
end
theorem fx_for {it : DIt} {g : DG} {tb : DS} {D : DEnds} {xs : List DV} {δ : Slots} {m : Sto} (hit : it.items = xs) (hlk : it.lk = none) (I : Nat → Slots → Sto → Prop) (hst : ∀ i δ m, I i δ m → it.st m) (h0 : I 0 δ m)
    (hs : ∀ i y δ m1, xs[i]? = some y → I i δ m1 → g y δ m1 fun δ1 m2 => ∀ D' : DEnds, (∀ δ m, I (i + 1) δ m → D'.nx δ m) → (∀ v m, D.rt v m → D'.rt v m) → (∀ δ m, D.nx δ m → D'.bk δ m) → (∀ δ m, I (i + 1) δ m → D'.ct δ m) → tb D' δ1 m2)
    (hg : ∀ y δ m (Q Q' : Slots → Sto → Prop), (∀ δ m, Q δ m → Q' δ m) → g y δ m Q → g y δ m Q')
    (he : ∀ δ m1, I xs.length δ m1 → D.nx δ m1) : forGo it g tb D it.items δ m := by
  have hfin : ∀ (m2 : Sto) (k : Sto → Prop), k m2 → it.fin m2 k := fun m2 k hk => by unfold DIt.fin; rw [hlk]; exact hk
  have key : ∀ (ys : List DV) (i : Nat) (δ : Slots) (m2 : Sto), xs.drop i = ys → i ≤ xs.length → I i δ m2 → forGo it g tb D ys δ m2 := fun ys => by
    induction ys with
    | nil =>
      intro i δ m2 hd hle hII
      have : i = xs.length := by
        have := List.drop_eq_nil_iff.mp hd
        omega
      subst this
      exact ⟨hst _ _ _ hII, hfin _ _ (he δ m2 hII)⟩
    | cons y r ih =>
      intro i δ m2 hd hle hII
      obtain ⟨h1, h2⟩ := getElem_drop_cons hd
      have hlt : i < xs.length := (List.getElem?_eq_some_iff.mp h1).1
      refine ⟨hst _ _ _ hII, hg _ _ _ _ _ (fun δ1 m3 hb => ?_) (hs i y δ m2 h1 hII)⟩
      exact hb _ (fun δ' m3 h3 => ih (i + 1) δ' m3 h2 hlt h3) (fun v m3 h3 => hfin _ _ h3) (fun δ' m3 h3 => hfin _ _ h3) fun δ' m3 h3 => ih (i + 1) δ' m3 h2 hlt h3
  rw [hit]
  exact key xs 0 δ m rfl (Nat.zero_le _) h0
theorem gN_mono {k : Nat} (y : DV) (δ : Slots) (m : Sto) (Q Q' : Slots → Sto → Prop) (h : ∀ δ m, Q δ m → Q' δ m) (q : gN k y δ m Q) : gN k y δ m Q' := h _ _ q
theorem go_range {t : DA} {g : DG} {tb : DS} {D : DEnds} {δ : Slots} {m : Sto} (h : t δ m fun ds m1 => match ds with
  | [.int j] => -(2 ^ 62) ≤ j ∧ j < 2 ^ 62 ∧ forGo ⟨rgD 0 j.toNat, fun _ => True, none⟩ g tb D (rgD 0 j.toNat) δ m1
  | _ => False) : wFor (iRngD t) g tb D δ m := h
theorem pop_at {p : Addr} {xs : List DV} {r : Int} {m : Sto} {Q : DK} (hp : m p = some (.lst xs)) (h0 : 0 ≤ r) (h1 : r < xs.length) (hl : xs.length < 2 ^ 60) (q : ∀ d, xs[r.toNat]? = some d → Q d (DL.put m p (.lst (xs.eraseIdx r.toNat)))) : mPop (.ref p) [.int r] m Q := by
  have hlt : r.toNat < xs.length := by omega
  have hix : ixN xs.length r = some r.toNat := by
    unfold ixN
    rw [if_pos (by omega), if_pos (by omega)]
  unfold mPop ownL
  simp only [hp, hix, List.getElem?_eq_getElem hlt]
  exact ⟨by omega, by omega, q _ (List.getElem?_eq_getElem hlt)⟩
theorem app_at {p : Addr} {xs : List DV} {y : DV} {m : Sto} {Q : DK} (hp : m p = some (.lst xs)) (hl : xs.length < sizeLine) (q : Q .non (DL.put m p (.lst (xs ++ [y])))) : mAppend (.ref p) [y] m Q := by
  unfold mAppend ownL
  simp only [hp]
  exact ⟨hl, q⟩
theorem ofTy_lst {p : Addr} {xs : List DV} {m : Sto} (hp : m p = some (.lst xs)) : ofTy m .lst (.ref p) := by
  refine ⟨asL_ty (show asL m (.ref p) = some xs by unfold asL; simp only [hp]), ?_⟩
  simp only [hp]
theorem asQ_ref {p : Addr} {xs : List DV} {m : Sto} (hp : m p = some (.lst xs)) : asQ m (.ref p) = some xs := by
  unfold asQ asL; simp only [hp]
theorem er_map {f : Int → DV} : ∀ (ls : List Int) (i : Nat), (ls.map f).eraseIdx i = (ls.eraseIdx i).map f
  | [], i => by cases i <;> rfl
  | a :: r, 0 => rfl
  | a :: r, i + 1 => by
    show f a :: (r.map f).eraseIdx i = f a :: (r.eraseIdx i).map f
    rw [er_map r i]
theorem er_perm : ∀ {ls : List Int} {i : Nat} {n : Int}, ls[i]? = some n → (n :: ls.eraseIdx i).Perm ls
  | [], i, n, h => by cases i <;> cases h
  | a :: r, 0, n, h => by cases h; exact .refl _
  | a :: r, i + 1, n, h => by
    have h : r[i]? = some n := h
    exact (List.Perm.swap a n _).trans ((er_perm h).cons a)
section
variable {m m1 m2 : Sto} {p k : Addr} {δ : Slots} {wa wb wc w : DE} {neg : Bool} {c : Nat}
def okN : Nat → DV → Prop
  | 0, _ => False
  | n + 1, .tup xs => xs.length ≤ 1000 ∧ ∀ x ∈ xs, okN n x
  | n + 1, .lst xs => xs.length ≤ 1000 ∧ ∀ x ∈ xs, okN n x
  | n + 1, d => leafD d = true
theorem go_gseq {d : DV} {xs : List DV} {gs : DGs} {n : Nat} {Q : Slots → Sto → Prop} (h : asQ m d = some xs) (hl : xs.length = n) (q : gs xs δ m Q) : gSeq n gs d δ m Q := by
  unfold gSeq
  rw [h]
  exact ⟨hl, q⟩
theorem eq_str {x y : Str} : Pu2 (dEq false) (.str x) (.str y) m (.bl (decide (x = y))) := fun m' Q _ q => by
  unfold dEq scEq
  simpa using q _ (.refl _)
theorem cat_T {xs ys : List DV} (h0 : xs ≠ []) (h : xs.length + ys.length ≤ sizeLine) : Pu2 (dAdd false) (.tup xs) (.tup ys) m (.tup (xs ++ ys)) := fun m' Q _ q => ⟨h0, h, q _ (.refl _)⟩
theorem pos_pu {x : DV} {Q : DK} (h : PuE w δ m x) (q : ∀ m2, Sub m m2 → Q x m2) : w δ m Q := h m Q (.refl _) q
theorem pos_puT {t : DT} {b : Bool} {QT : Bool → Sto → Prop} (h : PuT t δ m b) (q : ∀ m2, Sub m m2 → QT b m2) : t δ m QT := h m QT (.refl _) q
theorem bls_of : ∀ bs : List Bool, bls? (bs.map DV.bl) = some bs
  | [] => rfl
  | b :: bs => by simp [bls?, bls_of bs]
theorem pu_allB {bs : List Bool} (h : PuE w δ m (.lst (bs.map DV.bl))) : PuE (wB dAll (wCons w wNil)) δ m (.bl (bs.all id)) := pu_b (pa_cons h pa_nil) fun m' Q s q => by
  have ea : asL m' (.lst (bs.map DV.bl)) = some (bs.map DV.bl) := rfl
  show dBls (fun bs => bs.all id) [.lst (bs.map DV.bl)] m' Q
  unfold dBls
  simp only [ea, bls_of]
  exact q _ (.refl _)
theorem pt_lt {i j : Int} (ha : PuE wa δ m (.int i)) (hb : PuE wb δ m (.int j)) : PuT (wBl (wOp (dRel fun i j => decide (i < j)) wa wb)) δ m (decide (i < j)) := pt_bl (pu_op ha hb rel_I)
theorem add_I {i j : Int} : Pu2 (dAdd false) (.int i) (.int j) m (.int (i + j)) := fun m' Q _ q => q _ (.refl _)
theorem go_not {t : DT} {Q : Bool → Sto → Prop} (h : t δ m fun b m1 => Q (!b) m1) : wNotT t δ m Q := h
theorem go_tru {Q : Bool → Sto → Prop} (h : w δ m fun d m1 => truD m1 d fun b => Q b m1) : wTru w δ m Q := h
theorem go_same {x y : DV} {Q : DK} (h : Same m 6 x y) (q : ∀ m2, Sub m m2 → Q (.bl true) m2) : S__law_same 6 [x, y] m Q := sp_same 6 x y m h m Q (.refl _) q
theorem Same.up1 : ∀ (n : Nat) {x y : DV}, Same m n x y → Same m (n + 1) x y
  | 0, _, _, h => False.elim h
  | n + 1, x, y, h => by
    rcases h with h | ⟨xs, ys, h1, h2, h3, h4⟩ | ⟨xs, ys, h1, h2, h3, h4⟩
    · exact .inl h
    · exact .inr (.inl ⟨xs, ys, h1, h2, h3, Paired.mapP h4 fun _ _ z => Same.up1 n z⟩)
    · exact .inr (.inr ⟨xs, ys, h1, h2, h3, Paired.mapP h4 fun _ _ z => Same.up1 n z⟩)
theorem rg_get {n : Nat} {y : DV} (h : (rgD 0 n)[i]? = some y) : i < n ∧ y = .int (i : Int) := by
  unfold rgD at h
  rw [List.getElem?_map] at h
  cases e : (List.range n)[i]? with
  | none => rw [e] at h; cases h
  | some j =>
    rw [e] at h
    obtain ⟨h1, h2⟩ := List.getElem?_eq_some_iff.mp e
    rw [List.length_range] at h1
    rw [List.getElem_range] at h2
    subst h2
    cases h
    exact ⟨h1, by show DV.int (0 + (i : Int)) = _; rw [Int.zero_add]⟩
theorem same_okN : ∀ (n : Nat) {d : DV}, okN n d → Same m n d d
  | 0, d, h => False.elim h
  | n + 1, d, h => by
    have big := line_eq
    have pr : ∀ xs : List DV, (∀ x ∈ xs, okN n x) → Paired (Same m n) xs xs := fun xs => by
      induction xs with
      | nil => intro _; exact .nil
      | cons x t ih => intro hx; exact .cons (same_okN n (hx x List.mem_cons_self)) (ih fun y hy => hx y (List.mem_cons_of_mem _ hy))
    cases d with
    | lst xs =>
      have h : xs.length ≤ 1000 ∧ ∀ x ∈ xs, okN n x := h
      exact .inr (.inl ⟨xs, xs, rfl, rfl, by omega, pr xs h.2⟩)
    | tup xs =>
      have h : xs.length ≤ 1000 ∧ ∀ x ∈ xs, okN n x := h
      exact .inr (.inr ⟨xs, xs, rfl, rfl, by omega, pr xs h.2⟩)
    | non => exact .inl ⟨rfl, rfl⟩
    | bl b => exact .inl ⟨rfl, rfl⟩
    | int i => exact .inl ⟨rfl, rfl⟩
    | str x => exact .inl ⟨rfl, rfl⟩
    | ref a => exact Bool.noConfusion (show leafD (.ref a) = true from h)
    | ktup xs => exact Bool.noConfusion (show leafD (.ktup xs) = true from h)
    | klst xs => exact Bool.noConfusion (show leafD (.klst xs) = true from h)
theorem n60 {k : Nat} (h : Nat.ble k 60 = true) : k ≤ sizeLine := Nat.le_trans (Nat.le_of_ble_eq_true h) (by rw [line_eq]; decide)
theorem pu_neg {w : DE} {δ : Slots} {m : Sto} {i : Int} (h : PuE w δ m (.int i)) : PuE (wNeg w) δ m (.int (-i)) := fun m' Q s q => h m' _ s q
theorem go_ssetP {D : DEnds} {δ : Slots} {m : Sto} {w : DE} {s : DS} {k : Nat} {x : DV} (h : PuE w δ m x) (q : ∀ m2, Sub m m2 → s D (δ.set k (some x)) m2) : wSeq (wAsg w (gN k)) s D δ m := go_sset (h m _ (.refl _) q)
theorem go_sparP {D : DEnds} {δ : Slots} {m : Sto} {ta : DA} {s : DS} {k l : Nat} {x y : DV} (h : PuA ta δ m [x, y]) (q : ∀ m2, Sub m m2 → s D ((δ.set k (some x)).set l (some y)) m2) : wSeq (wPar k l ta) s D δ m := go_spar (h m _ (.refl _) q)
theorem go_sifP {D : DEnds} {δ : Slots} {m : Sto} {t : DT} {s s' : DS} (h : PuT t δ m false) (q : ∀ m2, Sub m m2 → s' D δ m2) : wSeq (wIfS t s wNext) s' D δ m := go_sif (h m _ (.refl _) q)
theorem go_retP {D : DEnds} {δ : Slots} {m : Sto} {w : DE} {x : DV} (h : PuE w δ m x) (q : ∀ m2, Sub m m2 → D.rt x m2) : wRet w D δ m := go_ret (h m _ (.refl _) q)
theorem ix_T {m : Sto} {xs : List DV} {i : Nat} {d : DV} (h : xs[i]? = some d) : Pu2 dIx (.tup xs) (.int (i : Int)) m d := fun m' Q _ q => by
  have hat : atI xs (i : Int) = some d := by
    have hlt : i < xs.length := (List.getElem?_eq_some_iff.mp h).1
    unfold atI ixN
    rw [if_pos (by omega), if_pos (by omega)]
    exact h
  show (match atI xs (i : Int) with
    | some d => Q d m'
    | none => False)
  rw [hat]
  exact q _ (.refl _)
end
end Law
namespace Law
open PySem PySem.Spec PyProof.Rows L2 DL
abbrev gv (ph : Str) (n : Int) (ps : List DV) (kn : Bool) : MO := .ins 2 [(4, .str ph), (3, .int n), (5, .lst ps), (1, .bl kn)]
abbrev tk (n many : Int) (dd : Addr) (runs : Bool) : MO := .ins 3 [(3, .int n), (2, .int many), (5, .ref dd), (6, .bl runs)]
def Phs (ph : Str) : Prop := ph = "runs" ∨ ph = "frozen" ∨ ph = "given"
theorem ne_rf : ¬ (("runs" : Str) = "frozen") := by decide
theorem ne_rg : ¬ (("runs" : Str) = "given") := by decide
theorem ne_fg : ¬ (("frozen" : Str) = "given") := by decide
theorem ne_gf : ¬ (("given" : Str) = "frozen") := by decide
theorem ne_fr : ¬ (("frozen" : Str) = "runs") := by decide
theorem ne_gr : ¬ (("given" : Str) = "runs") := by decide
theorem shaped2 {w : Str} {i : Int} (hw : PyData.strOk w = true) : SeqAt.shaped (.tuple [.str w, .int i]) = true := by
  simp [PySem.SeqAt.shaped, PySem.PyData.canLay0, PySem.PyData.canLayAll0, PySem.PyData.depth, PySem.PyData.depthAll, hw]
theorem shaped5 {w t : Str} {i j l : Int} (hw : PyData.strOk w = true) (ht : PyData.strOk t = true) : SeqAt.shaped (.tuple [.str w, .int i, .int j, .int l, .str t]) = true := by
  simp [PySem.SeqAt.shaped, PySem.PyData.canLay0, PySem.PyData.canLayAll0, PySem.PyData.depth, PySem.PyData.depthAll, hw, ht]
theorem eqv2 {w v : Str} {i j : Int} : PyData.eqv (.tuple [.str w, .int i]) (.tuple [.str v, .int j]) = (decide (w = v) && decide (i = j)) := by
  have h : ∀ (b : Bool) (p : Prop) [Decidable p], (b = true ↔ p) → b = decide p := fun b p _ h => by
    cases b with
    | true => exact (decide_eq_true (h.mp rfl)).symm
    | false => exact (decide_eq_false fun z => Bool.noConfusion (h.mpr z)).symm
  simp only [PyData.eqv, PyData.eqvAll, Bool.and_true]
  rw [h (w == v) (w = v) beq_iff_eq, h (i == j) (i = j) beq_iff_eq]
theorem eqv25 {w v t : Str} {i j l q : Int} : PyData.eqv (.tuple [.str w, .int i, .int j, .int l, .str t]) (.tuple [.str v, .int q]) = false := by
  simp [PyData.eqv, PyData.eqvAll]
section
variable {k m : Sto} {L : List (Addr × MO)} {g : Addr} {ph : Str} {n : Int} {ps : List DV} {kn : Bool} {Q : DK}
theorem sp_phase (h : DL.St k m ((g, gv ph n ps kn) :: L)) (q : ∀ m', DL.St k m' ((g, gv ph n ps kn) :: L) → Q (.str ph) m') : S_Giver_phase [.ref g] m Q := by
  with_reducible
    delta Law.S_Giver_phase
    refine U.ar (by with_unfolding_all rfl) ?_
    refine U.run ?_
    delta Law.w_Giver_phase
    refine U.ret ?_
    refine U.fld ?_
    refine U.v (by with_unfolding_all rfl) ?_
    refine U.fldR h.g0 (by with_unfolding_all rfl) ?_
    refine U.prt ?_
  exact q _ h
theorem sp_ginit (h : DL.St k m ((g, .ins 2 []) :: L)) (q : ∀ m', DL.St k m' ((g, gv "runs" 0 [] false) :: L) → Q .non m') : S_Giver_init0 [.ref g] m Q := by
  with_reducible
    delta Law.S_Giver_init0
    refine U.ar (by with_unfolding_all rfl) ?_
    refine U.run ?_
    delta Law.w_Giver_init0
    refine U.seq ?_
    refine U.setF_ ?_
    refine U.cs ?_
    refine U.v (by with_unfolding_all rfl) ?_
    refine U.setR h (by decide +kernel) ?_
    intro m1
    intro I1
    clear h
    refine U.pnx ?_
    refine U.seq ?_
    refine U.setF_ ?_
    refine U.cs ?_
    refine U.v (by with_unfolding_all rfl) ?_
    refine U.setR I1 (by decide +kernel) ?_
    intro m2
    intro I2
    clear I1
    refine U.pnx ?_
    refine U.seq ?_
    refine U.setF_ ?_
    refine U.lst ?_
    refine U.nil ?_
    refine And.intro (by decide +kernel) ?_
    refine U.newD ?_
    refine U.v (by with_unfolding_all rfl) ?_
    refine U.setR I2 (by decide +kernel) ?_
    intro m3
    intro I1
    clear I2
    refine U.pnx ?_
    refine U.setF_ ?_
    refine U.cs ?_
    refine U.v (by with_unfolding_all rfl) ?_
    refine U.setR I1 (by decide +kernel) ?_
    intro m4
    intro I2
    clear I1
    refine U.pnx ?_
  exact q _ I2
theorem grecv_no {d : DV} {w : Str} {i : Int} (hd : d = .tup [.str w, .int i] ∨ d = .lst [.str w, .int i]) (hw : PyData.strOk w = true) (hp : Phs ph) (h0 : (w = "whole" → ph ≠ "frozen" ∨ i ≠ n) ∧ (w = "going" → ph ≠ "given" ∨ i ≠ n)) (h : DL.St k m ((g, gv ph n ps kn) :: L)) (q : ∀ m', DL.St k m' ((g, gv ph n ps kn) :: L) → Q .non m') : S_Giver_receive [.ref g, d] m Q := by
  have hsh := shaped2 (i := i) hw
  rcases hp with rfl | rfl | rfl
  · rcases hd with rfl | rfl
    · with_reducible
        delta Law.S_Giver_receive
        refine U.ar (of_decide_eq_true (by kernel_rfl)) ?_
        refine U.run ?_
        delta Law.w_Giver_receive
        refine U.seq ?_
        refine U.asg ?_
        refine U.bi ?_
        refine U.cons ?_
        refine U.v (by with_unfolding_all rfl) ?_
        refine U.nil ?_
        refine U.tupT ?_
        refine U.gn ?_
        refine U.pnx ?_
        refine U.ifs ?_
        refine U.andT ?_
        refine U.bl ?_
        refine U.op ?_
        refine U.fld ?_
        refine U.v (by with_unfolding_all rfl) ?_
        refine U.fldR h.g0 (by with_unfolding_all rfl) ?_
        refine U.cs ?_
        refine U.eqS ?_
        refine U.bf (by decide +kernel) ?_
        refine U.bf (by decide +kernel) ?_
        refine U.ifs ?_
        refine U.andT ?_
        refine U.bl ?_
        refine U.op ?_
        refine U.fld ?_
        refine U.v (by with_unfolding_all rfl) ?_
        refine U.fldR h.g0 (by with_unfolding_all rfl) ?_
        refine U.cs ?_
        refine U.eqS ?_
        refine U.bf (by decide +kernel) ?_
        refine U.bf (by decide +kernel) ?_
        refine U.next ?_
        refine U.pnx ?_
      exact q _ h
    · with_reducible
        delta Law.S_Giver_receive
        refine U.ar (of_decide_eq_true (by kernel_rfl)) ?_
        refine U.run ?_
        delta Law.w_Giver_receive
        refine U.seq ?_
        refine U.asg ?_
        refine U.bi ?_
        refine U.cons ?_
        refine U.v (by with_unfolding_all rfl) ?_
        refine U.nil ?_
        refine U.tupL (by with_unfolding_all rfl) ?_
        refine U.gn ?_
        refine U.pnx ?_
        refine U.ifs ?_
        refine U.andT ?_
        refine U.bl ?_
        refine U.op ?_
        refine U.fld ?_
        refine U.v (by with_unfolding_all rfl) ?_
        refine U.fldR h.g0 (by with_unfolding_all rfl) ?_
        refine U.cs ?_
        refine U.eqS ?_
        refine U.bf (by decide +kernel) ?_
        refine U.bf (by decide +kernel) ?_
        refine U.ifs ?_
        refine U.andT ?_
        refine U.bl ?_
        refine U.op ?_
        refine U.fld ?_
        refine U.v (by with_unfolding_all rfl) ?_
        refine U.fldR h.g0 (by with_unfolding_all rfl) ?_
        refine U.cs ?_
        refine U.eqS ?_
        refine U.bf (by decide +kernel) ?_
        refine U.bf (by decide +kernel) ?_
        refine U.next ?_
        refine U.pnx ?_
      exact q _ h
  · have e : PyData.eqv (.tuple [.str w, .int i]) (.tuple [.str "whole", .int n]) = false := by
      rw [eqv2, Bool.and_eq_false_iff, decide_eq_false_iff_not, decide_eq_false_iff_not]
      by_cases hww : w = "whole"
      · exact .inr ((h0.1 hww).resolve_left fun z => z rfl)
      · exact .inl hww
    rcases hd with rfl | rfl
    · with_reducible
        delta Law.S_Giver_receive
        refine U.ar (of_decide_eq_true (by kernel_rfl)) ?_
        refine U.run ?_
        delta Law.w_Giver_receive
        refine U.seq ?_
        refine U.asg ?_
        refine U.bi ?_
        refine U.cons ?_
        refine U.v (by with_unfolding_all rfl) ?_
        refine U.nil ?_
        refine U.tupT ?_
        refine U.gn ?_
        refine U.pnx ?_
        refine U.ifs ?_
        refine U.andT ?_
        refine U.bl ?_
        refine U.op ?_
        refine U.fld ?_
        refine U.v (by with_unfolding_all rfl) ?_
        refine U.fldR h.g0 (by with_unfolding_all rfl) ?_
        refine U.cs ?_
        refine U.eqS ?_
        refine U.bt (by decide +kernel) ?_
        refine U.bl ?_
        refine U.op ?_
        refine U.v (by with_unfolding_all rfl) ?_
        refine U.tup ?_
        refine U.cons ?_
        refine U.cs ?_
        refine U.cons ?_
        refine U.fld ?_
        refine U.v (by with_unfolding_all rfl) ?_
        refine U.fldR h.g0 (by with_unfolding_all rfl) ?_
        refine U.nil ?_
        refine And.intro (of_decide_eq_true (by kernel_rfl)) ?_
        refine U.eqP (of_decide_eq_true (by kernel_rfl)) (of_decide_eq_true (by kernel_rfl)) (by with_unfolding_all rfl) (by with_unfolding_all rfl) hsh (by kernel_rfl) ?_
      refine U.bf (by simp only [decide_eq_true_eq, decide_eq_false_iff_not, beq_iff_eq, bne_iff_ne, Bool.not_eq_true', Bool.not_eq_false', Bool.false_xor, Bool.true_xor]; first | assumption | omega) ?_
      with_reducible
        refine U.ifs ?_
        refine U.andT ?_
        refine U.bl ?_
        refine U.op ?_
        refine U.fld ?_
        refine U.v (by with_unfolding_all rfl) ?_
        refine U.fldR h.g0 (by with_unfolding_all rfl) ?_
        refine U.cs ?_
        refine U.eqS ?_
        refine U.bf (by decide +kernel) ?_
        refine U.bf (by decide +kernel) ?_
        refine U.next ?_
        refine U.pnx ?_
      exact q _ h
    · with_reducible
        delta Law.S_Giver_receive
        refine U.ar (of_decide_eq_true (by kernel_rfl)) ?_
        refine U.run ?_
        delta Law.w_Giver_receive
        refine U.seq ?_
        refine U.asg ?_
        refine U.bi ?_
        refine U.cons ?_
        refine U.v (by with_unfolding_all rfl) ?_
        refine U.nil ?_
        refine U.tupL (by with_unfolding_all rfl) ?_
        refine U.gn ?_
        refine U.pnx ?_
        refine U.ifs ?_
        refine U.andT ?_
        refine U.bl ?_
        refine U.op ?_
        refine U.fld ?_
        refine U.v (by with_unfolding_all rfl) ?_
        refine U.fldR h.g0 (by with_unfolding_all rfl) ?_
        refine U.cs ?_
        refine U.eqS ?_
        refine U.bt (by decide +kernel) ?_
        refine U.bl ?_
        refine U.op ?_
        refine U.v (by with_unfolding_all rfl) ?_
        refine U.tup ?_
        refine U.cons ?_
        refine U.cs ?_
        refine U.cons ?_
        refine U.fld ?_
        refine U.v (by with_unfolding_all rfl) ?_
        refine U.fldR h.g0 (by with_unfolding_all rfl) ?_
        refine U.nil ?_
        refine And.intro (of_decide_eq_true (by kernel_rfl)) ?_
        refine U.eqP (of_decide_eq_true (by kernel_rfl)) (of_decide_eq_true (by kernel_rfl)) (by with_unfolding_all rfl) (by with_unfolding_all rfl) hsh (by kernel_rfl) ?_
      refine U.bf (by simp only [decide_eq_true_eq, decide_eq_false_iff_not, beq_iff_eq, bne_iff_ne, Bool.not_eq_true', Bool.not_eq_false', Bool.false_xor, Bool.true_xor]; first | assumption | omega) ?_
      with_reducible
        refine U.ifs ?_
        refine U.andT ?_
        refine U.bl ?_
        refine U.op ?_
        refine U.fld ?_
        refine U.v (by with_unfolding_all rfl) ?_
        refine U.fldR h.g0 (by with_unfolding_all rfl) ?_
        refine U.cs ?_
        refine U.eqS ?_
        refine U.bf (by decide +kernel) ?_
        refine U.bf (by decide +kernel) ?_
        refine U.next ?_
        refine U.pnx ?_
      exact q _ h
  · have e : PyData.eqv (.tuple [.str w, .int i]) (.tuple [.str "going", .int n]) = false := by
      rw [eqv2, Bool.and_eq_false_iff, decide_eq_false_iff_not, decide_eq_false_iff_not]
      by_cases hww : w = "going"
      · exact .inr ((h0.2 hww).resolve_left fun z => z rfl)
      · exact .inl hww
    rcases hd with rfl | rfl
    · with_reducible
        delta Law.S_Giver_receive
        refine U.ar (of_decide_eq_true (by kernel_rfl)) ?_
        refine U.run ?_
        delta Law.w_Giver_receive
        refine U.seq ?_
        refine U.asg ?_
        refine U.bi ?_
        refine U.cons ?_
        refine U.v (by with_unfolding_all rfl) ?_
        refine U.nil ?_
        refine U.tupT ?_
        refine U.gn ?_
        refine U.pnx ?_
        refine U.ifs ?_
        refine U.andT ?_
        refine U.bl ?_
        refine U.op ?_
        refine U.fld ?_
        refine U.v (by with_unfolding_all rfl) ?_
        refine U.fldR h.g0 (by with_unfolding_all rfl) ?_
        refine U.cs ?_
        refine U.eqS ?_
        refine U.bf (by decide +kernel) ?_
        refine U.bf (by decide +kernel) ?_
        refine U.ifs ?_
        refine U.andT ?_
        refine U.bl ?_
        refine U.op ?_
        refine U.fld ?_
        refine U.v (by with_unfolding_all rfl) ?_
        refine U.fldR h.g0 (by with_unfolding_all rfl) ?_
        refine U.cs ?_
        refine U.eqS ?_
        refine U.bt (by decide +kernel) ?_
        refine U.bl ?_
        refine U.op ?_
        refine U.v (by with_unfolding_all rfl) ?_
        refine U.tup ?_
        refine U.cons ?_
        refine U.cs ?_
        refine U.cons ?_
        refine U.fld ?_
        refine U.v (by with_unfolding_all rfl) ?_
        refine U.fldR h.g0 (by with_unfolding_all rfl) ?_
        refine U.nil ?_
        refine And.intro (of_decide_eq_true (by kernel_rfl)) ?_
        refine U.eqP (of_decide_eq_true (by kernel_rfl)) (of_decide_eq_true (by kernel_rfl)) (by with_unfolding_all rfl) (by with_unfolding_all rfl) hsh (by kernel_rfl) ?_
      refine U.bf (by simp only [decide_eq_true_eq, decide_eq_false_iff_not, beq_iff_eq, bne_iff_ne, Bool.not_eq_true', Bool.not_eq_false', Bool.false_xor, Bool.true_xor]; first | assumption | omega) ?_
      with_reducible
        refine U.next ?_
        refine U.pnx ?_
      exact q _ h
    · with_reducible
        delta Law.S_Giver_receive
        refine U.ar (of_decide_eq_true (by kernel_rfl)) ?_
        refine U.run ?_
        delta Law.w_Giver_receive
        refine U.seq ?_
        refine U.asg ?_
        refine U.bi ?_
        refine U.cons ?_
        refine U.v (by with_unfolding_all rfl) ?_
        refine U.nil ?_
        refine U.tupL (by with_unfolding_all rfl) ?_
        refine U.gn ?_
        refine U.pnx ?_
        refine U.ifs ?_
        refine U.andT ?_
        refine U.bl ?_
        refine U.op ?_
        refine U.fld ?_
        refine U.v (by with_unfolding_all rfl) ?_
        refine U.fldR h.g0 (by with_unfolding_all rfl) ?_
        refine U.cs ?_
        refine U.eqS ?_
        refine U.bf (by decide +kernel) ?_
        refine U.bf (by decide +kernel) ?_
        refine U.ifs ?_
        refine U.andT ?_
        refine U.bl ?_
        refine U.op ?_
        refine U.fld ?_
        refine U.v (by with_unfolding_all rfl) ?_
        refine U.fldR h.g0 (by with_unfolding_all rfl) ?_
        refine U.cs ?_
        refine U.eqS ?_
        refine U.bt (by decide +kernel) ?_
        refine U.bl ?_
        refine U.op ?_
        refine U.v (by with_unfolding_all rfl) ?_
        refine U.tup ?_
        refine U.cons ?_
        refine U.cs ?_
        refine U.cons ?_
        refine U.fld ?_
        refine U.v (by with_unfolding_all rfl) ?_
        refine U.fldR h.g0 (by with_unfolding_all rfl) ?_
        refine U.nil ?_
        refine And.intro (of_decide_eq_true (by kernel_rfl)) ?_
        refine U.eqP (of_decide_eq_true (by kernel_rfl)) (of_decide_eq_true (by kernel_rfl)) (by with_unfolding_all rfl) (by with_unfolding_all rfl) hsh (by kernel_rfl) ?_
      refine U.bf (by simp only [decide_eq_true_eq, decide_eq_false_iff_not, beq_iff_eq, bne_iff_ne, Bool.not_eq_true', Bool.not_eq_false', Bool.false_xor, Bool.true_xor]; first | assumption | omega) ?_
      with_reducible
        refine U.next ?_
        refine U.pnx ?_
      exact q _ h
theorem grecv_whole {d : DV} (hd : d = .tup [.str "whole", .int n] ∨ d = .lst [.str "whole", .int n]) (h : DL.St k m ((g, gv "frozen" n ps kn) :: L)) (q : ∀ m', DL.St k m' ((g, gv "given" n ps kn) :: L) → Q .non m') : S_Giver_receive [.ref g, d] m Q := by
  have e : PyData.eqv (.tuple [.str "whole", .int n]) (.tuple [.str "whole", .int n]) = true := by rw [eqv2]; simp
  rcases hd with rfl | rfl
  · with_reducible
      delta Law.S_Giver_receive
      refine U.ar (of_decide_eq_true (by kernel_rfl)) ?_
      refine U.run ?_
      delta Law.w_Giver_receive
      refine U.seq ?_
      refine U.asg ?_
      refine U.bi ?_
      refine U.cons ?_
      refine U.v (by with_unfolding_all rfl) ?_
      refine U.nil ?_
      refine U.tupT ?_
      refine U.gn ?_
      refine U.pnx ?_
      refine U.ifs ?_
      refine U.andT ?_
      refine U.bl ?_
      refine U.op ?_
      refine U.fld ?_
      refine U.v (by with_unfolding_all rfl) ?_
      refine U.fldR h.g0 (by with_unfolding_all rfl) ?_
      refine U.cs ?_
      refine U.eqS ?_
      refine U.bt (by decide +kernel) ?_
      refine U.bl ?_
      refine U.op ?_
      refine U.v (by with_unfolding_all rfl) ?_
      refine U.tup ?_
      refine U.cons ?_
      refine U.cs ?_
      refine U.cons ?_
      refine U.fld ?_
      refine U.v (by with_unfolding_all rfl) ?_
      refine U.fldR h.g0 (by with_unfolding_all rfl) ?_
      refine U.nil ?_
      refine And.intro (of_decide_eq_true (by kernel_rfl)) ?_
      refine U.eqP (of_decide_eq_true (by kernel_rfl)) (of_decide_eq_true (by kernel_rfl)) (by with_unfolding_all rfl) (by with_unfolding_all rfl) (by kernel_rfl) (by kernel_rfl) ?_
    refine U.bt (by simp only [decide_eq_true_eq, decide_eq_false_iff_not, beq_iff_eq, bne_iff_ne, Bool.not_eq_true', Bool.not_eq_false', Bool.false_xor, Bool.true_xor]; first | assumption | omega) ?_
    with_reducible
      refine U.setF_ ?_
      refine U.cs ?_
      refine U.v (by with_unfolding_all rfl) ?_
      refine U.setR h (of_decide_eq_true (by kernel_rfl)) ?_
      intro m1
      intro I1
      clear h
      refine U.pnx ?_
    exact q _ I1
  · with_reducible
      delta Law.S_Giver_receive
      refine U.ar (of_decide_eq_true (by kernel_rfl)) ?_
      refine U.run ?_
      delta Law.w_Giver_receive
      refine U.seq ?_
      refine U.asg ?_
      refine U.bi ?_
      refine U.cons ?_
      refine U.v (by with_unfolding_all rfl) ?_
      refine U.nil ?_
      refine U.tupL (by with_unfolding_all rfl) ?_
      refine U.gn ?_
      refine U.pnx ?_
      refine U.ifs ?_
      refine U.andT ?_
      refine U.bl ?_
      refine U.op ?_
      refine U.fld ?_
      refine U.v (by with_unfolding_all rfl) ?_
      refine U.fldR h.g0 (by with_unfolding_all rfl) ?_
      refine U.cs ?_
      refine U.eqS ?_
      refine U.bt (by decide +kernel) ?_
      refine U.bl ?_
      refine U.op ?_
      refine U.v (by with_unfolding_all rfl) ?_
      refine U.tup ?_
      refine U.cons ?_
      refine U.cs ?_
      refine U.cons ?_
      refine U.fld ?_
      refine U.v (by with_unfolding_all rfl) ?_
      refine U.fldR h.g0 (by with_unfolding_all rfl) ?_
      refine U.nil ?_
      refine And.intro (of_decide_eq_true (by kernel_rfl)) ?_
      refine U.eqP (of_decide_eq_true (by kernel_rfl)) (of_decide_eq_true (by kernel_rfl)) (by with_unfolding_all rfl) (by with_unfolding_all rfl) (by kernel_rfl) (by kernel_rfl) ?_
    refine U.bt (by simp only [decide_eq_true_eq, decide_eq_false_iff_not, beq_iff_eq, bne_iff_ne, Bool.not_eq_true', Bool.not_eq_false', Bool.false_xor, Bool.true_xor]; first | assumption | omega) ?_
    with_reducible
      refine U.setF_ ?_
      refine U.cs ?_
      refine U.v (by with_unfolding_all rfl) ?_
      refine U.setR h (of_decide_eq_true (by kernel_rfl)) ?_
      intro m1
      intro I1
      clear h
      refine U.pnx ?_
    exact q _ I1
theorem grecv_going {d : DV} (hd : d = .tup [.str "going", .int n] ∨ d = .lst [.str "going", .int n]) (h : DL.St k m ((g, gv "given" n ps kn) :: L)) (q : ∀ m', DL.St k m' ((g, gv "given" n ps true) :: L) → Q .non m') : S_Giver_receive [.ref g, d] m Q := by
  have e : PyData.eqv (.tuple [.str "going", .int n]) (.tuple [.str "going", .int n]) = true := by rw [eqv2]; simp
  rcases hd with rfl | rfl
  · with_reducible
      delta Law.S_Giver_receive
      refine U.ar (of_decide_eq_true (by kernel_rfl)) ?_
      refine U.run ?_
      delta Law.w_Giver_receive
      refine U.seq ?_
      refine U.asg ?_
      refine U.bi ?_
      refine U.cons ?_
      refine U.v (by with_unfolding_all rfl) ?_
      refine U.nil ?_
      refine U.tupT ?_
      refine U.gn ?_
      refine U.pnx ?_
      refine U.ifs ?_
      refine U.andT ?_
      refine U.bl ?_
      refine U.op ?_
      refine U.fld ?_
      refine U.v (by with_unfolding_all rfl) ?_
      refine U.fldR h.g0 (by with_unfolding_all rfl) ?_
      refine U.cs ?_
      refine U.eqS ?_
      refine U.bf (by decide +kernel) ?_
      refine U.bf (by decide +kernel) ?_
      refine U.ifs ?_
      refine U.andT ?_
      refine U.bl ?_
      refine U.op ?_
      refine U.fld ?_
      refine U.v (by with_unfolding_all rfl) ?_
      refine U.fldR h.g0 (by with_unfolding_all rfl) ?_
      refine U.cs ?_
      refine U.eqS ?_
      refine U.bt (by decide +kernel) ?_
      refine U.bl ?_
      refine U.op ?_
      refine U.v (by with_unfolding_all rfl) ?_
      refine U.tup ?_
      refine U.cons ?_
      refine U.cs ?_
      refine U.cons ?_
      refine U.fld ?_
      refine U.v (by with_unfolding_all rfl) ?_
      refine U.fldR h.g0 (by with_unfolding_all rfl) ?_
      refine U.nil ?_
      refine And.intro (of_decide_eq_true (by kernel_rfl)) ?_
      refine U.eqP (of_decide_eq_true (by kernel_rfl)) (of_decide_eq_true (by kernel_rfl)) (by with_unfolding_all rfl) (by with_unfolding_all rfl) (by kernel_rfl) (by kernel_rfl) ?_
    refine U.bt (by simp only [decide_eq_true_eq, decide_eq_false_iff_not, beq_iff_eq, bne_iff_ne, Bool.not_eq_true', Bool.not_eq_false', Bool.false_xor, Bool.true_xor]; first | assumption | omega) ?_
    with_reducible
      refine U.setF_ ?_
      refine U.cs ?_
      refine U.v (by with_unfolding_all rfl) ?_
      refine U.setR h (of_decide_eq_true (by kernel_rfl)) ?_
      intro m1
      intro I1
      clear h
      refine U.pnx ?_
    exact q _ I1
  · with_reducible
      delta Law.S_Giver_receive
      refine U.ar (of_decide_eq_true (by kernel_rfl)) ?_
      refine U.run ?_
      delta Law.w_Giver_receive
      refine U.seq ?_
      refine U.asg ?_
      refine U.bi ?_
      refine U.cons ?_
      refine U.v (by with_unfolding_all rfl) ?_
      refine U.nil ?_
      refine U.tupL (by with_unfolding_all rfl) ?_
      refine U.gn ?_
      refine U.pnx ?_
      refine U.ifs ?_
      refine U.andT ?_
      refine U.bl ?_
      refine U.op ?_
      refine U.fld ?_
      refine U.v (by with_unfolding_all rfl) ?_
      refine U.fldR h.g0 (by with_unfolding_all rfl) ?_
      refine U.cs ?_
      refine U.eqS ?_
      refine U.bf (by decide +kernel) ?_
      refine U.bf (by decide +kernel) ?_
      refine U.ifs ?_
      refine U.andT ?_
      refine U.bl ?_
      refine U.op ?_
      refine U.fld ?_
      refine U.v (by with_unfolding_all rfl) ?_
      refine U.fldR h.g0 (by with_unfolding_all rfl) ?_
      refine U.cs ?_
      refine U.eqS ?_
      refine U.bt (by decide +kernel) ?_
      refine U.bl ?_
      refine U.op ?_
      refine U.v (by with_unfolding_all rfl) ?_
      refine U.tup ?_
      refine U.cons ?_
      refine U.cs ?_
      refine U.cons ?_
      refine U.fld ?_
      refine U.v (by with_unfolding_all rfl) ?_
      refine U.fldR h.g0 (by with_unfolding_all rfl) ?_
      refine U.nil ?_
      refine And.intro (of_decide_eq_true (by kernel_rfl)) ?_
      refine U.eqP (of_decide_eq_true (by kernel_rfl)) (of_decide_eq_true (by kernel_rfl)) (by with_unfolding_all rfl) (by with_unfolding_all rfl) (by kernel_rfl) (by kernel_rfl) ?_
    refine U.bt (by simp only [decide_eq_true_eq, decide_eq_false_iff_not, beq_iff_eq, bne_iff_ne, Bool.not_eq_true', Bool.not_eq_false', Bool.false_xor, Bool.true_xor]; first | assumption | omega) ?_
    with_reducible
      refine U.setF_ ?_
      refine U.cs ?_
      refine U.v (by with_unfolding_all rfl) ?_
      refine U.setR h (of_decide_eq_true (by kernel_rfl)) ?_
      intro m1
      intro I1
      clear h
      refine U.pnx ?_
    exact q _ I1
theorem grecv5 {d : DV} {w t : Str} {i j l : Int} (hd : d = .tup [.str w, .int i, .int j, .int l, .str t] ∨ d = .lst [.str w, .int i, .int j, .int l, .str t]) (hw : PyData.strOk w = true) (ht : PyData.strOk t = true) (hp : Phs ph) (h : DL.St k m ((g, gv ph n ps kn) :: L)) (q : ∀ m', DL.St k m' ((g, gv ph n ps kn) :: L) → Q .non m') : S_Giver_receive [.ref g, d] m Q := by
  have hsh := shaped5 (i := i) (j := j) (l := l) hw ht
  have e1 := eqv25 (w := w) (v := "whole") (t := t) (i := i) (j := j) (l := l) (q := n)
  have e2 := eqv25 (w := w) (v := "going") (t := t) (i := i) (j := j) (l := l) (q := n)
  rcases hp with rfl | rfl | rfl
  · rcases hd with rfl | rfl
    · with_reducible
        delta Law.S_Giver_receive
        refine U.ar (of_decide_eq_true (by kernel_rfl)) ?_
        refine U.run ?_
        delta Law.w_Giver_receive
        refine U.seq ?_
        refine U.asg ?_
        refine U.bi ?_
        refine U.cons ?_
        refine U.v (by with_unfolding_all rfl) ?_
        refine U.nil ?_
        refine U.tupT ?_
        refine U.gn ?_
        refine U.pnx ?_
        refine U.ifs ?_
        refine U.andT ?_
        refine U.bl ?_
        refine U.op ?_
        refine U.fld ?_
        refine U.v (by with_unfolding_all rfl) ?_
        refine U.fldR h.g0 (by with_unfolding_all rfl) ?_
        refine U.cs ?_
        refine U.eqS ?_
        refine U.bf (by decide +kernel) ?_
        refine U.bf (by decide +kernel) ?_
        refine U.ifs ?_
        refine U.andT ?_
        refine U.bl ?_
        refine U.op ?_
        refine U.fld ?_
        refine U.v (by with_unfolding_all rfl) ?_
        refine U.fldR h.g0 (by with_unfolding_all rfl) ?_
        refine U.cs ?_
        refine U.eqS ?_
        refine U.bf (by decide +kernel) ?_
        refine U.bf (by decide +kernel) ?_
        refine U.next ?_
        refine U.pnx ?_
      exact q _ h
    · with_reducible
        delta Law.S_Giver_receive
        refine U.ar (of_decide_eq_true (by kernel_rfl)) ?_
        refine U.run ?_
        delta Law.w_Giver_receive
        refine U.seq ?_
        refine U.asg ?_
        refine U.bi ?_
        refine U.cons ?_
        refine U.v (by with_unfolding_all rfl) ?_
        refine U.nil ?_
        refine U.tupL (by with_unfolding_all rfl) ?_
        refine U.gn ?_
        refine U.pnx ?_
        refine U.ifs ?_
        refine U.andT ?_
        refine U.bl ?_
        refine U.op ?_
        refine U.fld ?_
        refine U.v (by with_unfolding_all rfl) ?_
        refine U.fldR h.g0 (by with_unfolding_all rfl) ?_
        refine U.cs ?_
        refine U.eqS ?_
        refine U.bf (by decide +kernel) ?_
        refine U.bf (by decide +kernel) ?_
        refine U.ifs ?_
        refine U.andT ?_
        refine U.bl ?_
        refine U.op ?_
        refine U.fld ?_
        refine U.v (by with_unfolding_all rfl) ?_
        refine U.fldR h.g0 (by with_unfolding_all rfl) ?_
        refine U.cs ?_
        refine U.eqS ?_
        refine U.bf (by decide +kernel) ?_
        refine U.bf (by decide +kernel) ?_
        refine U.next ?_
        refine U.pnx ?_
      exact q _ h
  · rcases hd with rfl | rfl
    · with_reducible
        delta Law.S_Giver_receive
        refine U.ar (of_decide_eq_true (by kernel_rfl)) ?_
        refine U.run ?_
        delta Law.w_Giver_receive
        refine U.seq ?_
        refine U.asg ?_
        refine U.bi ?_
        refine U.cons ?_
        refine U.v (by with_unfolding_all rfl) ?_
        refine U.nil ?_
        refine U.tupT ?_
        refine U.gn ?_
        refine U.pnx ?_
        refine U.ifs ?_
        refine U.andT ?_
        refine U.bl ?_
        refine U.op ?_
        refine U.fld ?_
        refine U.v (by with_unfolding_all rfl) ?_
        refine U.fldR h.g0 (by with_unfolding_all rfl) ?_
        refine U.cs ?_
        refine U.eqS ?_
        refine U.bt (by decide +kernel) ?_
        refine U.bl ?_
        refine U.op ?_
        refine U.v (by with_unfolding_all rfl) ?_
        refine U.tup ?_
        refine U.cons ?_
        refine U.cs ?_
        refine U.cons ?_
        refine U.fld ?_
        refine U.v (by with_unfolding_all rfl) ?_
        refine U.fldR h.g0 (by with_unfolding_all rfl) ?_
        refine U.nil ?_
        refine And.intro (of_decide_eq_true (by kernel_rfl)) ?_
        refine U.eqP (of_decide_eq_true (by kernel_rfl)) (of_decide_eq_true (by kernel_rfl)) (by with_unfolding_all rfl) (by with_unfolding_all rfl) hsh (by kernel_rfl) ?_
      refine U.bf (by simp only [decide_eq_true_eq, decide_eq_false_iff_not, beq_iff_eq, bne_iff_ne, Bool.not_eq_true', Bool.not_eq_false', Bool.false_xor, Bool.true_xor]; first | assumption | omega) ?_
      with_reducible
        refine U.ifs ?_
        refine U.andT ?_
        refine U.bl ?_
        refine U.op ?_
        refine U.fld ?_
        refine U.v (by with_unfolding_all rfl) ?_
        refine U.fldR h.g0 (by with_unfolding_all rfl) ?_
        refine U.cs ?_
        refine U.eqS ?_
        refine U.bf (by decide +kernel) ?_
        refine U.bf (by decide +kernel) ?_
        refine U.next ?_
        refine U.pnx ?_
      exact q _ h
    · with_reducible
        delta Law.S_Giver_receive
        refine U.ar (of_decide_eq_true (by kernel_rfl)) ?_
        refine U.run ?_
        delta Law.w_Giver_receive
        refine U.seq ?_
        refine U.asg ?_
        refine U.bi ?_
        refine U.cons ?_
        refine U.v (by with_unfolding_all rfl) ?_
        refine U.nil ?_
        refine U.tupL (by with_unfolding_all rfl) ?_
        refine U.gn ?_
        refine U.pnx ?_
        refine U.ifs ?_
        refine U.andT ?_
        refine U.bl ?_
        refine U.op ?_
        refine U.fld ?_
        refine U.v (by with_unfolding_all rfl) ?_
        refine U.fldR h.g0 (by with_unfolding_all rfl) ?_
        refine U.cs ?_
        refine U.eqS ?_
        refine U.bt (by decide +kernel) ?_
        refine U.bl ?_
        refine U.op ?_
        refine U.v (by with_unfolding_all rfl) ?_
        refine U.tup ?_
        refine U.cons ?_
        refine U.cs ?_
        refine U.cons ?_
        refine U.fld ?_
        refine U.v (by with_unfolding_all rfl) ?_
        refine U.fldR h.g0 (by with_unfolding_all rfl) ?_
        refine U.nil ?_
        refine And.intro (of_decide_eq_true (by kernel_rfl)) ?_
        refine U.eqP (of_decide_eq_true (by kernel_rfl)) (of_decide_eq_true (by kernel_rfl)) (by with_unfolding_all rfl) (by with_unfolding_all rfl) hsh (by kernel_rfl) ?_
      refine U.bf (by simp only [decide_eq_true_eq, decide_eq_false_iff_not, beq_iff_eq, bne_iff_ne, Bool.not_eq_true', Bool.not_eq_false', Bool.false_xor, Bool.true_xor]; first | assumption | omega) ?_
      with_reducible
        refine U.ifs ?_
        refine U.andT ?_
        refine U.bl ?_
        refine U.op ?_
        refine U.fld ?_
        refine U.v (by with_unfolding_all rfl) ?_
        refine U.fldR h.g0 (by with_unfolding_all rfl) ?_
        refine U.cs ?_
        refine U.eqS ?_
        refine U.bf (by decide +kernel) ?_
        refine U.bf (by decide +kernel) ?_
        refine U.next ?_
        refine U.pnx ?_
      exact q _ h
  · rcases hd with rfl | rfl
    · with_reducible
        delta Law.S_Giver_receive
        refine U.ar (of_decide_eq_true (by kernel_rfl)) ?_
        refine U.run ?_
        delta Law.w_Giver_receive
        refine U.seq ?_
        refine U.asg ?_
        refine U.bi ?_
        refine U.cons ?_
        refine U.v (by with_unfolding_all rfl) ?_
        refine U.nil ?_
        refine U.tupT ?_
        refine U.gn ?_
        refine U.pnx ?_
        refine U.ifs ?_
        refine U.andT ?_
        refine U.bl ?_
        refine U.op ?_
        refine U.fld ?_
        refine U.v (by with_unfolding_all rfl) ?_
        refine U.fldR h.g0 (by with_unfolding_all rfl) ?_
        refine U.cs ?_
        refine U.eqS ?_
        refine U.bf (by decide +kernel) ?_
        refine U.bf (by decide +kernel) ?_
        refine U.ifs ?_
        refine U.andT ?_
        refine U.bl ?_
        refine U.op ?_
        refine U.fld ?_
        refine U.v (by with_unfolding_all rfl) ?_
        refine U.fldR h.g0 (by with_unfolding_all rfl) ?_
        refine U.cs ?_
        refine U.eqS ?_
        refine U.bt (by decide +kernel) ?_
        refine U.bl ?_
        refine U.op ?_
        refine U.v (by with_unfolding_all rfl) ?_
        refine U.tup ?_
        refine U.cons ?_
        refine U.cs ?_
        refine U.cons ?_
        refine U.fld ?_
        refine U.v (by with_unfolding_all rfl) ?_
        refine U.fldR h.g0 (by with_unfolding_all rfl) ?_
        refine U.nil ?_
        refine And.intro (of_decide_eq_true (by kernel_rfl)) ?_
        refine U.eqP (of_decide_eq_true (by kernel_rfl)) (of_decide_eq_true (by kernel_rfl)) (by with_unfolding_all rfl) (by with_unfolding_all rfl) hsh (by kernel_rfl) ?_
      refine U.bf (by simp only [decide_eq_true_eq, decide_eq_false_iff_not, beq_iff_eq, bne_iff_ne, Bool.not_eq_true', Bool.not_eq_false', Bool.false_xor, Bool.true_xor]; first | assumption | omega) ?_
      with_reducible
        refine U.next ?_
        refine U.pnx ?_
      exact q _ h
    · with_reducible
        delta Law.S_Giver_receive
        refine U.ar (of_decide_eq_true (by kernel_rfl)) ?_
        refine U.run ?_
        delta Law.w_Giver_receive
        refine U.seq ?_
        refine U.asg ?_
        refine U.bi ?_
        refine U.cons ?_
        refine U.v (by with_unfolding_all rfl) ?_
        refine U.nil ?_
        refine U.tupL (by with_unfolding_all rfl) ?_
        refine U.gn ?_
        refine U.pnx ?_
        refine U.ifs ?_
        refine U.andT ?_
        refine U.bl ?_
        refine U.op ?_
        refine U.fld ?_
        refine U.v (by with_unfolding_all rfl) ?_
        refine U.fldR h.g0 (by with_unfolding_all rfl) ?_
        refine U.cs ?_
        refine U.eqS ?_
        refine U.bf (by decide +kernel) ?_
        refine U.bf (by decide +kernel) ?_
        refine U.ifs ?_
        refine U.andT ?_
        refine U.bl ?_
        refine U.op ?_
        refine U.fld ?_
        refine U.v (by with_unfolding_all rfl) ?_
        refine U.fldR h.g0 (by with_unfolding_all rfl) ?_
        refine U.cs ?_
        refine U.eqS ?_
        refine U.bt (by decide +kernel) ?_
        refine U.bl ?_
        refine U.op ?_
        refine U.v (by with_unfolding_all rfl) ?_
        refine U.tup ?_
        refine U.cons ?_
        refine U.cs ?_
        refine U.cons ?_
        refine U.fld ?_
        refine U.v (by with_unfolding_all rfl) ?_
        refine U.fldR h.g0 (by with_unfolding_all rfl) ?_
        refine U.nil ?_
        refine And.intro (of_decide_eq_true (by kernel_rfl)) ?_
        refine U.eqP (of_decide_eq_true (by kernel_rfl)) (of_decide_eq_true (by kernel_rfl)) (by with_unfolding_all rfl) (by with_unfolding_all rfl) hsh (by kernel_rfl) ?_
      refine U.bf (by simp only [decide_eq_true_eq, decide_eq_false_iff_not, beq_iff_eq, bne_iff_ne, Bool.not_eq_true', Bool.not_eq_false', Bool.false_xor, Bool.true_xor]; first | assumption | omega) ?_
      with_reducible
        refine U.next ?_
        refine U.pnx ?_
      exact q _ h
end
section
variable {k m : Sto} {L : List (Addr × MO)} {g : Addr} {ph : Str} {n : Int} {ps : List DV} {kn : Bool} {Q : DK}
/-- what the giver is behind a message -/
def recvF (w : Str) (i : Int) (ph : Str) (n : Int) (kn : Bool) : Str × Bool :=
  if ph = "frozen" ∧ w = "whole" ∧ i = n then ("given", kn) else if ph = "given" ∧ w = "going" ∧ i = n then (ph, true) else (ph, kn)
end
section
variable {k m : Sto} {L : List (Addr × MO)} {g : Addr} {ph : Str} {n : Int} {ps : List DV} {kn : Bool} {Q : DK}
theorem enD_length : ∀ (i : Nat) (xs : List DV), (enD i xs).length = xs.length
  | _, [] => rfl
  | i, x :: xs => by rw [enD, List.length_cons, List.length_cons, enD_length (i + 1) xs]
/-- the messages of the giver -/
def msgD (n : Int) (many : Nat) : DV → DV
  | .tup [i, t] => .tup [.str "piece", .int n, i, .int many, t]
  | d => d
def gmsgs (ph : Str) (n : Int) (ps : List DV) (kn : Bool) : List DV :=
  if ph = "frozen" then (enD 0 ps).map (msgD n ps.length) else if ph = "given" ∧ kn = false then [.tup [.str "go", .int n]] else []
end
section
variable {k m : Sto} {L : List (Addr × MO)} {g : Addr} {ph : Str} {n : Int} {ps : List DV} {kn : Bool} {Q : DK}
theorem ms_runs (h : DL.St k m ((g, gv "runs" n ps kn) :: L)) (q : ∀ m', DL.St k m' ((g, gv "runs" n ps kn) :: L) → Q (.lst []) m') : S_Giver_messages [.ref g] m Q := by
  with_reducible
    delta Law.S_Giver_messages
    refine U.ar (by with_unfolding_all rfl) ?_
    refine U.run ?_
    delta Law.w_Giver_messages
    refine U.seq ?_
    refine U.ifs ?_
    refine U.bl ?_
    refine U.op ?_
    refine U.fld ?_
    refine U.v (by with_unfolding_all rfl) ?_
    refine U.fldR h.g0 (by with_unfolding_all rfl) ?_
    refine U.cs ?_
    refine U.eqS ?_
    refine U.bf (by decide +kernel) ?_
    refine U.next ?_
    refine U.pnx ?_
    refine U.ret ?_
    refine U.ife ?_
    refine U.andT ?_
    refine U.bl ?_
    refine U.op ?_
    refine U.fld ?_
    refine U.v (by with_unfolding_all rfl) ?_
    refine U.fldR h.g0 (by with_unfolding_all rfl) ?_
    refine U.cs ?_
    refine U.eqS ?_
    refine U.bf (by decide +kernel) ?_
    refine U.bf (by decide +kernel) ?_
    refine U.lst ?_
    refine U.nil ?_
    refine And.intro (by decide +kernel) ?_
    refine U.newD ?_
    refine U.prt ?_
  exact q _ h
theorem ms_given (h : DL.St k m ((g, gv "given" n ps false) :: L)) (q : ∀ m', DL.St k m' ((g, gv "given" n ps false) :: L) → Q (.lst [.tup [.str "go", .int n]]) m') : S_Giver_messages [.ref g] m Q := by
  with_reducible
    delta Law.S_Giver_messages
    refine U.ar (by with_unfolding_all rfl) ?_
    refine U.run ?_
    delta Law.w_Giver_messages
    refine U.seq ?_
    refine U.ifs ?_
    refine U.bl ?_
    refine U.op ?_
    refine U.fld ?_
    refine U.v (by with_unfolding_all rfl) ?_
    refine U.fldR h.g0 (by with_unfolding_all rfl) ?_
    refine U.cs ?_
    refine U.eqS ?_
    refine U.bf (by decide +kernel) ?_
    refine U.next ?_
    refine U.pnx ?_
    refine U.ret ?_
    refine U.ife ?_
    refine U.andT ?_
    refine U.bl ?_
    refine U.op ?_
    refine U.fld ?_
    refine U.v (by with_unfolding_all rfl) ?_
    refine U.fldR h.g0 (by with_unfolding_all rfl) ?_
    refine U.cs ?_
    refine U.eqS ?_
    refine U.bt (by decide +kernel) ?_
    refine U.notT ?_
    refine U.tru ?_
    refine U.fld ?_
    refine U.v (by with_unfolding_all rfl) ?_
    refine U.fldR h.g0 (by with_unfolding_all rfl) ?_
    refine U.truB ?_
    refine U.bt (by decide +kernel) ?_
    refine U.lst ?_
    refine U.cons ?_
    refine U.tup ?_
    refine U.cons ?_
    refine U.cs ?_
    refine U.cons ?_
    refine U.fld ?_
    refine U.v (by with_unfolding_all rfl) ?_
    refine U.fldR h.g0 (by with_unfolding_all rfl) ?_
    refine U.nil ?_
    refine And.intro (of_decide_eq_true (by kernel_rfl)) ?_
    refine U.nil ?_
    refine And.intro (of_decide_eq_true (by kernel_rfl)) ?_
    refine U.newD ?_
    refine U.prt ?_
  exact q _ h
theorem ms_known (h : DL.St k m ((g, gv "given" n ps true) :: L)) (q : ∀ m', DL.St k m' ((g, gv "given" n ps true) :: L) → Q (.lst []) m') : S_Giver_messages [.ref g] m Q := by
  with_reducible
    delta Law.S_Giver_messages
    refine U.ar (by with_unfolding_all rfl) ?_
    refine U.run ?_
    delta Law.w_Giver_messages
    refine U.seq ?_
    refine U.ifs ?_
    refine U.bl ?_
    refine U.op ?_
    refine U.fld ?_
    refine U.v (by with_unfolding_all rfl) ?_
    refine U.fldR h.g0 (by with_unfolding_all rfl) ?_
    refine U.cs ?_
    refine U.eqS ?_
    refine U.bf (by decide +kernel) ?_
    refine U.next ?_
    refine U.pnx ?_
    refine U.ret ?_
    refine U.ife ?_
    refine U.andT ?_
    refine U.bl ?_
    refine U.op ?_
    refine U.fld ?_
    refine U.v (by with_unfolding_all rfl) ?_
    refine U.fldR h.g0 (by with_unfolding_all rfl) ?_
    refine U.cs ?_
    refine U.eqS ?_
    refine U.bt (by decide +kernel) ?_
    refine U.notT ?_
    refine U.tru ?_
    refine U.fld ?_
    refine U.v (by with_unfolding_all rfl) ?_
    refine U.fldR h.g0 (by with_unfolding_all rfl) ?_
    refine U.truB ?_
    refine U.bf (by decide +kernel) ?_
    refine U.lst ?_
    refine U.nil ?_
    refine And.intro (by decide +kernel) ?_
    refine U.newD ?_
    refine U.prt ?_
  exact q _ h
theorem ms_frozen0 (hl : ps.length ≤ 100) (h : DL.St k m ((g, gv "frozen" n ps kn) :: L)) (q : ∀ m', DL.St k m' ((g, gv "frozen" n ps kn) :: L) → Q (.lst ((enD 0 ps).map (msgD n ps.length))) m') : S_Giver_messages [.ref g] m Q := by
  with_reducible
    delta Law.S_Giver_messages
    refine U.ar (by with_unfolding_all rfl) ?_
    refine U.run ?_
    delta Law.w_Giver_messages
    refine U.seq ?_
    refine U.ifs ?_
    refine U.bl ?_
    refine U.op ?_
    refine U.fld ?_
    refine U.v (by with_unfolding_all rfl) ?_
    refine U.fldR h.g0 (by with_unfolding_all rfl) ?_
    refine U.cs ?_
    refine U.eqS ?_
    refine U.bt (by decide +kernel) ?_
    refine U.seq ?_
    refine U.asg ?_
    refine U.tup ?_
    refine U.cons ?_
    refine U.fld ?_
    refine U.v (by with_unfolding_all rfl) ?_
    refine U.fldR h.g0 (by with_unfolding_all rfl) ?_
    refine U.cons ?_
    refine U.bi ?_
    refine U.cons ?_
    refine U.fld ?_
    refine U.v (by with_unfolding_all rfl) ?_
    refine U.fldR h.g0 (by with_unfolding_all rfl) ?_
    refine U.nil ?_
    refine U.lenL (by with_unfolding_all rfl) ?_
    refine U.nil ?_
    refine And.intro (of_decide_eq_true (by kernel_rfl)) ?_
    refine U.gseq (by with_unfolding_all rfl) (of_decide_eq_true (by kernel_rfl)) ?_
  refine U.gcons ?_
  with_reducible
    refine U.gn ?_
  refine U.gcons ?_
  with_reducible
    refine U.gn ?_
    refine U.gnil ?_
    refine U.pnx ?_
    refine U.ret ?_
    refine U.lc ?_
    refine U.enum ?_
    refine U.cons ?_
    refine U.fld ?_
    refine U.v (by with_unfolding_all rfl) ?_
    refine U.fldR h.g0 (by with_unfolding_all rfl) ?_
    refine U.nil ?_
    refine U.enumL (by with_unfolding_all rfl) ?_
    refine U.mk h ?_
    intro p1
    intro m1
    intro I1
    clear h
  refine lc_all (k := k) (L := (g, gv "frozen" n ps kn) :: L) (msgD n ps.length) (fun m acc _ => rfl) ?_ (by assumption) ?_ q
  · intro x hx acc m K h hK
    obtain ⟨i, hi⟩ := List.getElem?_of_mem hx
    rw [enD_get] at hi
    obtain ⟨t, _, rfl⟩ := Option.map_eq_some_iff.mp hi
    with_reducible
      refine U.gseq (by with_unfolding_all rfl) (of_decide_eq_true (by kernel_rfl)) ?_
    refine U.gcons ?_
    with_reducible
      refine U.gn ?_
    refine U.gcons ?_
    with_reducible
      refine U.gn ?_
      refine U.gnil ?_
      refine U.tup ?_
      refine U.cons ?_
      refine U.cs ?_
      refine U.cons ?_
      refine U.v (by with_unfolding_all rfl) ?_
      refine U.cons ?_
      refine U.v (by with_unfolding_all rfl) ?_
      refine U.cons ?_
      refine U.v (by with_unfolding_all rfl) ?_
      refine U.cons ?_
      refine U.v (by with_unfolding_all rfl) ?_
      refine U.nil ?_
      refine And.intro (of_decide_eq_true (by kernel_rfl)) ?_
    exact hK _ h.f1.f1
  · rw [enD_length, sizeLine_eq]; omega
theorem sp_grecv {d : DV} {w : Str} {i : Int} (hd : d = .tup [.str w, .int i] ∨ d = .lst [.str w, .int i]) (hw : PyData.strOk w = true) (hp : Phs ph) (h : DL.St k m ((g, gv ph n ps kn) :: L)) (q : ∀ m', DL.St k m' ((g, gv (recvF w i ph n kn).1 n ps (recvF w i ph n kn).2) :: L) → Q .non m') : S_Giver_receive [.ref g, d] m Q := by
  unfold recvF at q
  by_cases h1 : ph = "frozen" ∧ w = "whole" ∧ i = n
  · rw [if_pos h1] at q
    obtain ⟨rfl, rfl, rfl⟩ := h1
    exact grecv_whole hd h q
  · rw [if_neg h1] at q
    by_cases h2 : ph = "given" ∧ w = "going" ∧ i = n
    · rw [if_pos h2] at q
      obtain ⟨rfl, rfl, rfl⟩ := h2
      exact grecv_going hd h q
    · rw [if_neg h2] at q
      refine grecv_no hd hw hp ⟨fun hw' => ?_, fun hw' => ?_⟩ h q
      · by_cases z : ph = "frozen"
        · exact .inr fun z2 => h1 ⟨z, hw', z2⟩
        · exact .inl z
      · by_cases z : ph = "given"
        · exact .inr fun z2 => h2 ⟨z, hw', z2⟩
        · exact .inl z
theorem sp_gmsgs (hl : ps.length ≤ 100) (hp : Phs ph) (h : DL.St k m ((g, gv ph n ps kn) :: L)) (q : ∀ m', DL.St k m' ((g, gv ph n ps kn) :: L) → Q (.lst (gmsgs ph n ps kn)) m') : S_Giver_messages [.ref g] m Q := by
  unfold gmsgs at q
  rcases hp with rfl | rfl | rfl
  · rw [if_neg ne_rf, if_neg fun z => ne_rg z.1] at q
    exact ms_runs h q
  · rw [if_pos rfl] at q
    exact ms_frozen0 hl h q
  · rw [if_neg ne_gf] at q
    cases kn
    · rw [if_pos ⟨rfl, rfl⟩] at q
      exact ms_given h q
    · rw [if_neg fun z => Bool.noConfusion z.2] at q
      exact ms_known h q
end
end Law
namespace Law
open PySem PySem.Spec PyProof.Rows L2 DL
abbrev KVs := List (Int × Str)
def kvD (xs : KVs) : List (Key × DV) := xs.map fun p => (Sum.inl p.1, .str p.2)
theorem kvD_len (xs : KVs) : (kvD xs).length = xs.length := List.length_map _
theorem kvD_nil : kvD [] = [] := rfl
theorem kvD_keys : ∀ (xs : KVs), keysI? (kvD xs) = some (xs.map (·.1))
  | [] => rfl
  | (i, t) :: xs => by
    show (keysI? (kvD xs)).map (i :: ·) = _
    rw [kvD_keys xs]; rfl
theorem kvD_look : ∀ (xs : KVs) (i : Int), lookD (kvD xs) (Sum.inl i) = (xs.lookup i).map DV.str
  | [], i => rfl
  | (j, t) :: xs, i => by
    show (if (Sum.inl j : Key) = Sum.inl i then some (DV.str t) else lookD (kvD xs) (Sum.inl i)) = _
    rw [List.lookup_cons, kvD_look xs i]
    by_cases h : i = j
    · subst h; rw [if_pos rfl, beq_self_eq_true]; rfl
    · rw [if_neg fun z => h (Sum.inl.inj z).symm, beq_false_of_ne h]
theorem kvD_put : ∀ (xs : KVs) (i : Int) (t : Str), xs.lookup i = none → putD (kvD xs) (Sum.inl i) (.str t) = kvD (xs ++ [(i, t)])
  | [], i, t, _ => rfl
  | (j, u) :: xs, i, t, h => by
    rw [List.lookup_cons] at h
    by_cases e : i = j
    · subst e; rw [beq_self_eq_true] at h; cases h
    · rw [beq_false_of_ne e] at h
      show (if (Sum.inl j : Key) = Sum.inl i then _ else (Sum.inl j, DV.str u) :: putD (kvD xs) (Sum.inl i) (.str t)) = _
      rw [if_neg fun z => e (Sum.inl.inj z).symm, kvD_put xs i t h]; rfl
section
variable {k m : Sto} {L : List (Addr × MO)} {dd : Addr} {xs : KVs} {Q : DK} {i : Int} {t : Str}
theorem kv_sorted (h : DL.St k m ((dd, .dct (kvD xs)) :: L)) (hl : xs.length < 64) (q : Q (.lst ((sortI (xs.map (·.1))).map DV.int)) m) : dSorted false [.ref dd] m Q := by
  unfold dSorted
  dsimp only
  have e : asL m (.ref dd) = none := by unfold asL; simp only [h.get 0 rfl]
  rw [e]
  dsimp only
  simp only [h.get 0 rfl]
  refine ⟨by rw [kvD_len]; exact hl, ?_⟩
  rw [kvD_keys]
  exact q
theorem kv_at (h : DL.St k m ((dd, .dct (kvD xs)) :: L)) (e : xs.lookup i = some t) (q : Q (.str t) m) : dIx (.ref dd) (.int i) m Q := by
  unfold dIx dictAt
  simp only [h.get 0 rfl, dK?, Option.map_some, kvD_look, e]
  exact q
theorem kv_len (h : DL.St k m ((dd, .dct (kvD xs)) :: L)) (q : Q (.int xs.length) m) : dLen [.ref dd] m Q := by
  have e : asQ m (.ref dd) = none := by unfold asQ asL; simp only [h.get 0 rfl]
  unfold dLen lenD
  dsimp only
  rw [e]
  dsimp only
  simp only [h.get 0 rfl, kvD_len]
  exact q
theorem kv_in {neg : Bool} (h : DL.St k m ((dd, .dct (kvD xs)) :: L)) (q : Q (.bl (xor neg (xs.lookup i).isSome)) m) : dIn neg (.int i) (.ref dd) m Q := by
  unfold dIn dictAt
  simp only [h.get 0 rfl, dK?, Option.map_some, kvD_look, Option.isSome_map]
  exact q
theorem kv_new {δ : Slots} (h : DL.St k m L) (q : ∀ p m', DL.St k m' ((p, .dct (kvD [])) :: L) → Q (.ref p) m') : wDict0 δ m Q := fun p hp => q p _ (h.new hp _)
theorem kv_set {Q : Sto → Prop} (h : DL.St k m ((dd, .dct (kvD xs)) :: L)) (hl : xs.length < 64) (e : xs.lookup i = none) (q : ∀ m', DL.St k m' ((dd, .dct (kvD (xs ++ [(i, t)]))) :: L) → Q m') : setD (.ref dd) (.int i) (.str t) m Q := by
  unfold setD
  simp only [h.get 0 rfl, dK?]
  refine ⟨by rw [kvD_len, sizeLine_eq]; omega, ?_⟩
  rw [kvD_put xs i t e]
  exact q _ (h.put 0 _ rfl)
end
section
variable {k m : Sto} {L : List (Addr × MO)} {a dd : Addr} {n many : Int} {xs : KVs} {runs : Bool} {Q : DK}
theorem sp_tinit (h : DL.St k m ((a, .ins 3 []) :: L)) (q : ∀ m' dd, DL.St k m' ((a, tk 0 0 dd false) :: (dd, .dct (kvD [])) :: L) → Q .non m') : S_Taker_init0 [.ref a] m Q := by
  with_reducible
    delta Law.S_Taker_init0
    refine U.ar (by with_unfolding_all rfl) ?_
    refine U.run ?_
    delta Law.w_Taker_init0
    refine U.seq ?_
    refine U.setF_ ?_
    refine U.cs ?_
    refine U.v (by with_unfolding_all rfl) ?_
    refine U.setR h (by decide +kernel) ?_
    intro m1
    intro I1
    clear h
    refine U.pnx ?_
    refine U.seq ?_
    refine U.setF_ ?_
    refine U.cs ?_
    refine U.v (by with_unfolding_all rfl) ?_
    refine U.setR I1 (by decide +kernel) ?_
    intro m2
    intro I2
    clear I1
    refine U.pnx ?_
    refine U.seq ?_
    refine U.setF_ ?_
  refine kv_new I2 ?_
  with_reducible
    intro p1
    intro m3
    intro I1
    clear I2
    refine U.v (by with_unfolding_all rfl) ?_
    refine U.setR I1.f1 (by decide +kernel) ?_
    intro m4
    intro I2
    clear I1
    refine U.pnx ?_
    refine U.setF_ ?_
    refine U.cs ?_
    refine U.v (by with_unfolding_all rfl) ?_
    refine U.setR I2 (of_decide_eq_true (by kernel_rfl)) ?_
    intro m5
    intro I1
    clear I2
    refine U.pnx ?_
  exact q _ _ I1.f1.f1
def wholeB (n many : Int) (xs : KVs) : Bool := decide (0 < n) && decide ((xs.length : Int) = many)
theorem sp_whole (h : DL.St k m ((a, tk n many dd runs) :: (dd, .dct (kvD xs)) :: L)) (q : ∀ m', DL.St k m' ((a, tk n many dd runs) :: (dd, .dct (kvD xs)) :: L) → Q (.bl (wholeB n many xs)) m') : S_Taker_is_whole [.ref a] m Q := by
  have q' := q m h
  unfold wholeB at q'
  by_cases hb : 0 < n
  · rw [decide_eq_true hb, Bool.true_and] at q'
    have hb2 : decide (0 < n) = true := decide_eq_true hb
    with_reducible
      delta Law.S_Taker_is_whole
      refine U.ar (by with_unfolding_all rfl) ?_
      refine U.run ?_
      delta Law.w_Taker_is_whole
      refine U.ret ?_
      refine U.and ?_
      refine U.op ?_
      refine U.fld ?_
      refine U.v (by with_unfolding_all rfl) ?_
      refine U.fldR h.g0 (by with_unfolding_all rfl) ?_
      refine U.cs ?_
      refine U.rel ?_
      refine U.truB ?_
    refine U.bt (by assumption) ?_
    with_reducible
      refine U.op ?_
      refine U.bi ?_
      refine U.cons ?_
      refine U.fld ?_
      refine U.v (by with_unfolding_all rfl) ?_
      refine U.fldR h.g0 (by with_unfolding_all rfl) ?_
      refine U.nil ?_
    refine kv_len h.f1 ?_
    with_reducible
      refine U.fld ?_
      refine U.v (by with_unfolding_all rfl) ?_
      refine U.fldR h.g0 (by with_unfolding_all rfl) ?_
      refine U.eqI ?_
      refine U.prt ?_
    rw [Bool.false_xor]; exact q'
  · rw [decide_eq_false hb, Bool.false_and] at q'
    have hb2 : decide (0 < n) = false := decide_eq_false hb
    with_reducible
      delta Law.S_Taker_is_whole
      refine U.ar (by with_unfolding_all rfl) ?_
      refine U.run ?_
      delta Law.w_Taker_is_whole
      refine U.ret ?_
      refine U.and ?_
      refine U.op ?_
      refine U.fld ?_
      refine U.v (by with_unfolding_all rfl) ?_
      refine U.fldR h.g0 (by with_unfolding_all rfl) ?_
      refine U.cs ?_
      refine U.rel ?_
      refine U.truB ?_
    refine U.bf (by assumption) ?_
    with_reducible
      refine U.prt ?_
    show Q (.bl (decide (0 < n))) _
    rw [hb2]; exact q'
def tmsgs (n many : Int) (xs : KVs) (runs : Bool) : List DV := if runs = true then [.tup [.str "going", .int n]] else if wholeB n many xs = true then [.tup [.str "whole", .int n]] else []
theorem sp_tmsgs (h : DL.St k m ((a, tk n many dd runs) :: (dd, .dct (kvD xs)) :: L)) (q : ∀ m', DL.St k m' ((a, tk n many dd runs) :: (dd, .dct (kvD xs)) :: L) → Q (.lst (tmsgs n many xs runs)) m') : S_Taker_messages [.ref a] m Q := by
  have q' := q
  unfold tmsgs at q'
  cases runs
  · with_reducible
      delta Law.S_Taker_messages
      refine U.ar (by with_unfolding_all rfl) ?_
      refine U.run ?_
      delta Law.w_Taker_messages
      refine U.seq ?_
      refine U.ifs ?_
      refine U.tru ?_
      refine U.fld ?_
      refine U.v (by with_unfolding_all rfl) ?_
      refine U.fldR h.g0 (by with_unfolding_all rfl) ?_
      refine U.truB ?_
      refine U.bf (by decide +kernel) ?_
      refine U.next ?_
      refine U.pnx ?_
      refine U.ret ?_
      refine U.ife ?_
      refine U.tru ?_
      refine U.meth ?_
      refine U.v (by with_unfolding_all rfl) ?_
      refine And.intro (U.has h.g0) ?_
      refine U.nil ?_
    refine sp_whole h.f1.f1 ?_
    with_reducible
      intro m1
      intro I1
      clear h
      refine U.truB ?_
    by_cases hw : wholeB n many xs = true
    · rw [if_pos hw] at q' ⊢
      with_reducible
        refine U.lst ?_
        refine U.cons ?_
        refine U.tup ?_
        refine U.cons ?_
        refine U.cs ?_
        refine U.cons ?_
        refine U.fld ?_
        refine U.v (by with_unfolding_all rfl) ?_
        refine U.fldR I1.g0 (by with_unfolding_all rfl) ?_
        refine U.nil ?_
        refine And.intro (of_decide_eq_true (by kernel_rfl)) ?_
        refine U.nil ?_
        refine And.intro (of_decide_eq_true (by kernel_rfl)) ?_
        refine U.newD ?_
        refine U.prt ?_
      exact q' _ I1.f1.f1
    · rw [if_neg hw] at q' ⊢
      with_reducible
        refine U.lst ?_
        refine U.nil ?_
        refine And.intro (by decide +kernel) ?_
        refine U.newD ?_
        refine U.prt ?_
      exact q' _ I1.f1.f1
  · rw [if_pos rfl] at q'
    with_reducible
      delta Law.S_Taker_messages
      refine U.ar (by with_unfolding_all rfl) ?_
      refine U.run ?_
      delta Law.w_Taker_messages
      refine U.seq ?_
      refine U.ifs ?_
      refine U.tru ?_
      refine U.fld ?_
      refine U.v (by with_unfolding_all rfl) ?_
      refine U.fldR h.g0 (by with_unfolding_all rfl) ?_
      refine U.truB ?_
      refine U.bt (by decide +kernel) ?_
      refine U.ret ?_
      refine U.lst ?_
      refine U.cons ?_
      refine U.tup ?_
      refine U.cons ?_
      refine U.cs ?_
      refine U.cons ?_
      refine U.fld ?_
      refine U.v (by with_unfolding_all rfl) ?_
      refine U.fldR h.g0 (by with_unfolding_all rfl) ?_
      refine U.nil ?_
      refine And.intro (of_decide_eq_true (by kernel_rfl)) ?_
      refine U.nil ?_
      refine And.intro (of_decide_eq_true (by kernel_rfl)) ?_
      refine U.newD ?_
      refine U.prt ?_
      refine U.prt ?_
    exact q' _ h.f1.f1
/-- what the taker is behind a piece -/
def keepF (n many : Int) (xs : KVs) (i idx mny : Int) (t : Str) : Int × Int × KVs :=
  let s : Int × Int × KVs := if n < i then (i, mny, []) else (n, many, xs)
  if i = s.1 ∧ s.2.2.lookup idx = none then (s.1, s.2.1, s.2.2 ++ [(idx, t)]) else s
theorem sp_keep {i idx mny : Int} {t : Str} (hl : xs.length < 60) (h : DL.St k m ((a, tk n many dd runs) :: (dd, .dct (kvD xs)) :: L))
    (q : ∀ m' dd, DL.St k m' ((a, tk (keepF n many xs i idx mny t).1 (keepF n many xs i idx mny t).2.1 dd runs) :: (dd, .dct (kvD (keepF n many xs i idx mny t).2.2)) :: L) → Q .non m') : S_Taker_keep [.ref a, .int i, .int idx, .int mny, .str t] m Q := by
  unfold keepF at q
  by_cases h1 : n < i
  · simp only [if_pos h1, List.lookup_nil, and_self, if_true] at q
    with_reducible
      delta Law.S_Taker_keep
      refine U.ar (of_decide_eq_true (by kernel_rfl)) ?_
      refine U.run ?_
      delta Law.w_Taker_keep
      refine U.seq ?_
      refine U.ifs ?_
      refine U.bl ?_
      refine U.op ?_
      refine U.v (by with_unfolding_all rfl) ?_
      refine U.fld ?_
      refine U.v (by with_unfolding_all rfl) ?_
      refine U.fldR h.g0 (by with_unfolding_all rfl) ?_
      refine U.rel ?_
    refine U.bt (by simp only [decide_eq_true_eq, decide_eq_false_iff_not, beq_iff_eq, bne_iff_ne, Bool.not_eq_true', Bool.not_eq_false', Bool.false_xor, Bool.true_xor]; first | assumption | omega) ?_
    with_reducible
      refine U.seq ?_
      refine U.setF_ ?_
      refine U.v (by with_unfolding_all rfl) ?_
      refine U.v (by with_unfolding_all rfl) ?_
      refine U.setR h (of_decide_eq_true (by kernel_rfl)) ?_
      intro m1
      intro I1
      clear h
      refine U.pnx ?_
      refine U.seq ?_
      refine U.setF_ ?_
      refine U.v (by with_unfolding_all rfl) ?_
      refine U.v (by with_unfolding_all rfl) ?_
      refine U.setR I1 (of_decide_eq_true (by kernel_rfl)) ?_
      intro m2
      intro I2
      clear I1
      refine U.pnx ?_
      refine U.setF_ ?_
    refine kv_new I2 ?_
    with_reducible
      intro p1
      intro m3
      intro I1
      clear I2
      refine U.v (by with_unfolding_all rfl) ?_
      refine U.setR I1.f1 (of_decide_eq_true (by kernel_rfl)) ?_
      intro m4
      intro I2
      clear I1
      refine U.pnx ?_
      refine U.ifs ?_
      refine U.andT ?_
      refine U.bl ?_
      refine U.op ?_
      refine U.v (by with_unfolding_all rfl) ?_
      refine U.fld ?_
      refine U.v (by with_unfolding_all rfl) ?_
      refine U.fldR I2.g0 (by with_unfolding_all rfl) ?_
      refine U.eqI ?_
    refine U.bt (by simp) ?_
    with_reducible
      refine U.bl ?_
      refine U.op ?_
      refine U.v (by with_unfolding_all rfl) ?_
      refine U.fld ?_
      refine U.v (by with_unfolding_all rfl) ?_
      refine U.fldR I2.g0 (by with_unfolding_all rfl) ?_
    refine kv_in I2.f1 ?_
    with_reducible
      refine U.bt (by kernel_rfl) ?_
      refine U.asg ?_
      refine U.v (by with_unfolding_all rfl) ?_
      refine U.gsub ?_
      refine U.fld ?_
      refine U.v (by with_unfolding_all rfl) ?_
      refine U.fldR I2.g0 (by with_unfolding_all rfl) ?_
      refine U.v (by with_unfolding_all rfl) ?_
    refine kv_set I2.f1 (by decide +kernel) (of_decide_eq_true (by kernel_rfl)) ?_
    with_reducible
      intro m5
      intro I1
      clear I2
      refine U.pnx ?_
    exact q _ _ I1.f1.d2
  · simp only [if_neg h1] at q
    by_cases h2 : i = n
    · subst h2
      cases h3 : xs.lookup idx with
      | none =>
        simp only [h3, and_self, if_true] at q
        with_reducible
          delta Law.S_Taker_keep
          refine U.ar (of_decide_eq_true (by kernel_rfl)) ?_
          refine U.run ?_
          delta Law.w_Taker_keep
          refine U.seq ?_
          refine U.ifs ?_
          refine U.bl ?_
          refine U.op ?_
          refine U.v (by with_unfolding_all rfl) ?_
          refine U.fld ?_
          refine U.v (by with_unfolding_all rfl) ?_
          refine U.fldR h.g0 (by with_unfolding_all rfl) ?_
          refine U.rel ?_
        refine U.bf (by simp only [decide_eq_true_eq, decide_eq_false_iff_not, beq_iff_eq, bne_iff_ne, Bool.not_eq_true', Bool.not_eq_false', Bool.false_xor, Bool.true_xor]; first | assumption | omega) ?_
        with_reducible
          refine U.next ?_
          refine U.pnx ?_
          refine U.ifs ?_
          refine U.andT ?_
          refine U.bl ?_
          refine U.op ?_
          refine U.v (by with_unfolding_all rfl) ?_
          refine U.fld ?_
          refine U.v (by with_unfolding_all rfl) ?_
          refine U.fldR h.g0 (by with_unfolding_all rfl) ?_
          refine U.eqI ?_
        refine U.bt (by simp) ?_
        with_reducible
          refine U.bl ?_
          refine U.op ?_
          refine U.v (by with_unfolding_all rfl) ?_
          refine U.fld ?_
          refine U.v (by with_unfolding_all rfl) ?_
          refine U.fldR h.g0 (by with_unfolding_all rfl) ?_
        refine kv_in h.f1 ?_
        refine U.bt (by simp [PySem.SeqAt.shaped, PySem.PyData.canLay0, PySem.PyData.canLayAll0, PySem.PyData.depth, PySem.PyData.depthAll, PySem.PyData.eqv, PySem.PyData.eqvAll, *]) ?_
        with_reducible
          refine U.asg ?_
          refine U.v (by with_unfolding_all rfl) ?_
          refine U.gsub ?_
          refine U.fld ?_
          refine U.v (by with_unfolding_all rfl) ?_
          refine U.fldR h.g0 (by with_unfolding_all rfl) ?_
          refine U.v (by with_unfolding_all rfl) ?_
        refine kv_set h.f1 (by omega) h3 ?_
        with_reducible
          intro m1
          intro I1
          clear h
          refine U.pnx ?_
        exact q _ _ I1.f1
      | some u =>
        simp only [h3, reduceCtorEq, and_false, if_false] at q
        with_reducible
          delta Law.S_Taker_keep
          refine U.ar (of_decide_eq_true (by kernel_rfl)) ?_
          refine U.run ?_
          delta Law.w_Taker_keep
          refine U.seq ?_
          refine U.ifs ?_
          refine U.bl ?_
          refine U.op ?_
          refine U.v (by with_unfolding_all rfl) ?_
          refine U.fld ?_
          refine U.v (by with_unfolding_all rfl) ?_
          refine U.fldR h.g0 (by with_unfolding_all rfl) ?_
          refine U.rel ?_
        refine U.bf (by simp only [decide_eq_true_eq, decide_eq_false_iff_not, beq_iff_eq, bne_iff_ne, Bool.not_eq_true', Bool.not_eq_false', Bool.false_xor, Bool.true_xor]; first | assumption | omega) ?_
        with_reducible
          refine U.next ?_
          refine U.pnx ?_
          refine U.ifs ?_
          refine U.andT ?_
          refine U.bl ?_
          refine U.op ?_
          refine U.v (by with_unfolding_all rfl) ?_
          refine U.fld ?_
          refine U.v (by with_unfolding_all rfl) ?_
          refine U.fldR h.g0 (by with_unfolding_all rfl) ?_
          refine U.eqI ?_
        refine U.bt (by simp) ?_
        with_reducible
          refine U.bl ?_
          refine U.op ?_
          refine U.v (by with_unfolding_all rfl) ?_
          refine U.fld ?_
          refine U.v (by with_unfolding_all rfl) ?_
          refine U.fldR h.g0 (by with_unfolding_all rfl) ?_
        refine kv_in h.f1 ?_
        refine U.bf (by simp [PySem.SeqAt.shaped, PySem.PyData.canLay0, PySem.PyData.canLayAll0, PySem.PyData.depth, PySem.PyData.depthAll, PySem.PyData.eqv, PySem.PyData.eqvAll, *]) ?_
        with_reducible
          refine U.next ?_
          refine U.pnx ?_
        exact q _ _ h.f1.f1
    · simp only [h2, false_and, if_false] at q
      with_reducible
        delta Law.S_Taker_keep
        refine U.ar (of_decide_eq_true (by kernel_rfl)) ?_
        refine U.run ?_
        delta Law.w_Taker_keep
        refine U.seq ?_
        refine U.ifs ?_
        refine U.bl ?_
        refine U.op ?_
        refine U.v (by with_unfolding_all rfl) ?_
        refine U.fld ?_
        refine U.v (by with_unfolding_all rfl) ?_
        refine U.fldR h.g0 (by with_unfolding_all rfl) ?_
        refine U.rel ?_
      refine U.bf (by simp only [decide_eq_true_eq, decide_eq_false_iff_not, beq_iff_eq, bne_iff_ne, Bool.not_eq_true', Bool.not_eq_false', Bool.false_xor, Bool.true_xor]; first | assumption | omega) ?_
      with_reducible
        refine U.next ?_
        refine U.pnx ?_
        refine U.ifs ?_
        refine U.andT ?_
        refine U.bl ?_
        refine U.op ?_
        refine U.v (by with_unfolding_all rfl) ?_
        refine U.fld ?_
        refine U.v (by with_unfolding_all rfl) ?_
        refine U.fldR h.g0 (by with_unfolding_all rfl) ?_
        refine U.eqI ?_
      refine U.bf (by simp only [decide_eq_true_eq, decide_eq_false_iff_not, beq_iff_eq, bne_iff_ne, Bool.not_eq_true', Bool.not_eq_false', Bool.false_xor, Bool.true_xor]; first | assumption | omega) ?_
      with_reducible
        refine U.bf (by decide +kernel) ?_
        refine U.next ?_
        refine U.pnx ?_
      exact q _ _ h.f1.f1
theorem trecv_piece {d : DV} {i idx mny : Int} {t : Str} (hd : d = .tup [.str "piece", .int i, .int idx, .int mny, .str t] ∨ d = .lst [.str "piece", .int i, .int idx, .int mny, .str t]) (hl : xs.length < 60) (h : DL.St k m ((a, tk n many dd false) :: (dd, .dct (kvD xs)) :: L))
    (q : ∀ m' dd, DL.St k m' ((a, tk (keepF n many xs i idx mny t).1 (keepF n many xs i idx mny t).2.1 dd false) :: (dd, .dct (kvD (keepF n many xs i idx mny t).2.2)) :: L) → Q .non m') : S_Taker_receive [.ref a, d] m Q := by
  rcases hd with rfl | rfl
  · with_reducible
      delta Law.S_Taker_receive
      refine U.ar (of_decide_eq_true (by kernel_rfl)) ?_
      refine U.run ?_
      delta Law.w_Taker_receive
      refine U.seq ?_
      refine U.asg ?_
      refine U.bi ?_
      refine U.cons ?_
      refine U.v (by with_unfolding_all rfl) ?_
      refine U.nil ?_
      refine U.tupT ?_
      refine U.gstar (by with_unfolding_all rfl) (of_decide_eq_true (by kernel_rfl)) (of_decide_eq_true (by kernel_rfl)) ?_
    refine U.gcons ?_
    with_reducible
      refine U.gn ?_
    refine U.gcons ?_
    with_reducible
      refine U.gn ?_
    refine U.gcons ?_
    with_reducible
      refine U.gn ?_
      refine U.gnil ?_
      refine U.pnx ?_
      refine U.seq ?_
      refine U.ifs ?_
      refine U.tru ?_
      refine U.fld ?_
      refine U.v (by with_unfolding_all rfl) ?_
      refine U.fldR h.g0 (by with_unfolding_all rfl) ?_
      refine U.truB ?_
      refine U.bf (by decide +kernel) ?_
      refine U.next ?_
      refine U.pnx ?_
      refine U.ifs ?_
      refine U.bl ?_
      refine U.op ?_
      refine U.v (by with_unfolding_all rfl) ?_
      refine U.cs ?_
      refine U.eqS ?_
      refine U.bt (by decide +kernel) ?_
      refine U.drop ?_
      refine U.meth ?_
      refine U.v (by with_unfolding_all rfl) ?_
      refine And.intro (U.has h.g0) ?_
      refine U.cons ?_
      refine U.v (by with_unfolding_all rfl) ?_
      refine U.cons ?_
      refine U.op ?_
      refine U.v (by with_unfolding_all rfl) ?_
      refine U.cs ?_
      refine U.ix0 (by with_unfolding_all rfl) ?_
      refine U.cons ?_
      refine U.op ?_
      refine U.v (by with_unfolding_all rfl) ?_
      refine U.cs ?_
      refine U.ix1 (by with_unfolding_all rfl) ?_
      refine U.cons ?_
      refine U.op ?_
      refine U.v (by with_unfolding_all rfl) ?_
      refine U.cs ?_
      refine U.ix2 (by with_unfolding_all rfl) ?_
      refine U.nil ?_
    refine sp_keep hl h.f1.f1 ?_
    with_reducible
      intro m1
      intro p1
      intro I1
      clear h
      refine U.pnx ?_
    exact q _ _ I1.f1.f1
  · with_reducible
      delta Law.S_Taker_receive
      refine U.ar (of_decide_eq_true (by kernel_rfl)) ?_
      refine U.run ?_
      delta Law.w_Taker_receive
      refine U.seq ?_
      refine U.asg ?_
      refine U.bi ?_
      refine U.cons ?_
      refine U.v (by with_unfolding_all rfl) ?_
      refine U.nil ?_
      refine U.tupL (by with_unfolding_all rfl) ?_
      refine U.gstar (by with_unfolding_all rfl) (of_decide_eq_true (by kernel_rfl)) (of_decide_eq_true (by kernel_rfl)) ?_
    refine U.gcons ?_
    with_reducible
      refine U.gn ?_
    refine U.gcons ?_
    with_reducible
      refine U.gn ?_
    refine U.gcons ?_
    with_reducible
      refine U.gn ?_
      refine U.gnil ?_
      refine U.pnx ?_
      refine U.seq ?_
      refine U.ifs ?_
      refine U.tru ?_
      refine U.fld ?_
      refine U.v (by with_unfolding_all rfl) ?_
      refine U.fldR h.g0 (by with_unfolding_all rfl) ?_
      refine U.truB ?_
      refine U.bf (by decide +kernel) ?_
      refine U.next ?_
      refine U.pnx ?_
      refine U.ifs ?_
      refine U.bl ?_
      refine U.op ?_
      refine U.v (by with_unfolding_all rfl) ?_
      refine U.cs ?_
      refine U.eqS ?_
      refine U.bt (by decide +kernel) ?_
      refine U.drop ?_
      refine U.meth ?_
      refine U.v (by with_unfolding_all rfl) ?_
      refine And.intro (U.has h.g0) ?_
      refine U.cons ?_
      refine U.v (by with_unfolding_all rfl) ?_
      refine U.cons ?_
      refine U.op ?_
      refine U.v (by with_unfolding_all rfl) ?_
      refine U.cs ?_
      refine U.ix0 (by with_unfolding_all rfl) ?_
      refine U.cons ?_
      refine U.op ?_
      refine U.v (by with_unfolding_all rfl) ?_
      refine U.cs ?_
      refine U.ix1 (by with_unfolding_all rfl) ?_
      refine U.cons ?_
      refine U.op ?_
      refine U.v (by with_unfolding_all rfl) ?_
      refine U.cs ?_
      refine U.ix2 (by with_unfolding_all rfl) ?_
      refine U.nil ?_
    refine sp_keep hl h.f1.f1 ?_
    with_reducible
      intro m1
      intro p1
      intro I1
      clear h
      refine U.pnx ?_
    exact q _ _ I1.f1.f1
theorem trecv_run {d : DV} {w : Str} {i : Int} {r : List DV} (hd : d = .tup (.str w :: .int i :: r) ∨ d = .lst (.str w :: .int i :: r)) (hl : r.length < 16) (h : DL.St k m ((a, tk n many dd true) :: (dd, .dct (kvD xs)) :: L))
    (q : ∀ m', DL.St k m' ((a, tk n many dd true) :: (dd, .dct (kvD xs)) :: L) → Q .non m') : S_Taker_receive [.ref a, d] m Q := by
  rcases hd with rfl | rfl
  · with_reducible
      delta Law.S_Taker_receive
      refine U.ar (of_decide_eq_true (by kernel_rfl)) ?_
      refine U.run ?_
      delta Law.w_Taker_receive
      refine U.seq ?_
      refine U.asg ?_
      refine U.bi ?_
      refine U.cons ?_
      refine U.v (by with_unfolding_all rfl) ?_
      refine U.nil ?_
      refine U.tupT ?_
      refine U.gstar (by with_unfolding_all rfl) (of_decide_eq_true (by kernel_rfl)) ?_ ?_
      rotate_left 1
    refine U.gcons ?_
    with_reducible
      refine U.gn ?_
    refine U.gcons ?_
    with_reducible
      refine U.gn ?_
    refine U.gcons ?_
    with_reducible
      refine U.gn ?_
      refine U.gnil ?_
      refine U.pnx ?_
      refine U.seq ?_
      refine U.ifs ?_
      refine U.tru ?_
      refine U.fld ?_
      refine U.v (by with_unfolding_all rfl) ?_
      refine U.fldR h.g0 (by with_unfolding_all rfl) ?_
      refine U.truB ?_
      refine U.bt (by decide +kernel) ?_
      refine U.retN ?_
      refine U.prt ?_
      refine U.prt ?_
    exact q _ h.f1.f1
    all_goals (simp only [List.length_cons]; omega)
  · with_reducible
      delta Law.S_Taker_receive
      refine U.ar (of_decide_eq_true (by kernel_rfl)) ?_
      refine U.run ?_
      delta Law.w_Taker_receive
      refine U.seq ?_
      refine U.asg ?_
      refine U.bi ?_
      refine U.cons ?_
      refine U.v (by with_unfolding_all rfl) ?_
      refine U.nil ?_
      refine U.tupL (by with_unfolding_all rfl) ?_
      refine U.gstar (by with_unfolding_all rfl) (of_decide_eq_true (by kernel_rfl)) ?_ ?_
      rotate_left 1
    refine U.gcons ?_
    with_reducible
      refine U.gn ?_
    refine U.gcons ?_
    with_reducible
      refine U.gn ?_
    refine U.gcons ?_
    with_reducible
      refine U.gn ?_
      refine U.gnil ?_
      refine U.pnx ?_
      refine U.seq ?_
      refine U.ifs ?_
      refine U.tru ?_
      refine U.fld ?_
      refine U.v (by with_unfolding_all rfl) ?_
      refine U.fldR h.g0 (by with_unfolding_all rfl) ?_
      refine U.truB ?_
      refine U.bt (by decide +kernel) ?_
      refine U.retN ?_
      refine U.prt ?_
      refine U.prt ?_
    exact q _ h.f1.f1
    all_goals (simp only [List.length_cons]; omega)
theorem trecv_go {d : DV} {i : Int} (hd : d = .tup [.str "go", .int i] ∨ d = .lst [.str "go", .int i]) (h : DL.St k m ((a, tk n many dd false) :: (dd, .dct (kvD xs)) :: L))
    (q : ∀ m', DL.St k m' ((a, tk n many dd (decide (i = n) && wholeB n many xs)) :: (dd, .dct (kvD xs)) :: L) → Q .non m') : S_Taker_receive [.ref a, d] m Q := by
  rcases hd with rfl | rfl
  · by_cases h1 : i = n
    · subst h1
      rw [decide_eq_true rfl, Bool.true_and] at q
      cases hw : wholeB i many xs
      · rw [hw] at q
        with_reducible
          delta Law.S_Taker_receive
          refine U.ar (of_decide_eq_true (by kernel_rfl)) ?_
          refine U.run ?_
          delta Law.w_Taker_receive
          refine U.seq ?_
          refine U.asg ?_
          refine U.bi ?_
          refine U.cons ?_
          refine U.v (by with_unfolding_all rfl) ?_
          refine U.nil ?_
          refine U.tupT ?_
          refine U.gstar (by with_unfolding_all rfl) (of_decide_eq_true (by kernel_rfl)) (of_decide_eq_true (by kernel_rfl)) ?_
        refine U.gcons ?_
        with_reducible
          refine U.gn ?_
        refine U.gcons ?_
        with_reducible
          refine U.gn ?_
        refine U.gcons ?_
        with_reducible
          refine U.gn ?_
          refine U.gnil ?_
          refine U.pnx ?_
          refine U.seq ?_
          refine U.ifs ?_
          refine U.tru ?_
          refine U.fld ?_
          refine U.v (by with_unfolding_all rfl) ?_
          refine U.fldR h.g0 (by with_unfolding_all rfl) ?_
          refine U.truB ?_
          refine U.bf (by decide +kernel) ?_
          refine U.next ?_
          refine U.pnx ?_
          refine U.ifs ?_
          refine U.bl ?_
          refine U.op ?_
          refine U.v (by with_unfolding_all rfl) ?_
          refine U.cs ?_
          refine U.eqS ?_
          refine U.bf (by decide +kernel) ?_
          refine U.ifs ?_
          refine U.andT ?_
          refine U.bl ?_
          refine U.op ?_
          refine U.v (by with_unfolding_all rfl) ?_
          refine U.cs ?_
          refine U.eqS ?_
          refine U.bt (by decide +kernel) ?_
          refine U.andT ?_
          refine U.bl ?_
          refine U.op ?_
          refine U.v (by with_unfolding_all rfl) ?_
          refine U.fld ?_
          refine U.v (by with_unfolding_all rfl) ?_
          refine U.fldR h.g0 (by with_unfolding_all rfl) ?_
          refine U.eqI ?_
        refine U.bt (by simp) ?_
        with_reducible
          refine U.tru ?_
          refine U.meth ?_
          refine U.v (by with_unfolding_all rfl) ?_
          refine And.intro (U.has h.g0) ?_
          refine U.nil ?_
        refine sp_whole h.f1.f1 ?_
        with_reducible
          intro m1
          intro I1
          clear h
          refine U.truB ?_
        refine U.bf (by assumption) ?_
        with_reducible
          refine U.next ?_
          refine U.pnx ?_
        exact q _ I1.f1.f1
      · rw [hw] at q
        with_reducible
          delta Law.S_Taker_receive
          refine U.ar (of_decide_eq_true (by kernel_rfl)) ?_
          refine U.run ?_
          delta Law.w_Taker_receive
          refine U.seq ?_
          refine U.asg ?_
          refine U.bi ?_
          refine U.cons ?_
          refine U.v (by with_unfolding_all rfl) ?_
          refine U.nil ?_
          refine U.tupT ?_
          refine U.gstar (by with_unfolding_all rfl) (of_decide_eq_true (by kernel_rfl)) (of_decide_eq_true (by kernel_rfl)) ?_
        refine U.gcons ?_
        with_reducible
          refine U.gn ?_
        refine U.gcons ?_
        with_reducible
          refine U.gn ?_
        refine U.gcons ?_
        with_reducible
          refine U.gn ?_
          refine U.gnil ?_
          refine U.pnx ?_
          refine U.seq ?_
          refine U.ifs ?_
          refine U.tru ?_
          refine U.fld ?_
          refine U.v (by with_unfolding_all rfl) ?_
          refine U.fldR h.g0 (by with_unfolding_all rfl) ?_
          refine U.truB ?_
          refine U.bf (by decide +kernel) ?_
          refine U.next ?_
          refine U.pnx ?_
          refine U.ifs ?_
          refine U.bl ?_
          refine U.op ?_
          refine U.v (by with_unfolding_all rfl) ?_
          refine U.cs ?_
          refine U.eqS ?_
          refine U.bf (by decide +kernel) ?_
          refine U.ifs ?_
          refine U.andT ?_
          refine U.bl ?_
          refine U.op ?_
          refine U.v (by with_unfolding_all rfl) ?_
          refine U.cs ?_
          refine U.eqS ?_
          refine U.bt (by decide +kernel) ?_
          refine U.andT ?_
          refine U.bl ?_
          refine U.op ?_
          refine U.v (by with_unfolding_all rfl) ?_
          refine U.fld ?_
          refine U.v (by with_unfolding_all rfl) ?_
          refine U.fldR h.g0 (by with_unfolding_all rfl) ?_
          refine U.eqI ?_
        refine U.bt (by simp) ?_
        with_reducible
          refine U.tru ?_
          refine U.meth ?_
          refine U.v (by with_unfolding_all rfl) ?_
          refine And.intro (U.has h.g0) ?_
          refine U.nil ?_
        refine sp_whole h.f1.f1 ?_
        with_reducible
          intro m1
          intro I1
          clear h
          refine U.truB ?_
        refine U.bt (by assumption) ?_
        with_reducible
          refine U.setF_ ?_
          refine U.cs ?_
          refine U.v (by with_unfolding_all rfl) ?_
          refine U.setR I1 (of_decide_eq_true (by kernel_rfl)) ?_
          intro m2
          intro I2
          clear I1
          refine U.pnx ?_
        exact q _ I2.f1.f1
    · rw [decide_eq_false h1, Bool.false_and] at q
      with_reducible
        delta Law.S_Taker_receive
        refine U.ar (of_decide_eq_true (by kernel_rfl)) ?_
        refine U.run ?_
        delta Law.w_Taker_receive
        refine U.seq ?_
        refine U.asg ?_
        refine U.bi ?_
        refine U.cons ?_
        refine U.v (by with_unfolding_all rfl) ?_
        refine U.nil ?_
        refine U.tupT ?_
        refine U.gstar (by with_unfolding_all rfl) (of_decide_eq_true (by kernel_rfl)) (of_decide_eq_true (by kernel_rfl)) ?_
      refine U.gcons ?_
      with_reducible
        refine U.gn ?_
      refine U.gcons ?_
      with_reducible
        refine U.gn ?_
      refine U.gcons ?_
      with_reducible
        refine U.gn ?_
        refine U.gnil ?_
        refine U.pnx ?_
        refine U.seq ?_
        refine U.ifs ?_
        refine U.tru ?_
        refine U.fld ?_
        refine U.v (by with_unfolding_all rfl) ?_
        refine U.fldR h.g0 (by with_unfolding_all rfl) ?_
        refine U.truB ?_
        refine U.bf (by decide +kernel) ?_
        refine U.next ?_
        refine U.pnx ?_
        refine U.ifs ?_
        refine U.bl ?_
        refine U.op ?_
        refine U.v (by with_unfolding_all rfl) ?_
        refine U.cs ?_
        refine U.eqS ?_
        refine U.bf (by decide +kernel) ?_
        refine U.ifs ?_
        refine U.andT ?_
        refine U.bl ?_
        refine U.op ?_
        refine U.v (by with_unfolding_all rfl) ?_
        refine U.cs ?_
        refine U.eqS ?_
        refine U.bt (by decide +kernel) ?_
        refine U.andT ?_
        refine U.bl ?_
        refine U.op ?_
        refine U.v (by with_unfolding_all rfl) ?_
        refine U.fld ?_
        refine U.v (by with_unfolding_all rfl) ?_
        refine U.fldR h.g0 (by with_unfolding_all rfl) ?_
        refine U.eqI ?_
      refine U.bf (by simp only [decide_eq_true_eq, decide_eq_false_iff_not, beq_iff_eq, bne_iff_ne, Bool.not_eq_true', Bool.not_eq_false', Bool.false_xor, Bool.true_xor]; first | assumption | omega) ?_
      with_reducible
        refine U.bf (by decide +kernel) ?_
        refine U.next ?_
        refine U.pnx ?_
      exact q _ h.f1.f1
  · by_cases h1 : i = n
    · subst h1
      rw [decide_eq_true rfl, Bool.true_and] at q
      cases hw : wholeB i many xs
      · rw [hw] at q
        with_reducible
          delta Law.S_Taker_receive
          refine U.ar (of_decide_eq_true (by kernel_rfl)) ?_
          refine U.run ?_
          delta Law.w_Taker_receive
          refine U.seq ?_
          refine U.asg ?_
          refine U.bi ?_
          refine U.cons ?_
          refine U.v (by with_unfolding_all rfl) ?_
          refine U.nil ?_
          refine U.tupL (by with_unfolding_all rfl) ?_
          refine U.gstar (by with_unfolding_all rfl) (of_decide_eq_true (by kernel_rfl)) (of_decide_eq_true (by kernel_rfl)) ?_
        refine U.gcons ?_
        with_reducible
          refine U.gn ?_
        refine U.gcons ?_
        with_reducible
          refine U.gn ?_
        refine U.gcons ?_
        with_reducible
          refine U.gn ?_
          refine U.gnil ?_
          refine U.pnx ?_
          refine U.seq ?_
          refine U.ifs ?_
          refine U.tru ?_
          refine U.fld ?_
          refine U.v (by with_unfolding_all rfl) ?_
          refine U.fldR h.g0 (by with_unfolding_all rfl) ?_
          refine U.truB ?_
          refine U.bf (by decide +kernel) ?_
          refine U.next ?_
          refine U.pnx ?_
          refine U.ifs ?_
          refine U.bl ?_
          refine U.op ?_
          refine U.v (by with_unfolding_all rfl) ?_
          refine U.cs ?_
          refine U.eqS ?_
          refine U.bf (by decide +kernel) ?_
          refine U.ifs ?_
          refine U.andT ?_
          refine U.bl ?_
          refine U.op ?_
          refine U.v (by with_unfolding_all rfl) ?_
          refine U.cs ?_
          refine U.eqS ?_
          refine U.bt (by decide +kernel) ?_
          refine U.andT ?_
          refine U.bl ?_
          refine U.op ?_
          refine U.v (by with_unfolding_all rfl) ?_
          refine U.fld ?_
          refine U.v (by with_unfolding_all rfl) ?_
          refine U.fldR h.g0 (by with_unfolding_all rfl) ?_
          refine U.eqI ?_
        refine U.bt (by simp) ?_
        with_reducible
          refine U.tru ?_
          refine U.meth ?_
          refine U.v (by with_unfolding_all rfl) ?_
          refine And.intro (U.has h.g0) ?_
          refine U.nil ?_
        refine sp_whole h.f1.f1 ?_
        with_reducible
          intro m1
          intro I1
          clear h
          refine U.truB ?_
        refine U.bf (by assumption) ?_
        with_reducible
          refine U.next ?_
          refine U.pnx ?_
        exact q _ I1.f1.f1
      · rw [hw] at q
        with_reducible
          delta Law.S_Taker_receive
          refine U.ar (of_decide_eq_true (by kernel_rfl)) ?_
          refine U.run ?_
          delta Law.w_Taker_receive
          refine U.seq ?_
          refine U.asg ?_
          refine U.bi ?_
          refine U.cons ?_
          refine U.v (by with_unfolding_all rfl) ?_
          refine U.nil ?_
          refine U.tupL (by with_unfolding_all rfl) ?_
          refine U.gstar (by with_unfolding_all rfl) (of_decide_eq_true (by kernel_rfl)) (of_decide_eq_true (by kernel_rfl)) ?_
        refine U.gcons ?_
        with_reducible
          refine U.gn ?_
        refine U.gcons ?_
        with_reducible
          refine U.gn ?_
        refine U.gcons ?_
        with_reducible
          refine U.gn ?_
          refine U.gnil ?_
          refine U.pnx ?_
          refine U.seq ?_
          refine U.ifs ?_
          refine U.tru ?_
          refine U.fld ?_
          refine U.v (by with_unfolding_all rfl) ?_
          refine U.fldR h.g0 (by with_unfolding_all rfl) ?_
          refine U.truB ?_
          refine U.bf (by decide +kernel) ?_
          refine U.next ?_
          refine U.pnx ?_
          refine U.ifs ?_
          refine U.bl ?_
          refine U.op ?_
          refine U.v (by with_unfolding_all rfl) ?_
          refine U.cs ?_
          refine U.eqS ?_
          refine U.bf (by decide +kernel) ?_
          refine U.ifs ?_
          refine U.andT ?_
          refine U.bl ?_
          refine U.op ?_
          refine U.v (by with_unfolding_all rfl) ?_
          refine U.cs ?_
          refine U.eqS ?_
          refine U.bt (by decide +kernel) ?_
          refine U.andT ?_
          refine U.bl ?_
          refine U.op ?_
          refine U.v (by with_unfolding_all rfl) ?_
          refine U.fld ?_
          refine U.v (by with_unfolding_all rfl) ?_
          refine U.fldR h.g0 (by with_unfolding_all rfl) ?_
          refine U.eqI ?_
        refine U.bt (by simp) ?_
        with_reducible
          refine U.tru ?_
          refine U.meth ?_
          refine U.v (by with_unfolding_all rfl) ?_
          refine And.intro (U.has h.g0) ?_
          refine U.nil ?_
        refine sp_whole h.f1.f1 ?_
        with_reducible
          intro m1
          intro I1
          clear h
          refine U.truB ?_
        refine U.bt (by assumption) ?_
        with_reducible
          refine U.setF_ ?_
          refine U.cs ?_
          refine U.v (by with_unfolding_all rfl) ?_
          refine U.setR I1 (of_decide_eq_true (by kernel_rfl)) ?_
          intro m2
          intro I2
          clear I1
          refine U.pnx ?_
        exact q _ I2.f1.f1
    · rw [decide_eq_false h1, Bool.false_and] at q
      with_reducible
        delta Law.S_Taker_receive
        refine U.ar (of_decide_eq_true (by kernel_rfl)) ?_
        refine U.run ?_
        delta Law.w_Taker_receive
        refine U.seq ?_
        refine U.asg ?_
        refine U.bi ?_
        refine U.cons ?_
        refine U.v (by with_unfolding_all rfl) ?_
        refine U.nil ?_
        refine U.tupL (by with_unfolding_all rfl) ?_
        refine U.gstar (by with_unfolding_all rfl) (of_decide_eq_true (by kernel_rfl)) (of_decide_eq_true (by kernel_rfl)) ?_
      refine U.gcons ?_
      with_reducible
        refine U.gn ?_
      refine U.gcons ?_
      with_reducible
        refine U.gn ?_
      refine U.gcons ?_
      with_reducible
        refine U.gn ?_
        refine U.gnil ?_
        refine U.pnx ?_
        refine U.seq ?_
        refine U.ifs ?_
        refine U.tru ?_
        refine U.fld ?_
        refine U.v (by with_unfolding_all rfl) ?_
        refine U.fldR h.g0 (by with_unfolding_all rfl) ?_
        refine U.truB ?_
        refine U.bf (by decide +kernel) ?_
        refine U.next ?_
        refine U.pnx ?_
        refine U.ifs ?_
        refine U.bl ?_
        refine U.op ?_
        refine U.v (by with_unfolding_all rfl) ?_
        refine U.cs ?_
        refine U.eqS ?_
        refine U.bf (by decide +kernel) ?_
        refine U.ifs ?_
        refine U.andT ?_
        refine U.bl ?_
        refine U.op ?_
        refine U.v (by with_unfolding_all rfl) ?_
        refine U.cs ?_
        refine U.eqS ?_
        refine U.bt (by decide +kernel) ?_
        refine U.andT ?_
        refine U.bl ?_
        refine U.op ?_
        refine U.v (by with_unfolding_all rfl) ?_
        refine U.fld ?_
        refine U.v (by with_unfolding_all rfl) ?_
        refine U.fldR h.g0 (by with_unfolding_all rfl) ?_
        refine U.eqI ?_
      refine U.bf (by simp only [decide_eq_true_eq, decide_eq_false_iff_not, beq_iff_eq, bne_iff_ne, Bool.not_eq_true', Bool.not_eq_false', Bool.false_xor, Bool.true_xor]; first | assumption | omega) ?_
      with_reducible
        refine U.bf (by decide +kernel) ?_
        refine U.next ?_
        refine U.pnx ?_
      exact q _ h.f1.f1
theorem trecv_none {d : DV} {w : Str} {i : Int} (hd : d = .tup [.str w, .int i] ∨ d = .lst [.str w, .int i]) (hw : w ≠ "piece" ∧ w ≠ "go") (h : DL.St k m ((a, tk n many dd false) :: (dd, .dct (kvD xs)) :: L))
    (q : ∀ m', DL.St k m' ((a, tk n many dd false) :: (dd, .dct (kvD xs)) :: L) → Q .non m') : S_Taker_receive [.ref a, d] m Q := by
  rcases hd with rfl | rfl
  · with_reducible
      delta Law.S_Taker_receive
      refine U.ar (of_decide_eq_true (by kernel_rfl)) ?_
      refine U.run ?_
      delta Law.w_Taker_receive
      refine U.seq ?_
      refine U.asg ?_
      refine U.bi ?_
      refine U.cons ?_
      refine U.v (by with_unfolding_all rfl) ?_
      refine U.nil ?_
      refine U.tupT ?_
      refine U.gstar (by with_unfolding_all rfl) (of_decide_eq_true (by kernel_rfl)) (of_decide_eq_true (by kernel_rfl)) ?_
    refine U.gcons ?_
    with_reducible
      refine U.gn ?_
    refine U.gcons ?_
    with_reducible
      refine U.gn ?_
    refine U.gcons ?_
    with_reducible
      refine U.gn ?_
      refine U.gnil ?_
      refine U.pnx ?_
      refine U.seq ?_
      refine U.ifs ?_
      refine U.tru ?_
      refine U.fld ?_
      refine U.v (by with_unfolding_all rfl) ?_
      refine U.fldR h.g0 (by with_unfolding_all rfl) ?_
      refine U.truB ?_
      refine U.bf (by decide +kernel) ?_
      refine U.next ?_
      refine U.pnx ?_
      refine U.ifs ?_
      refine U.bl ?_
      refine U.op ?_
      refine U.v (by with_unfolding_all rfl) ?_
      refine U.cs ?_
      refine U.eqS ?_
    refine U.bf (by simp [PySem.SeqAt.shaped, PySem.PyData.canLay0, PySem.PyData.canLayAll0, PySem.PyData.depth, PySem.PyData.depthAll, PySem.PyData.eqv, PySem.PyData.eqvAll, *]) ?_
    with_reducible
      refine U.ifs ?_
      refine U.andT ?_
      refine U.bl ?_
      refine U.op ?_
      refine U.v (by with_unfolding_all rfl) ?_
      refine U.cs ?_
      refine U.eqS ?_
    refine U.bf (by simp [PySem.SeqAt.shaped, PySem.PyData.canLay0, PySem.PyData.canLayAll0, PySem.PyData.depth, PySem.PyData.depthAll, PySem.PyData.eqv, PySem.PyData.eqvAll, *]) ?_
    with_reducible
      refine U.bf (by decide +kernel) ?_
      refine U.next ?_
      refine U.pnx ?_
    exact q _ h.f1.f1
  · with_reducible
      delta Law.S_Taker_receive
      refine U.ar (of_decide_eq_true (by kernel_rfl)) ?_
      refine U.run ?_
      delta Law.w_Taker_receive
      refine U.seq ?_
      refine U.asg ?_
      refine U.bi ?_
      refine U.cons ?_
      refine U.v (by with_unfolding_all rfl) ?_
      refine U.nil ?_
      refine U.tupL (by with_unfolding_all rfl) ?_
      refine U.gstar (by with_unfolding_all rfl) (of_decide_eq_true (by kernel_rfl)) (of_decide_eq_true (by kernel_rfl)) ?_
    refine U.gcons ?_
    with_reducible
      refine U.gn ?_
    refine U.gcons ?_
    with_reducible
      refine U.gn ?_
    refine U.gcons ?_
    with_reducible
      refine U.gn ?_
      refine U.gnil ?_
      refine U.pnx ?_
      refine U.seq ?_
      refine U.ifs ?_
      refine U.tru ?_
      refine U.fld ?_
      refine U.v (by with_unfolding_all rfl) ?_
      refine U.fldR h.g0 (by with_unfolding_all rfl) ?_
      refine U.truB ?_
      refine U.bf (by decide +kernel) ?_
      refine U.next ?_
      refine U.pnx ?_
      refine U.ifs ?_
      refine U.bl ?_
      refine U.op ?_
      refine U.v (by with_unfolding_all rfl) ?_
      refine U.cs ?_
      refine U.eqS ?_
    refine U.bf (by simp [PySem.SeqAt.shaped, PySem.PyData.canLay0, PySem.PyData.canLayAll0, PySem.PyData.depth, PySem.PyData.depthAll, PySem.PyData.eqv, PySem.PyData.eqvAll, *]) ?_
    with_reducible
      refine U.ifs ?_
      refine U.andT ?_
      refine U.bl ?_
      refine U.op ?_
      refine U.v (by with_unfolding_all rfl) ?_
      refine U.cs ?_
      refine U.eqS ?_
    refine U.bf (by simp [PySem.SeqAt.shaped, PySem.PyData.canLay0, PySem.PyData.canLayAll0, PySem.PyData.depth, PySem.PyData.depthAll, PySem.PyData.eqv, PySem.PyData.eqvAll, *]) ?_
    with_reducible
      refine U.bf (by decide +kernel) ?_
      refine U.next ?_
      refine U.pnx ?_
    exact q _ h.f1.f1
def textF (xs : KVs) : Str := Txt.join "" ((sortI (xs.map (·.1))).map fun i => (xs.lookup i).getD "")
theorem sp_running_no (h : DL.St k m ((a, tk n many dd false) :: (dd, .dct (kvD xs)) :: L)) (q : ∀ m', DL.St k m' ((a, tk n many dd false) :: (dd, .dct (kvD xs)) :: L) → Q .non m') : S_Taker_running [.ref a] m Q := by
  with_reducible
    delta Law.S_Taker_running
    refine U.ar (by with_unfolding_all rfl) ?_
    refine U.run ?_
    delta Law.w_Taker_running
    refine U.seq ?_
    refine U.ifs ?_
    refine U.notT ?_
    refine U.tru ?_
    refine U.fld ?_
    refine U.v (by with_unfolding_all rfl) ?_
    refine U.fldR h.g0 (by with_unfolding_all rfl) ?_
    refine U.truB ?_
    refine U.bt (by decide +kernel) ?_
    refine U.ret ?_
    refine U.cs ?_
    refine U.prt ?_
    refine U.prt ?_
  exact q _ h.f1.f1
/-- "".join([d[i] for i in sorted(d)]) -/
theorem lc_text {st : Sto → Prop} {we : DE} {j : Nat} {δ : Slots} {D : Addr} (hxl : xs.length < 64) (hst : ∀ m, st m) (hj : j < δ.length)
    (hwe : ∀ v m acc (K : DK), DL.St k m ((D, .lst acc) :: (dd, .dct (kvD xs)) :: L) → K (.ref dd) m → we (δ.set j v) m K) {m : Sto} (h : DL.St k m ((D, .lst []) :: (dd, .dct (kvD xs)) :: L))
    (q : ∀ m', DL.St k m' ((dd, .dct (kvD xs)) :: L) → Q (.lst (((sortI (xs.map (·.1))).map fun i => (xs.lookup i).getD "").map DV.str)) m') :
    lcGo ⟨(sortI (xs.map (·.1))).map DV.int, st, none⟩ (gN j) wYes (wOp dIx we (wVar j)) δ D (lcFin false D Q) ((sortI (xs.map (·.1))).map DV.int) [] m := by
  refine lc_all (k := k) (L := (dd, .dct (kvD xs)) :: L) (fun d => match d with | .int i => .str ((xs.lookup i).getD "") | _ => .non) (fun m acc _ => hst m) ?_ h ?_ ?_
  · intro x hx acc m K h hK
    obtain ⟨i, hi, rfl⟩ := List.mem_map.mp hx
    have hi2 : i ∈ xs.map (·.1) := (sortI_perm _).mem_iff.mp hi
    have e : ∃ t, xs.lookup i = some t := by
      cases e : xs.lookup i with
      | some t => exact ⟨t, rfl⟩
      | none =>
        exfalso
        obtain ⟨p, hp, rfl⟩ := List.mem_map.mp hi2
        rw [List.lookup_eq_none_iff] at e
        simpa using e p hp
    obtain ⟨t, e⟩ := e
    show we _ m fun x m1 => wVar j _ m1 fun y m2 => dIx x y m2 K
    refine hwe _ _ acc _ h ?_
    refine go_var (d := .int i) (by rw [List.getElem?_set_self hj]) ?_
    unfold dIx dictAt
    simp only [h.get 1 rfl, dK?, Option.map_some, kvD_look, e]
    have := hK m h
    simp only [e, Option.getD_some] at this
    exact this
  · rw [List.length_map, (sortI_perm _).length_eq, List.length_map, sizeLine_eq]; omega
  · intro m' h'
    have := q m' h'
    rw [List.map_map] at this ⊢
    exact this
theorem sum_short : ∀ (ys : List Str), (∀ y ∈ ys, y.length ≤ 64) → (ys.map (·.length)).sum ≤ 64 * ys.length
  | [], _ => Nat.le_refl _
  | y :: ys, h => by
    have h1 := h y List.mem_cons_self
    have h2 := sum_short ys fun z hz => h z (List.mem_cons_of_mem _ hz)
    rw [List.map_cons, List.sum_cons, List.length_cons]
    omega
def shortT (xs : KVs) : Prop := ∀ p ∈ xs, p.2.length ≤ 64
theorem text_bd (hxl : xs.length < 60) (hs : shortT xs) : ((((sortI (xs.map (·.1))).map fun i => (xs.lookup i).getD "").map (·.length)).sum + ((sortI (xs.map (·.1))).map fun i => (xs.lookup i).getD "").length * ("" : Str).length ≤ 16777216) := by
  have h1 := sum_short ((sortI (xs.map (·.1))).map fun i => (xs.lookup i).getD "") fun y hy => by
    obtain ⟨i, _, rfl⟩ := List.mem_map.mp hy
    cases e : xs.lookup i with
    | none => exact Nat.zero_le _
    | some t =>
      obtain ⟨l1, l2, e2, _⟩ := List.lookup_eq_some_iff.mp e
      exact hs (i, t) (by rw [e2]; simp)
  have h2 : ((sortI (xs.map (·.1))).map fun i => (xs.lookup i).getD "").length = xs.length := by
    rw [List.length_map, (sortI_perm _).length_eq, List.length_map]
  have h3 : ("" : Str).length = 0 := rfl
  rw [h2] at h1
  rw [h3, Nat.mul_zero]; omega
theorem sp_running (hxl : xs.length < 60) (hs : shortT xs) (h : DL.St k m ((a, tk n many dd true) :: (dd, .dct (kvD xs)) :: L)) (q : ∀ m', DL.St k m' ((a, tk n many dd true) :: (dd, .dct (kvD xs)) :: L) → Q (.str (textF xs)) m') : S_Taker_running [.ref a] m Q := by
  with_reducible
    delta Law.S_Taker_running
    refine U.ar (by with_unfolding_all rfl) ?_
    refine U.run ?_
    delta Law.w_Taker_running
    refine U.seq ?_
    refine U.ifs ?_
    refine U.notT ?_
    refine U.tru ?_
    refine U.fld ?_
    refine U.v (by with_unfolding_all rfl) ?_
    refine U.fldR h.g0 (by with_unfolding_all rfl) ?_
    refine U.truB ?_
    refine U.bf (by decide +kernel) ?_
    refine U.next ?_
    refine U.pnx ?_
    refine U.ret ?_
    refine U.join ?_
    refine U.cs ?_
    refine U.lc ?_
    refine U.any ?_
    refine U.bi ?_
    refine U.cons ?_
    refine U.fld ?_
    refine U.v (by with_unfolding_all rfl) ?_
    refine U.fldR h.g0 (by with_unfolding_all rfl) ?_
    refine U.nil ?_
  refine kv_sorted h.f1 (by omega) ?_
  with_reducible
    refine U.itL (by with_unfolding_all rfl) ?_
    refine U.mk h ?_
    intro p1
    intro m1
    intro I1
    clear h
  refine lc_text (L := (a, tk n many dd true) :: L) (by omega) (fun m => rfl) (by show 1 < 2; decide) ?_ (by exact I1.f1.f2.f2) ?_
  · intro v m acc K h hK
    with_reducible
      refine U.fld ?_
      refine U.v (by with_unfolding_all rfl) ?_
      refine U.fldR h.g2 (by with_unfolding_all rfl) ?_
    exact hK
  · intro m' h'
    refine ⟨_, rfl, ?_, ?_⟩
    · exact text_bd hxl hs
    · with_reducible
        refine U.prt ?_
      exact q _ h'.f1
end
end Law
namespace Law
open PySem PySem.Spec PyProof.Rows L2 DL
section
variable {k m : Sto} {L : List (Addr × MO)} {g : Addr} {ph : Str} {n : Int} {ps : List DV} {kn : Bool} {Q : DK}
theorem lfA_cons {x : DV} {xs : List DV} (h : lfB x = true) (g : lfA xs = true) : lfA (x :: xs) = true := by simp only [lfA, h, g]; rfl
theorem lfB_tup {xs : List DV} (h : lfA xs = true) : lfB (.tup xs) = true := by simp only [lfB, h]
theorem lfB_lst {xs : List DV} (h : lfA xs = true) : lfB (.lst xs) = true := by simp only [lfB, h]
theorem lfB_int {i : Int} (h : i.natAbs < 10 ^ 41) : lfB (.int i) = true := by simp only [lfB]; exact decide_eq_true h
end
theorem joinL_nil : ∀ ys : List (List Nat), TL.joinL [] ys = ys.flatten
  | [] => rfl
  | [p] => by simp [TL.joinL]
  | p :: q :: r => by rw [TL.joinL, joinL_nil (q :: r), List.nil_append]; rfl
theorem join_cps (ys : List Str) : (Txt.join "" ys).cps.toList = (ys.map fun y => y.cps.toList).flatten := by
  have e := congrArg TL.tl (TL.join_eq "" ys)
  rw [TL.tl_join] at e
  have e0 : TL.tl ("" : Str) = [] := by decide
  rw [e0, joinL_nil] at e
  exact e
/-- texts that can be shown -/
def okS (n : Nat) (x : Str) : Prop := PyData.strOk x = true ∧ x.cps.size ≤ n
theorem okS_join {n c : Nat} {ys : List Str} (h : ∀ y ∈ ys, okS n y) (hc : ys.length * n ≤ c) : okS c (Txt.join "" ys) := by
  have e := join_cps ys
  constructor
  · unfold PyData.strOk
    rw [← Array.all_toList, e, List.all_eq_true]
    intro x hx
    obtain ⟨l, hl, hx⟩ := List.mem_flatten.mp hx
    obtain ⟨y, hy, rfl⟩ := List.mem_map.mp hl
    have := (h y hy).1
    unfold PyData.strOk at this
    rw [← Array.all_toList, List.all_eq_true] at this
    exact this x hx
  · rw [← Array.length_toList, e]
    have : ∀ ys : List Str, (∀ y ∈ ys, okS n y) → ((ys.map fun y => y.cps.toList).flatten).length ≤ ys.length * n := fun ys => by
      induction ys with
      | nil => intro _; exact Nat.zero_le _
      | cons y ys ih =>
        intro h
        have h1 := (h y List.mem_cons_self).2
        have h2 := ih fun z hz => h z (List.mem_cons_of_mem _ hz)
        rw [List.map_cons, List.flatten_cons, List.length_append, Array.length_toList, List.length_cons, Nat.add_mul]
        omega
    exact Nat.le_trans (this ys h) hc
def okV (n : Nat) (xs : KVs) : Prop := ∀ p ∈ xs, okS n p.2
theorem okS_text {n c : Nat} {xs : KVs} (h : okV n xs) (hc : xs.length * n ≤ c) : okS c (textF xs) := by
  unfold textF
  refine okS_join (n := n) (fun y hy => ?_) ?_
  · obtain ⟨i, _, rfl⟩ := List.mem_map.mp hy
    cases e : xs.lookup i with
    | none => exact ⟨by decide +kernel, Nat.zero_le _⟩
    | some t =>
      obtain ⟨l1, l2, e2, _⟩ := List.lookup_eq_some_iff.mp e
      exact h (i, t) (by rw [e2]; simp)
  · rw [List.length_map, (sortI_perm _).length_eq, List.length_map]; exact hc
theorem okV_short {n : Nat} {xs : KVs} (h : okV n xs) (hn : n ≤ 64) : shortT xs := fun p hp => Nat.le_trans (h p hp).2 hn
theorem okV_add {n : Nat} {xs : KVs} {i : Int} {t : Str} (h : okV n xs) (ht : okS n t) : okV n (xs ++ [(i, t)]) := fun p hp => by
  rcases List.mem_append.mp hp with z | z
  · exact h p z
  · rw [List.mem_singleton] at z; subst z; exact ht
theorem lfB_str {x : Str} (h : okS 64 x) : lfB (.str x) = true := by
  simp only [lfB, h.1, Bool.true_and]; exact decide_eq_true h.2
section
variable {k m : Sto} {L : List (Addr × MO)} {a dd : Addr} {n many : Int} {xs : KVs} {runs : Bool} {Q : DK} {i idx mny : Int} {t : Str}
end
def mk (l : List Nat) : Str := ⟨l.toArray⟩
theorem mk_cps (x : Str) : mk x.cps.toList = x := rfl
theorem mk_len (l : List Nat) : (mk l).length = l.length := by simp [mk, Str.length]
def nPc (s n : Nat) : Nat := (n + s - 1) / s
def pc (s : Nat) (l : List Nat) (b : Nat) : List Nat := (l.drop (b * s)).take s
/-- the pieces of cut -/
def cutF (s : Nat) (x : Str) : List Str := if x.cps.toList = [] then [""] else (List.range (nPc s x.cps.toList.length)).map fun b => mk (pc s x.cps.toList b)
theorem pcs_flat (s : Nat) (l : List Nat) : ∀ N, ((List.range N).map fun b => pc s l b).flatten = l.take (N * s)
  | 0 => by rw [Nat.zero_mul]; rfl
  | N + 1 => by
    rw [List.range_succ, List.map_append, List.flatten_append, pcs_flat s l N, Nat.add_mul, Nat.one_mul, List.take_add]
    simp [pc]
theorem nPc_ge {s n : Nat} (hs : 0 < s) : n ≤ nPc s n * s := by
  unfold nPc
  have := Nat.div_add_mod (n + s - 1) s
  have := Nat.mod_lt (n + s - 1) hs
  rw [Nat.mul_comm]
  omega
theorem nPc_lt {s n : Nat} (hs : 0 < s) (hn : 0 < n) : (nPc s n - 1) * s < n ∧ 0 < nPc s n := by
  unfold nPc
  have h1 := Nat.div_mul_le_self (n + s - 1) s
  have h2 : 0 < (n + s - 1) / s := Nat.div_pos (by omega) hs
  refine ⟨?_, h2⟩
  rw [Nat.sub_mul, Nat.one_mul]
  omega
theorem cutF_cps {s : Nat} {x : Str} (hs : 0 < s) : (Txt.join "" (cutF s x)) = x := by
  have e : (Txt.join "" (cutF s x)).cps.toList = x.cps.toList := by
    rw [join_cps]
    unfold cutF
    split
    · rename_i h; rw [h]; rfl
    · rw [List.map_map]
      have : ((fun y : Str => y.cps.toList) ∘ fun b => mk (pc s x.cps.toList b)) = fun b => pc s x.cps.toList b := by
        funext b; simp [mk]
      rw [this, pcs_flat, List.take_of_length_le (nPc_ge hs)]
  have e2 : x = mk x.cps.toList := rfl
  rw [← mk_cps (Txt.join "" (cutF s x)), e, mk_cps]
theorem cutF_ne {s : Nat} {x : Str} (hs : 0 < s) : cutF s x ≠ [] := by
  unfold cutF
  split
  · exact List.cons_ne_nil _ _
  · rename_i h
    have := (nPc_lt (n := x.cps.toList.length) hs (List.length_pos_iff.mpr h)).2
    intro z
    have := congrArg List.length z
    rw [List.length_map, List.length_range] at this
    simp only [List.length_nil] at this
    omega
theorem cutF_len_le {s : Nat} {x : Str} (hs : 0 < s) : (cutF s x).length ≤ x.cps.size + 1 := by
  unfold cutF
  split
  · simp
  · rename_i h
    rw [List.length_map, List.length_range]
    have := (nPc_lt (n := x.cps.toList.length) hs (List.length_pos_iff.mpr h)).1
    have h2 : nPc s x.cps.toList.length - 1 ≤ (nPc s x.cps.toList.length - 1) * s := Nat.le_mul_of_pos_right _ hs
    rw [Array.length_toList] at *
    omega
theorem strOk_tl {x : Str} : PyData.strOk x = true ↔ ∀ c ∈ x.cps.toList, c < 1114112 := by
  unfold PyData.strOk
  rw [← Array.all_toList, List.all_eq_true]
  simp
theorem cutF_ok {s : Nat} {x : Str} (hx : PyData.strOk x = true) (hs : s ≤ 64) : ∀ y ∈ cutF s x, okS s y := fun y hy => by
  unfold cutF at hy
  split at hy
  · rw [List.mem_singleton] at hy; subst hy; exact ⟨by decide +kernel, Nat.zero_le _⟩
  · obtain ⟨b, _, rfl⟩ := List.mem_map.mp hy
    refine ⟨strOk_tl.mpr fun c hc => ?_, ?_⟩
    · have hc : c ∈ pc s x.cps.toList b := by simpa [mk] using hc
      exact strOk_tl.mp hx c (List.mem_of_mem_drop (List.mem_of_mem_take hc))
    · show (pc s x.cps.toList b).toArray.size ≤ s
      rw [List.size_toArray]
      exact List.length_take_le _ _
theorem rg3 {s n : Nat} (hs : 0 < s) (hs2 : s ≤ 64) (hn : n ≤ 1000) : RgC 0 (n : Int) (s : Int) (nPc s n) := by
  have e : Builtin.Range.rangeSize 0 (n : Int) (s : Int) = (nPc s n : Int) := by
    rw [rangeSize_pos (by omega) (by omega)]
    unfold nPc
    rw [Int.natCast_ediv]
    congr 1
    omega
  refine ⟨by omega, by omega, ?_, e⟩
  have hle : nPc s n ≤ n := by
    unfold nPc
    rcases Nat.eq_zero_or_pos n with z | z
    · subst z; rw [Nat.div_eq_of_lt (by omega)]; exact Nat.le_refl _
    · exact Nat.div_le_of_le_mul (by
        have : n * 1 ≤ n * s := Nat.mul_le_mul_left n hs
        have h3 : s - 1 ≤ n * s - n := by
          rw [← Nat.mul_sub_one]
          exact Nat.le_mul_of_pos_left _ z
        rw [Nat.mul_comm]
        omega)
  unfold Builtin.Range.small
  rw [e]
  simp only [Builtin.Range.rangeFitsLong, Bool.and_eq_true, Bool.or_eq_true, decide_eq_true_eq, beq_iff_eq]
  have : (s : Int) > 0 := by omega
  rw [if_pos this, Bool.and_eq_true, decide_eq_true_eq, decide_eq_true_eq]
  omega
section
variable {k m : Sto} {L : List (Addr × MO)} {x : Str} {s : Nat} {Q : DK}
theorem cutS_pc {b : Nat} (hs : 0 < s) : cutS x (some ((0 : Int) + (b : Int) * (s : Int))) (some ((0 : Int) + (b : Int) * (s : Int) + (s : Int))) = mk (pc s x.cps.toList b) := by
  have e1 : (0 : Int) + (b : Int) * (s : Int) = ((b * s : Nat) : Int) := by rw [Int.zero_add, Int.natCast_mul]
  have e2 : ((b * s : Nat) : Int) + (s : Int) = ((b * s + s : Nat) : Int) := by omega
  have hl : x.length = x.cps.toList.length := by rw [Array.length_toList]; rfl
  unfold cutS mk pc
  rw [e1, e2, HT.sIx_nat, HT.sIx_nat, hl]
  generalize x.cps.toList = l
  congr 2
  by_cases h1 : b * s + s ≤ l.length
  · rw [Nat.min_eq_left h1, Nat.min_eq_left (by omega), Nat.add_sub_cancel_left]
  · by_cases h2 : b * s ≤ l.length
    · rw [Nat.min_eq_right (by omega), Nat.min_eq_left h2, List.take_of_length_le (by rw [List.length_drop]; omega), List.take_of_length_le (by rw [List.length_drop]; omega)]
    · rw [List.drop_eq_nil_of_le (by omega), List.drop_eq_nil_of_le (by omega), List.take_nil, List.take_nil]
theorem nPc_le {n : Nat} (hs : 0 < s) : nPc s n ≤ n := by
  rcases Nat.eq_zero_or_pos n with z | z
  · subst z; unfold nPc; rw [Nat.div_eq_of_lt (by omega)]; exact Nat.le_refl _
  · have h1 := (nPc_lt (n := n) hs z).1
    have h2 : nPc s n - 1 ≤ (nPc s n - 1) * s := Nat.le_mul_of_pos_right _ hs
    omega
end
/-- a loop over any row, by what holds before each turn -/
theorem fx_forS {it : DIt} {g : DG} {tb : DS} {D : DEnds} {ys : List DV} {δ : Slots} {m : Sto} (I : Nat → Slots → Sto → Prop) (hl : it.lk = none) (hst : ∀ i δ m, I i δ m → it.st m) (h0 : I 0 δ m)
    (hs : ∀ i y δ m (D' : DEnds), ys[i]? = some y → I i δ m → (∀ v m', D.rt v m' → D'.rt v m') → (∀ δ' m', I (i + 1) δ' m' → D'.nx δ' m') → (∀ δ' m', I (i + 1) δ' m' → D'.ct δ' m') → (∀ δ' m', D.nx δ' m' → D'.bk δ' m') → g y δ m fun δ1 m1 => tb D' δ1 m1)
    (he : ∀ δ m, I ys.length δ m → D.nx δ m) : forGo it g tb D ys δ m := by
  have fin : ∀ (m2 : Sto) (k : Sto → Prop), k m2 → it.fin m2 k := fun m2 k hk => by unfold DIt.fin; rw [hl]; exact hk
  have key : ∀ (zs : List DV) (i : Nat) (δ : Slots) (m : Sto), ys.drop i = zs → i ≤ ys.length → I i δ m → forGo it g tb D zs δ m := fun zs => by
    induction zs with
    | nil =>
      intro i δ m e hi h
      have : i = ys.length := by
        have := List.drop_eq_nil_iff.mp e
        omega
      subst this
      exact ⟨hst _ _ _ h, fin _ _ (he _ _ h)⟩
    | cons y zs ih =>
      intro i δ m e hi h
      obtain ⟨e1, e2⟩ := getElem_drop_cons e
      have hlt : i < ys.length := (List.getElem?_eq_some_iff.mp e1).1
      refine ⟨hst _ _ _ h, hs i y δ m _ e1 h (fun v m' q => fin _ _ q) (fun δ' m' q => ih (i + 1) δ' m' e2 hlt q) (fun δ' m' q => ih (i + 1) δ' m' e2 hlt q) fun δ' m' q => fin _ _ q⟩
  exact key _ 0 δ m (List.drop_zero) (Nat.zero_le _) h0
section
variable {k m : Sto} {L : List (Addr × MO)} {g a p dd : Addr} {ph w t : Str} {n i many : Int} {ps : List DV} {kn runs : Bool} {xs : KVs} {Q : DK}
end
section
variable {k m : Sto} {L : List (Addr × MO)} {g a p dd : Addr} {n : Int} {ys : List Str} {kn : Bool} {Q : DK}
end
end Law
namespace Law
open PySem PySem.Spec PyProof.Rows L2 DL
structure Bs (m : Sto) (p : Addr) (c : Nat) : Prop where
  ex : ∃ (x y : Int) (e : Nat), m p = some (.lst [.int x, .int y, .int e]) ∧ 0 ≤ x ∧ 0 ≤ y ∧ y < 2 ^ 62 ∧ e ≤ c
theorem Bs.sub {m m' : Sto} {p : Addr} {c : Nat} (h : Bs m p c) (s : Sub m m') : Bs m' p c := by
  obtain ⟨x, y, e, h1, h2⟩ := h.ex
  exact ⟨x, y, e, s _ _ h1, h2⟩
theorem Bs.le {m : Sto} {p : Addr} {c d : Nat} (h : Bs m p c) (l : c ≤ d) : Bs m p d := by
  obtain ⟨x, y, e, h1, h2, h3, h4, h5⟩ := h.ex
  exact ⟨x, y, e, h1, h2, h3, h4, by omega⟩
section
variable {m : Sto} {δ : Slots} {w wa wb : DE} {n : Nat} {x d : DV} {p q a : Addr} {c : Nat}
theorem sp_stream0 {cs : List Int} {k : Nat} (ha : m a = some (.lst (cs.map DV.int))) (hk : k < cs.length) (hl : cs.length ≤ 63) {Q : DK} (q : ∀ p x y, m p = none → 0 ≤ x → 0 ≤ y → y < 2 ^ 62 → Q (.ref p) (DL.put m p (.lst [.int x, .int y, .int 0]))) : S__law_stream [.ref a, .int k] m Q := by
  refine ⟨rfl, ?_⟩
  show w__law_stream { nx := fun _ m' => Q .non m', rt := Q } [some (.ref a), some (.int k), none] m
  unfold w__law_stream
  have p62 : (2 : Int) ^ 62 = 4611686018427387904 := by decide
  refine go_sset (go_c ?_)
  show wSeq _ _ _ [some (.ref a), some (.int k), some (.int 0)] m
  refine go_sif (go_bl (go_op (go_var rfl (go_b (go_cons (go_var rfl (go_nil (go_lenI (st_asQ ha) (go_rel ?_)))))))))
  rw [List.length_map]
  dsimp only
  rw [if_pos (decide_eq_true (by omega))]
  refine go_set (go_op (go_var rfl (go_var rfl (ix_at (d := .int cs[k]) ha ?_ ?_))))
  · unfold atI ixN
    rw [if_pos (by omega), if_pos (by rw [List.length_map]; omega)]
    simp
  generalize cs[k] = z
  dsimp only
  show wRet _ _ [some (.ref a), some (.int k), some (.int z)] m
  refine go_ret (go_lst (go_cons (go_op (go_b (go_cons (go_var rfl (go_nil ?_)))))))
  refine go_b (go_cons (go_op (go_b (go_cons (go_var rfl (go_nil ?_))))))
  refine go_op (go_c (go_c (go_pow (by decide) (by decide) (by decide) (go_rel (go_nil ?_)))))
  refine go_int (go_mul (.inr ?_) ?_)
  · exact (fun b => by cases b <;> decide : ∀ b : Bool, (-(2 ^ 64) < (if b = true then (1 : Int) else 0)) ∧ (if b = true then (1 : Int) else 0) < 2 ^ 64) _
  refine go_cons (go_op (go_op (go_op (go_var rfl (go_c (go_mod (by decide) ?_))))))
  refine go_op (go_c (go_var rfl (go_mul (.inl (by decide)) (go_add (go_c (go_add ?_))))))
  refine go_cons (go_c (go_nil ⟨by have := line_eq; simp; omega, ?_⟩))
  refine go_new fun p hp => ?_
  refine q p _ _ hp ?_ ?_ ?_
  · refine Int.mul_nonneg ?_ ?_
    · split <;> omega
    · exact (fun b => by cases b <;> decide : ∀ b : Bool, (0 : Int) ≤ if b = true then 1 else 0) _
  · have := Int.emod_nonneg z (b := 2305843009213693951) (by decide)
    omega
  · have := Int.emod_lt_of_pos z (b := 2305843009213693951) (by decide)
    omega
theorem sp_draw0 {b : Int} (hb : Bs m p c) (hc : c < 1000000) (h0 : 0 < b) (h1 : b ≤ 1000000) {Q : DK} (q : ∀ r o, 0 ≤ r → r < b → Bs (DL.put m p o) p (c + 1) → Q (.int r) (DL.put m p o)) : S__law_draw [.ref p, .int b] m Q := by
  obtain ⟨x, y, e, hm, hx, hy, hy2, he⟩ := hb.ex
  refine ⟨rfl, ?_⟩
  show w__law_draw { nx := fun _ m' => Q .non m', rt := Q } [some (.ref p), some (.int b), none, none, none] m
  unfold w__law_draw
  have p64 : (2 : Int) ^ 64 = 18446744073709551616 := by decide
  have p62 : (2 : Int) ^ 62 = 4611686018427387904 := by decide
  refine go_sif ((go_bl (go_op (go_op (go_var rfl (go_c (ix_at hm (d := .int x) rfl (go_c (go_rel ?_)))))))))
  dsimp only
  split
  case isTrue h =>
    have h : 0 < x := of_decide_eq_true h
    refine go_sset ( (go_op (go_op (go_var rfl (go_c (ix_at hm (d := .int x) rfl (go_var rfl (go_mod h0 ?_))))))))
    refine go_sasg ( (go_op (go_op (go_var rfl (go_c (ix_at hm (d := .int x) rfl (go_var rfl (go_div h0 ?_ ?_))))))))
    · have : b.natAbs < 2 ^ 60 := by omega
      have : b.natAbs.log2 < 60 := (Nat.log2_lt (by omega)).mpr this
      omega
    refine go_var rfl (go_c (set_at hm (j := 0) rfl ?_))
    refine go_ret (go_var rfl ?_)
    refine q _ _ (Int.emod_nonneg _ (by omega)) (Int.emod_lt_of_pos _ h0) ⟨x / b, y, e, put_same, Int.ediv_nonneg hx (by omega), hy, hy2, by omega⟩
  case isFalse h =>
    refine go_sasg ( (go_op (go_op (go_var rfl (go_c (ix_at hm (d := .int e) rfl (go_c (go_add ?_))))))))
    refine go_var rfl (go_c (set_at hm (j := 2) rfl ?_))
    let e1 : Int := (e : Int) + 1
    have he1 : e1 = (e : Int) + 1 := rfl
    have hm2 : (DL.put m p (.lst [.int x, .int y, .int e1])) p = some (.lst [.int x, .int y, .int e1]) := put_same
    refine go_sset ( (go_op (go_op (go_op (go_op (go_var rfl (go_c (ix_at hm2 (d := .int y) rfl ?_))))))))
    refine go_op (go_c (go_op (go_var rfl (go_c (ix_at hm2 (d := .int e1) rfl (go_mul (.inl (by decide)) (go_add ?_)))))))
    refine go_op (go_c (go_op (go_var rfl (go_c (ix_at hm2 (d := .int e1) rfl (go_add (go_mul (.inr ⟨by omega, by omega⟩) ?_)))))))
    refine go_c (go_mod (by decide) ?_)
    generalize hz : (y + 48271 * e1) * (39373 + e1) % 2147483647 = z
    refine go_sset ?_
    refine go_op (go_op (go_op (go_op (go_var rfl ?_))))
    refine go_op (go_var rfl (go_c (ix_at hm2 (d := .int e1) rfl (go_add ?_))))
    refine go_op (go_op (go_var rfl (go_c (ix_at hm2 (d := .int y) rfl (go_c (go_div (by decide) (by decide) (go_add ?_)))))))
    refine go_op (go_op (go_var rfl (go_c (go_mod (by decide) (go_c (go_add ?_))))))
    have hz1 := Int.emod_nonneg z (b := 40009) (by decide)
    have hz2 := Int.emod_lt_of_pos z (b := 40009) (by decide)
    refine go_mul (.inr ⟨by omega, by omega⟩) ?_
    refine go_c (go_mod (by decide) ?_)
    generalize (z + e1 + y / 1000003) * (z % 40009 + 7) % 2147483629 = u
    refine go_ret (go_op (go_op (go_op (go_op (go_op (go_var rfl (go_c (go_mul (.inr (by decide)) ?_)))))))) 
    refine go_var rfl (go_add (go_c (go_mod (by decide) (go_c (go_div (by decide) (by decide) (go_var rfl (go_mod h0 ?_)))))))
    exact q _ _ (Int.emod_nonneg _ (by omega)) (Int.emod_lt_of_pos _ h0) ⟨x, y, e + 1, put_same, hx, hy, hy2, by omega⟩
end
def SrcO (o : MO) (c : Nat) : Prop := ∃ (x y : Int) (e : Nat), o = .lst [.int x, .int y, .int e] ∧ 0 ≤ x ∧ 0 ≤ y ∧ y < 2 ^ 62 ∧ e ≤ c
theorem SrcO.le {o : MO} {c d : Nat} (h : SrcO o c) (l : c ≤ d) : SrcO o d := by
  obtain ⟨x, y, e, h1, h2, h3, h4, h5⟩ := h
  exact ⟨x, y, e, h1, h2, h3, h4, by omega⟩
section
variable {k m : Sto} {L : List (Addr × MO)} {p : Addr} {o : MO} {c : Nat} {b : Int} {xs : List DV} {Q : DK}
theorem sp_draw (ho : SrcO o c) (hc : c < 1000000) (h0 : 0 < b) (h1 : b ≤ 1000000) (h : DL.St k m ((p, o) :: L)) (q : ∀ m' r o', 0 ≤ r → r < b → SrcO o' (c + 1) → DL.St k m' ((p, o') :: L) → Q (.int r) m') : S__law_draw [.ref p, .int b] m Q := by
  obtain ⟨x, y, e, rfl, hx, hy, hy2, he⟩ := ho
  refine sp_draw0 (p := p) (c := c) ⟨x, y, e, h.g0, hx, hy, hy2, he⟩ hc h0 h1 fun r o' hr hr2 hb => ?_
  obtain ⟨x', y', e', g, g1, g2, g3, g4⟩ := hb.ex
  rw [put_same] at g
  cases g
  exact q _ r _ hr hr2 ⟨x', y', e', rfl, g1, g2, g3, g4⟩ (h.put 0 _ rfl)
theorem sp_pick (ho : SrcO o c) (hc : c < 1000000) (h0 : xs ≠ []) (h1 : xs.length ≤ 1000000) (h : DL.St k m ((p, o) :: L)) (q : ∀ m' d o', d ∈ xs → SrcO o' (c + 1) → DL.St k m' ((p, o') :: L) → Q d m') : S__law_pick [.ref p, .lst xs] m Q := by
  have hpos : 0 < xs.length := List.length_pos_iff.mpr h0
  refine ⟨rfl, ?_⟩
  show w__law_pick { nx := fun _ m' => Q .non m', rt := Q } [some (.ref p), some (.lst xs)] m
  unfold w__law_pick
  refine go_ret (go_op (go_var rfl (go_call (go_cons (go_var rfl (go_cons (go_b (go_cons (go_var rfl (go_nil (go_lenI (xs := xs) rfl (go_nil ?_))))))))))))
  refine sp_draw ho hc (by omega) (by omega) h fun m' r o' hr hr2 ho' h' => ?_
  exact ix_lst hr (by omega) fun d hd _ => q m' d o' hd ho' h'
theorem sp_stream {a : Addr} {cs : List Int} {i : Nat} (hk : i < cs.length) (hl : cs.length ≤ 63) (h : DL.St k m ((a, .lst (cs.map DV.int)) :: L)) (q : ∀ m' p o, SrcO o 0 → DL.St k m' ((p, o) :: (a, .lst (cs.map DV.int)) :: L) → Q (.ref p) m') : S__law_stream [.ref a, .int i] m Q :=
  sp_stream0 h.g0 hk hl fun p x y hp hx hy hy2 => q _ p _ ⟨x, y, 0, rfl, hx, hy, hy2, Nat.le_refl _⟩ (h.new hp _)
end
section
variable {m : Sto} {δ : Slots} {w wa wb wi : DE} {n : Nat} {x d : DV} {p q a : Addr} {c k : Nat} {i j : Int}
theorem sl_L {xs : List DV} {lo hi : Option Int} {Q : DK} (h : asL m d = some xs) (q : Q (.lst (DL.cutD xs lo hi)) m) : dSl false d lo hi m Q := by
  have e : newL false (DL.cutD xs lo hi) m Q := by rw [newL_data]; exact q
  cases d <;> first
    | exact ⟨xs, h, e⟩
    | (simp [asL] at h; done)
theorem cut_take {ns : List Int} : DL.cutD (ns.map DV.int) none (some 3) = (ns.take 3).map DV.int := by
  unfold DL.cutD
  have e1 : HT.sIx (ns.map DV.int).length (ns.map DV.int).length (some 3) = min 3 ns.length := by
    unfold HT.sIx
    dsimp only
    rw [if_neg (by decide), List.length_map]; rfl
  rw [e1]
  show List.take (min 3 ns.length - 0) (List.drop 0 (ns.map DV.int)) = _
  rw [Nat.sub_zero, List.drop_zero, List.map_take]
  by_cases h : ns.length ≤ 3
  · rw [Nat.min_eq_right h, List.take_of_length_le (by rw [List.length_map]; omega), List.take_of_length_le (by rw [List.length_map]; omega)]
  · rw [Nat.min_eq_left (by omega)]
theorem cut_rest {ns : List Int} : ∃ rs : List Int, DL.cutD (ns.map DV.int) (some 3) (some 63) = rs.map DV.int ∧ (rs ≠ [] → 3 < ns.length) := by
  unfold DL.cutD
  have e1 : HT.sIx (ns.map DV.int).length 0 (some 3) = min 3 ns.length := by
    unfold HT.sIx
    dsimp only
    rw [if_neg (by decide), List.length_map]; rfl
  rw [e1]
  generalize HT.sIx (ns.map DV.int).length (ns.map DV.int).length (some 63) = z
  refine ⟨(ns.drop (min 3 ns.length)).take (z - min 3 ns.length), by rw [List.map_take, List.map_drop], fun h => ?_⟩
  by_cases h3 : 3 < ns.length
  · exact h3
  · exfalso
    apply h
    rw [Nat.min_eq_right (by omega), List.drop_length, List.take_nil]
theorem go_partV {l : Nat} {Q : Option Int → Sto → Prop} (hd : δ[l]? = some (some (.int i))) (h : Q (some i) m) : wPart (some (wVar l)) δ m Q := by
  have := go_var (i := l) (m := m) (δ := δ) (Q := fun d m1 => match d with
    | .int i => Q (some i) m1
    | _ => False) hd h
  exact this
theorem lo_L {mu : Bool} {xs : List DV} {Q : DK} (h : newL mu xs m Q) : dListOf mu [.lst xs] m Q := h
theorem go_partC {Q : Option Int → Sto → Prop} (h : Q (some i) m) : wPart (some (wC (.int i))) δ m Q := h
theorem go_partN {Q : Option Int → Sto → Prop} (h : Q none m) : wPart none δ m Q := h
theorem sp_folded {ns : List Int} (hd : asL m d = some (ns.map DV.int)) {Q : DK} (q : ∀ (a : Addr) (cs : List Int) (m2 : Sto), m2 a = some (.lst (cs.map DV.int)) → 1 ≤ cs.length → cs.length ≤ 3 → Q (.ref a) m2) : S__law_folded [d, .int 3] m Q := by
  have big := line_eq
  refine ⟨rfl, ?_⟩
  show w__law_folded { nx := fun _ m' => Q .non m', rt := Q } [some d, some (.int 3), none, none, none] m
  unfold w__law_folded
  obtain ⟨rs, hrs, hrs3⟩ := cut_rest (ns := ns)
  have main : ∀ (a : Addr) (cs : List Int) (m1 : Sto), m a = none → Sub m m1 → m1 a = some (.lst (cs.map DV.int)) → 1 ≤ cs.length → cs.length ≤ 3 → (3 < ns.length → cs.length = 3) → wSeq (wFor (iEnumD (wCons (wSl false (wVar 0) (some (wVar 1)) (some (wC (.int 63)))) (wNil))) (gSeq 2 (gConsD (gN 3) (gConsD (gN 4) (gNilD)))) (wAsg (wOp (dAdd false) (wOp dIx (wVar 2) (wOp (dMod) (wVar 3) (wVar 1))) (wOp (dMul false) (wVar 4) (wOp (dAdd false) (wVar 3) (wC (.int 2))))) (gSubD (wVar 2) (wOp (dMod) (wVar 3) (wVar 1))))) (wRet (wVar 2)) { nx := fun _ m' => Q .non m', rt := Q } [some d, some (.int 3), some (.ref a), none, none] m1 := fun a cs m1 ha s1 e1 h1 h3 h33 => by
    have hI : PuI (iEnumD (wCons (wSl false (wVar 0) (some (wVar 1)) (some (wC (.int 63)))) (wNil))) [some d, some (.int 3), some (.ref a), none, none] m (enD 0 (rs.map DV.int)) := fun m' K s k => by
      unfold iEnumD
      refine go_cons (go_var rfl (go_partV rfl (go_partC ?_)))
      refine sl_L (asL_sub hd s) (go_nil ?_)
      rw [hrs]
      exact k ⟨enD 0 (rs.map DV.int), fun m => asL m (.lst (rs.map DV.int)) = some (rs.map DV.int), none⟩ m' (.refl _) rfl rfl fun m2 _ => rfl
    refine go_seq (fr_for (m := m) (xs := enD 0 (rs.map DV.int)) hI s1 (fun i δ m1 => ∃ (x y : Option DV) (cs : List Int), δ = [some d, some (.int 3), some (.ref a), x, y] ∧ Sub m m1 ∧ m1 a = some (.lst (cs.map DV.int)) ∧ 1 ≤ cs.length ∧ cs.length ≤ 3 ∧ (3 < ns.length → cs.length = 3))
      (fun m2 s2 => ⟨_, _, cs, rfl, s1.trans s2, s2 _ _ e1, h1, h3, h33⟩) (fun i δ m1 ⟨_, _, _, _, s, _⟩ => s) ?_ ?_)
    · rintro i y δ m2 hy ⟨x, z, cs, rfl, s2, e2, g1, g3, g33⟩
      rw [enD_get, List.getElem?_map] at hy
      cases er : rs[i]? with
      | none => rw [er] at hy; cases hy
      | some v =>
        rw [er] at hy
        cases hy
        have hne : rs ≠ [] := fun z => by rw [z] at er; cases er
        have hl3 := g33 (hrs3 hne)
        refine ⟨[some d, some (.int 3), some (.ref a), some (.int ((0 + i : Nat) : Int)), some (.int v)], fun m Q q => ⟨rfl, rfl, q⟩, fun D' hnx hrt hbk hct => ?_⟩
        generalize hj : ((0 + i : Nat) : Int) = j
        have hj0 : 0 ≤ j := by omega
        have hm0 := Int.emod_nonneg j (b := 3) (by decide)
        have hm1 := Int.emod_lt_of_pos j (b := 3) (by decide)
        have hlt : (j % 3).toNat < cs.length := by omega
        have hix : ixN (cs.map DV.int).length (j % 3) = some (j % 3).toNat := by
          unfold ixN
          rw [if_pos hm0, if_pos (by rw [List.length_map]; omega)]
        have hat : atI (cs.map DV.int) (j % 3) = some (.int cs[(j % 3).toNat]) := by
          unfold atI
          rw [hix]
          show (cs.map DV.int)[(j % 3).toNat]? = _
          rw [List.getElem?_map, List.getElem?_eq_getElem hlt]; rfl
        have p64 : (2 : Int) ^ 64 = 18446744073709551616 := by decide
        have hjs : j < 1000000000 ∨ ¬ j < 1000000000 := by omega
        refine go_asgS (go_op (go_op (go_var rfl (go_op (go_var rfl (go_var rfl (go_mod (by decide) (ix_at e2 hat ?_))))))))
        refine go_op (go_var rfl (go_op (go_var rfl (go_c (go_add ?_)))))
        refine go_mul (.inr ⟨by omega, ?_⟩) (go_add ?_)
        · have hi : i < rs.length := (List.getElem?_eq_some_iff.mp er).1
          have hrl : rs.length ≤ 63 := by
            have e := congrArg List.length hrs
            rw [List.length_map] at e
            rw [← e]
            unfold DL.cutD
            rw [List.length_take]
            have : HT.sIx (ns.map DV.int).length (ns.map DV.int).length (some 63) ≤ 63 := by
              unfold HT.sIx
              dsimp only
              rw [if_neg (by decide)]
              exact Nat.min_le_left _ _
            omega
          omega
        refine go_var rfl (go_op (go_var rfl (go_var rfl (go_mod (by decide) (set_at e2 hix ?_)))))
        refine hnx _ _ ⟨_, _, cs.set (j % 3).toNat (cs[(j % 3).toNat] + v * (j + 2)), rfl, Sub.put2 ha s2, ?_, by rw [List.length_set]; exact g1, by rw [List.length_set]; exact g3, fun z => by rw [List.length_set]; exact g33 z⟩
        rw [put_same, List.map_set]
    · rintro δ m2 ⟨x, z, cs, rfl, s2, e2, g1, g3, g33⟩
      dsimp only
      exact go_ret (go_var rfl (q a cs m2 e2 g1 g3))
  refine go_sset ?_
  show (wB (dListOf true) (wCons (wSl false (wVar 0) none (some (wVar 1))) (wNil))) _ m fun x m1 => truD m1 x fun b => if b = true then _ else (wLst true (wCons (wC (.int 0)) (wNil))) _ m1 _
  refine go_b (go_cons (go_var rfl (go_partN (go_partV rfl ?_))))
  refine sl_L hd (go_nil ?_)
  rw [cut_take]
  refine lo_L ?_
  refine go_new fun a ha => ?_
  have ea : (DL.put m a (.lst ((ns.take 3).map DV.int))) a = some (.lst ((ns.take 3).map DV.int)) := put_same
  have s1 : Sub m (DL.put m a (.lst ((ns.take 3).map DV.int))) := Sub.put ha
  show (match (DL.put m a (.lst ((ns.take 3).map DV.int))) a with
    | some (.lst xs) => _
    | some (.dct kvs) => _
    | _ => False)
  rw [ea]
  cases ns with
  | nil =>
    show (if (!List.isEmpty (List.map DV.int (List.take 3 []))) = true then _ else _)
    rw [if_neg (by decide)]
    refine go_lst (go_cons (go_c (go_nil ⟨by simp; omega, go_new fun b hb => ?_⟩)))
    have hmb : m b = none := by
      cases e : m b with
      | none => rfl
      | some o => rw [s1 _ _ e] at hb; cases hb
    exact main b [0] _ hmb (s1.trans (Sub.put hb)) put_same (by decide) (by decide) fun z => by cases z
  | cons y r =>
    show (if (!List.isEmpty (List.map DV.int (List.take 3 (y :: r)))) = true then _ else _)
    rw [if_pos (show (!List.isEmpty (List.map DV.int (List.take 3 (y :: r)))) = true from rfl)]
    refine main a ((y :: r).take 3) _ ha s1 put_same ?_ ?_ ?_
    · rw [List.length_take, List.length_cons]; omega
    · rw [List.length_take]; omega
    · intro z; rw [List.length_take]; omega
end
end Law
namespace Law
open PySem PySem.Spec PyProof.Rows L2 DL
abbrev mineO (ph : Str) (n : Int) (ps : List DV) (kn : Bool) : MO := .dct [(.inr "phase", .str ph), (.inr "many", .int n), (.inr "pieces", .lst ps), (.inr "known", .bl kn)]
abbrev itsO (turn many : Int) (ld : Addr) (runs : Bool) : MO := .dct [(.inr "turn", .int turn), (.inr "many", .int many), (.inr "kept", .ref ld), (.inr "runs", .bl runs)]
section
variable {k m : Sto} {L : List (Addr × MO)} {g rm ri ld p dd : Addr} {ph w t : Str} {n i idx mny turn many : Int} {ps : List DV} {kn runs : Bool} {xs : KVs} {Q : DK}
theorem ne_wg : ¬ (("whole" : Str) = "going") := by decide
theorem given_whole (h : DL.St k m ((rm, mineO "frozen" n ps kn) :: L)) (q : ∀ m', DL.St k m' ((rm, mineO "given" n ps kn) :: L) → Q .non m') : S__law_given [.ref rm, .tup [.str "whole", .int n]] m Q := by
  have e : PyData.eqv (.tuple [.str "whole", .int n]) (.tuple [.str "whole", .int n]) = true := by rw [eqv2]; simp
  have e2 : PyData.eqv (.tuple [.str "whole", .int n]) (.tuple [.str "going", .int n]) = false := by rw [eqv2]; simp [ne_wg]
  with_reducible
    delta Law.S__law_given
    refine U.ar (of_decide_eq_true (by kernel_rfl)) ?_
    refine U.run ?_
    delta Law.w__law_given
    refine U.seq ?_
    refine U.ifs ?_
    refine U.andT ?_
    refine U.bl ?_
    refine U.op ?_
    refine U.v (by with_unfolding_all rfl) ?_
    refine U.tup ?_
    refine U.cons ?_
    refine U.cs ?_
    refine U.cons ?_
    refine U.op ?_
    refine U.v (by with_unfolding_all rfl) ?_
    refine U.cs ?_
    refine U.ixK h.g0 (by with_unfolding_all rfl) (by with_unfolding_all rfl) ?_
    refine U.nil ?_
    refine And.intro (of_decide_eq_true (by kernel_rfl)) ?_
    refine U.eqP (of_decide_eq_true (by kernel_rfl)) (of_decide_eq_true (by kernel_rfl)) (by with_unfolding_all rfl) (by with_unfolding_all rfl) (by kernel_rfl) (by kernel_rfl) ?_
  refine U.bt (by simp only [decide_eq_true_eq, decide_eq_false_iff_not, beq_iff_eq, bne_iff_ne, Bool.not_eq_true', Bool.not_eq_false', Bool.false_xor, Bool.true_xor]; first | assumption | omega) ?_
  with_reducible
    refine U.bl ?_
    refine U.op ?_
    refine U.op ?_
    refine U.v (by with_unfolding_all rfl) ?_
    refine U.cs ?_
    refine U.ixK h.g0 (by with_unfolding_all rfl) (by with_unfolding_all rfl) ?_
    refine U.cs ?_
    refine U.eqS ?_
    refine U.bt (by decide +kernel) ?_
    refine U.asg ?_
    refine U.cs ?_
    refine U.gsub ?_
    refine U.v (by with_unfolding_all rfl) ?_
    refine U.cs ?_
    refine U.setDD h (by with_unfolding_all rfl) (of_decide_eq_true (by kernel_rfl)) ?_
    intro m1
    intro I1
    clear h
    refine U.pnx ?_
    refine U.ifs ?_
    refine U.andT ?_
    refine U.bl ?_
    refine U.op ?_
    refine U.v (by with_unfolding_all rfl) ?_
    refine U.tup ?_
    refine U.cons ?_
    refine U.cs ?_
    refine U.cons ?_
    refine U.op ?_
    refine U.v (by with_unfolding_all rfl) ?_
    refine U.cs ?_
    refine U.ixK I1.g0 (by with_unfolding_all rfl) (by with_unfolding_all rfl) ?_
    refine U.nil ?_
    refine And.intro (of_decide_eq_true (by kernel_rfl)) ?_
    refine U.eqP (of_decide_eq_true (by kernel_rfl)) (of_decide_eq_true (by kernel_rfl)) (by with_unfolding_all rfl) (by with_unfolding_all rfl) (by kernel_rfl) (by kernel_rfl) ?_
    refine U.bf (by kernel_rfl) ?_
    refine U.bf (by decide +kernel) ?_
    refine U.next ?_
    refine U.pnx ?_
  exact q _ I1
theorem given_going (h : DL.St k m ((rm, mineO "given" n ps kn) :: L)) (q : ∀ m', DL.St k m' ((rm, mineO "given" n ps true) :: L) → Q .non m') : S__law_given [.ref rm, .tup [.str "going", .int n]] m Q := by
  have e : PyData.eqv (.tuple [.str "going", .int n]) (.tuple [.str "whole", .int n]) = false := by rw [eqv2, decide_eq_false (by decide), Bool.false_and]
  have e2 : PyData.eqv (.tuple [.str "going", .int n]) (.tuple [.str "going", .int n]) = true := by rw [eqv2]; simp
  with_reducible
    delta Law.S__law_given
    refine U.ar (of_decide_eq_true (by kernel_rfl)) ?_
    refine U.run ?_
    delta Law.w__law_given
    refine U.seq ?_
    refine U.ifs ?_
    refine U.andT ?_
    refine U.bl ?_
    refine U.op ?_
    refine U.v (by with_unfolding_all rfl) ?_
    refine U.tup ?_
    refine U.cons ?_
    refine U.cs ?_
    refine U.cons ?_
    refine U.op ?_
    refine U.v (by with_unfolding_all rfl) ?_
    refine U.cs ?_
    refine U.ixK h.g0 (by with_unfolding_all rfl) (by with_unfolding_all rfl) ?_
    refine U.nil ?_
    refine And.intro (of_decide_eq_true (by kernel_rfl)) ?_
    refine U.eqP (of_decide_eq_true (by kernel_rfl)) (of_decide_eq_true (by kernel_rfl)) (by with_unfolding_all rfl) (by with_unfolding_all rfl) (by kernel_rfl) (by kernel_rfl) ?_
    refine U.bf (by kernel_rfl) ?_
    refine U.bf (by decide +kernel) ?_
    refine U.next ?_
    refine U.pnx ?_
    refine U.ifs ?_
    refine U.andT ?_
    refine U.bl ?_
    refine U.op ?_
    refine U.v (by with_unfolding_all rfl) ?_
    refine U.tup ?_
    refine U.cons ?_
    refine U.cs ?_
    refine U.cons ?_
    refine U.op ?_
    refine U.v (by with_unfolding_all rfl) ?_
    refine U.cs ?_
    refine U.ixK h.g0 (by with_unfolding_all rfl) (by with_unfolding_all rfl) ?_
    refine U.nil ?_
    refine And.intro (of_decide_eq_true (by kernel_rfl)) ?_
    refine U.eqP (of_decide_eq_true (by kernel_rfl)) (of_decide_eq_true (by kernel_rfl)) (by with_unfolding_all rfl) (by with_unfolding_all rfl) (by kernel_rfl) (by kernel_rfl) ?_
  refine U.bt (by simp only [decide_eq_true_eq, decide_eq_false_iff_not, beq_iff_eq, bne_iff_ne, Bool.not_eq_true', Bool.not_eq_false', Bool.false_xor, Bool.true_xor]; first | assumption | omega) ?_
  with_reducible
    refine U.bl ?_
    refine U.op ?_
    refine U.op ?_
    refine U.v (by with_unfolding_all rfl) ?_
    refine U.cs ?_
    refine U.ixK h.g0 (by with_unfolding_all rfl) (by with_unfolding_all rfl) ?_
    refine U.cs ?_
    refine U.eqS ?_
    refine U.bt (by decide +kernel) ?_
    refine U.asg ?_
    refine U.cs ?_
    refine U.gsub ?_
    refine U.v (by with_unfolding_all rfl) ?_
    refine U.cs ?_
    refine U.setDD h (by with_unfolding_all rfl) (of_decide_eq_true (by kernel_rfl)) ?_
    intro m1
    intro I1
    clear h
    refine U.pnx ?_
  exact q _ I1
theorem given_no (hw : PyData.strOk w = true) (hp : Phs ph) (h0 : (w = "whole" → ph ≠ "frozen" ∨ i ≠ n) ∧ (w = "going" → ph ≠ "given" ∨ i ≠ n)) (h : DL.St k m ((rm, mineO ph n ps kn) :: L)) (q : ∀ m', DL.St k m' ((rm, mineO ph n ps kn) :: L) → Q .non m') : S__law_given [.ref rm, .tup [.str w, .int i]] m Q := by
  have hsh := shaped2 (i := i) hw
  have hsw : SeqAt.shaped (.tuple [.str "whole", .int n]) = true := shaped2 (by decide +kernel)
  have hsg : SeqAt.shaped (.tuple [.str "going", .int n]) = true := shaped2 (by decide +kernel)
  by_cases ew : PyData.eqv (.tuple [.str w, .int i]) (.tuple [.str "whole", .int n]) = true
  · by_cases eg : PyData.eqv (.tuple [.str w, .int i]) (.tuple [.str "going", .int n]) = true
    · exfalso
      rw [eqv2, Bool.and_eq_true, decide_eq_true_eq] at ew eg
      exact ne_wg (ew.1.symm.trans eg.1)
    · rw [Bool.not_eq_true] at eg
      have hpn : ph ≠ "frozen" := by
        rw [eqv2, Bool.and_eq_true, decide_eq_true_eq, decide_eq_true_eq] at ew
        exact (h0.1 ew.1).resolve_right fun z => z ew.2
      rcases hp with rfl | rfl | rfl
      · with_reducible
          delta Law.S__law_given
          refine U.ar (of_decide_eq_true (by kernel_rfl)) ?_
          refine U.run ?_
          delta Law.w__law_given
          refine U.seq ?_
          refine U.ifs ?_
          refine U.andT ?_
          refine U.bl ?_
          refine U.op ?_
          refine U.v (by with_unfolding_all rfl) ?_
          refine U.tup ?_
          refine U.cons ?_
          refine U.cs ?_
          refine U.cons ?_
          refine U.op ?_
          refine U.v (by with_unfolding_all rfl) ?_
          refine U.cs ?_
          refine U.ixK h.g0 (by with_unfolding_all rfl) (by with_unfolding_all rfl) ?_
          refine U.nil ?_
          refine And.intro (of_decide_eq_true (by kernel_rfl)) ?_
          refine U.eqP (of_decide_eq_true (by kernel_rfl)) (of_decide_eq_true (by kernel_rfl)) (by with_unfolding_all rfl) (by with_unfolding_all rfl) hsh (by kernel_rfl) ?_
        refine U.bt (by simp only [decide_eq_true_eq, decide_eq_false_iff_not, beq_iff_eq, bne_iff_ne, Bool.not_eq_true', Bool.not_eq_false', Bool.false_xor, Bool.true_xor]; first | assumption | omega) ?_
        with_reducible
          refine U.bl ?_
          refine U.op ?_
          refine U.op ?_
          refine U.v (by with_unfolding_all rfl) ?_
          refine U.cs ?_
          refine U.ixK h.g0 (by with_unfolding_all rfl) (by with_unfolding_all rfl) ?_
          refine U.cs ?_
          refine U.eqS ?_
          refine U.bf (by decide +kernel) ?_
          refine U.next ?_
          refine U.pnx ?_
          refine U.ifs ?_
          refine U.andT ?_
          refine U.bl ?_
          refine U.op ?_
          refine U.v (by with_unfolding_all rfl) ?_
          refine U.tup ?_
          refine U.cons ?_
          refine U.cs ?_
          refine U.cons ?_
          refine U.op ?_
          refine U.v (by with_unfolding_all rfl) ?_
          refine U.cs ?_
          refine U.ixK h.g0 (by with_unfolding_all rfl) (by with_unfolding_all rfl) ?_
          refine U.nil ?_
          refine And.intro (of_decide_eq_true (by kernel_rfl)) ?_
          refine U.eqP (of_decide_eq_true (by kernel_rfl)) (of_decide_eq_true (by kernel_rfl)) (by with_unfolding_all rfl) (by with_unfolding_all rfl) hsh (by kernel_rfl) ?_
        refine U.bf (by simp only [decide_eq_true_eq, decide_eq_false_iff_not, beq_iff_eq, bne_iff_ne, Bool.not_eq_true', Bool.not_eq_false', Bool.false_xor, Bool.true_xor]; first | assumption | omega) ?_
        with_reducible
          refine U.bf (by decide +kernel) ?_
          refine U.next ?_
          refine U.pnx ?_
        exact q _ h
      · exact absurd rfl hpn
      · with_reducible
          delta Law.S__law_given
          refine U.ar (of_decide_eq_true (by kernel_rfl)) ?_
          refine U.run ?_
          delta Law.w__law_given
          refine U.seq ?_
          refine U.ifs ?_
          refine U.andT ?_
          refine U.bl ?_
          refine U.op ?_
          refine U.v (by with_unfolding_all rfl) ?_
          refine U.tup ?_
          refine U.cons ?_
          refine U.cs ?_
          refine U.cons ?_
          refine U.op ?_
          refine U.v (by with_unfolding_all rfl) ?_
          refine U.cs ?_
          refine U.ixK h.g0 (by with_unfolding_all rfl) (by with_unfolding_all rfl) ?_
          refine U.nil ?_
          refine And.intro (of_decide_eq_true (by kernel_rfl)) ?_
          refine U.eqP (of_decide_eq_true (by kernel_rfl)) (of_decide_eq_true (by kernel_rfl)) (by with_unfolding_all rfl) (by with_unfolding_all rfl) hsh (by kernel_rfl) ?_
        refine U.bt (by simp only [decide_eq_true_eq, decide_eq_false_iff_not, beq_iff_eq, bne_iff_ne, Bool.not_eq_true', Bool.not_eq_false', Bool.false_xor, Bool.true_xor]; first | assumption | omega) ?_
        with_reducible
          refine U.bl ?_
          refine U.op ?_
          refine U.op ?_
          refine U.v (by with_unfolding_all rfl) ?_
          refine U.cs ?_
          refine U.ixK h.g0 (by with_unfolding_all rfl) (by with_unfolding_all rfl) ?_
          refine U.cs ?_
          refine U.eqS ?_
          refine U.bf (by decide +kernel) ?_
          refine U.next ?_
          refine U.pnx ?_
          refine U.ifs ?_
          refine U.andT ?_
          refine U.bl ?_
          refine U.op ?_
          refine U.v (by with_unfolding_all rfl) ?_
          refine U.tup ?_
          refine U.cons ?_
          refine U.cs ?_
          refine U.cons ?_
          refine U.op ?_
          refine U.v (by with_unfolding_all rfl) ?_
          refine U.cs ?_
          refine U.ixK h.g0 (by with_unfolding_all rfl) (by with_unfolding_all rfl) ?_
          refine U.nil ?_
          refine And.intro (of_decide_eq_true (by kernel_rfl)) ?_
          refine U.eqP (of_decide_eq_true (by kernel_rfl)) (of_decide_eq_true (by kernel_rfl)) (by with_unfolding_all rfl) (by with_unfolding_all rfl) hsh (by kernel_rfl) ?_
        refine U.bf (by simp only [decide_eq_true_eq, decide_eq_false_iff_not, beq_iff_eq, bne_iff_ne, Bool.not_eq_true', Bool.not_eq_false', Bool.false_xor, Bool.true_xor]; first | assumption | omega) ?_
        with_reducible
          refine U.bf (by decide +kernel) ?_
          refine U.next ?_
          refine U.pnx ?_
        exact q _ h
  · rw [Bool.not_eq_true] at ew
    by_cases eg : PyData.eqv (.tuple [.str w, .int i]) (.tuple [.str "going", .int n]) = true
    · have hpn : ph ≠ "given" := by
        rw [eqv2, Bool.and_eq_true, decide_eq_true_eq, decide_eq_true_eq] at eg
        exact (h0.2 eg.1).resolve_right fun z => z eg.2
      rcases hp with rfl | rfl | rfl
      · with_reducible
          delta Law.S__law_given
          refine U.ar (of_decide_eq_true (by kernel_rfl)) ?_
          refine U.run ?_
          delta Law.w__law_given
          refine U.seq ?_
          refine U.ifs ?_
          refine U.andT ?_
          refine U.bl ?_
          refine U.op ?_
          refine U.v (by with_unfolding_all rfl) ?_
          refine U.tup ?_
          refine U.cons ?_
          refine U.cs ?_
          refine U.cons ?_
          refine U.op ?_
          refine U.v (by with_unfolding_all rfl) ?_
          refine U.cs ?_
          refine U.ixK h.g0 (by with_unfolding_all rfl) (by with_unfolding_all rfl) ?_
          refine U.nil ?_
          refine And.intro (of_decide_eq_true (by kernel_rfl)) ?_
          refine U.eqP (of_decide_eq_true (by kernel_rfl)) (of_decide_eq_true (by kernel_rfl)) (by with_unfolding_all rfl) (by with_unfolding_all rfl) hsh (by kernel_rfl) ?_
        refine U.bf (by simp only [decide_eq_true_eq, decide_eq_false_iff_not, beq_iff_eq, bne_iff_ne, Bool.not_eq_true', Bool.not_eq_false', Bool.false_xor, Bool.true_xor]; first | assumption | omega) ?_
        with_reducible
          refine U.bf (by decide +kernel) ?_
          refine U.next ?_
          refine U.pnx ?_
          refine U.ifs ?_
          refine U.andT ?_
          refine U.bl ?_
          refine U.op ?_
          refine U.v (by with_unfolding_all rfl) ?_
          refine U.tup ?_
          refine U.cons ?_
          refine U.cs ?_
          refine U.cons ?_
          refine U.op ?_
          refine U.v (by with_unfolding_all rfl) ?_
          refine U.cs ?_
          refine U.ixK h.g0 (by with_unfolding_all rfl) (by with_unfolding_all rfl) ?_
          refine U.nil ?_
          refine And.intro (of_decide_eq_true (by kernel_rfl)) ?_
          refine U.eqP (of_decide_eq_true (by kernel_rfl)) (of_decide_eq_true (by kernel_rfl)) (by with_unfolding_all rfl) (by with_unfolding_all rfl) hsh (by kernel_rfl) ?_
        refine U.bt (by simp only [decide_eq_true_eq, decide_eq_false_iff_not, beq_iff_eq, bne_iff_ne, Bool.not_eq_true', Bool.not_eq_false', Bool.false_xor, Bool.true_xor]; first | assumption | omega) ?_
        with_reducible
          refine U.bl ?_
          refine U.op ?_
          refine U.op ?_
          refine U.v (by with_unfolding_all rfl) ?_
          refine U.cs ?_
          refine U.ixK h.g0 (by with_unfolding_all rfl) (by with_unfolding_all rfl) ?_
          refine U.cs ?_
          refine U.eqS ?_
          refine U.bf (by decide +kernel) ?_
          refine U.next ?_
          refine U.pnx ?_
        exact q _ h
      · with_reducible
          delta Law.S__law_given
          refine U.ar (of_decide_eq_true (by kernel_rfl)) ?_
          refine U.run ?_
          delta Law.w__law_given
          refine U.seq ?_
          refine U.ifs ?_
          refine U.andT ?_
          refine U.bl ?_
          refine U.op ?_
          refine U.v (by with_unfolding_all rfl) ?_
          refine U.tup ?_
          refine U.cons ?_
          refine U.cs ?_
          refine U.cons ?_
          refine U.op ?_
          refine U.v (by with_unfolding_all rfl) ?_
          refine U.cs ?_
          refine U.ixK h.g0 (by with_unfolding_all rfl) (by with_unfolding_all rfl) ?_
          refine U.nil ?_
          refine And.intro (of_decide_eq_true (by kernel_rfl)) ?_
          refine U.eqP (of_decide_eq_true (by kernel_rfl)) (of_decide_eq_true (by kernel_rfl)) (by with_unfolding_all rfl) (by with_unfolding_all rfl) hsh (by kernel_rfl) ?_
        refine U.bf (by simp only [decide_eq_true_eq, decide_eq_false_iff_not, beq_iff_eq, bne_iff_ne, Bool.not_eq_true', Bool.not_eq_false', Bool.false_xor, Bool.true_xor]; first | assumption | omega) ?_
        with_reducible
          refine U.bf (by decide +kernel) ?_
          refine U.next ?_
          refine U.pnx ?_
          refine U.ifs ?_
          refine U.andT ?_
          refine U.bl ?_
          refine U.op ?_
          refine U.v (by with_unfolding_all rfl) ?_
          refine U.tup ?_
          refine U.cons ?_
          refine U.cs ?_
          refine U.cons ?_
          refine U.op ?_
          refine U.v (by with_unfolding_all rfl) ?_
          refine U.cs ?_
          refine U.ixK h.g0 (by with_unfolding_all rfl) (by with_unfolding_all rfl) ?_
          refine U.nil ?_
          refine And.intro (of_decide_eq_true (by kernel_rfl)) ?_
          refine U.eqP (of_decide_eq_true (by kernel_rfl)) (of_decide_eq_true (by kernel_rfl)) (by with_unfolding_all rfl) (by with_unfolding_all rfl) hsh (by kernel_rfl) ?_
        refine U.bt (by simp only [decide_eq_true_eq, decide_eq_false_iff_not, beq_iff_eq, bne_iff_ne, Bool.not_eq_true', Bool.not_eq_false', Bool.false_xor, Bool.true_xor]; first | assumption | omega) ?_
        with_reducible
          refine U.bl ?_
          refine U.op ?_
          refine U.op ?_
          refine U.v (by with_unfolding_all rfl) ?_
          refine U.cs ?_
          refine U.ixK h.g0 (by with_unfolding_all rfl) (by with_unfolding_all rfl) ?_
          refine U.cs ?_
          refine U.eqS ?_
          refine U.bf (by decide +kernel) ?_
          refine U.next ?_
          refine U.pnx ?_
        exact q _ h
      · exact absurd rfl hpn
    · rw [Bool.not_eq_true] at eg
      with_reducible
        delta Law.S__law_given
        refine U.ar (of_decide_eq_true (by kernel_rfl)) ?_
        refine U.run ?_
        delta Law.w__law_given
        refine U.seq ?_
        refine U.ifs ?_
        refine U.andT ?_
        refine U.bl ?_
        refine U.op ?_
        refine U.v (by with_unfolding_all rfl) ?_
        refine U.tup ?_
        refine U.cons ?_
        refine U.cs ?_
        refine U.cons ?_
        refine U.op ?_
        refine U.v (by with_unfolding_all rfl) ?_
        refine U.cs ?_
        refine U.ixK h.g0 (by with_unfolding_all rfl) (by with_unfolding_all rfl) ?_
        refine U.nil ?_
        refine And.intro (of_decide_eq_true (by kernel_rfl)) ?_
        refine U.eqP (of_decide_eq_true (by kernel_rfl)) (of_decide_eq_true (by kernel_rfl)) (by with_unfolding_all rfl) (by with_unfolding_all rfl) hsh (by kernel_rfl) ?_
      refine U.bf (by simp only [decide_eq_true_eq, decide_eq_false_iff_not, beq_iff_eq, bne_iff_ne, Bool.not_eq_true', Bool.not_eq_false', Bool.false_xor, Bool.true_xor]; first | assumption | omega) ?_
      with_reducible
        refine U.bf (by decide +kernel) ?_
        refine U.next ?_
        refine U.pnx ?_
        refine U.ifs ?_
        refine U.andT ?_
        refine U.bl ?_
        refine U.op ?_
        refine U.v (by with_unfolding_all rfl) ?_
        refine U.tup ?_
        refine U.cons ?_
        refine U.cs ?_
        refine U.cons ?_
        refine U.op ?_
        refine U.v (by with_unfolding_all rfl) ?_
        refine U.cs ?_
        refine U.ixK h.g0 (by with_unfolding_all rfl) (by with_unfolding_all rfl) ?_
        refine U.nil ?_
        refine And.intro (of_decide_eq_true (by kernel_rfl)) ?_
        refine U.eqP (of_decide_eq_true (by kernel_rfl)) (of_decide_eq_true (by kernel_rfl)) (by with_unfolding_all rfl) (by with_unfolding_all rfl) hsh (by kernel_rfl) ?_
      refine U.bf (by simp only [decide_eq_true_eq, decide_eq_false_iff_not, beq_iff_eq, bne_iff_ne, Bool.not_eq_true', Bool.not_eq_false', Bool.false_xor, Bool.true_xor]; first | assumption | omega) ?_
      with_reducible
        refine U.bf (by decide +kernel) ?_
        refine U.next ?_
        refine U.pnx ?_
      exact q _ h
theorem sp_given (hw : PyData.strOk w = true) (hp : Phs ph) (h : DL.St k m ((rm, mineO ph n ps kn) :: L)) (q : ∀ m', DL.St k m' ((rm, mineO (recvF w i ph n kn).1 n ps (recvF w i ph n kn).2) :: L) → Q .non m') : S__law_given [.ref rm, .tup [.str w, .int i]] m Q := by
  unfold recvF at q
  by_cases h1 : ph = "frozen" ∧ w = "whole" ∧ i = n
  · rw [if_pos h1] at q
    obtain ⟨rfl, rfl, rfl⟩ := h1
    exact given_whole h q
  · rw [if_neg h1] at q
    by_cases h2 : ph = "given" ∧ w = "going" ∧ i = n
    · rw [if_pos h2] at q
      obtain ⟨rfl, rfl, rfl⟩ := h2
      exact given_going h q
    · rw [if_neg h2] at q
      refine given_no hw hp ⟨fun hw' => ?_, fun hw' => ?_⟩ h q
      · by_cases z : ph = "frozen"
        · exact .inr fun z2 => h1 ⟨z, hw', z2⟩
        · exact .inl z
      · by_cases z : ph = "given"
        · exact .inr fun z2 => h2 ⟨z, hw', z2⟩
        · exact .inl z
theorem its_whole (h : DL.St k m ((ri, itsO turn many ld runs) :: (ld, .dct (kvD xs)) :: L)) (q : ∀ m', DL.St k m' ((ri, itsO turn many ld runs) :: (ld, .dct (kvD xs)) :: L) → Q (.bl (wholeB turn many xs)) m') : S__law_whole [.ref ri] m Q := by
  have q' := q m h
  unfold wholeB at q'
  by_cases hb : 0 < turn
  · rw [decide_eq_true hb, Bool.true_and] at q'
    have hb2 : decide (0 < turn) = true := decide_eq_true hb
    with_reducible
      delta Law.S__law_whole
      refine U.ar (by with_unfolding_all rfl) ?_
      refine U.run ?_
      delta Law.w__law_whole
      refine U.ret ?_
      refine U.and ?_
      refine U.op ?_
      refine U.op ?_
      refine U.v (by with_unfolding_all rfl) ?_
      refine U.cs ?_
      refine U.ixK h.g0 (by with_unfolding_all rfl) (by with_unfolding_all rfl) ?_
      refine U.cs ?_
      refine U.rel ?_
      refine U.truB ?_
    refine U.bt (by assumption) ?_
    with_reducible
      refine U.op ?_
      refine U.bi ?_
      refine U.cons ?_
      refine U.op ?_
      refine U.v (by with_unfolding_all rfl) ?_
      refine U.cs ?_
      refine U.ixK h.g0 (by with_unfolding_all rfl) (by with_unfolding_all rfl) ?_
      refine U.nil ?_
    refine kv_len h.f1 ?_
    with_reducible
      refine U.op ?_
      refine U.v (by with_unfolding_all rfl) ?_
      refine U.cs ?_
      refine U.ixK h.g0 (by with_unfolding_all rfl) (by with_unfolding_all rfl) ?_
      refine U.eqI ?_
      refine U.prt ?_
    rw [Bool.false_xor]; exact q'
  · rw [decide_eq_false hb, Bool.false_and] at q'
    have hb2 : decide (0 < turn) = false := decide_eq_false hb
    with_reducible
      delta Law.S__law_whole
      refine U.ar (by with_unfolding_all rfl) ?_
      refine U.run ?_
      delta Law.w__law_whole
      refine U.ret ?_
      refine U.and ?_
      refine U.op ?_
      refine U.op ?_
      refine U.v (by with_unfolding_all rfl) ?_
      refine U.cs ?_
      refine U.ixK h.g0 (by with_unfolding_all rfl) (by with_unfolding_all rfl) ?_
      refine U.cs ?_
      refine U.rel ?_
      refine U.truB ?_
    refine U.bf (by assumption) ?_
    with_reducible
      refine U.prt ?_
    show Q (.bl (decide (0 < turn))) _
    rw [hb2]; exact q'
theorem its_sends (h : DL.St k m ((ri, itsO turn many ld runs) :: (ld, .dct (kvD xs)) :: L)) (q : ∀ m', DL.St k m' ((ri, itsO turn many ld runs) :: (ld, .dct (kvD xs)) :: L) → Q (.lst (tmsgs turn many xs runs)) m') : S__law_taker_sends [.ref ri] m Q := by
  have q' := q
  unfold tmsgs at q'
  cases runs
  · with_reducible
      delta Law.S__law_taker_sends
      refine U.ar (by with_unfolding_all rfl) ?_
      refine U.run ?_
      delta Law.w__law_taker_sends
      refine U.seq ?_
      refine U.ifs ?_
      refine U.tru ?_
      refine U.op ?_
      refine U.v (by with_unfolding_all rfl) ?_
      refine U.cs ?_
      refine U.ixK h.g0 (by with_unfolding_all rfl) (by with_unfolding_all rfl) ?_
      refine U.truB ?_
      refine U.bf (by decide +kernel) ?_
      refine U.next ?_
      refine U.pnx ?_
      refine U.ret ?_
      refine U.ife ?_
      refine U.tru ?_
      refine U.call ?_
      refine U.cons ?_
      refine U.v (by with_unfolding_all rfl) ?_
      refine U.nil ?_
    refine its_whole h.f1.f1 ?_
    with_reducible
      intro m1
      intro I1
      clear h
      refine U.truB ?_
    by_cases hw : wholeB turn many xs = true
    · rw [if_pos hw] at q' ⊢
      with_reducible
        refine U.lst ?_
        refine U.cons ?_
        refine U.tup ?_
        refine U.cons ?_
        refine U.cs ?_
        refine U.cons ?_
        refine U.op ?_
        refine U.v (by with_unfolding_all rfl) ?_
        refine U.cs ?_
        refine U.ixK I1.g0 (by with_unfolding_all rfl) (by with_unfolding_all rfl) ?_
        refine U.nil ?_
        refine And.intro (of_decide_eq_true (by kernel_rfl)) ?_
        refine U.nil ?_
        refine And.intro (of_decide_eq_true (by kernel_rfl)) ?_
        refine U.newD ?_
        refine U.prt ?_
      exact q' _ I1.f1.f1
    · rw [if_neg hw] at q' ⊢
      with_reducible
        refine U.lst ?_
        refine U.nil ?_
        refine And.intro (by decide +kernel) ?_
        refine U.newD ?_
        refine U.prt ?_
      exact q' _ I1.f1.f1
  · rw [if_pos rfl] at q'
    with_reducible
      delta Law.S__law_taker_sends
      refine U.ar (by with_unfolding_all rfl) ?_
      refine U.run ?_
      delta Law.w__law_taker_sends
      refine U.seq ?_
      refine U.ifs ?_
      refine U.tru ?_
      refine U.op ?_
      refine U.v (by with_unfolding_all rfl) ?_
      refine U.cs ?_
      refine U.ixK h.g0 (by with_unfolding_all rfl) (by with_unfolding_all rfl) ?_
      refine U.truB ?_
      refine U.bt (by decide +kernel) ?_
      refine U.ret ?_
      refine U.lst ?_
      refine U.cons ?_
      refine U.tup ?_
      refine U.cons ?_
      refine U.cs ?_
      refine U.cons ?_
      refine U.op ?_
      refine U.v (by with_unfolding_all rfl) ?_
      refine U.cs ?_
      refine U.ixK h.g0 (by with_unfolding_all rfl) (by with_unfolding_all rfl) ?_
      refine U.nil ?_
      refine And.intro (of_decide_eq_true (by kernel_rfl)) ?_
      refine U.nil ?_
      refine And.intro (of_decide_eq_true (by kernel_rfl)) ?_
      refine U.newD ?_
      refine U.prt ?_
      refine U.prt ?_
    exact q' _ h.f1.f1
theorem its_text (hxl : xs.length < 60) (hs : shortT xs) (h : DL.St k m ((ri, itsO turn many ld runs) :: (ld, .dct (kvD xs)) :: L)) (q : ∀ m', DL.St k m' ((ri, itsO turn many ld runs) :: (ld, .dct (kvD xs)) :: L) → Q (.str (textF xs)) m') : S__law_text [.ref ri] m Q := by
  with_reducible
    delta Law.S__law_text
    refine U.ar (by with_unfolding_all rfl) ?_
    refine U.run ?_
    delta Law.w__law_text
    refine U.ret ?_
    refine U.join ?_
    refine U.cs ?_
    refine U.lc ?_
    refine U.any ?_
    refine U.bi ?_
    refine U.cons ?_
    refine U.op ?_
    refine U.v (by with_unfolding_all rfl) ?_
    refine U.cs ?_
    refine U.ixK h.g0 (by with_unfolding_all rfl) (by with_unfolding_all rfl) ?_
    refine U.nil ?_
  refine kv_sorted h.f1 (by omega) ?_
  with_reducible
    refine U.itL (by with_unfolding_all rfl) ?_
    refine U.mk h ?_
    intro p1
    intro m1
    intro I1
    clear h
  refine lc_text (L := (ri, itsO turn many ld runs) :: L) (by omega) (fun m => rfl) (by show 1 < 2; decide) ?_ (by exact I1.f1.f2.f2) ?_
  · intro v m acc K h hK
    with_reducible
      refine U.op ?_
      refine U.v (by with_unfolding_all rfl) ?_
      refine U.cs ?_
      refine U.ixK h.g2 (by with_unfolding_all rfl) (by with_unfolding_all rfl) ?_
    exact hK
  · intro m' h'
    refine ⟨_, rfl, ?_, ?_⟩
    · exact text_bd hxl hs
    · with_reducible
        refine U.prt ?_
      exact q _ h'.f1
theorem shaped_pc {a b c : Int} {x : Str} (hx : PyData.strOk x = true) : SeqAt.shaped (PyData.tuple [.str "piece", .int a, .int b, .int c, .str x]) = true := shaped5 (by decide +kernel) hx
theorem eqv_pc {a b c q : Int} {x : Str} : PyData.eqv (.tuple [.str "piece", .int a, .int b, .int c, .str x]) (.tuple [.str "go", .int q]) = false := eqv25
/-- the record of the taker behind a piece -/
theorem its_piece {t' : Int} {x : Str} {j mn : Int} (hx : PyData.strOk x = true) (hl : xs.length < 60) (h : DL.St k m ((ri, itsO turn many ld false) :: (ld, .dct (kvD xs)) :: L))
    (q : ∀ m' ld, DL.St k m' ((ri, itsO (keepF turn many xs t' j mn x).1 (keepF turn many xs t' j mn x).2.1 ld false) :: (ld, .dct (kvD (keepF turn many xs t' j mn x).2.2)) :: L) → Q .non m') : S__law_taken [.ref ri, .tup [.str "piece", .int t', .int j, .int mn, .str x]] m Q := by
  have hsh := shaped_pc (a := t') (b := j) (c := mn) hx
  have hs1 : SeqAt.shaped (.tuple [.str "go", .int turn]) = true := shaped2 (by decide +kernel)
  have hs2 : SeqAt.shaped (.tuple [.str "go", .int t']) = true := shaped2 (by decide +kernel)
  have e1 := eqv_pc (a := t') (b := j) (c := mn) (q := turn) (x := x)
  have e2 := eqv_pc (a := t') (b := j) (c := mn) (q := t') (x := x)
  unfold keepF at q
  by_cases h1 : turn < t'
  · simp only [if_pos h1, List.lookup_nil, and_self, if_true] at q
    with_reducible
      delta Law.S__law_taken
      refine U.ar (of_decide_eq_true (by kernel_rfl)) ?_
      refine U.run ?_
      delta Law.w__law_taken
      refine U.seq ?_
      refine U.ifs ?_
      refine U.tru ?_
      refine U.op ?_
      refine U.v (by with_unfolding_all rfl) ?_
      refine U.cs ?_
      refine U.ixK h.g0 (by with_unfolding_all rfl) (by with_unfolding_all rfl) ?_
      refine U.truB ?_
      refine U.bf (by decide +kernel) ?_
      refine U.next ?_
      refine U.pnx ?_
      refine U.seq ?_
      refine U.ifs ?_
      refine U.andT ?_
      refine U.bl ?_
      refine U.op ?_
      refine U.op ?_
      refine U.v (by with_unfolding_all rfl) ?_
      refine U.cs ?_
      refine U.ix0 (by with_unfolding_all rfl) ?_
      refine U.cs ?_
      refine U.eqS ?_
      refine U.bt (by decide +kernel) ?_
      refine U.bl ?_
      refine U.op ?_
      refine U.op ?_
      refine U.v (by with_unfolding_all rfl) ?_
      refine U.cs ?_
      refine U.ix1 (by with_unfolding_all rfl) ?_
      refine U.op ?_
      refine U.v (by with_unfolding_all rfl) ?_
      refine U.cs ?_
      refine U.ixK h.g0 (by with_unfolding_all rfl) (by with_unfolding_all rfl) ?_
      refine U.rel ?_
    refine U.bt (by simp only [decide_eq_true_eq, decide_eq_false_iff_not, beq_iff_eq, bne_iff_ne, Bool.not_eq_true', Bool.not_eq_false', Bool.false_xor, Bool.true_xor]; first | assumption | omega) ?_
    with_reducible
      refine U.seq ?_
      refine U.asg ?_
      refine U.op ?_
      refine U.v (by with_unfolding_all rfl) ?_
      refine U.cs ?_
      refine U.ix1 (by with_unfolding_all rfl) ?_
      refine U.gsub ?_
      refine U.v (by with_unfolding_all rfl) ?_
      refine U.cs ?_
      refine U.setDD h (by with_unfolding_all rfl) (of_decide_eq_true (by kernel_rfl)) ?_
      intro m1
      intro I1
      clear h
      refine U.pnx ?_
      refine U.seq ?_
      refine U.asg ?_
      refine U.op ?_
      refine U.v (by with_unfolding_all rfl) ?_
      refine U.cs ?_
      refine U.ix3 (by with_unfolding_all rfl) ?_
      refine U.gsub ?_
      refine U.v (by with_unfolding_all rfl) ?_
      refine U.cs ?_
      refine U.setDD I1 (by with_unfolding_all rfl) (of_decide_eq_true (by kernel_rfl)) ?_
      intro m2
      intro I2
      clear I1
      refine U.pnx ?_
      refine U.asg ?_
    refine kv_new I2 ?_
    with_reducible
      intro p1
      intro m3
      intro I1
      clear I2
      refine U.gsub ?_
      refine U.v (by with_unfolding_all rfl) ?_
      refine U.cs ?_
      refine U.setDD I1.f1 (by with_unfolding_all rfl) (of_decide_eq_true (by kernel_rfl)) ?_
      intro m4
      intro I2
      clear I1
      refine U.pnx ?_
      refine U.seq ?_
      refine U.ifs ?_
      refine U.andT ?_
      refine U.bl ?_
      refine U.op ?_
      refine U.op ?_
      refine U.v (by with_unfolding_all rfl) ?_
      refine U.cs ?_
      refine U.ix0 (by with_unfolding_all rfl) ?_
      refine U.cs ?_
      refine U.eqS ?_
      refine U.bt (by decide +kernel) ?_
      refine U.andT ?_
      refine U.bl ?_
      refine U.op ?_
      refine U.op ?_
      refine U.v (by with_unfolding_all rfl) ?_
      refine U.cs ?_
      refine U.ix1 (by with_unfolding_all rfl) ?_
      refine U.op ?_
      refine U.v (by with_unfolding_all rfl) ?_
      refine U.cs ?_
      refine U.ixK I2.g0 (by with_unfolding_all rfl) (by with_unfolding_all rfl) ?_
      refine U.eqI ?_
    refine U.bt (by simp) ?_
    with_reducible
      refine U.bl ?_
      refine U.op ?_
      refine U.op ?_
      refine U.v (by with_unfolding_all rfl) ?_
      refine U.cs ?_
      refine U.ix2 (by with_unfolding_all rfl) ?_
      refine U.op ?_
      refine U.v (by with_unfolding_all rfl) ?_
      refine U.cs ?_
      refine U.ixK I2.g0 (by with_unfolding_all rfl) (by with_unfolding_all rfl) ?_
    refine kv_in I2.f1 ?_
    with_reducible
      refine U.bt (by kernel_rfl) ?_
      refine U.asg ?_
      refine U.op ?_
      refine U.v (by with_unfolding_all rfl) ?_
      refine U.cs ?_
      refine U.ix4 (by with_unfolding_all rfl) ?_
      refine U.gsub ?_
      refine U.op ?_
      refine U.v (by with_unfolding_all rfl) ?_
      refine U.cs ?_
      refine U.ixK I2.g0 (by with_unfolding_all rfl) (by with_unfolding_all rfl) ?_
      refine U.op ?_
      refine U.v (by with_unfolding_all rfl) ?_
      refine U.cs ?_
      refine U.ix2 (by with_unfolding_all rfl) ?_
    refine kv_set I2.f1 (by decide +kernel) (of_decide_eq_true (by kernel_rfl)) ?_
    with_reducible
      intro m5
      intro I1
      clear I2
      refine U.pnx ?_
      refine U.ifs ?_
      refine U.andT ?_
      refine U.bl ?_
      refine U.op ?_
      refine U.v (by with_unfolding_all rfl) ?_
      refine U.tup ?_
      refine U.cons ?_
      refine U.cs ?_
      refine U.cons ?_
      refine U.op ?_
      refine U.v (by with_unfolding_all rfl) ?_
      refine U.cs ?_
      refine U.ixK I1.g1 (by with_unfolding_all rfl) (by with_unfolding_all rfl) ?_
      refine U.nil ?_
      refine And.intro (of_decide_eq_true (by kernel_rfl)) ?_
      refine U.eqP (of_decide_eq_true (by kernel_rfl)) (of_decide_eq_true (by kernel_rfl)) (by with_unfolding_all rfl) (by with_unfolding_all rfl) hsh (by kernel_rfl) ?_
      refine U.bf (by kernel_rfl) ?_
      refine U.bf (by decide +kernel) ?_
      refine U.next ?_
      refine U.pnx ?_
    exact q _ _ I1.f1.d2
  · simp only [if_neg h1] at q
    by_cases h2 : t' = turn
    · subst h2
      cases h3 : xs.lookup j with
      | none =>
        simp only [h3, and_self, if_true] at q
        with_reducible
          delta Law.S__law_taken
          refine U.ar (of_decide_eq_true (by kernel_rfl)) ?_
          refine U.run ?_
          delta Law.w__law_taken
          refine U.seq ?_
          refine U.ifs ?_
          refine U.tru ?_
          refine U.op ?_
          refine U.v (by with_unfolding_all rfl) ?_
          refine U.cs ?_
          refine U.ixK h.g0 (by with_unfolding_all rfl) (by with_unfolding_all rfl) ?_
          refine U.truB ?_
          refine U.bf (by decide +kernel) ?_
          refine U.next ?_
          refine U.pnx ?_
          refine U.seq ?_
          refine U.ifs ?_
          refine U.andT ?_
          refine U.bl ?_
          refine U.op ?_
          refine U.op ?_
          refine U.v (by with_unfolding_all rfl) ?_
          refine U.cs ?_
          refine U.ix0 (by with_unfolding_all rfl) ?_
          refine U.cs ?_
          refine U.eqS ?_
          refine U.bt (by decide +kernel) ?_
          refine U.bl ?_
          refine U.op ?_
          refine U.op ?_
          refine U.v (by with_unfolding_all rfl) ?_
          refine U.cs ?_
          refine U.ix1 (by with_unfolding_all rfl) ?_
          refine U.op ?_
          refine U.v (by with_unfolding_all rfl) ?_
          refine U.cs ?_
          refine U.ixK h.g0 (by with_unfolding_all rfl) (by with_unfolding_all rfl) ?_
          refine U.rel ?_
        refine U.bf (by simp only [decide_eq_true_eq, decide_eq_false_iff_not, beq_iff_eq, bne_iff_ne, Bool.not_eq_true', Bool.not_eq_false', Bool.false_xor, Bool.true_xor]; first | assumption | omega) ?_
        with_reducible
          refine U.next ?_
          refine U.pnx ?_
          refine U.seq ?_
          refine U.ifs ?_
          refine U.andT ?_
          refine U.bl ?_
          refine U.op ?_
          refine U.op ?_
          refine U.v (by with_unfolding_all rfl) ?_
          refine U.cs ?_
          refine U.ix0 (by with_unfolding_all rfl) ?_
          refine U.cs ?_
          refine U.eqS ?_
          refine U.bt (by decide +kernel) ?_
          refine U.andT ?_
          refine U.bl ?_
          refine U.op ?_
          refine U.op ?_
          refine U.v (by with_unfolding_all rfl) ?_
          refine U.cs ?_
          refine U.ix1 (by with_unfolding_all rfl) ?_
          refine U.op ?_
          refine U.v (by with_unfolding_all rfl) ?_
          refine U.cs ?_
          refine U.ixK h.g0 (by with_unfolding_all rfl) (by with_unfolding_all rfl) ?_
          refine U.eqI ?_
        refine U.bt (by simp) ?_
        with_reducible
          refine U.bl ?_
          refine U.op ?_
          refine U.op ?_
          refine U.v (by with_unfolding_all rfl) ?_
          refine U.cs ?_
          refine U.ix2 (by with_unfolding_all rfl) ?_
          refine U.op ?_
          refine U.v (by with_unfolding_all rfl) ?_
          refine U.cs ?_
          refine U.ixK h.g0 (by with_unfolding_all rfl) (by with_unfolding_all rfl) ?_
        refine kv_in h.f1 ?_
        refine U.bt (by simp [PySem.SeqAt.shaped, PySem.PyData.canLay0, PySem.PyData.canLayAll0, PySem.PyData.depth, PySem.PyData.depthAll, PySem.PyData.eqv, PySem.PyData.eqvAll, *]) ?_
        with_reducible
          refine U.asg ?_
          refine U.op ?_
          refine U.v (by with_unfolding_all rfl) ?_
          refine U.cs ?_
          refine U.ix4 (by with_unfolding_all rfl) ?_
          refine U.gsub ?_
          refine U.op ?_
          refine U.v (by with_unfolding_all rfl) ?_
          refine U.cs ?_
          refine U.ixK h.g0 (by with_unfolding_all rfl) (by with_unfolding_all rfl) ?_
          refine U.op ?_
          refine U.v (by with_unfolding_all rfl) ?_
          refine U.cs ?_
          refine U.ix2 (by with_unfolding_all rfl) ?_
        refine kv_set h.f1 (by omega) h3 ?_
        with_reducible
          intro m1
          intro I1
          clear h
          refine U.pnx ?_
          refine U.ifs ?_
          refine U.andT ?_
          refine U.bl ?_
          refine U.op ?_
          refine U.v (by with_unfolding_all rfl) ?_
          refine U.tup ?_
          refine U.cons ?_
          refine U.cs ?_
          refine U.cons ?_
          refine U.op ?_
          refine U.v (by with_unfolding_all rfl) ?_
          refine U.cs ?_
          refine U.ixK I1.g1 (by with_unfolding_all rfl) (by with_unfolding_all rfl) ?_
          refine U.nil ?_
          refine And.intro (of_decide_eq_true (by kernel_rfl)) ?_
          refine U.eqP (of_decide_eq_true (by kernel_rfl)) (of_decide_eq_true (by kernel_rfl)) (by with_unfolding_all rfl) (by with_unfolding_all rfl) hsh (by kernel_rfl) ?_
          refine U.bf (by kernel_rfl) ?_
          refine U.bf (by decide +kernel) ?_
          refine U.next ?_
          refine U.pnx ?_
        exact q _ _ I1.f1
      | some u =>
        simp only [h3, reduceCtorEq, and_false, if_false] at q
        with_reducible
          delta Law.S__law_taken
          refine U.ar (of_decide_eq_true (by kernel_rfl)) ?_
          refine U.run ?_
          delta Law.w__law_taken
          refine U.seq ?_
          refine U.ifs ?_
          refine U.tru ?_
          refine U.op ?_
          refine U.v (by with_unfolding_all rfl) ?_
          refine U.cs ?_
          refine U.ixK h.g0 (by with_unfolding_all rfl) (by with_unfolding_all rfl) ?_
          refine U.truB ?_
          refine U.bf (by decide +kernel) ?_
          refine U.next ?_
          refine U.pnx ?_
          refine U.seq ?_
          refine U.ifs ?_
          refine U.andT ?_
          refine U.bl ?_
          refine U.op ?_
          refine U.op ?_
          refine U.v (by with_unfolding_all rfl) ?_
          refine U.cs ?_
          refine U.ix0 (by with_unfolding_all rfl) ?_
          refine U.cs ?_
          refine U.eqS ?_
          refine U.bt (by decide +kernel) ?_
          refine U.bl ?_
          refine U.op ?_
          refine U.op ?_
          refine U.v (by with_unfolding_all rfl) ?_
          refine U.cs ?_
          refine U.ix1 (by with_unfolding_all rfl) ?_
          refine U.op ?_
          refine U.v (by with_unfolding_all rfl) ?_
          refine U.cs ?_
          refine U.ixK h.g0 (by with_unfolding_all rfl) (by with_unfolding_all rfl) ?_
          refine U.rel ?_
        refine U.bf (by simp only [decide_eq_true_eq, decide_eq_false_iff_not, beq_iff_eq, bne_iff_ne, Bool.not_eq_true', Bool.not_eq_false', Bool.false_xor, Bool.true_xor]; first | assumption | omega) ?_
        with_reducible
          refine U.next ?_
          refine U.pnx ?_
          refine U.seq ?_
          refine U.ifs ?_
          refine U.andT ?_
          refine U.bl ?_
          refine U.op ?_
          refine U.op ?_
          refine U.v (by with_unfolding_all rfl) ?_
          refine U.cs ?_
          refine U.ix0 (by with_unfolding_all rfl) ?_
          refine U.cs ?_
          refine U.eqS ?_
          refine U.bt (by decide +kernel) ?_
          refine U.andT ?_
          refine U.bl ?_
          refine U.op ?_
          refine U.op ?_
          refine U.v (by with_unfolding_all rfl) ?_
          refine U.cs ?_
          refine U.ix1 (by with_unfolding_all rfl) ?_
          refine U.op ?_
          refine U.v (by with_unfolding_all rfl) ?_
          refine U.cs ?_
          refine U.ixK h.g0 (by with_unfolding_all rfl) (by with_unfolding_all rfl) ?_
          refine U.eqI ?_
        refine U.bt (by simp) ?_
        with_reducible
          refine U.bl ?_
          refine U.op ?_
          refine U.op ?_
          refine U.v (by with_unfolding_all rfl) ?_
          refine U.cs ?_
          refine U.ix2 (by with_unfolding_all rfl) ?_
          refine U.op ?_
          refine U.v (by with_unfolding_all rfl) ?_
          refine U.cs ?_
          refine U.ixK h.g0 (by with_unfolding_all rfl) (by with_unfolding_all rfl) ?_
        refine kv_in h.f1 ?_
        refine U.bf (by simp [PySem.SeqAt.shaped, PySem.PyData.canLay0, PySem.PyData.canLayAll0, PySem.PyData.depth, PySem.PyData.depthAll, PySem.PyData.eqv, PySem.PyData.eqvAll, *]) ?_
        with_reducible
          refine U.next ?_
          refine U.pnx ?_
          refine U.ifs ?_
          refine U.andT ?_
          refine U.bl ?_
          refine U.op ?_
          refine U.v (by with_unfolding_all rfl) ?_
          refine U.tup ?_
          refine U.cons ?_
          refine U.cs ?_
          refine U.cons ?_
          refine U.op ?_
          refine U.v (by with_unfolding_all rfl) ?_
          refine U.cs ?_
          refine U.ixK h.g0 (by with_unfolding_all rfl) (by with_unfolding_all rfl) ?_
          refine U.nil ?_
          refine And.intro (of_decide_eq_true (by kernel_rfl)) ?_
          refine U.eqP (of_decide_eq_true (by kernel_rfl)) (of_decide_eq_true (by kernel_rfl)) (by with_unfolding_all rfl) (by with_unfolding_all rfl) hsh (by kernel_rfl) ?_
          refine U.bf (by kernel_rfl) ?_
          refine U.bf (by decide +kernel) ?_
          refine U.next ?_
          refine U.pnx ?_
        exact q _ _ h.f1.f1
    · simp only [h2, false_and, if_false] at q
      with_reducible
        delta Law.S__law_taken
        refine U.ar (of_decide_eq_true (by kernel_rfl)) ?_
        refine U.run ?_
        delta Law.w__law_taken
        refine U.seq ?_
        refine U.ifs ?_
        refine U.tru ?_
        refine U.op ?_
        refine U.v (by with_unfolding_all rfl) ?_
        refine U.cs ?_
        refine U.ixK h.g0 (by with_unfolding_all rfl) (by with_unfolding_all rfl) ?_
        refine U.truB ?_
        refine U.bf (by decide +kernel) ?_
        refine U.next ?_
        refine U.pnx ?_
        refine U.seq ?_
        refine U.ifs ?_
        refine U.andT ?_
        refine U.bl ?_
        refine U.op ?_
        refine U.op ?_
        refine U.v (by with_unfolding_all rfl) ?_
        refine U.cs ?_
        refine U.ix0 (by with_unfolding_all rfl) ?_
        refine U.cs ?_
        refine U.eqS ?_
        refine U.bt (by decide +kernel) ?_
        refine U.bl ?_
        refine U.op ?_
        refine U.op ?_
        refine U.v (by with_unfolding_all rfl) ?_
        refine U.cs ?_
        refine U.ix1 (by with_unfolding_all rfl) ?_
        refine U.op ?_
        refine U.v (by with_unfolding_all rfl) ?_
        refine U.cs ?_
        refine U.ixK h.g0 (by with_unfolding_all rfl) (by with_unfolding_all rfl) ?_
        refine U.rel ?_
      refine U.bf (by simp only [decide_eq_true_eq, decide_eq_false_iff_not, beq_iff_eq, bne_iff_ne, Bool.not_eq_true', Bool.not_eq_false', Bool.false_xor, Bool.true_xor]; first | assumption | omega) ?_
      with_reducible
        refine U.next ?_
        refine U.pnx ?_
        refine U.seq ?_
        refine U.ifs ?_
        refine U.andT ?_
        refine U.bl ?_
        refine U.op ?_
        refine U.op ?_
        refine U.v (by with_unfolding_all rfl) ?_
        refine U.cs ?_
        refine U.ix0 (by with_unfolding_all rfl) ?_
        refine U.cs ?_
        refine U.eqS ?_
        refine U.bt (by decide +kernel) ?_
        refine U.andT ?_
        refine U.bl ?_
        refine U.op ?_
        refine U.op ?_
        refine U.v (by with_unfolding_all rfl) ?_
        refine U.cs ?_
        refine U.ix1 (by with_unfolding_all rfl) ?_
        refine U.op ?_
        refine U.v (by with_unfolding_all rfl) ?_
        refine U.cs ?_
        refine U.ixK h.g0 (by with_unfolding_all rfl) (by with_unfolding_all rfl) ?_
        refine U.eqI ?_
      refine U.bf (by simp only [decide_eq_true_eq, decide_eq_false_iff_not, beq_iff_eq, bne_iff_ne, Bool.not_eq_true', Bool.not_eq_false', Bool.false_xor, Bool.true_xor]; first | assumption | omega) ?_
      with_reducible
        refine U.bf (by decide +kernel) ?_
        refine U.next ?_
        refine U.pnx ?_
        refine U.ifs ?_
        refine U.andT ?_
        refine U.bl ?_
        refine U.op ?_
        refine U.v (by with_unfolding_all rfl) ?_
        refine U.tup ?_
        refine U.cons ?_
        refine U.cs ?_
        refine U.cons ?_
        refine U.op ?_
        refine U.v (by with_unfolding_all rfl) ?_
        refine U.cs ?_
        refine U.ixK h.g0 (by with_unfolding_all rfl) (by with_unfolding_all rfl) ?_
        refine U.nil ?_
        refine And.intro (of_decide_eq_true (by kernel_rfl)) ?_
        refine U.eqP (of_decide_eq_true (by kernel_rfl)) (of_decide_eq_true (by kernel_rfl)) (by with_unfolding_all rfl) (by with_unfolding_all rfl) hsh (by kernel_rfl) ?_
        refine U.bf (by kernel_rfl) ?_
        refine U.bf (by decide +kernel) ?_
        refine U.next ?_
        refine U.pnx ?_
      exact q _ _ h.f1.f1
theorem its_run {d : DV} (h : DL.St k m ((ri, itsO turn many ld true) :: L)) (q : ∀ m', DL.St k m' ((ri, itsO turn many ld true) :: L) → Q .non m') : S__law_taken [.ref ri, d] m Q := by
  with_reducible
    delta Law.S__law_taken
    refine U.ar (of_decide_eq_true (by kernel_rfl)) ?_
    refine U.run ?_
    delta Law.w__law_taken
    refine U.seq ?_
    refine U.ifs ?_
    refine U.tru ?_
    refine U.op ?_
    refine U.v (by with_unfolding_all rfl) ?_
    refine U.cs ?_
    refine U.ixK h.g0 (by with_unfolding_all rfl) (by with_unfolding_all rfl) ?_
    refine U.truB ?_
    refine U.bt (by decide +kernel) ?_
    refine U.retN ?_
    refine U.prt ?_
    refine U.prt ?_
  exact q _ h
theorem its_go {t' : Int} (h : DL.St k m ((ri, itsO turn many ld false) :: (ld, .dct (kvD xs)) :: L))
    (q : ∀ m', DL.St k m' ((ri, itsO turn many ld (decide (t' = turn) && wholeB turn many xs)) :: (ld, .dct (kvD xs)) :: L) → Q .non m') : S__law_taken [.ref ri, .tup [.str "go", .int t']] m Q := by
  have hs1 : SeqAt.shaped (.tuple [.str "go", .int turn]) = true := shaped2 (by decide +kernel)
  have hs2 : SeqAt.shaped (.tuple [.str "go", .int t']) = true := shaped2 (by decide +kernel)
  have hb : PyData.eqv (.tuple [.str "go", .int t']) (.tuple [.str "go", .int turn]) = decide (t' = turn) := by rw [eqv2, decide_eq_true rfl, Bool.true_and]
  by_cases h1 : t' = turn
  · subst h1
    rw [decide_eq_true rfl] at hb
    rw [decide_eq_true rfl, Bool.true_and] at q
    cases hw : wholeB t' many xs
    · rw [hw] at q
      with_reducible
        delta Law.S__law_taken
        refine U.ar (of_decide_eq_true (by kernel_rfl)) ?_
        refine U.run ?_
        delta Law.w__law_taken
        refine U.seq ?_
        refine U.ifs ?_
        refine U.tru ?_
        refine U.op ?_
        refine U.v (by with_unfolding_all rfl) ?_
        refine U.cs ?_
        refine U.ixK h.g0 (by with_unfolding_all rfl) (by with_unfolding_all rfl) ?_
        refine U.truB ?_
        refine U.bf (by decide +kernel) ?_
        refine U.next ?_
        refine U.pnx ?_
        refine U.seq ?_
        refine U.ifs ?_
        refine U.andT ?_
        refine U.bl ?_
        refine U.op ?_
        refine U.op ?_
        refine U.v (by with_unfolding_all rfl) ?_
        refine U.cs ?_
        refine U.ix0 (by with_unfolding_all rfl) ?_
        refine U.cs ?_
        refine U.eqS ?_
        refine U.bf (by decide +kernel) ?_
        refine U.bf (by decide +kernel) ?_
        refine U.next ?_
        refine U.pnx ?_
        refine U.seq ?_
        refine U.ifs ?_
        refine U.andT ?_
        refine U.bl ?_
        refine U.op ?_
        refine U.op ?_
        refine U.v (by with_unfolding_all rfl) ?_
        refine U.cs ?_
        refine U.ix0 (by with_unfolding_all rfl) ?_
        refine U.cs ?_
        refine U.eqS ?_
        refine U.bf (by decide +kernel) ?_
        refine U.bf (by decide +kernel) ?_
        refine U.next ?_
        refine U.pnx ?_
        refine U.ifs ?_
        refine U.andT ?_
        refine U.bl ?_
        refine U.op ?_
        refine U.v (by with_unfolding_all rfl) ?_
        refine U.tup ?_
        refine U.cons ?_
        refine U.cs ?_
        refine U.cons ?_
        refine U.op ?_
        refine U.v (by with_unfolding_all rfl) ?_
        refine U.cs ?_
        refine U.ixK h.g0 (by with_unfolding_all rfl) (by with_unfolding_all rfl) ?_
        refine U.nil ?_
        refine And.intro (of_decide_eq_true (by kernel_rfl)) ?_
        refine U.eqP (of_decide_eq_true (by kernel_rfl)) (of_decide_eq_true (by kernel_rfl)) (by with_unfolding_all rfl) (by with_unfolding_all rfl) (by kernel_rfl) (by kernel_rfl) ?_
      refine U.bt (by simp only [decide_eq_true_eq, decide_eq_false_iff_not, beq_iff_eq, bne_iff_ne, Bool.not_eq_true', Bool.not_eq_false', Bool.false_xor, Bool.true_xor]; first | assumption | omega) ?_
      with_reducible
        refine U.tru ?_
        refine U.call ?_
        refine U.cons ?_
        refine U.v (by with_unfolding_all rfl) ?_
        refine U.nil ?_
      refine its_whole h.f1.f1 ?_
      with_reducible
        intro m1
        intro I1
        clear h
        refine U.truB ?_
      refine U.bf (by assumption) ?_
      with_reducible
        refine U.next ?_
        refine U.pnx ?_
      exact q _ I1.f1.f1
    · rw [hw] at q
      with_reducible
        delta Law.S__law_taken
        refine U.ar (of_decide_eq_true (by kernel_rfl)) ?_
        refine U.run ?_
        delta Law.w__law_taken
        refine U.seq ?_
        refine U.ifs ?_
        refine U.tru ?_
        refine U.op ?_
        refine U.v (by with_unfolding_all rfl) ?_
        refine U.cs ?_
        refine U.ixK h.g0 (by with_unfolding_all rfl) (by with_unfolding_all rfl) ?_
        refine U.truB ?_
        refine U.bf (by decide +kernel) ?_
        refine U.next ?_
        refine U.pnx ?_
        refine U.seq ?_
        refine U.ifs ?_
        refine U.andT ?_
        refine U.bl ?_
        refine U.op ?_
        refine U.op ?_
        refine U.v (by with_unfolding_all rfl) ?_
        refine U.cs ?_
        refine U.ix0 (by with_unfolding_all rfl) ?_
        refine U.cs ?_
        refine U.eqS ?_
        refine U.bf (by decide +kernel) ?_
        refine U.bf (by decide +kernel) ?_
        refine U.next ?_
        refine U.pnx ?_
        refine U.seq ?_
        refine U.ifs ?_
        refine U.andT ?_
        refine U.bl ?_
        refine U.op ?_
        refine U.op ?_
        refine U.v (by with_unfolding_all rfl) ?_
        refine U.cs ?_
        refine U.ix0 (by with_unfolding_all rfl) ?_
        refine U.cs ?_
        refine U.eqS ?_
        refine U.bf (by decide +kernel) ?_
        refine U.bf (by decide +kernel) ?_
        refine U.next ?_
        refine U.pnx ?_
        refine U.ifs ?_
        refine U.andT ?_
        refine U.bl ?_
        refine U.op ?_
        refine U.v (by with_unfolding_all rfl) ?_
        refine U.tup ?_
        refine U.cons ?_
        refine U.cs ?_
        refine U.cons ?_
        refine U.op ?_
        refine U.v (by with_unfolding_all rfl) ?_
        refine U.cs ?_
        refine U.ixK h.g0 (by with_unfolding_all rfl) (by with_unfolding_all rfl) ?_
        refine U.nil ?_
        refine And.intro (of_decide_eq_true (by kernel_rfl)) ?_
        refine U.eqP (of_decide_eq_true (by kernel_rfl)) (of_decide_eq_true (by kernel_rfl)) (by with_unfolding_all rfl) (by with_unfolding_all rfl) (by kernel_rfl) (by kernel_rfl) ?_
      refine U.bt (by simp only [decide_eq_true_eq, decide_eq_false_iff_not, beq_iff_eq, bne_iff_ne, Bool.not_eq_true', Bool.not_eq_false', Bool.false_xor, Bool.true_xor]; first | assumption | omega) ?_
      with_reducible
        refine U.tru ?_
        refine U.call ?_
        refine U.cons ?_
        refine U.v (by with_unfolding_all rfl) ?_
        refine U.nil ?_
      refine its_whole h.f1.f1 ?_
      with_reducible
        intro m1
        intro I1
        clear h
        refine U.truB ?_
      refine U.bt (by assumption) ?_
      with_reducible
        refine U.asg ?_
        refine U.cs ?_
        refine U.gsub ?_
        refine U.v (by with_unfolding_all rfl) ?_
        refine U.cs ?_
        refine U.setDD I1 (by with_unfolding_all rfl) (of_decide_eq_true (by kernel_rfl)) ?_
        intro m2
        intro I2
        clear I1
        refine U.pnx ?_
      exact q _ I2.f1.f1
  · rw [decide_eq_false h1] at hb
    rw [decide_eq_false h1, Bool.false_and] at q
    with_reducible
      delta Law.S__law_taken
      refine U.ar (of_decide_eq_true (by kernel_rfl)) ?_
      refine U.run ?_
      delta Law.w__law_taken
      refine U.seq ?_
      refine U.ifs ?_
      refine U.tru ?_
      refine U.op ?_
      refine U.v (by with_unfolding_all rfl) ?_
      refine U.cs ?_
      refine U.ixK h.g0 (by with_unfolding_all rfl) (by with_unfolding_all rfl) ?_
      refine U.truB ?_
      refine U.bf (by decide +kernel) ?_
      refine U.next ?_
      refine U.pnx ?_
      refine U.seq ?_
      refine U.ifs ?_
      refine U.andT ?_
      refine U.bl ?_
      refine U.op ?_
      refine U.op ?_
      refine U.v (by with_unfolding_all rfl) ?_
      refine U.cs ?_
      refine U.ix0 (by with_unfolding_all rfl) ?_
      refine U.cs ?_
      refine U.eqS ?_
      refine U.bf (by decide +kernel) ?_
      refine U.bf (by decide +kernel) ?_
      refine U.next ?_
      refine U.pnx ?_
      refine U.seq ?_
      refine U.ifs ?_
      refine U.andT ?_
      refine U.bl ?_
      refine U.op ?_
      refine U.op ?_
      refine U.v (by with_unfolding_all rfl) ?_
      refine U.cs ?_
      refine U.ix0 (by with_unfolding_all rfl) ?_
      refine U.cs ?_
      refine U.eqS ?_
      refine U.bf (by decide +kernel) ?_
      refine U.bf (by decide +kernel) ?_
      refine U.next ?_
      refine U.pnx ?_
      refine U.ifs ?_
      refine U.andT ?_
      refine U.bl ?_
      refine U.op ?_
      refine U.v (by with_unfolding_all rfl) ?_
      refine U.tup ?_
      refine U.cons ?_
      refine U.cs ?_
      refine U.cons ?_
      refine U.op ?_
      refine U.v (by with_unfolding_all rfl) ?_
      refine U.cs ?_
      refine U.ixK h.g0 (by with_unfolding_all rfl) (by with_unfolding_all rfl) ?_
      refine U.nil ?_
      refine And.intro (of_decide_eq_true (by kernel_rfl)) ?_
      refine U.eqP (of_decide_eq_true (by kernel_rfl)) (of_decide_eq_true (by kernel_rfl)) (by with_unfolding_all rfl) (by with_unfolding_all rfl) (by kernel_rfl) (by kernel_rfl) ?_
    refine U.bf (by simp only [decide_eq_true_eq, decide_eq_false_iff_not, beq_iff_eq, bne_iff_ne, Bool.not_eq_true', Bool.not_eq_false', Bool.false_xor, Bool.true_xor]; first | assumption | omega) ?_
    with_reducible
      refine U.bf (by decide +kernel) ?_
      refine U.next ?_
      refine U.pnx ?_
    exact q _ h.f1.f1
theorem ref_freeze_ok {zs : List DV} (h : DL.St k m ((g, gv "runs" n ps kn) :: L)) (q : ∀ m', DL.St k m' ((g, gv "frozen" (n + 1) zs kn) :: L) → Q (.int (n + 1)) m') : S__law_refused [.ref g, .str "freeze", .lst zs] m Q := by
  with_reducible
    delta Law.S__law_refused
    refine U.ar (of_decide_eq_true (by kernel_rfl)) ?_
    refine U.run ?_
    delta Law.w__law_refused
    refine U.seq ?_
    refine U.asg ?_
    refine U.tup ?_
    refine U.cons ?_
    refine U.cs ?_
    refine U.cons ?_
    refine U.cs ?_
    refine U.nil ?_
    refine And.intro (by decide +kernel) ?_
    refine U.gseq (by with_unfolding_all rfl) (by decide +kernel) ?_
  refine U.gcons ?_
  with_reducible
    refine U.gn ?_
  refine U.gcons ?_
  with_reducible
    refine U.gn ?_
    refine U.gnil ?_
    refine U.pnx ?_
    refine U.seq ?_
    refine U.try_ ?_
    refine U.asg ?_
    refine U.ife ?_
    refine U.bl ?_
    refine U.op ?_
    refine U.v (by with_unfolding_all rfl) ?_
    refine U.cs ?_
    refine U.eqS ?_
    refine U.bt (by decide +kernel) ?_
    refine U.methX ?_
    refine U.v (by with_unfolding_all rfl) ?_
    refine And.intro (U.has h.g0) ?_
    refine U.cons ?_
    refine U.v (by with_unfolding_all rfl) ?_
    refine U.nil ?_
    delta Law.S_Giver_freeze
    refine U.arx (of_decide_eq_true (by kernel_rfl)) ?_
    refine U.runx ?_
    delta Law.w_Giver_freeze
    refine U.seq ?_
    refine U.ifs ?_
    refine U.bl ?_
    refine U.op ?_
    refine U.fld ?_
    refine U.v (by with_unfolding_all rfl) ?_
    refine U.fldR h.g0 (by with_unfolding_all rfl) ?_
    refine U.cs ?_
    refine U.eqS ?_
    refine U.bf (by decide +kernel) ?_
    refine U.next ?_
    refine U.pnx ?_
    refine U.seq ?_
    refine U.setF_ ?_
    refine U.cs ?_
    refine U.v (by with_unfolding_all rfl) ?_
    refine U.setR h (of_decide_eq_true (by kernel_rfl)) ?_
    intro m1
    intro I1
    clear h
    refine U.pnx ?_
    refine U.seq ?_
    refine U.augF ?_
    refine U.v (by with_unfolding_all rfl) ?_
    refine U.fldR I1.g0 (by with_unfolding_all rfl) ?_
    refine U.cs ?_
    refine U.iaddI ?_
    refine U.setR I1 (of_decide_eq_true (by kernel_rfl)) ?_
    intro m2
    intro I2
    clear I1
    refine U.pnx ?_
    refine U.seq ?_
    refine U.setF_ ?_
    refine U.bi ?_
    refine U.cons ?_
    refine U.v (by with_unfolding_all rfl) ?_
    refine U.nil ?_
    refine U.list (by with_unfolding_all rfl) ?_
    refine U.newD ?_
    refine U.v (by with_unfolding_all rfl) ?_
    refine U.setR I2 (of_decide_eq_true (by kernel_rfl)) ?_
    intro m3
    intro I1
    clear I2
    refine U.pnx ?_
    refine U.ret ?_
    refine U.fld ?_
    refine U.v (by with_unfolding_all rfl) ?_
    refine U.fldR I1.g0 (by with_unfolding_all rfl) ?_
    refine U.prt ?_
    refine U.gn ?_
    refine U.pnx ?_
    refine U.seq ?_
    refine U.ifs ?_
    refine U.bl ?_
    refine U.op ?_
    refine U.v (by with_unfolding_all rfl) ?_
    refine U.cs ?_
    refine U.isN ?_
    refine U.bt (by decide +kernel) ?_
    refine U.ret ?_
    refine U.v (by with_unfolding_all rfl) ?_
    refine U.prt ?_
    refine U.prt ?_
  exact q _ I1
theorem ref_freeze_no {zs : List DV} (hn : ph = "frozen" ∨ ph = "given") (h : DL.St k m ((g, gv ph n ps kn) :: L)) (q : ∀ m', DL.St k m' ((g, gv ph n ps kn) :: L) → Q (.tup [.str "refused", .str ph]) m') : S__law_refused [.ref g, .str "freeze", .lst zs] m Q := by
  rcases hn with rfl | rfl
  · with_reducible
      delta Law.S__law_refused
      refine U.ar (of_decide_eq_true (by kernel_rfl)) ?_
      refine U.run ?_
      delta Law.w__law_refused
      refine U.seq ?_
      refine U.asg ?_
      refine U.tup ?_
      refine U.cons ?_
      refine U.cs ?_
      refine U.cons ?_
      refine U.cs ?_
      refine U.nil ?_
      refine And.intro (by decide +kernel) ?_
      refine U.gseq (by with_unfolding_all rfl) (by decide +kernel) ?_
    refine U.gcons ?_
    with_reducible
      refine U.gn ?_
    refine U.gcons ?_
    with_reducible
      refine U.gn ?_
      refine U.gnil ?_
      refine U.pnx ?_
      refine U.seq ?_
      refine U.try_ ?_
      refine U.asg ?_
      refine U.ife ?_
      refine U.bl ?_
      refine U.op ?_
      refine U.v (by with_unfolding_all rfl) ?_
      refine U.cs ?_
      refine U.eqS ?_
      refine U.bt (by decide +kernel) ?_
      refine U.methX ?_
      refine U.v (by with_unfolding_all rfl) ?_
      refine And.intro (U.has h.g0) ?_
      refine U.cons ?_
      refine U.v (by with_unfolding_all rfl) ?_
      refine U.nil ?_
      delta Law.S_Giver_freeze
      refine U.arx (of_decide_eq_true (by kernel_rfl)) ?_
      refine U.runx ?_
      delta Law.w_Giver_freeze
      refine U.seq ?_
      refine U.ifs ?_
      refine U.bl ?_
      refine U.op ?_
      refine U.fld ?_
      refine U.v (by with_unfolding_all rfl) ?_
      refine U.fldR h.g0 (by with_unfolding_all rfl) ?_
      refine U.cs ?_
      refine U.eqS ?_
      refine U.bt (by decide +kernel) ?_
      refine U.raise ?_
      refine U.fld ?_
      refine U.v (by with_unfolding_all rfl) ?_
      refine U.fldR h.g0 (by with_unfolding_all rfl) ?_
      refine And.intro (by decide +kernel) ?_
      refine U.exn h ?_
      intro p1
      intro p2
      intro m1
      intro I1
      clear h
      refine U.pnx ?_
      refine U.seq ?_
      refine U.ifs ?_
      refine U.bl ?_
      refine U.op ?_
      refine U.v (by with_unfolding_all rfl) ?_
      refine U.cs ?_
      refine U.isR ?_
      refine U.bf (by decide +kernel) ?_
      refine U.next ?_
      refine U.pnx ?_
      refine U.ret ?_
      refine U.ife ?_
      refine U.andT ?_
      refine U.tru ?_
      refine U.isx ?_
      refine U.v (by with_unfolding_all rfl) ?_
      refine U.isxR I1.g0 I1.g1 (by with_unfolding_all rfl) ?_
      refine U.truB ?_
      refine U.bt (by decide +kernel) ?_
      refine U.tru ?_
      refine U.isx ?_
      refine U.v (by with_unfolding_all rfl) ?_
      refine U.isxR I1.g0 I1.g1 (by with_unfolding_all rfl) ?_
      refine U.truB ?_
      refine U.bt (by decide +kernel) ?_
      refine U.tup ?_
      refine U.cons ?_
      refine U.cs ?_
      refine U.cons ?_
      refine U.xf ?_
      refine U.v (by with_unfolding_all rfl) ?_
      refine U.xfR I1.g0 I1.g1 (by with_unfolding_all rfl) ?_
      refine U.nil ?_
      refine And.intro (by decide +kernel) ?_
      refine U.prt ?_
    exact q _ I1.f2.d2.d1
  · with_reducible
      delta Law.S__law_refused
      refine U.ar (of_decide_eq_true (by kernel_rfl)) ?_
      refine U.run ?_
      delta Law.w__law_refused
      refine U.seq ?_
      refine U.asg ?_
      refine U.tup ?_
      refine U.cons ?_
      refine U.cs ?_
      refine U.cons ?_
      refine U.cs ?_
      refine U.nil ?_
      refine And.intro (by decide +kernel) ?_
      refine U.gseq (by with_unfolding_all rfl) (by decide +kernel) ?_
    refine U.gcons ?_
    with_reducible
      refine U.gn ?_
    refine U.gcons ?_
    with_reducible
      refine U.gn ?_
      refine U.gnil ?_
      refine U.pnx ?_
      refine U.seq ?_
      refine U.try_ ?_
      refine U.asg ?_
      refine U.ife ?_
      refine U.bl ?_
      refine U.op ?_
      refine U.v (by with_unfolding_all rfl) ?_
      refine U.cs ?_
      refine U.eqS ?_
      refine U.bt (by decide +kernel) ?_
      refine U.methX ?_
      refine U.v (by with_unfolding_all rfl) ?_
      refine And.intro (U.has h.g0) ?_
      refine U.cons ?_
      refine U.v (by with_unfolding_all rfl) ?_
      refine U.nil ?_
      delta Law.S_Giver_freeze
      refine U.arx (of_decide_eq_true (by kernel_rfl)) ?_
      refine U.runx ?_
      delta Law.w_Giver_freeze
      refine U.seq ?_
      refine U.ifs ?_
      refine U.bl ?_
      refine U.op ?_
      refine U.fld ?_
      refine U.v (by with_unfolding_all rfl) ?_
      refine U.fldR h.g0 (by with_unfolding_all rfl) ?_
      refine U.cs ?_
      refine U.eqS ?_
      refine U.bt (by decide +kernel) ?_
      refine U.raise ?_
      refine U.fld ?_
      refine U.v (by with_unfolding_all rfl) ?_
      refine U.fldR h.g0 (by with_unfolding_all rfl) ?_
      refine And.intro (by decide +kernel) ?_
      refine U.exn h ?_
      intro p1
      intro p2
      intro m1
      intro I1
      clear h
      refine U.pnx ?_
      refine U.seq ?_
      refine U.ifs ?_
      refine U.bl ?_
      refine U.op ?_
      refine U.v (by with_unfolding_all rfl) ?_
      refine U.cs ?_
      refine U.isR ?_
      refine U.bf (by decide +kernel) ?_
      refine U.next ?_
      refine U.pnx ?_
      refine U.ret ?_
      refine U.ife ?_
      refine U.andT ?_
      refine U.tru ?_
      refine U.isx ?_
      refine U.v (by with_unfolding_all rfl) ?_
      refine U.isxR I1.g0 I1.g1 (by with_unfolding_all rfl) ?_
      refine U.truB ?_
      refine U.bt (by decide +kernel) ?_
      refine U.tru ?_
      refine U.isx ?_
      refine U.v (by with_unfolding_all rfl) ?_
      refine U.isxR I1.g0 I1.g1 (by with_unfolding_all rfl) ?_
      refine U.truB ?_
      refine U.bt (by decide +kernel) ?_
      refine U.tup ?_
      refine U.cons ?_
      refine U.cs ?_
      refine U.cons ?_
      refine U.xf ?_
      refine U.v (by with_unfolding_all rfl) ?_
      refine U.xfR I1.g0 I1.g1 (by with_unfolding_all rfl) ?_
      refine U.nil ?_
      refine And.intro (by decide +kernel) ?_
      refine U.prt ?_
    exact q _ I1.f2.d2.d1
theorem ref_resume_ok {zs : List DV} (h : DL.St k m ((g, gv "frozen" n ps kn) :: L)) (q : ∀ m', DL.St k m' ((g, gv "runs" n ps kn) :: L) → Q .non m') : S__law_refused [.ref g, .str "resume", .lst zs] m Q := by
  with_reducible
    delta Law.S__law_refused
    refine U.ar (of_decide_eq_true (by kernel_rfl)) ?_
    refine U.run ?_
    delta Law.w__law_refused
    refine U.seq ?_
    refine U.asg ?_
    refine U.tup ?_
    refine U.cons ?_
    refine U.cs ?_
    refine U.cons ?_
    refine U.cs ?_
    refine U.nil ?_
    refine And.intro (by decide +kernel) ?_
    refine U.gseq (by with_unfolding_all rfl) (by decide +kernel) ?_
  refine U.gcons ?_
  with_reducible
    refine U.gn ?_
  refine U.gcons ?_
  with_reducible
    refine U.gn ?_
    refine U.gnil ?_
    refine U.pnx ?_
    refine U.seq ?_
    refine U.try_ ?_
    refine U.asg ?_
    refine U.ife ?_
    refine U.bl ?_
    refine U.op ?_
    refine U.v (by with_unfolding_all rfl) ?_
    refine U.cs ?_
    refine U.eqS ?_
    refine U.bf (by decide +kernel) ?_
    refine U.methX ?_
    refine U.v (by with_unfolding_all rfl) ?_
    refine And.intro (U.has h.g0) ?_
    refine U.nil ?_
    delta Law.S_Giver_resume
    refine U.arx (by with_unfolding_all rfl) ?_
    refine U.runx ?_
    delta Law.w_Giver_resume
    refine U.seq ?_
    refine U.ifs ?_
    refine U.bl ?_
    refine U.op ?_
    refine U.fld ?_
    refine U.v (by with_unfolding_all rfl) ?_
    refine U.fldR h.g0 (by with_unfolding_all rfl) ?_
    refine U.cs ?_
    refine U.eqS ?_
    refine U.bf (by decide +kernel) ?_
    refine U.next ?_
    refine U.pnx ?_
    refine U.setF_ ?_
    refine U.cs ?_
    refine U.v (by with_unfolding_all rfl) ?_
    refine U.setR h (of_decide_eq_true (by kernel_rfl)) ?_
    intro m1
    intro I1
    clear h
    refine U.pnx ?_
    refine U.gn ?_
    refine U.pnx ?_
    refine U.seq ?_
    refine U.ifs ?_
    refine U.bl ?_
    refine U.op ?_
    refine U.v (by with_unfolding_all rfl) ?_
    refine U.cs ?_
    refine U.isN ?_
    refine U.bt (by decide +kernel) ?_
    refine U.ret ?_
    refine U.v (by with_unfolding_all rfl) ?_
    refine U.prt ?_
    refine U.prt ?_
  exact q _ I1
theorem ref_resume_no {zs : List DV} (hn : ph = "runs" ∨ ph = "given") (h : DL.St k m ((g, gv ph n ps kn) :: L)) (q : ∀ m', DL.St k m' ((g, gv ph n ps kn) :: L) → Q (.tup [.str "refused", .str ph]) m') : S__law_refused [.ref g, .str "resume", .lst zs] m Q := by
  rcases hn with rfl | rfl
  · with_reducible
      delta Law.S__law_refused
      refine U.ar (of_decide_eq_true (by kernel_rfl)) ?_
      refine U.run ?_
      delta Law.w__law_refused
      refine U.seq ?_
      refine U.asg ?_
      refine U.tup ?_
      refine U.cons ?_
      refine U.cs ?_
      refine U.cons ?_
      refine U.cs ?_
      refine U.nil ?_
      refine And.intro (by decide +kernel) ?_
      refine U.gseq (by with_unfolding_all rfl) (by decide +kernel) ?_
    refine U.gcons ?_
    with_reducible
      refine U.gn ?_
    refine U.gcons ?_
    with_reducible
      refine U.gn ?_
      refine U.gnil ?_
      refine U.pnx ?_
      refine U.seq ?_
      refine U.try_ ?_
      refine U.asg ?_
      refine U.ife ?_
      refine U.bl ?_
      refine U.op ?_
      refine U.v (by with_unfolding_all rfl) ?_
      refine U.cs ?_
      refine U.eqS ?_
      refine U.bf (by decide +kernel) ?_
      refine U.methX ?_
      refine U.v (by with_unfolding_all rfl) ?_
      refine And.intro (U.has h.g0) ?_
      refine U.nil ?_
      delta Law.S_Giver_resume
      refine U.arx (by with_unfolding_all rfl) ?_
      refine U.runx ?_
      delta Law.w_Giver_resume
      refine U.seq ?_
      refine U.ifs ?_
      refine U.bl ?_
      refine U.op ?_
      refine U.fld ?_
      refine U.v (by with_unfolding_all rfl) ?_
      refine U.fldR h.g0 (by with_unfolding_all rfl) ?_
      refine U.cs ?_
      refine U.eqS ?_
      refine U.bt (by decide +kernel) ?_
      refine U.raise ?_
      refine U.fld ?_
      refine U.v (by with_unfolding_all rfl) ?_
      refine U.fldR h.g0 (by with_unfolding_all rfl) ?_
      refine And.intro (by decide +kernel) ?_
      refine U.exn h ?_
      intro p1
      intro p2
      intro m1
      intro I1
      clear h
      refine U.pnx ?_
      refine U.seq ?_
      refine U.ifs ?_
      refine U.bl ?_
      refine U.op ?_
      refine U.v (by with_unfolding_all rfl) ?_
      refine U.cs ?_
      refine U.isR ?_
      refine U.bf (by decide +kernel) ?_
      refine U.next ?_
      refine U.pnx ?_
      refine U.ret ?_
      refine U.ife ?_
      refine U.andT ?_
      refine U.tru ?_
      refine U.isx ?_
      refine U.v (by with_unfolding_all rfl) ?_
      refine U.isxR I1.g0 I1.g1 (by with_unfolding_all rfl) ?_
      refine U.truB ?_
      refine U.bt (by decide +kernel) ?_
      refine U.tru ?_
      refine U.isx ?_
      refine U.v (by with_unfolding_all rfl) ?_
      refine U.isxR I1.g0 I1.g1 (by with_unfolding_all rfl) ?_
      refine U.truB ?_
      refine U.bt (by decide +kernel) ?_
      refine U.tup ?_
      refine U.cons ?_
      refine U.cs ?_
      refine U.cons ?_
      refine U.xf ?_
      refine U.v (by with_unfolding_all rfl) ?_
      refine U.xfR I1.g0 I1.g1 (by with_unfolding_all rfl) ?_
      refine U.nil ?_
      refine And.intro (by decide +kernel) ?_
      refine U.prt ?_
    exact q _ I1.f2.d2.d1
  · with_reducible
      delta Law.S__law_refused
      refine U.ar (of_decide_eq_true (by kernel_rfl)) ?_
      refine U.run ?_
      delta Law.w__law_refused
      refine U.seq ?_
      refine U.asg ?_
      refine U.tup ?_
      refine U.cons ?_
      refine U.cs ?_
      refine U.cons ?_
      refine U.cs ?_
      refine U.nil ?_
      refine And.intro (by decide +kernel) ?_
      refine U.gseq (by with_unfolding_all rfl) (by decide +kernel) ?_
    refine U.gcons ?_
    with_reducible
      refine U.gn ?_
    refine U.gcons ?_
    with_reducible
      refine U.gn ?_
      refine U.gnil ?_
      refine U.pnx ?_
      refine U.seq ?_
      refine U.try_ ?_
      refine U.asg ?_
      refine U.ife ?_
      refine U.bl ?_
      refine U.op ?_
      refine U.v (by with_unfolding_all rfl) ?_
      refine U.cs ?_
      refine U.eqS ?_
      refine U.bf (by decide +kernel) ?_
      refine U.methX ?_
      refine U.v (by with_unfolding_all rfl) ?_
      refine And.intro (U.has h.g0) ?_
      refine U.nil ?_
      delta Law.S_Giver_resume
      refine U.arx (by with_unfolding_all rfl) ?_
      refine U.runx ?_
      delta Law.w_Giver_resume
      refine U.seq ?_
      refine U.ifs ?_
      refine U.bl ?_
      refine U.op ?_
      refine U.fld ?_
      refine U.v (by with_unfolding_all rfl) ?_
      refine U.fldR h.g0 (by with_unfolding_all rfl) ?_
      refine U.cs ?_
      refine U.eqS ?_
      refine U.bt (by decide +kernel) ?_
      refine U.raise ?_
      refine U.fld ?_
      refine U.v (by with_unfolding_all rfl) ?_
      refine U.fldR h.g0 (by with_unfolding_all rfl) ?_
      refine And.intro (by decide +kernel) ?_
      refine U.exn h ?_
      intro p1
      intro p2
      intro m1
      intro I1
      clear h
      refine U.pnx ?_
      refine U.seq ?_
      refine U.ifs ?_
      refine U.bl ?_
      refine U.op ?_
      refine U.v (by with_unfolding_all rfl) ?_
      refine U.cs ?_
      refine U.isR ?_
      refine U.bf (by decide +kernel) ?_
      refine U.next ?_
      refine U.pnx ?_
      refine U.ret ?_
      refine U.ife ?_
      refine U.andT ?_
      refine U.tru ?_
      refine U.isx ?_
      refine U.v (by with_unfolding_all rfl) ?_
      refine U.isxR I1.g0 I1.g1 (by with_unfolding_all rfl) ?_
      refine U.truB ?_
      refine U.bt (by decide +kernel) ?_
      refine U.tru ?_
      refine U.isx ?_
      refine U.v (by with_unfolding_all rfl) ?_
      refine U.isxR I1.g0 I1.g1 (by with_unfolding_all rfl) ?_
      refine U.truB ?_
      refine U.bt (by decide +kernel) ?_
      refine U.tup ?_
      refine U.cons ?_
      refine U.cs ?_
      refine U.cons ?_
      refine U.xf ?_
      refine U.v (by with_unfolding_all rfl) ?_
      refine U.xfR I1.g0 I1.g1 (by with_unfolding_all rfl) ?_
      refine U.nil ?_
      refine And.intro (by decide +kernel) ?_
      refine U.prt ?_
    exact q _ I1.f2.d2.d1
end
end Law
namespace Law
open PySem PySem.Spec PyProof.Rows L2 DL
theorem nodup_sub_len : ∀ (as bs : List Nat), as.Nodup → (∀ a ∈ as, a ∈ bs) → as.length ≤ bs.length
  | [], _, _, _ => Nat.zero_le _
  | a :: as, bs, h, g => by
    rw [List.nodup_cons] at h
    have ha := g a List.mem_cons_self
    have := nodup_sub_len as (bs.erase a) h.2 fun b hb => by
      have hne : b ≠ a := fun e => h.1 (e ▸ hb)
      exact (List.mem_erase_of_ne hne).mpr (g b (List.mem_cons_of_mem _ hb))
    rw [List.length_erase_of_mem ha] at this
    have hp := List.length_pos_of_mem ha
    rw [List.length_cons]
    omega
theorem pig {m : Nat} {js : List Nat} (h : js.Nodup) (g : ∀ j ∈ js, j < m) : js.length ≤ m := by
  have := nodup_sub_len js (List.range m) h fun j hj => List.mem_range.mpr (g j hj)
  rwa [List.length_range] at this
theorem pig_all {m : Nat} {js : List Nat} (h : js.Nodup) (g : ∀ j ∈ js, j < m) (e : js.length = m) : ∀ j, j < m → j ∈ js := fun j hj => by
  refine Decidable.byContradiction fun hn => ?_
  have := pig (js := j :: js) (m := m) (List.nodup_cons.mpr ⟨hn, h⟩) fun i hi => by
    rcases List.mem_cons.mp hi with rfl | z
    · exact hj
    · exact g i z
  rw [List.length_cons] at this
  omega
theorem pig_len {m : Nat} {js : List Nat} (h : js.Nodup) (g : ∀ j ∈ js, j < m) (e : ∀ j, j < m → j ∈ js) : js.length = m := by
  have h1 := pig h g
  have h2 := nodup_sub_len (List.range m) js List.nodup_range fun j hj => e j (List.mem_range.mp hj)
  rw [List.length_range] at h2
  omega
/-- these pieces are kept -/
def Kp (l : List Str) (xs : KVs) : Prop := ∃ js : List Nat, js.Nodup ∧ (∀ j ∈ js, j < l.length) ∧ xs = js.map fun (j : Nat) => ((j : Int), l[j]?.getD "")
theorem Kp.nil {l : List Str} : Kp l [] := ⟨[], .nil, (fun j hj => by cases hj), rfl⟩
theorem kp_look (l : List Str) : ∀ (js : List Nat) (j : Nat), (js.map fun (j : Nat) => ((j : Int), l[j]?.getD "")).lookup (j : Int) = if j ∈ js then some (l[j]?.getD "") else none
  | [], j => by simp
  | i :: js, j => by
    rw [List.map_cons, List.lookup_cons, kp_look l js j]
    by_cases e : j = i
    · subst e; simp
    · have : ((j : Int) == (i : Int)) = false := by simp; omega
      rw [this]
      simp [e]
theorem Kp.add {l : List Str} {xs : KVs} {j : Nat} {x : Str} (h : Kp l xs) (hx : l[j]? = some x) (hn : xs.lookup (j : Int) = none) : Kp l (xs ++ [((j : Int), x)]) := by
  obtain ⟨js, h1, h2, rfl⟩ := h
  have hj : j < l.length := (List.getElem?_eq_some_iff.mp hx).1
  have hnj : j ∉ js := fun z => by
    rw [kp_look, if_pos z] at hn; cases hn
  refine ⟨js ++ [j], ?_, ?_, ?_⟩
  · rw [List.nodup_append]
    refine ⟨h1, by simp, fun a ha b hb => ?_⟩
    rw [List.mem_singleton] at hb
    subst hb
    exact fun e => hnj (e ▸ ha)
  · intro i hi
    rcases List.mem_append.mp hi with z | z
    · exact h2 i z
    · rw [List.mem_singleton] at z; subst z; exact hj
  · rw [List.map_append, List.map_singleton, hx]; rfl
theorem Kp.one {l : List Str} {j : Nat} {x : Str} (hx : l[j]? = some x) : Kp l ([] ++ [((j : Int), x)]) := Kp.nil.add hx rfl
theorem Kp.len {l : List Str} {xs : KVs} (h : Kp l xs) : xs.length ≤ l.length := by
  obtain ⟨js, h1, h2, rfl⟩ := h
  rw [List.length_map]; exact pig h1 h2
/-- when all are there no further one is new -/
theorem Kp.full {l : List Str} {xs : KVs} {j : Nat} (h : Kp l xs) (e : xs.length = l.length) (hj : j < l.length) : xs.lookup (j : Int) ≠ none := by
  obtain ⟨js, h1, h2, rfl⟩ := h
  rw [List.length_map] at e
  rw [kp_look, if_pos (pig_all h1 h2 e j hj)]
  exact fun z => by cases z
theorem Kp.all {l : List Str} {xs : KVs} (h : Kp l xs) (g : ∀ j, j < l.length → xs.lookup (j : Int) ≠ none) : xs.length = l.length := by
  obtain ⟨js, h1, h2, rfl⟩ := h
  rw [List.length_map]
  refine pig_len h1 h2 fun j hj => ?_
  have := g j hj
  rw [kp_look] at this
  refine Decidable.byContradiction fun hn => ?_
  rw [if_neg hn] at this
  exact this rfl
theorem Kp.okV {n : Nat} {l : List Str} {xs : KVs} (h : Kp l xs) (hl : ∀ y ∈ l, okS n y) : okV n xs := fun p hp => by
  obtain ⟨js, h1, h2, rfl⟩ := h
  obtain ⟨j, hj, rfl⟩ := List.mem_map.mp hp
  have hlt := h2 j hj
  rw [List.getElem?_eq_getElem hlt]
  exact hl _ (List.getElem_mem hlt)
theorem sorted_range (m : Nat) : ((List.range m).map fun j : Nat => (j : Int)).Pairwise (· ≤ ·) := by
  rw [List.pairwise_map]
  exact (List.pairwise_lt_range (n := m)).imp fun h => by omega
theorem perm_range {m : Nat} {js : List Nat} (h : js.Nodup) (g : ∀ j, j ∈ js ↔ j < m) : (List.range m).Perm js := by
  rw [List.perm_iff_count]
  intro a
  rw [List.nodup_range.count, h.count]
  simp only [List.mem_range, g a]
theorem Kp.text {l : List Str} {xs : KVs} (h : Kp l xs) (e : xs.length = l.length) : textF xs = Txt.join "" l := by
  obtain ⟨js, h1, h2, rfl⟩ := h
  rw [List.length_map] at e
  have hall := pig_all h1 h2 e
  have hp := perm_range (m := l.length) h1 fun j => ⟨h2 j, hall j⟩
  unfold textF
  have hk : (js.map fun (j : Nat) => ((j : Int), l[j]?.getD "")).map (·.1) = js.map fun j : Nat => (j : Int) := by rw [List.map_map]; rfl
  rw [hk, ← sortI_of (hp.map _) (sorted_range _), List.map_map]
  congr 1
  refine List.ext_getElem? fun i => ?_
  rw [List.getElem?_map]
  by_cases hi : i < l.length
  · rw [List.getElem?_range hi, List.getElem?_eq_getElem hi]
    show some (((js.map fun (j : Nat) => ((j : Int), l[j]?.getD "")).lookup (i : Int)).getD "") = _
    rw [kp_look, if_pos (hall i hi), List.getElem?_eq_getElem hi]; rfl
  · rw [List.getElem?_eq_none (by rw [List.length_range]; omega), List.getElem?_eq_none (by omega)]; rfl
end Law
namespace Law
open PySem PySem.Spec PyProof.Rows L2 DL
structure Sd where
  ph : Str
  n : Int
  ps : List Str
  kn : Bool
  turn : Int
  many : Int
  xs : KVs
  runs : Bool
def V (l : List Str) : Prop := l ≠ [] ∧ l.length ≤ 14 ∧ ∀ y ∈ l, okS 3 y
structure Ok (P : Int → List Str) (B : Int) (s : Sd) : Prop where
  ph : Phs s.ph
  n0 : 0 ≤ s.n
  nB : s.n ≤ B
  v : ∀ t, 1 ≤ t → t ≤ s.n → V (P t)
  p0 : s.n = 0 → s.ps = [] ∧ s.ph = "runs"
  p1 : 1 ≤ s.n → s.ps = P s.n
  tk : (s.turn = 0 ∧ s.many = 0 ∧ s.xs = [] ∧ s.runs = false) ∨ (1 ≤ s.turn ∧ s.turn ≤ s.n ∧ s.many = (P s.turn).length ∧ Kp (P s.turn) s.xs)
  r : s.runs = true → s.ph = "given"
  g : s.ph = "given" → s.turn = s.n ∧ 1 ≤ s.n ∧ (s.xs.length : Int) = s.many
  k : s.kn = true → s.runs = true
def pieceD (t : Int) (j mn : Nat) (x : Str) : DV := .tup [.str "piece", .int t, .int j, .int mn, .str x]
def MOk (P : Int → List Str) (s : Sd) (d : DV) : Prop :=
  (∃ t j x, d = pieceD t j (P t).length x ∧ 1 ≤ t ∧ t ≤ s.n ∧ (P t)[j]? = some x) ∨ (d = .tup [.str "go", .int s.n] ∧ s.ph = "given") ∨
  (∃ t, d = .tup [.str "whole", .int t] ∧ 1 ≤ t ∧ t ≤ s.n ∧ (t = s.n → s.turn = s.n ∧ (s.xs.length : Int) = s.many)) ∨ (d = .tup [.str "going", .int s.n] ∧ s.runs = true)
theorem Ok.mono {P : Int → List Str} {B C : Int} {s : Sd} (h : Ok P B s) (l : B ≤ C) : Ok P C s := { h with nB := by have := h.nB; omega }
section
variable {P : Int → List Str} {B : Int} {s : Sd}
theorem Ok.run0 (h : Ok P B s) (e : s.ph ≠ "given") : s.runs = false := by
  cases z : s.runs with
  | false => rfl
  | true => exact absurd (h.r z) e
theorem Ok.kn0 (h : Ok P B s) (e : s.runs = false) : s.kn = false := by
  cases z : s.kn with
  | false => rfl
  | true => rw [h.k z] at e; cases e
theorem Ok.psV (h : Ok P B s) (h1 : 1 ≤ s.n) : V s.ps := by rw [h.p1 h1]; exact h.v _ h1 (Int.le_refl _)
theorem Ok.psl (h : Ok P B s) : s.ps.length ≤ 14 ∧ ∀ y ∈ s.ps, okS 3 y := by
  by_cases h1 : 1 ≤ s.n
  · exact ⟨(h.psV h1).2.1, (h.psV h1).2.2⟩
  · have := h.n0
    rw [(h.p0 (by omega)).1]
    exact ⟨Nat.zero_le _, fun y hy => by cases hy⟩
theorem Ok.xsl (h : Ok P B s) : s.xs.length ≤ 14 ∧ okV 3 s.xs := by
  rcases h.tk with ⟨_, _, e, _⟩ | ⟨h1, h2, _, h4⟩
  · rw [e]; exact ⟨Nat.zero_le _, fun p hp => by cases hp⟩
  · have := h.v _ h1 h2
    exact ⟨Nat.le_trans h4.len this.2.1, h4.okV this.2.2⟩
theorem Ok.whole (h : Ok P B s) (e : s.ph = "given") : textF s.xs = Txt.join "" s.ps := by
  obtain ⟨h1, h2, h3⟩ := h.g e
  rcases h.tk with ⟨z, _⟩ | ⟨_, _, g1, g2⟩
  · omega
  · rw [g2.text (by rw [g1] at h3; omega), h.p1 h2, h1]
/-- a new try -/
theorem Ok.freeze (h : Ok P B s) (e : s.ph = "runs") {l : List Str} (hl : V l) : ∃ P', Ok P' (B + 1) { s with ph := "frozen", n := s.n + 1, ps := l } ∧ ∀ d, MOk P s d → MOk P' { s with ph := "frozen", n := s.n + 1, ps := l } d := by
  have hP : ∀ t, t ≤ s.n → (fun t => if t = s.n + 1 then l else P t) t = P t := fun t ht => if_neg (by omega)
  have hr := h.run0 (by rw [e]; decide)
  refine ⟨fun t => if t = s.n + 1 then l else P t, ⟨.inr (.inl rfl), by have := h.n0; show 0 ≤ s.n + 1; omega, by have := h.nB; show s.n + 1 ≤ B + 1; omega, ?_, ?_, ?_, ?_, ?_, ?_, ?_⟩, ?_⟩
  · intro t h1 h2
    by_cases z : t = s.n + 1
    · rw [z]; show V (if s.n + 1 = s.n + 1 then l else _); rw [if_pos rfl]; exact hl
    · show V (if t = s.n + 1 then l else P t)
      rw [if_neg z]
      have h2 : t ≤ s.n + 1 := h2
      exact h.v t h1 (by omega)
  · intro z
    have z : s.n + 1 = 0 := z
    have := h.n0
    omega
  · intro _
    show l = if s.n + 1 = s.n + 1 then l else _
    rw [if_pos rfl]
  · rcases h.tk with z | ⟨h1, h2, h3, h4⟩
    · exact .inl z
    · refine .inr ⟨h1, by show s.turn ≤ s.n + 1; omega, ?_, ?_⟩
      · show s.many = ((fun t => if t = s.n + 1 then l else P t) s.turn).length
        rw [hP _ h2]; exact h3
      · show Kp ((fun t => if t = s.n + 1 then l else P t) s.turn) s.xs
        rw [hP _ h2]; exact h4
  · intro z
    have z : s.runs = true := z
    rw [hr] at z; cases z
  · intro z
    exact absurd z ne_fg
  · exact h.k
  · rintro d (⟨t, j, x, rfl, h1, h2, h3⟩ | ⟨_, z⟩ | ⟨t, rfl, h1, h2, h3⟩ | ⟨_, z⟩)
    · refine .inl ⟨t, j, x, ?_, h1, by show t ≤ s.n + 1; omega, ?_⟩
      · show _ = pieceD t j ((fun t => if t = s.n + 1 then l else P t) t).length x
        rw [hP _ h2]
      · show ((fun t => if t = s.n + 1 then l else P t) t)[j]? = some x
        rw [hP _ h2]; exact h3
    · rw [e] at z; exact absurd z ne_rg
    · refine .inr (.inr (.inl ⟨t, rfl, h1, by show t ≤ s.n + 1; omega, fun z => ?_⟩))
      have z : t = s.n + 1 := z
      omega
    · rw [hr] at z; cases z
/-- a try is given up -/
theorem Ok.resume (h : Ok P B s) (e : s.ph = "frozen") : Ok P B { s with ph := "runs" } ∧ ∀ d, MOk P s d → MOk P { s with ph := "runs" } d := by
  have hr := h.run0 (by rw [e]; decide)
  refine ⟨⟨.inl rfl, h.n0, h.nB, h.v, fun z => ⟨(h.p0 z).1, rfl⟩, h.p1, h.tk, fun z => ?_, fun z => absurd z ne_rg, h.k⟩, ?_⟩
  · have z : s.runs = true := z
    rw [hr] at z; cases z
  · rintro d (z | ⟨_, z⟩ | z | ⟨_, z⟩)
    · exact .inl z
    · rw [e] at z; exact absurd z ne_fg
    · exact .inr (.inr (.inl z))
    · rw [hr] at z; cases z
/-- whole comes to the giver -/
theorem Ok.given (h : Ok P B s) (e : s.ph = "frozen") (hm : MOk P s (.tup [.str "whole", .int s.n])) : Ok P B { s with ph := "given" } ∧ ∀ d, MOk P s d → MOk P { s with ph := "given" } d := by
  have hr := h.run0 (by rw [e]; decide)
  have hw : 1 ≤ s.n ∧ s.turn = s.n ∧ (s.xs.length : Int) = s.many := by
    rcases hm with ⟨t, j, x, z, _⟩ | ⟨z, _⟩ | ⟨t, z, h1, h2, h3⟩ | ⟨z, _⟩
    · unfold pieceD at z; simp at z
    · simp at z; exact absurd z (by decide)
    · simp at z
      subst z
      exact ⟨h1, h3 rfl⟩
    · simp at z; exact absurd z (by decide)
  refine ⟨⟨.inr (.inr rfl), h.n0, h.nB, h.v, fun z => ?_, h.p1, h.tk, fun _ => rfl, fun _ => ⟨hw.2.1, hw.1, hw.2.2⟩, h.k⟩, ?_⟩
  · have z : s.n = 0 := z
    omega
  · rintro d (z | ⟨_, z⟩ | z | ⟨_, z⟩)
    · exact .inl z
    · rw [e] at z; exact absurd z ne_fg
    · exact .inr (.inr (.inl z))
    · rw [hr] at z; cases z
/-- going comes to the giver -/
theorem Ok.known (h : Ok P B s) (hm : MOk P s (.tup [.str "going", .int s.n])) : Ok P B { s with kn := true } ∧ ∀ d, MOk P s d → MOk P { s with kn := true } d := by
  have hr : s.runs = true := by
    rcases hm with ⟨t, j, x, z, _⟩ | ⟨z, _⟩ | ⟨t, z, h1, h2, h3⟩ | ⟨_, z⟩
    · unfold pieceD at z; simp at z
    · simp at z; exact absurd z (by decide)
    · simp at z; exact absurd z.1 (by decide)
    · exact z
  exact ⟨⟨h.ph, h.n0, h.nB, h.v, h.p0, h.p1, h.tk, h.r, h.g, fun _ => hr⟩, fun d z => z⟩
/-- go comes to the taker -/
theorem Ok.go (h : Ok P B s) {t : Int} (hm : MOk P s (.tup [.str "go", .int t])) : Ok P B { s with runs := true } ∧ ∀ d, MOk P s d → MOk P { s with runs := true } d := by
  have hg : s.ph = "given" := by
    rcases hm with ⟨t, j, x, z, _⟩ | ⟨_, z⟩ | ⟨t, z, h1, h2, h3⟩ | ⟨z, _⟩
    · unfold pieceD at z; simp at z
    · exact z
    · simp at z; exact absurd z.1 (by decide)
    · simp at z; exact absurd z.1 (by decide)
  refine ⟨⟨h.ph, h.n0, h.nB, h.v, h.p0, h.p1, ?_, fun _ => hg, h.g, fun _ => rfl⟩, ?_⟩
  · rcases h.tk with ⟨z, _⟩ | z
    · have := h.g hg
      omega
    · exact .inr z
  · rintro d (z | z | z | ⟨z, _⟩)
    · exact .inl z
    · exact .inr (.inl z)
    · exact .inr (.inr (.inl z))
    · exact .inr (.inr (.inr ⟨z, rfl⟩))
/-- a piece comes to the taker -/
theorem Ok.piece (h : Ok P B s) (hr : s.runs = false) {t : Int} {j : Nat} {x : Str} (h1 : 1 ≤ t) (h2 : t ≤ s.n) (h3 : (P t)[j]? = some x) :
    let k := keepF s.turn s.many s.xs t j (P t).length x
    Ok P B { s with turn := k.1, many := k.2.1, xs := k.2.2 } ∧ ∀ d, MOk P s d → MOk P { s with turn := k.1, many := k.2.1, xs := k.2.2 } d := by
  have hj : j < (P t).length := (List.getElem?_eq_some_iff.mp h3).1
  intro k
  by_cases c1 : s.turn < t
  · have ek : k = (t, ((P t).length : Int), [] ++ [((j : Int), x)]) := by
      show keepF s.turn s.many s.xs t j (P t).length x = _
      unfold keepF
      simp only [if_pos c1, List.lookup_nil, and_self, if_true]
    rw [ek]
    have hng : s.ph ≠ "given" := fun z => by
      have := (h.g z).1
      omega
    refine ⟨⟨h.ph, h.n0, h.nB, h.v, h.p0, h.p1, .inr ⟨h1, h2, rfl, Kp.one h3⟩, h.r, fun z => absurd z hng, h.k⟩, ?_⟩
    rintro d (z | z | ⟨u, rfl, g1, g2, g3⟩ | z)
    · exact .inl z
    · exact .inr (.inl z)
    · refine .inr (.inr (.inl ⟨u, rfl, g1, g2, fun z => ?_⟩))
      have := (g3 z).1
      omega
    · exact .inr (.inr (.inr z))
  · by_cases c2 : t = s.turn ∧ s.xs.lookup (j : Int) = none
    · obtain ⟨c2, c3⟩ := c2
      have ek : k = (s.turn, s.many, s.xs ++ [((j : Int), x)]) := by
        show keepF s.turn s.many s.xs t j (P t).length x = _
        unfold keepF
        simp only [c2, Int.lt_irrefl, if_false, c3, and_self, if_true]
      rw [ek]
      rcases h.tk with ⟨z, _⟩ | ⟨g1, g2, g3, g4⟩
      · omega
      rw [c2] at h3 hj
      have hnw : (s.xs.length : Int) ≠ s.many := fun z => g4.full (by rw [g3] at z; omega) hj c3
      refine ⟨⟨h.ph, h.n0, h.nB, h.v, h.p0, h.p1, .inr ⟨g1, g2, g3, g4.add h3 c3⟩, h.r, fun z => absurd (h.g z).2.2 hnw, h.k⟩, ?_⟩
      rintro d (z | z | ⟨u, rfl, u1, u2, u3⟩ | z)
      · exact .inl z
      · exact .inr (.inl z)
      · exact .inr (.inr (.inl ⟨u, rfl, u1, u2, fun z => absurd (u3 z).2 hnw⟩))
      · exact .inr (.inr (.inr z))
    · have ek : k = (s.turn, s.many, s.xs) := by
        show keepF s.turn s.many s.xs t j (P t).length x = _
        unfold keepF
        simp only [if_neg c1]
        rw [if_neg c2]
      rw [ek]
      exact ⟨h, fun d z => z⟩
end
/-- what is sent is right -/
theorem MOk.piece {P : Int → List Str} {B : Int} {s : Sd} (h : Ok P B s) (h1 : 1 ≤ s.n) {j : Nat} {x : Str} (hx : s.ps[j]? = some x) : MOk P s (pieceD s.n j s.ps.length x) := .inl ⟨s.n, j, x, by rw [h.p1 h1], h1, Int.le_refl _, by rw [← h.p1 h1]; exact hx⟩
theorem MOk.whole {P : Int → List Str} {B : Int} {s : Sd} (h : Ok P B s) (h0 : 0 < s.turn) (h1 : (s.xs.length : Int) = s.many) : MOk P s (.tup [.str "whole", .int s.turn]) := by
  rcases h.tk with ⟨z, _⟩ | ⟨g1, g2, _, _⟩
  · omega
  · exact .inr (.inr (.inl ⟨s.turn, rfl, g1, g2, fun z => ⟨z, h1⟩⟩))
theorem MOk.going {P : Int → List Str} {B : Int} {s : Sd} (h : Ok P B s) (hr : s.runs = true) : MOk P s (.tup [.str "going", .int s.turn]) := .inr (.inr (.inr ⟨by rw [(h.g (h.r hr)).1], hr⟩))
end Law
namespace Law
open PySem PySem.Spec PyProof.Rows L2 DL
section
variable {k m : Sto} {L : List (Addr × MO)} {x : Str} {s : Nat} {Q : DK}
theorem cut_map (hs : 0 < s) (N : Nat) : List.map (fun d => match d with | .int i => DV.str (cutS x (some i) (some (i + s))) | _ => DV.non) (rgC 0 s N) = ((List.range N).map fun b => mk (pc s x.cps.toList b)).map .str := by
  unfold rgC
  rw [List.map_map, List.map_map]
  refine List.map_congr_left fun b _ => ?_
  show DV.str _ = DV.str _
  rw [cutS_pc hs]
theorem sp_cut (hs : 0 < s) (hs2 : s ≤ 64) (hx : x.cps.size ≤ 100) (h : DL.St k m L) (q : ∀ m', DL.St k m' L → Q (.lst ((cutF s x).map .str)) m') : S_cut [.str x, .int s] m Q := by
  have hl : x.length = x.cps.toList.length := by rw [Array.length_toList]; rfl
  have hrg : RgC 0 (x.length : Int) (s : Int) (nPc s x.length) := rg3 hs hs2 (Nat.le_trans hx (by decide))
  have hxl : x.length ≤ sizeLine := by rw [sizeLine_eq]; exact Nat.le_trans hx (by decide)
  with_reducible
    delta Law.S_cut
    refine U.ar (of_decide_eq_true (by kernel_rfl)) ?_
    refine U.run ?_
    delta Law.w_cut
    refine U.seq ?_
    refine U.asg ?_
    refine U.lc ?_
    refine U.rng3 ?_
    refine U.cons ?_
    refine U.cs ?_
    refine U.cons ?_
    refine U.bi ?_
    refine U.cons ?_
    refine U.v (by with_unfolding_all rfl) ?_
    refine U.nil ?_
    refine U.lenS hxl ?_
    refine U.cons ?_
    refine U.v (by with_unfolding_all rfl) ?_
    refine U.nil ?_
    refine Exists.intro ?_ ?_
    rotate_left 1
  refine And.intro (by assumption) ?_
  with_reducible
    refine U.mk h ?_
    intro p1
    intro m1
    intro I1
    clear h
  refine lc_all (k := k) (L := L) (fun d => match d with | .int i => .str (cutS x (some i) (some (i + s))) | _ => .non) (fun _ _ _ => trivial) ?_ (by assumption) ?_ ?_
  · intro y hy acc m K h hK
    obtain ⟨b, hb, rfl⟩ := List.mem_map.mp hy
    with_reducible
      refine U.gn ?_
      refine U.sl ?_
      refine U.v (by with_unfolding_all rfl) ?_
      refine U.ps ?_
      refine U.v (by with_unfolding_all rfl) ?_
      refine U.ps ?_
      refine U.op ?_
      refine U.v (by with_unfolding_all rfl) ?_
      refine U.v (by with_unfolding_all rfl) ?_
      refine U.addI ?_
      refine U.slS hxl ?_
    exact hK _ h
  · unfold rgC
    rw [List.length_map, List.length_range, sizeLine_eq]
    have := nPc_le (n := x.length) hs
    have : x.length ≤ 100 := hx
    omega
  · intro m' h'
    rw [cut_map hs]
    by_cases hn : x.cps.toList = []
    · have hc : cutF s x = [("" : Str)] := if_pos hn
      rw [hc] at q
      have e0 : nPc s x.length = 0 := by
        have h0 : x.length = 0 := by rw [hl, hn]; rfl
        rw [h0]; unfold nPc; exact Nat.div_eq_of_lt (by omega)
      rw [e0]
      with_reducible
        refine U.gn ?_
        refine U.pnx ?_
        refine U.ret ?_
        refine U.ife ?_
        refine U.bl ?_
        refine U.op ?_
        refine U.bi ?_
        refine U.cons ?_
        refine U.v (by with_unfolding_all rfl) ?_
        refine U.nil ?_
        refine U.lenL (by with_unfolding_all rfl) ?_
        refine U.cs ?_
        refine U.rel ?_
        refine U.bf (by kernel_rfl) ?_
        refine U.lst ?_
        refine U.cons ?_
        refine U.cs ?_
        refine U.nil ?_
        refine And.intro (by decide +kernel) ?_
        refine U.newD ?_
        refine U.prt ?_
      exact q _ h'
    · have hc : cutF s x = (List.range (nPc s x.length)).map fun b => mk (pc s x.cps.toList b) := by
        rw [hl]; exact if_neg hn
      have hne := cutF_ne (s := s) (x := x) hs
      rw [hc] at hne q
      generalize hys : ((List.range (nPc s x.length)).map fun b => mk (pc s x.cps.toList b)) = ys at *
      have hpos : 0 < ys.length := List.length_pos_iff.mpr hne
      have hpos2 : decide ((0 : Int) < ((ys.map DV.str).length : Int)) = true := decide_eq_true (by rw [List.length_map]; omega)
      with_reducible
        refine U.gn ?_
        refine U.pnx ?_
        refine U.ret ?_
        refine U.ife ?_
        refine U.bl ?_
        refine U.op ?_
        refine U.bi ?_
        refine U.cons ?_
        refine U.v (by with_unfolding_all rfl) ?_
        refine U.nil ?_
        refine U.lenL (by with_unfolding_all rfl) ?_
        refine U.cs ?_
        refine U.rel ?_
      refine U.bt (by assumption) ?_
      with_reducible
        refine U.v (by with_unfolding_all rfl) ?_
        refine U.prt ?_
      exact q _ h'
theorem sp_lawcut (hs : 0 < s) (hs2 : s ≤ 64) (hx : x.cps.size ≤ 100) (h : DL.St k m L) (q : ∀ m', DL.St k m' L → Q (.lst ((cutF s x).map .str)) m') : S__law_cut [.str x, .int s] m Q := by
  have hl : x.length = x.cps.toList.length := by rw [Array.length_toList]; rfl
  have hxl : x.length ≤ sizeLine := by rw [sizeLine_eq]; exact Nat.le_trans hx (by decide)
  have hx1 : x.length ≤ 100 := hx
  have hrg : RgC 0 ((max 1 x.length : Nat) : Int) (s : Int) (nPc s (max 1 x.length)) := rg3 hs hs2 (by omega)
  have hmax : ∀ m (Q : DK), Q (.int ((max 1 x.length : Nat) : Int)) m → dMax [.int 1, .int (x.length : Int)] m Q := fun m Q hq => by
    show Q (.int (if (x.length : Int) > 1 then (x.length : Int) else 1)) m
    have e : (if (x.length : Int) > 1 then (x.length : Int) else 1) = ((max 1 x.length : Nat) : Int) := by split <;> omega
    rw [e]; exact hq
  with_reducible
    delta Law.S__law_cut
    refine U.ar (of_decide_eq_true (by kernel_rfl)) ?_
    refine U.run ?_
    delta Law.w__law_cut
    refine U.ret ?_
    refine U.lc ?_
    refine U.rng3 ?_
    refine U.cons ?_
    refine U.cs ?_
    refine U.cons ?_
    refine U.bi ?_
    refine U.cons ?_
    refine U.cs ?_
    refine U.cons ?_
    refine U.bi ?_
    refine U.cons ?_
    refine U.v (by with_unfolding_all rfl) ?_
    refine U.nil ?_
    refine U.lenS hxl ?_
    refine U.nil ?_
  refine hmax _ _ ?_
  with_reducible
    refine U.cons ?_
    refine U.v (by with_unfolding_all rfl) ?_
    refine U.nil ?_
    refine Exists.intro ?_ ?_
    rotate_left 1
  refine And.intro (by assumption) ?_
  with_reducible
    refine U.mk h ?_
    intro p1
    intro m1
    intro I1
    clear h
  refine lc_all (k := k) (L := L) (fun d => match d with | .int i => .str (cutS x (some i) (some (i + s))) | _ => .non) (fun _ _ _ => trivial) ?_ (by assumption) ?_ ?_
  · intro y hy acc m K h hK
    obtain ⟨b, hb, rfl⟩ := List.mem_map.mp hy
    with_reducible
      refine U.gn ?_
      refine U.sl ?_
      refine U.v (by with_unfolding_all rfl) ?_
      refine U.ps ?_
      refine U.v (by with_unfolding_all rfl) ?_
      refine U.ps ?_
      refine U.op ?_
      refine U.v (by with_unfolding_all rfl) ?_
      refine U.v (by with_unfolding_all rfl) ?_
      refine U.addI ?_
      refine U.slS hxl ?_
    exact hK _ h
  · unfold rgC
    rw [List.length_map, List.length_range, sizeLine_eq]
    have := nPc_le (n := max 1 x.length) hs
    omega
  · intro m' h'
    rw [cut_map hs]
    by_cases hn : x.cps.toList = []
    · have hc : cutF s x = [("" : Str)] := if_pos hn
      rw [hc] at q
      have e0 : nPc s (max 1 x.length) = 1 := by
        have h0 : x.length = 0 := by rw [hl, hn]; rfl
        rw [h0]; unfold nPc
        show (1 + s - 1) / s = 1
        rw [Nat.add_sub_cancel_left, Nat.div_self hs]
      rw [e0]
      have e1 : ((List.range 1).map fun b => mk (pc s x.cps.toList b)).map DV.str = [("" : Str)].map DV.str := by
        rw [hn]
        show [DV.str (mk ((List.drop (0 * s) []).take s))] = _
        rw [List.drop_nil, List.take_nil]; rfl
      rw [e1]
      exact q _ h'
    · have hc : cutF s x = (List.range (nPc s x.length)).map fun b => mk (pc s x.cps.toList b) := by
        rw [hl]; exact if_neg hn
      have h0 : 0 < x.length := by rw [hl]; exact List.length_pos_iff.mpr hn
      have e0 : max 1 x.length = x.length := by omega
      rw [hc] at q
      rw [e0]
      exact q _ h'
end
end Law
namespace Law
open PySem PySem.Spec PyProof.Rows L2 DL
section
variable {k m : Sto} {L : List (Addr × MO)} {g rm ri ld p lk t dd : Addr} {ph w : Str} {n i : Int} {ps l : List DV} {kn runs : Bool} {xs : KVs} {Q : DK}
theorem same_ok {d : DV} (hk : okN 6 d) (h : DL.St k m L) (q : ∀ m', DL.St k m' L → Q (.bl true) m') : S__law_same 6 [d, d] m Q := go_same (same_okN 6 hk) fun m2 s => q m2 (h.sub s)
theorem begin_freeze_ok (h : DL.St k m ((g, gv "runs" n ps kn) :: (rm, mineO "runs" n ps kn) :: L)) (q : ∀ m', DL.St k m' ((g, gv "frozen" (n + 1) l kn) :: (rm, mineO "frozen" (n + 1) l kn) :: L) → Q (.bl true) m') : S__law_begin [.ref rm, .ref g, .str "freeze", .lst l] m Q := by
  have hk : okN 6 (.int (n + 1)) := rfl
  with_reducible
    delta Law.S__law_begin
    refine U.ar (of_decide_eq_true (by kernel_rfl)) ?_
    refine U.run ?_
    delta Law.w__law_begin
    refine U.seq ?_
    refine U.par ?_
    refine U.cons ?_
    refine U.tup ?_
    refine U.cons ?_
    refine U.cs ?_
    refine U.cons ?_
    refine U.op ?_
    refine U.v (by with_unfolding_all rfl) ?_
    refine U.cs ?_
    refine U.ixK h.g1 (by with_unfolding_all rfl) (by with_unfolding_all rfl) ?_
    refine U.nil ?_
    refine And.intro (by decide +kernel) ?_
    refine U.cons ?_
    refine U.ife ?_
    refine U.bl ?_
    refine U.op ?_
    refine U.v (by with_unfolding_all rfl) ?_
    refine U.cs ?_
    refine U.eqS ?_
    refine U.bt (by decide +kernel) ?_
    refine U.cs ?_
    refine U.nil ?_
    refine U.pnx ?_
    refine U.seq ?_
    refine U.ifs ?_
    refine U.bl ?_
    refine U.op ?_
    refine U.op ?_
    refine U.v (by with_unfolding_all rfl) ?_
    refine U.cs ?_
    refine U.ixK h.g1 (by with_unfolding_all rfl) (by with_unfolding_all rfl) ?_
    refine U.v (by with_unfolding_all rfl) ?_
    refine U.eqS ?_
    refine U.bt (by decide +kernel) ?_
    refine U.seq ?_
    refine U.asg ?_
    refine U.cs ?_
    refine U.gn ?_
    refine U.pnx ?_
    refine U.seq ?_
    refine U.asg ?_
    refine U.ife ?_
    refine U.bl ?_
    refine U.op ?_
    refine U.v (by with_unfolding_all rfl) ?_
    refine U.cs ?_
    refine U.eqS ?_
    refine U.bt (by decide +kernel) ?_
    refine U.cs ?_
    refine U.gsub ?_
    refine U.v (by with_unfolding_all rfl) ?_
    refine U.cs ?_
    refine U.setDD h.f1 (by with_unfolding_all rfl) (of_decide_eq_true (by kernel_rfl)) ?_
    intro m1
    intro I1
    clear h
    refine U.pnx ?_
    refine U.ifs ?_
    refine U.bl ?_
    refine U.op ?_
    refine U.v (by with_unfolding_all rfl) ?_
    refine U.cs ?_
    refine U.eqS ?_
    refine U.bt (by decide +kernel) ?_
    refine U.seq ?_
    refine U.asg ?_
    refine U.bi ?_
    refine U.cons ?_
    refine U.v (by with_unfolding_all rfl) ?_
    refine U.nil ?_
    refine U.list (by with_unfolding_all rfl) ?_
    refine U.newD ?_
    refine U.gsub ?_
    refine U.v (by with_unfolding_all rfl) ?_
    refine U.cs ?_
    refine U.setDD I1 (by with_unfolding_all rfl) (of_decide_eq_true (by kernel_rfl)) ?_
    intro m2
    intro I2
    clear I1
    refine U.pnx ?_
    refine U.seq ?_
    refine U.asg ?_
    refine U.op ?_
    refine U.op ?_
    refine U.v (by with_unfolding_all rfl) ?_
    refine U.cs ?_
    refine U.ixK I2.g0 (by with_unfolding_all rfl) (by with_unfolding_all rfl) ?_
    refine U.cs ?_
    refine U.addI ?_
    refine U.gsub ?_
    refine U.v (by with_unfolding_all rfl) ?_
    refine U.cs ?_
    refine U.setDD I2 (by with_unfolding_all rfl) (of_decide_eq_true (by kernel_rfl)) ?_
    intro m3
    intro I1
    clear I2
    refine U.pnx ?_
    refine U.asg ?_
    refine U.op ?_
    refine U.v (by with_unfolding_all rfl) ?_
    refine U.cs ?_
    refine U.ixK I1.g0 (by with_unfolding_all rfl) (by with_unfolding_all rfl) ?_
    refine U.gn ?_
    refine U.pnx ?_
    refine U.ret ?_
    refine U.call ?_
    refine U.cons ?_
    refine U.call ?_
    refine U.cons ?_
    refine U.v (by with_unfolding_all rfl) ?_
    refine U.cons ?_
    refine U.v (by with_unfolding_all rfl) ?_
    refine U.cons ?_
    refine U.v (by with_unfolding_all rfl) ?_
    refine U.nil ?_
  refine ref_freeze_ok I1.f1 ?_
  with_reducible
    intro m4
    intro I2
    clear I1
    refine U.cons ?_
    refine U.v (by with_unfolding_all rfl) ?_
    refine U.nil ?_
  refine same_ok hk I2 ?_
  with_reducible
    intro m5
    intro I1
    clear I2
    refine U.prt ?_
  exact q _ I1.f1.f1
theorem okref {x : Str} : okN 6 (.tup [.str "refused", .str x]) := ⟨by show 2 ≤ 1000; decide, fun y hy => by
  simp only [List.mem_cons, List.not_mem_nil, or_false] at hy
  rcases hy with rfl | rfl <;> rfl⟩
theorem begin_freeze_no (hn : ph = "frozen" ∨ ph = "given") (h : DL.St k m ((g, gv ph n ps kn) :: (rm, mineO ph n ps kn) :: L)) (q : ∀ m', DL.St k m' ((g, gv ph n ps kn) :: (rm, mineO ph n ps kn) :: L) → Q (.bl true) m') : S__law_begin [.ref rm, .ref g, .str "freeze", .lst l] m Q := by
  have hk := okref (x := ph)
  have hne : ¬ (ph = "runs") := by rcases hn with rfl | rfl <;> decide
  have hb : decide (ph = "runs") = false := decide_eq_false hne
  with_reducible
    delta Law.S__law_begin
    refine U.ar (of_decide_eq_true (by kernel_rfl)) ?_
    refine U.run ?_
    delta Law.w__law_begin
    refine U.seq ?_
    refine U.par ?_
    refine U.cons ?_
    refine U.tup ?_
    refine U.cons ?_
    refine U.cs ?_
    refine U.cons ?_
    refine U.op ?_
    refine U.v (by with_unfolding_all rfl) ?_
    refine U.cs ?_
    refine U.ixK h.g1 (by with_unfolding_all rfl) (by with_unfolding_all rfl) ?_
    refine U.nil ?_
    refine And.intro (of_decide_eq_true (by kernel_rfl)) ?_
    refine U.cons ?_
    refine U.ife ?_
    refine U.bl ?_
    refine U.op ?_
    refine U.v (by with_unfolding_all rfl) ?_
    refine U.cs ?_
    refine U.eqS ?_
    refine U.bt (by decide +kernel) ?_
    refine U.cs ?_
    refine U.nil ?_
    refine U.pnx ?_
    refine U.seq ?_
    refine U.ifs ?_
    refine U.bl ?_
    refine U.op ?_
    refine U.op ?_
    refine U.v (by with_unfolding_all rfl) ?_
    refine U.cs ?_
    refine U.ixK h.g1 (by with_unfolding_all rfl) (by with_unfolding_all rfl) ?_
    refine U.v (by with_unfolding_all rfl) ?_
    refine U.eqS ?_
  refine U.bf (by simp only [decide_eq_true_eq, decide_eq_false_iff_not, beq_iff_eq, bne_iff_ne, Bool.not_eq_true', Bool.not_eq_false', Bool.false_xor, Bool.true_xor]; first | assumption | omega) ?_
  with_reducible
    refine U.next ?_
    refine U.pnx ?_
    refine U.ret ?_
    refine U.call ?_
    refine U.cons ?_
    refine U.call ?_
    refine U.cons ?_
    refine U.v (by with_unfolding_all rfl) ?_
    refine U.cons ?_
    refine U.v (by with_unfolding_all rfl) ?_
    refine U.cons ?_
    refine U.v (by with_unfolding_all rfl) ?_
    refine U.nil ?_
  refine ref_freeze_no hn h ?_
  with_reducible
    intro m1
    intro I1
    clear h
    refine U.cons ?_
    refine U.v (by with_unfolding_all rfl) ?_
    refine U.nil ?_
  refine same_ok hk I1 ?_
  with_reducible
    intro m2
    intro I2
    clear I1
    refine U.prt ?_
  exact q _ I2.f1.f1
theorem begin_resume_ok (h : DL.St k m ((g, gv "frozen" n ps kn) :: (rm, mineO "frozen" n ps kn) :: L)) (q : ∀ m', DL.St k m' ((g, gv "runs" n ps kn) :: (rm, mineO "runs" n ps kn) :: L) → Q (.bl true) m') : S__law_begin [.ref rm, .ref g, .str "resume", .lst l] m Q := by
  have hk : okN 6 .non := rfl
  with_reducible
    delta Law.S__law_begin
    refine U.ar (of_decide_eq_true (by kernel_rfl)) ?_
    refine U.run ?_
    delta Law.w__law_begin
    refine U.seq ?_
    refine U.par ?_
    refine U.cons ?_
    refine U.tup ?_
    refine U.cons ?_
    refine U.cs ?_
    refine U.cons ?_
    refine U.op ?_
    refine U.v (by with_unfolding_all rfl) ?_
    refine U.cs ?_
    refine U.ixK h.g1 (by with_unfolding_all rfl) (by with_unfolding_all rfl) ?_
    refine U.nil ?_
    refine And.intro (by decide +kernel) ?_
    refine U.cons ?_
    refine U.ife ?_
    refine U.bl ?_
    refine U.op ?_
    refine U.v (by with_unfolding_all rfl) ?_
    refine U.cs ?_
    refine U.eqS ?_
    refine U.bf (by decide +kernel) ?_
    refine U.cs ?_
    refine U.nil ?_
    refine U.pnx ?_
    refine U.seq ?_
    refine U.ifs ?_
    refine U.bl ?_
    refine U.op ?_
    refine U.op ?_
    refine U.v (by with_unfolding_all rfl) ?_
    refine U.cs ?_
    refine U.ixK h.g1 (by with_unfolding_all rfl) (by with_unfolding_all rfl) ?_
    refine U.v (by with_unfolding_all rfl) ?_
    refine U.eqS ?_
    refine U.bt (by decide +kernel) ?_
    refine U.seq ?_
    refine U.asg ?_
    refine U.cs ?_
    refine U.gn ?_
    refine U.pnx ?_
    refine U.seq ?_
    refine U.asg ?_
    refine U.ife ?_
    refine U.bl ?_
    refine U.op ?_
    refine U.v (by with_unfolding_all rfl) ?_
    refine U.cs ?_
    refine U.eqS ?_
    refine U.bf (by decide +kernel) ?_
    refine U.cs ?_
    refine U.gsub ?_
    refine U.v (by with_unfolding_all rfl) ?_
    refine U.cs ?_
    refine U.setDD h.f1 (by with_unfolding_all rfl) (of_decide_eq_true (by kernel_rfl)) ?_
    intro m1
    intro I1
    clear h
    refine U.pnx ?_
    refine U.ifs ?_
    refine U.bl ?_
    refine U.op ?_
    refine U.v (by with_unfolding_all rfl) ?_
    refine U.cs ?_
    refine U.eqS ?_
    refine U.bf (by decide +kernel) ?_
    refine U.next ?_
    refine U.pnx ?_
    refine U.ret ?_
    refine U.call ?_
    refine U.cons ?_
    refine U.call ?_
    refine U.cons ?_
    refine U.v (by with_unfolding_all rfl) ?_
    refine U.cons ?_
    refine U.v (by with_unfolding_all rfl) ?_
    refine U.cons ?_
    refine U.v (by with_unfolding_all rfl) ?_
    refine U.nil ?_
  refine ref_resume_ok I1.f1 ?_
  with_reducible
    intro m2
    intro I2
    clear I1
    refine U.cons ?_
    refine U.v (by with_unfolding_all rfl) ?_
    refine U.nil ?_
  refine same_ok hk I2 ?_
  with_reducible
    intro m3
    intro I1
    clear I2
    refine U.prt ?_
  exact q _ I1.f1.f1
theorem begin_resume_no (hn : ph = "runs" ∨ ph = "given") (h : DL.St k m ((g, gv ph n ps kn) :: (rm, mineO ph n ps kn) :: L)) (q : ∀ m', DL.St k m' ((g, gv ph n ps kn) :: (rm, mineO ph n ps kn) :: L) → Q (.bl true) m') : S__law_begin [.ref rm, .ref g, .str "resume", .lst l] m Q := by
  have hk := okref (x := ph)
  have hne : ¬ (ph = "frozen") := by rcases hn with rfl | rfl <;> decide
  have hb : decide (ph = "frozen") = false := decide_eq_false hne
  with_reducible
    delta Law.S__law_begin
    refine U.ar (of_decide_eq_true (by kernel_rfl)) ?_
    refine U.run ?_
    delta Law.w__law_begin
    refine U.seq ?_
    refine U.par ?_
    refine U.cons ?_
    refine U.tup ?_
    refine U.cons ?_
    refine U.cs ?_
    refine U.cons ?_
    refine U.op ?_
    refine U.v (by with_unfolding_all rfl) ?_
    refine U.cs ?_
    refine U.ixK h.g1 (by with_unfolding_all rfl) (by with_unfolding_all rfl) ?_
    refine U.nil ?_
    refine And.intro (of_decide_eq_true (by kernel_rfl)) ?_
    refine U.cons ?_
    refine U.ife ?_
    refine U.bl ?_
    refine U.op ?_
    refine U.v (by with_unfolding_all rfl) ?_
    refine U.cs ?_
    refine U.eqS ?_
    refine U.bf (by decide +kernel) ?_
    refine U.cs ?_
    refine U.nil ?_
    refine U.pnx ?_
    refine U.seq ?_
    refine U.ifs ?_
    refine U.bl ?_
    refine U.op ?_
    refine U.op ?_
    refine U.v (by with_unfolding_all rfl) ?_
    refine U.cs ?_
    refine U.ixK h.g1 (by with_unfolding_all rfl) (by with_unfolding_all rfl) ?_
    refine U.v (by with_unfolding_all rfl) ?_
    refine U.eqS ?_
  refine U.bf (by simp only [decide_eq_true_eq, decide_eq_false_iff_not, beq_iff_eq, bne_iff_ne, Bool.not_eq_true', Bool.not_eq_false', Bool.false_xor, Bool.true_xor]; first | assumption | omega) ?_
  with_reducible
    refine U.next ?_
    refine U.pnx ?_
    refine U.ret ?_
    refine U.call ?_
    refine U.cons ?_
    refine U.call ?_
    refine U.cons ?_
    refine U.v (by with_unfolding_all rfl) ?_
    refine U.cons ?_
    refine U.v (by with_unfolding_all rfl) ?_
    refine U.cons ?_
    refine U.v (by with_unfolding_all rfl) ?_
    refine U.nil ?_
  refine ref_resume_no hn h ?_
  with_reducible
    intro m1
    intro I1
    clear h
    refine U.cons ?_
    refine U.v (by with_unfolding_all rfl) ?_
    refine U.nil ?_
  refine same_ok hk I1 ?_
  with_reducible
    intro m2
    intro I2
    clear I1
    refine U.prt ?_
  exact q _ I2.f1.f1
/-- messages sent -/
theorem sp_sent {o : MO} {c : Nat} {R : DV → Prop} {ms link : List DV} (hm : ∀ d ∈ ms, R d) (hl : ∀ d ∈ link, R d) (ho : SrcO o c) (hc : c + ms.length < 900000) (hln : link.length ≤ 10000) (hms : ms.length ≤ 100) (h : DL.St k m ((p, o) :: (lk, .lst link) :: L))
    (q : ∀ m' o' link', SrcO o' (c + ms.length) → (∀ d ∈ link', R d) → link'.length ≤ link.length + 2 * ms.length → DL.St k m' ((p, o') :: (lk, .lst link') :: L) → Q .non m') : S__law_sent [.ref p, .ref lk, .lst ms] m Q := by
  have big := line_eq
  refine ⟨rfl, ?_⟩
  show w__law_sent { nx := fun _ m' => Q .non m', rt := Q } [some (.ref p), some (.ref lk), some (.lst ms), none] m
  unfold w__law_sent
  refine U.for_ (U.any (go_var rfl (U.itL (xs := ms) rfl ?_)))
  refine fx_forI (it := ⟨ms, _, none⟩) (fun i δ m => ∃ o link' x, δ = [some (.ref p), some (.ref lk), some (.lst ms), x] ∧ SrcO o (c + i) ∧ (∀ d ∈ link', R d) ∧ link'.length ≤ link.length + 2 * i ∧ DL.St k m ((p, o) :: (lk, .lst link') :: L)) rfl (fun _ _ _ _ => rfl) ⟨o, link, _, rfl, ho, hl, Nat.le_refl _, h⟩ ?_ ?_
  · rintro i y δ m D' hy ⟨o, link', x, rfl, ho, hR, hl2, h⟩ hrt hnx hct hbk
    have hi : i < ms.length := (List.getElem?_eq_some_iff.mp hy).1
    refine U.gn (go_drop (go_m (go_var rfl ⟨U.ofL h.g1, ?_⟩)))
    refine go_cons (go_op (go_lst (go_cons (go_var rfl (go_nil ⟨n60 rfl, U.newD ?_⟩)))))
    refine go_call (go_cons (go_var rfl (go_cons (go_lst (go_cons (go_c (go_cons (go_c (go_cons (go_c (go_cons (go_c (go_cons (go_c (go_nil ⟨n60 rfl, U.newD (go_nil ?_)⟩)))))))))))))))
    refine sp_pick ho (by omega) (List.cons_ne_nil _ _) (by show 5 ≤ 1000000; decide) h fun m2 d o2 hd ho2 h2 => ?_
    obtain ⟨z, rfl, hz⟩ : ∃ z : Nat, d = .int z ∧ z ≤ 2 := by
      simp only [List.mem_cons, List.not_mem_nil, or_false] at hd
      rcases hd with rfl | rfl | rfl | rfl | rfl
      · exact ⟨0, rfl, by decide⟩
      · exact ⟨1, rfl, by decide⟩
      · exact ⟨1, rfl, by decide⟩
      · exact ⟨1, rfl, by decide⟩
      · exact ⟨2, rfl, by decide⟩
    have hfl : ∀ z : Nat, (List.replicate z [y]).flatten = List.replicate z y := fun z => by
      induction z with
      | zero => rfl
      | succ z ih => rw [List.replicate_succ, List.flatten_cons, ih, List.replicate_succ]; rfl
    refine ⟨[y], rfl, by omega, by omega, by simp; omega, U.newD (go_nil ?_)⟩
    rw [Int.toNat_natCast, hfl]
    refine U.ext (h2.f1) rfl (by simp; omega) fun m3 h3 => ?_
    refine hnx _ _ ⟨o2, link' ++ List.replicate z y, _, rfl, ho2, fun d hd => ?_, ?_, h3.f1⟩
    · rcases List.mem_append.mp hd with e | e
      · exact hR d e
      · rw [List.eq_of_mem_replicate e]; exact hm y (List.mem_of_getElem? hy)
    · rw [List.length_append, List.length_replicate]; omega
  · rintro δ m ⟨o, link', x, rfl, ho, hR, hl2, h⟩
    exact q m o link' ho hR hl2 h
end
end Law
namespace Law
open PySem PySem.Spec PyProof.Rows L2 DL
abbrev dtail : DS := wSeq (wAsg (wIf (wBl (wOp (dIn false) (wOp dIx (wVar 8) (wC (.int 0))) (wTup (wCons (wC (.str "whole")) (wCons (wC (.str "going")) (wNil)))))) (wMeth 2 S_Giver_receive [] (wVar 2) (wCons (wVar 9) (wNil))) (wMeth 3 S_Taker_receive [] (wVar 3) (wCons (wVar 9) (wNil)))) (gN 10)) (wSeq (wIfS (wBl (wOp (dIn false) (wOp dIx (wVar 8) (wC (.int 0))) (wTup (wCons (wC (.str "whole")) (wCons (wC (.str "going")) (wNil)))))) (wDrop (wCall S__law_given [] (wCons (wVar 5) (wCons (wVar 8) (wNil))))) (wDrop (wCall S__law_taken [] (wCons (wVar 6) (wCons (wVar 8) (wNil)))))) (wRet (wOp (dIsN false) (wVar 10) (wC .non))))
section
variable {k m : Sto} {L : List (Addr × MO)} {g rm ri ld p lk t dd : Addr} {ph w x : Str} {n i j mn tn many : Int} {ps l : List DV} {kn runs : Bool} {xs : KVs} {x7 soft : DV} {D : DEnds}
abbrev dS (p lk g t rm ri : Addr) (x7 d soft : DV) : Slots := [some (.ref p), some (.ref lk), some (.ref g), some (.ref t), some (.tup [.ref rm, .ref ri]), some (.ref rm), some (.ref ri), some x7, some d, some soft, none]
theorem tail_two (hw : w = "whole" ∨ w = "going") (hs : soft = .tup [.str w, .int i] ∨ soft = .lst [.str w, .int i]) (hp : Phs ph) (h : DL.St k m ((g, gv ph n ps kn) :: (rm, mineO ph n ps kn) :: L))
    (q : ∀ m', DL.St k m' ((g, gv (recvF w i ph n kn).1 n ps (recvF w i ph n kn).2) :: (rm, mineO (recvF w i ph n kn).1 n ps (recvF w i ph n kn).2) :: L) → D.rt (.bl true) m') : dtail D (dS p lk g t rm ri x7 (.tup [.str w, .int i]) soft) m := by
  have ho : PyData.strOk w = true := by rcases hw with rfl | rfl <;> decide +kernel
  rcases hw with rfl | rfl
  · unfold dtail dS
    with_reducible
      refine U.seq ?_
      refine U.asg ?_
      refine U.ife ?_
      refine U.bl ?_
      refine U.op ?_
      refine U.op ?_
      refine U.v (by with_unfolding_all rfl) ?_
      refine U.cs ?_
      refine U.ix0 (by with_unfolding_all rfl) ?_
      refine U.tup ?_
      refine U.cons ?_
      refine U.cs ?_
      refine U.cons ?_
      refine U.cs ?_
      refine U.nil ?_
      refine And.intro (by decide +kernel) ?_
      refine U.inL (of_decide_eq_true (by kernel_rfl)) (by with_unfolding_all rfl) (by decide +kernel) ?_
      refine U.bt (by decide +kernel) ?_
      refine U.meth ?_
      refine U.v (by with_unfolding_all rfl) ?_
      refine And.intro (U.has h.g0) ?_
      refine U.cons ?_
      refine U.v (by with_unfolding_all rfl) ?_
      refine U.nil ?_
    refine sp_grecv (by assumption) (by decide +kernel) hp h ?_
    with_reducible
      intro m1
      intro I1
      clear h
      refine U.gn ?_
      refine U.pnx ?_
      refine U.seq ?_
      refine U.ifs ?_
      refine U.bl ?_
      refine U.op ?_
      refine U.op ?_
      refine U.v (by with_unfolding_all rfl) ?_
      refine U.cs ?_
      refine U.ix0 (by with_unfolding_all rfl) ?_
      refine U.tup ?_
      refine U.cons ?_
      refine U.cs ?_
      refine U.cons ?_
      refine U.cs ?_
      refine U.nil ?_
      refine And.intro (by decide +kernel) ?_
      refine U.inL (of_decide_eq_true (by kernel_rfl)) (by with_unfolding_all rfl) (by decide +kernel) ?_
      refine U.bt (by decide +kernel) ?_
      refine U.drop ?_
      refine U.call ?_
      refine U.cons ?_
      refine U.v (by with_unfolding_all rfl) ?_
      refine U.cons ?_
      refine U.v (by with_unfolding_all rfl) ?_
      refine U.nil ?_
    refine sp_given (by decide +kernel) hp I1.f1 ?_
    with_reducible
      intro m2
      intro I2
      clear I1
      refine U.pnx ?_
      refine U.ret ?_
      refine U.op ?_
      refine U.v (by with_unfolding_all rfl) ?_
      refine U.cs ?_
      refine U.isN ?_
    exact q _ I2.f1
  · unfold dtail dS
    with_reducible
      refine U.seq ?_
      refine U.asg ?_
      refine U.ife ?_
      refine U.bl ?_
      refine U.op ?_
      refine U.op ?_
      refine U.v (by with_unfolding_all rfl) ?_
      refine U.cs ?_
      refine U.ix0 (by with_unfolding_all rfl) ?_
      refine U.tup ?_
      refine U.cons ?_
      refine U.cs ?_
      refine U.cons ?_
      refine U.cs ?_
      refine U.nil ?_
      refine And.intro (by decide +kernel) ?_
      refine U.inL (of_decide_eq_true (by kernel_rfl)) (by with_unfolding_all rfl) (by decide +kernel) ?_
      refine U.bt (by decide +kernel) ?_
      refine U.meth ?_
      refine U.v (by with_unfolding_all rfl) ?_
      refine And.intro (U.has h.g0) ?_
      refine U.cons ?_
      refine U.v (by with_unfolding_all rfl) ?_
      refine U.nil ?_
    refine sp_grecv (by assumption) (by decide +kernel) hp h ?_
    with_reducible
      intro m1
      intro I1
      clear h
      refine U.gn ?_
      refine U.pnx ?_
      refine U.seq ?_
      refine U.ifs ?_
      refine U.bl ?_
      refine U.op ?_
      refine U.op ?_
      refine U.v (by with_unfolding_all rfl) ?_
      refine U.cs ?_
      refine U.ix0 (by with_unfolding_all rfl) ?_
      refine U.tup ?_
      refine U.cons ?_
      refine U.cs ?_
      refine U.cons ?_
      refine U.cs ?_
      refine U.nil ?_
      refine And.intro (by decide +kernel) ?_
      refine U.inL (of_decide_eq_true (by kernel_rfl)) (by with_unfolding_all rfl) (by decide +kernel) ?_
      refine U.bt (by decide +kernel) ?_
      refine U.drop ?_
      refine U.call ?_
      refine U.cons ?_
      refine U.v (by with_unfolding_all rfl) ?_
      refine U.cons ?_
      refine U.v (by with_unfolding_all rfl) ?_
      refine U.nil ?_
    refine sp_given (by decide +kernel) hp I1.f1 ?_
    with_reducible
      intro m2
      intro I2
      clear I1
      refine U.pnx ?_
      refine U.ret ?_
      refine U.op ?_
      refine U.v (by with_unfolding_all rfl) ?_
      refine U.cs ?_
      refine U.isN ?_
    exact q _ I2.f1
theorem tail_piece (hx : PyData.strOk x = true) (hl : xs.length < 60) (hs : soft = .tup [.str "piece", .int i, .int j, .int mn, .str x] ∨ soft = .lst [.str "piece", .int i, .int j, .int mn, .str x])
    (h : DL.St k m ((t, tk tn many dd false) :: (dd, .dct (kvD xs)) :: (ri, itsO tn many ld false) :: (ld, .dct (kvD xs)) :: L))
    (q : ∀ m' dd ld, DL.St k m' ((t, tk (keepF tn many xs i j mn x).1 (keepF tn many xs i j mn x).2.1 dd false) :: (dd, .dct (kvD (keepF tn many xs i j mn x).2.2)) :: (ri, itsO (keepF tn many xs i j mn x).1 (keepF tn many xs i j mn x).2.1 ld false) :: (ld, .dct (kvD (keepF tn many xs i j mn x).2.2)) :: L) → D.rt (.bl true) m') :
    dtail D (dS p lk g t rm ri x7 (.tup [.str "piece", .int i, .int j, .int mn, .str x]) soft) m := by
  unfold dtail dS
  with_reducible
    refine U.seq ?_
    refine U.asg ?_
    refine U.ife ?_
    refine U.bl ?_
    refine U.op ?_
    refine U.op ?_
    refine U.v (by with_unfolding_all rfl) ?_
    refine U.cs ?_
    refine U.ix0 (by with_unfolding_all rfl) ?_
    refine U.tup ?_
    refine U.cons ?_
    refine U.cs ?_
    refine U.cons ?_
    refine U.cs ?_
    refine U.nil ?_
    refine And.intro (by decide +kernel) ?_
    refine U.inL (of_decide_eq_true (by kernel_rfl)) (by with_unfolding_all rfl) (by decide +kernel) ?_
    refine U.bf (by decide +kernel) ?_
    refine U.meth ?_
    refine U.v (by with_unfolding_all rfl) ?_
    refine And.intro (U.has h.g0) ?_
    refine U.cons ?_
    refine U.v (by with_unfolding_all rfl) ?_
    refine U.nil ?_
  refine trecv_piece (by assumption) hl h.f1.f1 ?_
  with_reducible
    intro m1
    intro p1
    intro I1
    clear h
    refine U.gn ?_
    refine U.pnx ?_
    refine U.seq ?_
    refine U.ifs ?_
    refine U.bl ?_
    refine U.op ?_
    refine U.op ?_
    refine U.v (by with_unfolding_all rfl) ?_
    refine U.cs ?_
    refine U.ix0 (by with_unfolding_all rfl) ?_
    refine U.tup ?_
    refine U.cons ?_
    refine U.cs ?_
    refine U.cons ?_
    refine U.cs ?_
    refine U.nil ?_
    refine And.intro (by decide +kernel) ?_
    refine U.inL (of_decide_eq_true (by kernel_rfl)) (by with_unfolding_all rfl) (by decide +kernel) ?_
    refine U.bf (by decide +kernel) ?_
    refine U.drop ?_
    refine U.call ?_
    refine U.cons ?_
    refine U.v (by with_unfolding_all rfl) ?_
    refine U.cons ?_
    refine U.v (by with_unfolding_all rfl) ?_
    refine U.nil ?_
  refine its_piece hx hl I1.f3.f3 ?_
  with_reducible
    intro m2
    intro p2
    intro I2
    clear I1
    refine U.pnx ?_
    refine U.ret ?_
    refine U.op ?_
    refine U.v (by with_unfolding_all rfl) ?_
    refine U.cs ?_
    refine U.isN ?_
  exact q _ _ _ I2.f1.f1.f3.f3
theorem tail_run {r : List DV} (hw : w = "piece" ∨ w = "go") (hr : r.length < 16) (hs : soft = .tup (.str w :: .int i :: r) ∨ soft = .lst (.str w :: .int i :: r))
    (h : DL.St k m ((t, tk tn many dd true) :: (dd, .dct (kvD xs)) :: (ri, itsO tn many ld true) :: L))
    (q : ∀ m', DL.St k m' ((t, tk tn many dd true) :: (dd, .dct (kvD xs)) :: (ri, itsO tn many ld true) :: L) → D.rt (.bl true) m') : dtail D (dS p lk g t rm ri x7 (.tup (.str w :: .int i :: r)) soft) m := by
  rcases hw with rfl | rfl
  · unfold dtail dS
    with_reducible
      refine U.seq ?_
      refine U.asg ?_
      refine U.ife ?_
      refine U.bl ?_
      refine U.op ?_
      refine U.op ?_
      refine U.v (by with_unfolding_all rfl) ?_
      refine U.cs ?_
      refine U.ix0 (by with_unfolding_all rfl) ?_
      refine U.tup ?_
      refine U.cons ?_
      refine U.cs ?_
      refine U.cons ?_
      refine U.cs ?_
      refine U.nil ?_
      refine And.intro (by decide +kernel) ?_
      refine U.inL (of_decide_eq_true (by kernel_rfl)) (by with_unfolding_all rfl) (by decide +kernel) ?_
      refine U.bf (by decide +kernel) ?_
      refine U.meth ?_
      refine U.v (by with_unfolding_all rfl) ?_
      refine And.intro (U.has h.g0) ?_
      refine U.cons ?_
      refine U.v (by with_unfolding_all rfl) ?_
      refine U.nil ?_
    refine trecv_run (by assumption) hr h.f1.f1 ?_
    with_reducible
      intro m1
      intro I1
      clear h
      refine U.gn ?_
      refine U.pnx ?_
      refine U.seq ?_
      refine U.ifs ?_
      refine U.bl ?_
      refine U.op ?_
      refine U.op ?_
      refine U.v (by with_unfolding_all rfl) ?_
      refine U.cs ?_
      refine U.ix0 (by with_unfolding_all rfl) ?_
      refine U.tup ?_
      refine U.cons ?_
      refine U.cs ?_
      refine U.cons ?_
      refine U.cs ?_
      refine U.nil ?_
      refine And.intro (by decide +kernel) ?_
      refine U.inL (of_decide_eq_true (by kernel_rfl)) (by with_unfolding_all rfl) (by decide +kernel) ?_
      refine U.bf (by decide +kernel) ?_
      refine U.drop ?_
      refine U.call ?_
      refine U.cons ?_
      refine U.v (by with_unfolding_all rfl) ?_
      refine U.cons ?_
      refine U.v (by with_unfolding_all rfl) ?_
      refine U.nil ?_
    refine its_run I1.f2 ?_
    with_reducible
      intro m2
      intro I2
      clear I1
      refine U.pnx ?_
      refine U.ret ?_
      refine U.op ?_
      refine U.v (by with_unfolding_all rfl) ?_
      refine U.cs ?_
      refine U.isN ?_
    exact q _ I2.f2.f2
  · unfold dtail dS
    with_reducible
      refine U.seq ?_
      refine U.asg ?_
      refine U.ife ?_
      refine U.bl ?_
      refine U.op ?_
      refine U.op ?_
      refine U.v (by with_unfolding_all rfl) ?_
      refine U.cs ?_
      refine U.ix0 (by with_unfolding_all rfl) ?_
      refine U.tup ?_
      refine U.cons ?_
      refine U.cs ?_
      refine U.cons ?_
      refine U.cs ?_
      refine U.nil ?_
      refine And.intro (by decide +kernel) ?_
      refine U.inL (of_decide_eq_true (by kernel_rfl)) (by with_unfolding_all rfl) (by decide +kernel) ?_
      refine U.bf (by decide +kernel) ?_
      refine U.meth ?_
      refine U.v (by with_unfolding_all rfl) ?_
      refine And.intro (U.has h.g0) ?_
      refine U.cons ?_
      refine U.v (by with_unfolding_all rfl) ?_
      refine U.nil ?_
    refine trecv_run (by assumption) hr h.f1.f1 ?_
    with_reducible
      intro m1
      intro I1
      clear h
      refine U.gn ?_
      refine U.pnx ?_
      refine U.seq ?_
      refine U.ifs ?_
      refine U.bl ?_
      refine U.op ?_
      refine U.op ?_
      refine U.v (by with_unfolding_all rfl) ?_
      refine U.cs ?_
      refine U.ix0 (by with_unfolding_all rfl) ?_
      refine U.tup ?_
      refine U.cons ?_
      refine U.cs ?_
      refine U.cons ?_
      refine U.cs ?_
      refine U.nil ?_
      refine And.intro (by decide +kernel) ?_
      refine U.inL (of_decide_eq_true (by kernel_rfl)) (by with_unfolding_all rfl) (by decide +kernel) ?_
      refine U.bf (by decide +kernel) ?_
      refine U.drop ?_
      refine U.call ?_
      refine U.cons ?_
      refine U.v (by with_unfolding_all rfl) ?_
      refine U.cons ?_
      refine U.v (by with_unfolding_all rfl) ?_
      refine U.nil ?_
    refine its_run I1.f2 ?_
    with_reducible
      intro m2
      intro I2
      clear I1
      refine U.pnx ?_
      refine U.ret ?_
      refine U.op ?_
      refine U.v (by with_unfolding_all rfl) ?_
      refine U.cs ?_
      refine U.isN ?_
    exact q _ I2.f2.f2
theorem tail_go (hs : soft = .tup [.str "go", .int i] ∨ soft = .lst [.str "go", .int i])
    (h : DL.St k m ((t, tk tn many dd false) :: (dd, .dct (kvD xs)) :: (ri, itsO tn many ld false) :: (ld, .dct (kvD xs)) :: L))
    (q : ∀ m', DL.St k m' ((t, tk tn many dd (decide (i = tn) && wholeB tn many xs)) :: (dd, .dct (kvD xs)) :: (ri, itsO tn many ld (decide (i = tn) && wholeB tn many xs)) :: (ld, .dct (kvD xs)) :: L) → D.rt (.bl true) m') :
    dtail D (dS p lk g t rm ri x7 (.tup [.str "go", .int i]) soft) m := by
  unfold dtail dS
  with_reducible
    refine U.seq ?_
    refine U.asg ?_
    refine U.ife ?_
    refine U.bl ?_
    refine U.op ?_
    refine U.op ?_
    refine U.v (by with_unfolding_all rfl) ?_
    refine U.cs ?_
    refine U.ix0 (by with_unfolding_all rfl) ?_
    refine U.tup ?_
    refine U.cons ?_
    refine U.cs ?_
    refine U.cons ?_
    refine U.cs ?_
    refine U.nil ?_
    refine And.intro (by decide +kernel) ?_
    refine U.inL (of_decide_eq_true (by kernel_rfl)) (by with_unfolding_all rfl) (by decide +kernel) ?_
    refine U.bf (by decide +kernel) ?_
    refine U.meth ?_
    refine U.v (by with_unfolding_all rfl) ?_
    refine And.intro (U.has h.g0) ?_
    refine U.cons ?_
    refine U.v (by with_unfolding_all rfl) ?_
    refine U.nil ?_
  refine trecv_go (by assumption) h.f1.f1 ?_
  with_reducible
    intro m1
    intro I1
    clear h
    refine U.gn ?_
    refine U.pnx ?_
    refine U.seq ?_
    refine U.ifs ?_
    refine U.bl ?_
    refine U.op ?_
    refine U.op ?_
    refine U.v (by with_unfolding_all rfl) ?_
    refine U.cs ?_
    refine U.ix0 (by with_unfolding_all rfl) ?_
    refine U.tup ?_
    refine U.cons ?_
    refine U.cs ?_
    refine U.cons ?_
    refine U.cs ?_
    refine U.nil ?_
    refine And.intro (by decide +kernel) ?_
    refine U.inL (of_decide_eq_true (by kernel_rfl)) (by with_unfolding_all rfl) (by decide +kernel) ?_
    refine U.bf (by decide +kernel) ?_
    refine U.drop ?_
    refine U.call ?_
    refine U.cons ?_
    refine U.v (by with_unfolding_all rfl) ?_
    refine U.cons ?_
    refine U.v (by with_unfolding_all rfl) ?_
    refine U.nil ?_
  refine its_go I1.f3.f3 ?_
  with_reducible
    intro m2
    intro I2
    clear I1
    refine U.pnx ?_
    refine U.ret ?_
    refine U.op ?_
    refine U.v (by with_unfolding_all rfl) ?_
    refine U.cs ?_
    refine U.isN ?_
  exact q _ I2.f1.f1.f3.f3
end
end Law
namespace Law
open PySem PySem.Spec PyProof.Rows L2 DL
abbrev dm (l : List Str) : List DV := l.map DV.str
def CS (s : Sd) (g t rm ri dd ld : Addr) : List (Addr × MO) := [(g, gv s.ph s.n (dm s.ps) s.kn), (rm, mineO s.ph s.n (dm s.ps) s.kn), (t, tk s.turn s.many dd s.runs), (dd, .dct (kvD s.xs)), (ri, itsO s.turn s.many ld s.runs), (ld, .dct (kvD s.xs))]
section
variable {k m : Sto} {L : List (Addr × MO)} {c0 c1 c2 c3 c4 c5 c6 c7 : Addr × MO}
theorem toG (h : DL.St k m [c0, c1, c2, c3, c4, c5, c6, c7]) : DL.St k m [c2, c3, c0, c1, c4, c5, c6, c7] := h.f3.f3
theorem ofG (h : DL.St k m [c2, c3, c0, c1, c4, c5, c6, c7]) : DL.St k m [c0, c1, c2, c3, c4, c5, c6, c7] := h.f3.f3
theorem toT (h : DL.St k m [c0, c1, c2, c3, c4, c5, c6, c7]) : DL.St k m [c4, c5, c6, c7, c0, c1, c2, c3] := h.f7.f7.f7.f7
theorem ofT (h : DL.St k m [c4, c5, c6, c7, c0, c1, c2, c3]) : DL.St k m [c0, c1, c2, c3, c4, c5, c6, c7] := h.f7.f7.f7.f7
theorem toT3 (h : DL.St k m [c0, c1, c2, c3, c4, c5, c6, c7]) : DL.St k m [c4, c5, c6, c0, c1, c2, c3, c7] := h.f6.f6.f6
theorem ofT3 (h : DL.St k m [c4, c5, c6, c0, c1, c2, c3, c7]) : DL.St k m [c0, c1, c2, c3, c4, c5, c6, c7] := h.f6.f6.f6.f6
end
section
variable {k m : Sto} {p lk g t rm ri dd ld : Addr} {o : MO} {c : Nat} {link : List DV} {P : Int → List Str} {B : Int} {s : Sd} {d soft x7 : DV} {D : DEnds}
theorem recv_same {w ph : Str} {i n : Int} {kn : Bool} (h1 : ¬ (ph = "frozen" ∧ w = "whole" ∧ i = n)) (h2 : ¬ (ph = "given" ∧ w = "going" ∧ i = n)) : recvF w i ph n kn = (ph, kn) := by
  unfold recvF; rw [if_neg h1, if_neg h2]
theorem dlv_main (hO : Ok P B s) (hd : MOk P s d) (hs : soft = d ∨ ∃ xs, d = .tup xs ∧ soft = .lst xs) (h : DL.St k m ((p, o) :: (lk, .lst link) :: CS s g t rm ri dd ld))
    (q : ∀ m' s' dd' ld', Ok P B s' → (∀ e, MOk P s e → MOk P s' e) → DL.St k m' ((p, o) :: (lk, .lst link) :: CS s' g t rm ri dd' ld') → D.rt (.bl true) m') : dtail D (dS p lk g t rm ri x7 d soft) m := by
  have hxl := hO.xsl
  have key : ∀ xs, d = .tup xs → soft = .tup xs ∨ soft = .lst xs := fun xs e => by
    rcases hs with z | ⟨ys, z1, z2⟩
    · exact .inl (z.trans e)
    · rw [e] at z1; cases z1; exact .inr z2
  have hd' := hd
  rcases hd with ⟨t', j, x, rfl, h1, h2, h3⟩ | ⟨rfl, hg⟩ | ⟨t', rfl, h1, h2, h3⟩ | ⟨rfl, hr⟩
  · have hsf := key _ rfl
    have hx := (hO.v _ h1 h2).2.2 x (List.mem_of_getElem? h3)
    cases hr : s.runs with
    | true =>
      have h' := h
      unfold CS at h'
      rw [hr] at h'
      refine tail_run (r := [.int j, .int (P t').length, .str x]) (.inl rfl) (by show 3 < 16; decide) hsf (toT3 h') fun m' I => ?_
      refine q m' s dd ld hO (fun e z => z) ?_
      unfold CS
      rw [hr]
      exact ofT3 I
    | false =>
      have h' := h
      unfold CS at h'
      rw [hr] at h'
      obtain ⟨g1, g2⟩ := hO.piece hr h1 h2 h3
      refine tail_piece hx.1 (by omega) hsf (toT h') fun m' dd' ld' I => ?_
      refine q m' _ dd' ld' g1 g2 ?_
      unfold CS
      dsimp only
      rw [hr]
      exact ofT I
  · have hsf := key _ rfl
    cases hr : s.runs with
    | true =>
      have h' := h
      unfold CS at h'
      rw [hr] at h'
      refine tail_run (r := []) (.inr rfl) (by decide) hsf (toT3 h') fun m' I => ?_
      refine q m' s dd ld hO (fun e z => z) ?_
      unfold CS
      rw [hr]
      exact ofT3 I
    | false =>
      have h' := h
      unfold CS at h'
      rw [hr] at h'
      obtain ⟨g1, g2, g3⟩ := hO.g hg
      have e : (decide (s.n = s.turn) && wholeB s.turn s.many s.xs) = true := by
        unfold wholeB
        rw [decide_eq_true g1.symm, decide_eq_true (by omega), decide_eq_true g3]; rfl
      obtain ⟨o1, o2⟩ := hO.go hd'
      refine tail_go hsf (toT h') fun m' I => ?_
      rw [e] at I
      refine q m' _ dd ld o1 o2 ?_
      unfold CS
      exact ofT I
  · have hsf := key _ rfl
    have h' := h
    unfold CS at h'
    refine tail_two (.inl rfl) hsf hO.ph (toG h') fun m' I => ?_
    by_cases hc : s.ph = "frozen" ∧ t' = s.n
    · obtain ⟨hf, rfl⟩ := hc
      have e : recvF "whole" s.n s.ph s.n s.kn = (("given" : Str), s.kn) := by unfold recvF; rw [if_pos ⟨hf, rfl, rfl⟩]
      rw [e] at I
      obtain ⟨o1, o2⟩ := hO.given hf hd'
      refine q m' _ dd ld o1 o2 ?_
      unfold CS
      exact ofG I
    · have e : recvF "whole" t' s.ph s.n s.kn = (s.ph, s.kn) := recv_same (fun z => hc ⟨z.1, z.2.2⟩) fun z => ne_wg z.2.1
      rw [e] at I
      refine q m' s dd ld hO (fun e z => z) ?_
      unfold CS
      exact ofG I
  · have hsf := key _ rfl
    have h' := h
    unfold CS at h'
    refine tail_two (.inr rfl) hsf hO.ph (toG h') fun m' I => ?_
    have hg := hO.r hr
    have e : recvF "going" s.n s.ph s.n s.kn = (s.ph, true) := by
      unfold recvF
      rw [if_neg fun z => ne_wg z.2.1.symm, if_pos ⟨hg, rfl, rfl⟩]
    rw [e] at I
    obtain ⟨o1, o2⟩ := hO.known hd'
    refine q m' _ dd ld o1 o2 ?_
    unfold CS
    exact ofG I
theorem MOk.tup (h : MOk P s d) : ∃ xs, d = .tup xs ∧ xs.length ≤ 5 := by
  rcases h with ⟨t', j, x, rfl, _⟩ | ⟨rfl, _⟩ | ⟨t', rfl, _⟩ | ⟨rfl, _⟩ <;> exact ⟨_, rfl, by simp⟩
theorem sp_delivered {Q : DK} (hO : Ok P B s) (hM : ∀ d ∈ link, MOk P s d) (ho : SrcO o c) (hc : c < 900000) (h0 : link ≠ []) (hl : link.length ≤ 10000) (h : DL.St k m ((p, o) :: (lk, .lst link) :: CS s g t rm ri dd ld))
    (q : ∀ m' o' link' s' dd' ld', Ok P B s' → (∀ d ∈ link', MOk P s' d) → SrcO o' (c + 3) → link'.length ≤ link.length → DL.St k m' ((p, o') :: (lk, .lst link') :: CS s' g t rm ri dd' ld') → Q (.bl true) m') :
    S__law_delivered [.ref p, .ref lk, .ref g, .ref t, .tup [.ref rm, .ref ri]] m Q := by
  have big := line_eq
  have hpos : 0 < link.length := List.length_pos_iff.mpr h0
  refine ⟨rfl, ?_⟩
  show w__law_delivered { nx := fun _ m' => Q .non m', rt := Q } [some (.ref p), some (.ref lk), some (.ref g), some (.ref t), some (.tup [.ref rm, .ref ri]), none, none, none, none, none, none] m
  unfold w__law_delivered
  refine go_seq (go_asg (go_var rfl (go_gseq (xs := [.ref rm, .ref ri]) rfl rfl (U.gcons (U.gn (U.gcons (U.gn (U.gnil ?_))))))))
  dsimp only
  refine go_sset (go_call (go_cons (go_var rfl (go_cons (go_b (go_cons (go_var rfl (go_nil (go_lenI (asQ_ref h.g1) (go_nil ?_))))))))))
  refine sp_draw ho (by omega) (by omega) (by omega) h fun m1 r o1 hr hr2 ho1 h1 => ?_
  have hlt : r.toNat < link.length := by omega
  have hix : ixN link.length r = some r.toNat := by
    unfold ixN
    rw [if_pos hr, if_pos hr2]
  have hat : atI link r = some link[r.toNat] := by
    unfold atI
    rw [hix]
    show link[r.toNat]? = _
    rw [List.getElem?_eq_getElem hlt]
  have hmem : link[r.toNat] ∈ link := List.getElem_mem hlt
  obtain ⟨xs, hxs, hx5⟩ := (hM _ hmem).tup
  have main : ∀ m2 o2 link2, SrcO o2 (c + 2) → (∀ d ∈ link2, d ∈ link) → link2.length ≤ link.length → DL.St k m2 ((p, o2) :: (lk, .lst link2) :: CS s g t rm ri dd ld) →
      wSeq (wAsg (wIf (wBl (wOp (dEq false) (wCall S__law_draw [] (wCons (wVar 0) (wCons (wC (.int 5)) (wNil)))) (wC (.int 0)))) (wB (dListOf false) (wCons (wVar 8) (wNil))) (wVar 8)) (gN 9)) dtail { nx := fun _ m' => Q .non m', rt := Q } [some (.ref p), some (.ref lk), some (.ref g), some (.ref t), some (.tup [.ref rm, .ref ri]), some (.ref rm), some (.ref ri), some (.int r), some link[r.toNat], none, none] m2 := fun m2 o2 link2 ho2 hsub hlen h2 => by
    refine go_sset (go_ifE (go_bl (go_op (go_call (go_cons (go_var rfl (go_cons (go_c (go_nil ?_)))))))))
    refine sp_draw ho2 (by omega) (by decide) (by decide) h2 fun m3 r3 o3 _ _ ho3 h3 => ?_
    refine go_c (U.eqI ?_)
    have fin : ∀ soft m4, (soft = link[r.toNat] ∨ ∃ xs, link[r.toNat] = .tup xs ∧ soft = .lst xs) → DL.St k m4 ((p, o3) :: (lk, .lst link2) :: CS s g t rm ri dd ld) → dtail { nx := fun _ m' => Q .non m', rt := Q } (dS p lk g t rm ri (.int r) link[r.toNat] soft) m4 := fun soft m4 hsf h4 =>
      dlv_main hO (hM _ hmem) hsf h4 fun m' s' dd' ld' g1 g2 g3 => q m' o3 link2 s' dd' ld' g1 (fun d hd => g2 d (hM d (hsub d hd))) ho3 hlen g3
    by_cases hz : r3 = 0
    · refine U.bt (by rw [decide_eq_true hz]; rfl) ?_
      refine go_b (go_cons (go_var rfl (go_nil (U.list (xs := xs) (by rw [hxs]; rfl) (U.newD ?_)))))
      exact fin _ m3 (.inr ⟨xs, hxs, rfl⟩) h3
    · refine U.bf (by rw [decide_eq_false hz]; rfl) ?_
      exact go_var rfl (fin _ m3 (.inl rfl) h3)
  refine go_sset (go_ifE (go_bl (go_op (go_call (go_cons (go_var rfl (go_cons (go_c (go_nil ?_)))))))))
  refine sp_draw ho1 (by omega) (by decide) (by decide) h1 fun m2 r2 o2 _ _ ho2 h2 => ?_
  refine go_c (U.eqI ?_)
  by_cases hz : r2 = 0
  · refine U.bt (by rw [decide_eq_true hz]; rfl) ?_
    refine go_op (go_var rfl (go_var rfl (U.ixN1 (asQ_ref h2.g1) hat ?_)))
    exact main m2 o2 link ho2 (fun d hd => hd) (Nat.le_refl _) h2
  · refine U.bf (by rw [decide_eq_false hz]; rfl) ?_
    refine go_m (go_var rfl ⟨U.ofL h2.g1, go_cons (go_var rfl (go_nil ?_))⟩)
    refine U.pop (h2.f1) ⟨by omega, by omega⟩ hix (List.getElem?_eq_getElem hlt) fun m3 h3 => ?_
    exact main m3 o2 _ ho2 (fun d hd => List.mem_of_mem_eraseIdx hd) (by rw [List.length_eraseIdx]; split <;> omega) h3.f1
end
end Law
namespace Law
open PySem PySem.Spec PyProof.Rows L2 DL
theorem lcx {it : DIt} {g : DG} {te : DE} {δv : Slots} {D : Addr} {fin : List DV → Sto → Prop} {xs : List DV} (hlk : it.lk = none) (I : Nat → List DV → Sto → Prop) (hst : ∀ m, it.st m)
    (hs : ∀ i y acc m, xs[i]? = some y → I i acc m → m D = some (.lst acc) → ∀ K : DK, (∀ v m4, m4 D = some (.lst acc) ∧ acc.length < sizeLine ∧ I (i + 1) (acc ++ [v]) (DL.put m4 D (.lst (acc ++ [v]))) → K v m4) → g y δv m fun δ1 m1 => te δ1 m1 K)
    (hf : ∀ acc m, I xs.length acc m → m D = some (.lst acc) → fin acc m) : ∀ (ys : List DV) (i : Nat) (acc : List DV) (m : Sto), xs.drop i = ys → i ≤ xs.length → I i acc m → m D = some (.lst acc) → lcGo it g wYes te δv D fin ys acc m
  | [], i, acc, m, hd, hle, hI, e => by
    have : i = xs.length := by
      have := List.drop_eq_nil_iff.mp hd
      omega
    subst this
    refine ⟨hst m, e, ?_⟩
    unfold DIt.fin
    rw [hlk]; exact hf acc m hI e
  | y :: r, i, acc, m, hd, hle, hI, e => by
    obtain ⟨h1, h2⟩ := getElem_drop_cons hd
    have hlt : i < xs.length := (List.getElem?_eq_some_iff.mp h1).1
    exact ⟨hst m, hs i y acc m h1 hI e _ fun v m4 ⟨h3, h4, h5⟩ => ⟨h3, h4, lcx hlk I hst hs hf r (i + 1) (acc ++ [v]) _ h2 hlt h5 put_same⟩⟩
section
variable {m : Sto} {δ : Slots} {w wa wb wi : DE} {n : Nat} {x d : DV} {p q a : Addr} {c k : Nat} {i j : Int}
end
theorem asPy_lst0 {m : Sto} {d : DV} {xs : List DV} {ps : List PyData} (h : asL m d = some xs) (hp : pys xs = some ps) : asPy m d = some (.list ps) := by
  unfold asPy
  rw [h]
  show (pys xs).map PyData.list = _
  rw [hp]; rfl
section
variable {k m : Sto} {p lk g t rm ri dd ld : Addr} {o : MO} {c : Nat} {link : List DV} {P : Int → List Str} {B : Int} {s : Sd} {d : DV} {D : DEnds}
theorem gmsgs_ok (hO : Ok P B s) : (∀ d ∈ gmsgs s.ph s.n (dm s.ps) s.kn, MOk P s d) ∧ (gmsgs s.ph s.n (dm s.ps) s.kn).length ≤ 14 := by
  have hn := hO.n0
  unfold gmsgs
  by_cases h1 : s.ph = "frozen"
  · rw [if_pos h1]
    have hn1 : 1 ≤ s.n := by
      by_cases z : s.n = 0
      · have := (hO.p0 z).2
        rw [h1] at this; exact absurd this ne_fr
      · omega
    refine ⟨fun d hd => ?_, ?_⟩
    · obtain ⟨e, he, rfl⟩ := List.mem_map.mp hd
      obtain ⟨i, hi⟩ := List.getElem?_of_mem he
      rw [enD_get, List.getElem?_map] at hi
      cases ex : s.ps[i]? with
      | none => rw [ex] at hi; cases hi
      | some x =>
        rw [ex] at hi
        cases hi
        have := MOk.piece hO hn1 ex
        have e0 : ((0 + i : Nat) : Int) = (i : Int) := by omega
        show MOk P s (.tup [.str "piece", .int s.n, .int ((0 + i : Nat) : Int), .int ((dm s.ps).length : Nat), .str x])
        rw [e0, List.length_map]
        exact this
    · rw [List.length_map, enD_length, List.length_map]; exact hO.psl.1
  · rw [if_neg h1]
    by_cases h2 : s.ph = "given" ∧ s.kn = false
    · rw [if_pos h2]
      refine ⟨fun d hd => ?_, by show 1 ≤ 14; decide⟩
      rw [List.mem_singleton] at hd
      subst hd
      exact .inr (.inl ⟨rfl, h2.1⟩)
    · rw [if_neg h2]
      exact ⟨fun d hd => absurd hd List.not_mem_nil, by decide⟩
theorem tmsgs_ok (hO : Ok P B s) : (∀ d ∈ tmsgs s.turn s.many s.xs s.runs, MOk P s d) ∧ (tmsgs s.turn s.many s.xs s.runs).length ≤ 14 := by
  unfold tmsgs
  by_cases h1 : s.runs = true
  · rw [if_pos h1]
    refine ⟨fun d hd => ?_, by show 1 ≤ 14; decide⟩
    rw [List.mem_singleton] at hd
    subst hd
    exact MOk.going hO h1
  · rw [if_neg h1]
    by_cases h2 : wholeB s.turn s.many s.xs = true
    · rw [if_pos h2]
      refine ⟨fun d hd => ?_, by show 1 ≤ 14; decide⟩
      rw [List.mem_singleton] at hd
      subst hd
      unfold wholeB at h2
      rw [Bool.and_eq_true, decide_eq_true_eq, decide_eq_true_eq] at h2
      exact MOk.whole hO h2.1 h2.2
    · rw [if_neg h2]
      exact ⟨fun d hd => absurd hd List.not_mem_nil, by decide⟩
theorem msg_lf (hO : Ok P B s) (hB : B ≤ 1000) (h : MOk P s d) : lfB d = true ∧ dpD d ≤ 2 := by
  have hn := hO.n0
  have hnB := hO.nB
  rcases h with ⟨t', j, x, rfl, h1, h2, h3⟩ | ⟨rfl, _⟩ | ⟨t', rfl, h1, h2, _⟩ | ⟨rfl, _⟩
  · have hx := (hO.v _ h1 h2).2.2 x (List.mem_of_getElem? h3)
    have hl := (hO.v _ h1 h2).2.1
    have hj : j < (P t').length := (List.getElem?_eq_some_iff.mp h3).1
    refine ⟨lfB_tup (lfA_cons (by decide +kernel) (lfA_cons (lfB_int (by omega)) (lfA_cons (lfB_int (by omega)) (lfA_cons (lfB_int (by omega)) (lfA_cons (lfB_str ⟨hx.1, Nat.le_trans hx.2 (by decide)⟩) rfl))))), ?_⟩
    unfold pieceD
    simp [dpD, dpA]
  · exact ⟨lfB_tup (lfA_cons (by decide +kernel) (lfA_cons (lfB_int (by omega)) rfl)), by simp [dpD, dpA]⟩
  · exact ⟨lfB_tup (lfA_cons (by decide +kernel) (lfA_cons (lfB_int (by omega)) rfl)), by simp [dpD, dpA]⟩
  · exact ⟨lfB_tup (lfA_cons (by decide +kernel) (lfA_cons (lfB_int (by omega)) rfl)), by simp [dpD, dpA]⟩
theorem all_lf : ∀ (ds : List DV), (∀ d ∈ ds, lfB d = true ∧ dpD d ≤ 2) → lfA ds = true ∧ dpA ds ≤ 3
  | [], _ => ⟨rfl, by simp [dpA]⟩
  | d :: ds, h => by
    obtain ⟨h1, h2⟩ := all_lf ds fun x hx => h x (List.mem_cons_of_mem _ hx)
    obtain ⟨h3, h4⟩ := h d List.mem_cons_self
    refine ⟨lfA_cons h3 h1, ?_⟩
    simp only [dpA]
    omega
theorem link_eq {Q : DK} (hl : lfA link = true) (hd : dpA link ≤ 40) (h : m lk = some (.lst link)) (q : Q (.bl link.isEmpty) m) : dEq false (.ref lk) (.lst []) m Q := by
  obtain ⟨ps, e1, r⟩ := rp_all link hl
  have ea : asL m (.ref lk) = some link := st_asL h
  have h3 : asPy m (.ref lk) = some (.list ps) := asPy_lst0 ea e1
  have hs : SeqAt.shaped (.list ps) = true := by
    unfold SeqAt.shaped
    rw [PyData.canLay0, r.lay, Bool.true_and]
    refine decide_eq_true ?_
    rw [PyData.depth]
    have := r.dep
    omega
  have hlen : link.isEmpty = ps.isEmpty := by
    cases link with
    | nil => cases e1; rfl
    | cons a as =>
      cases ps with
      | cons _ _ => rfl
      | nil =>
        exfalso
        unfold pys at e1
        cases ea : py a with
        | none => simp [ea] at e1
        | some u =>
          cases eb : pys as with
          | none => simp [ea, eb] at e1
          | some us => simp [ea, eb] at e1
  refine U.eqP rfl rfl h3 rfl hs (by decide +kernel) ?_
  rw [Bool.false_xor]
  have e : PyData.eqv (.list ps) (.list []) = ps.isEmpty := by
    cases ps <;> simp [PyData.eqv, PyData.eqvAll]
  rw [e, ← hlen]
  exact q
end
end Law
namespace Law
open PySem PySem.Spec PyProof.Rows L2 DL
abbrev fsuite : DS := wSeq (wAsg (wJoin (wC (.str "")) (wLc false (iRngD (wCons (wCall S__law_draw [] (wCons (wVar 0) (wCons (wC (.int 7)) (wNil)))) (wNil))) (gN 10) (wYes) (wCall S__law_pick [] (wCons (wVar 0) (wCons (wLst false (wCons (wC (.str "a")) (wCons (wC (.str "bc")) (wCons (wC (.str " ")) (wCons (wC (.str "~")) (wCons (wC (.str "d")) (wNil))))))) (wNil)))) [10])) (gN 8)) (wSeq (wAsg (wOp (dAdd false) (wC (.int 1)) (wCall S__law_draw [] (wCons (wVar 0) (wCons (wC (.int 3)) (wNil))))) (gN 9)) (wSeq (wIfS (wNotT (wTru (wCall (S__law_same 6) [] (wCons (wCall S_cut [] (wCons (wVar 8) (wCons (wVar 9) (wNil)))) (wCons (wCall S__law_cut [] (wCons (wVar 8) (wCons (wVar 9) (wNil)))) (wNil)))))) (wRet (wC (.bl false))) (wNext)) (wRet (wCall S__law_begin [] (wCons (wVar 5) (wCons (wVar 2) (wCons (wC (.str "freeze")) (wCons (wCall S__law_cut [] (wCons (wVar 8) (wCons (wVar 9) (wNil)))) (wNil)))))))))
section
variable {k m : Sto} {L : List (Addr × MO)} {p lk g t rm ri dd ld : Addr} {o : MO} {c : Nat} {link : List DV} {P : Int → List Str} {B : Int} {s : Sd} {d : DV} {D : DEnds} {x1 x2 x3 x4 x5 x6 x7 x8 x9 x10 : Option DV} {Q : DK}
theorem words_go (ho : SrcO o c) (hc : c < 900000) (h : DL.St k m ((p, o) :: L)) (q : ∀ m' o' (ys : List Str), (∀ y ∈ ys, okS 2 y) → ys.length ≤ 6 → SrcO o' (c + 7) → DL.St k m' ((p, o') :: L) → Q (.lst (ys.map .str)) m') :
    wLc false (iRngD (wCons (wCall S__law_draw [] (wCons (wVar 0) (wCons (wC (.int 7)) (wNil)))) (wNil))) (gN 10) (wYes) (wCall S__law_pick [] (wCons (wVar 0) (wCons (wLst false (wCons (wC (.str "a")) (wCons (wC (.str "bc")) (wCons (wC (.str " ")) (wCons (wC (.str "~")) (wCons (wC (.str "d")) (wNil))))))) (wNil)))) [10] [some (.ref p), x1, x2, x3, x4, x5, x6, x7, x8, x9, x10] m Q := by
  refine U.lc (U.rng (go_cons (go_call (go_cons (go_var rfl (go_cons (go_c (go_nil ?_))))))))
  refine sp_draw ho (by omega) (by decide) (by decide) h fun m1 r o1 hr hr2 ho1 h1 => go_nil ⟨by omega, by omega, fun D hD => ?_⟩
  refine lcx (xs := rgD 0 r.toNat) rfl (fun (i : Nat) (acc : List DV) (m : Sto) => acc.length = i ∧ (∃ ys : List Str, acc = ys.map .str ∧ ∀ y ∈ ys, okS 2 y) ∧ ∃ o', SrcO o' (c + 1 + i) ∧ DL.St k m ((D, .lst acc) :: (p, o') :: L)) (fun _ => trivial) ?_ ?_ _ 0 [] _ rfl (Nat.zero_le _) ⟨rfl, ⟨[], rfl, fun y hy => absurd hy List.not_mem_nil⟩, o1, ho1, h1.new hD _⟩ put_same
  · rintro i y acc m hy ⟨hl, ⟨ys, rfl, hys⟩, o', ho', h'⟩ e K hK
    have hi : i < r.toNat := (rg_get hy).1
    refine U.gn (go_call (go_cons (go_var rfl (go_cons (go_lst ?_)))))
    refine go_cons (go_c (go_cons (go_c (go_cons (go_c (go_cons (go_c (go_cons (go_c (go_nil ⟨n60 rfl, U.newD (go_nil ?_)⟩))))))))))
    refine sp_pick ho' (by omega) (List.cons_ne_nil _ _) (by show 5 ≤ 1000000; decide) h'.f1 fun m2 d o2 hd ho2 h2 => ?_
    obtain ⟨x, rfl, hx⟩ : ∃ x : Str, d = .str x ∧ okS 2 x := by
      simp only [List.mem_cons, List.not_mem_nil, or_false] at hd
      rcases hd with rfl | rfl | rfl | rfl | rfl <;> exact ⟨_, rfl, by decide +kernel, by decide +kernel⟩
    refine hK _ m2 ⟨h2.g1, by rw [sizeLine_eq]; omega, by rw [List.length_append, hl]; rfl, ⟨ys ++ [x], by rw [List.map_append]; rfl, fun z hz => ?_⟩, o2, ho2, h2.f1.put 0 _ rfl⟩
    rcases List.mem_append.mp hz with z1 | z1
    · exact hys z z1
    · rw [List.mem_singleton] at z1; subst z1; exact hx
  · rintro acc m ⟨hl, ⟨ys, rfl, hys⟩, o', ho', h'⟩ e
    have hrl : (rgD 0 r.toNat).length = r.toNat := by unfold rgD; rw [List.length_map, List.length_range]
    rw [List.length_map, hrl] at hl
    rw [hrl] at ho'
    unfold lcFin
    rw [if_neg Bool.false_ne_true]
    exact q _ o' ys hys (by omega) (ho'.le (by omega)) (h'.rmv 0 rfl)
end
end Law
namespace Law
open PySem PySem.Spec PyProof.Rows L2 DL
section
variable {k m : Sto} {L : List (Addr × MO)} {p lk g t rm ri dd ld : Addr} {o : MO} {c : Nat} {link : List DV} {P : Int → List Str} {B : Int} {s : Sd} {d : DV} {D : DEnds} {x1 x2 x3 x4 x5 x6 x7 x8 x9 x10 : Option DV} {Q : DK}
theorem okN_strs {l : List Str} (hl : l.length ≤ 1000) : okN 6 (.lst (dm l)) := ⟨by rw [List.length_map]; exact hl, fun x hx => by
  obtain ⟨y, _, rfl⟩ := List.mem_map.mp hx
  rfl⟩
theorem cut_V {z : Nat} {x : Str} (h0 : 0 < z) (h3 : z ≤ 3) (hx : okS 12 x) : V (cutF z x) := by
  have h1 := cutF_len_le (s := z) (x := x) h0
  have h2 := hx.2
  exact ⟨cutF_ne h0, by omega, fun y hy => ⟨(cutF_ok hx.1 (by omega) y hy).1, Nat.le_trans (cutF_ok hx.1 (by omega) y hy).2 h3⟩⟩
theorem freeze_suite (hO : Ok P B s) (hM : ∀ d ∈ link, MOk P s d) (ho : SrcO o c) (hc : c < 850000) (h : DL.St k m ((p, o) :: (lk, .lst link) :: CS s g t rm ri dd ld))
    (q : ∀ m' o' P' s', Ok P' (B + 1) s' → (∀ d ∈ link, MOk P' s' d) → SrcO o' (c + 8) → DL.St k m' ((p, o') :: (lk, .lst link) :: CS s' g t rm ri dd ld) → D.rt (.bl true) m') :
    fsuite D [some (.ref p), some (.ref lk), some (.ref g), some (.ref t), some (.tup [.ref rm, .ref ri]), some (.ref rm), some (.ref ri), x7, x8, x9, x10] m := by
  unfold fsuite
  refine go_sset (U.join (go_c ?_))
  refine words_go ho (by omega) h fun m1 o1 ys hys hyl ho1 h1 => ?_
  have hsum := sum_short ys fun y hy => Nat.le_trans (hys y hy).2 (by decide)
  refine ⟨ys, rfl, ?_, ?_⟩
  · have e0 : ("" : Str).length = 0 := rfl
    rw [e0]; omega
  have hx : okS 12 (Txt.join "" ys) := okS_join hys (by omega)
  generalize Txt.join "" ys = x at hx
  have hx100 : x.cps.size ≤ 100 := Nat.le_trans hx.2 (by decide)
  refine go_sset (go_op (go_c (go_call (go_cons (go_var rfl (go_cons (go_c (go_nil ?_))))))))
  refine sp_draw ho1 (by omega) (by decide) (by decide) h1 fun m2 r o2 hr hr2 ho2 h2 => go_add ?_
  obtain ⟨z, hz, hz0, hz3⟩ : ∃ z : Nat, 1 + r = (z : Int) ∧ 0 < z ∧ z ≤ 3 := ⟨(1 + r).toNat, by omega, by omega, by omega⟩
  rw [hz]
  have hV := cut_V hz0 hz3 hx
  have hz64 : z ≤ 64 := by omega
  refine go_sif (go_not (go_tru (go_call (go_cons (go_call (go_cons (go_var rfl (go_cons (go_var rfl (go_nil ?_))))))))))
  refine sp_cut hz0 hz64 hx100 h2 fun m3 h3 => go_cons (go_call (go_cons (go_var rfl (go_cons (go_var rfl (go_nil ?_))))))
  refine sp_lawcut hz0 hz64 hx100 h3 fun m4 h4 => go_nil ?_
  refine same_ok (okN_strs (by have := hV.2.1; omega)) h4 fun m5 h5 => U.truB (U.bf rfl ?_)
  refine go_ret (go_call (go_cons (go_var rfl (go_cons (go_var rfl (go_cons (go_c (go_cons (go_call (go_cons (go_var rfl (go_cons (go_var rfl (go_nil ?_))))))))))))))
  refine sp_lawcut hz0 hz64 hx100 h5 fun m6 h6 => go_nil ?_
  have h7 := h6
  unfold CS at h7
  rcases hO.ph with hp | hp | hp
  · obtain ⟨P', o1, o2⟩ := hO.freeze hp hV
    rw [hp] at h7
    refine begin_freeze_ok (toG h7) fun m7 I => q m7 _ P' _ o1 (fun d hd => o2 d (hM d hd)) ho2 ?_
    unfold CS
    exact ofG I
  · refine begin_freeze_no (ph := s.ph) (.inl hp) (toG h7) fun m7 I => q m7 _ P s (hO.mono (by omega)) hM ho2 ?_
    unfold CS
    exact ofG I
  · refine begin_freeze_no (ph := s.ph) (.inr hp) (toG h7) fun m7 I => q m7 _ P s (hO.mono (by omega)) hM ho2 ?_
    unfold CS
    exact ofG I
theorem sp_step (hO : Ok P B s) (hB : B ≤ 1000) (hM : ∀ d ∈ link, MOk P s d) (ho : SrcO o c) (hc : c < 800000) (hl : link.length ≤ 9000) (h : DL.St k m ((p, o) :: (lk, .lst link) :: CS s g t rm ri dd ld))
    (q : ∀ m' o' link' P' s' dd' ld', Ok P' (B + 1) s' → (∀ d ∈ link', MOk P' s' d) → SrcO o' (c + 20) → link'.length ≤ link.length + 28 → DL.St k m' ((p, o') :: (lk, .lst link') :: CS s' g t rm ri dd' ld') → Q (.bl true) m') :
    S__law_step [.ref p, .ref lk, .ref g, .ref t, .tup [.ref rm, .ref ri]] m Q := by
  have big := line_eq
  refine ⟨rfl, ?_⟩
  show w__law_step { nx := fun _ m' => Q .non m', rt := Q } [some (.ref p), some (.ref lk), some (.ref g), some (.ref t), some (.tup [.ref rm, .ref ri]), none, none, none, none, none, none] m
  unfold w__law_step
  refine go_seq (go_asg (go_var rfl (go_gseq (xs := [.ref rm, .ref ri]) rfl rfl (U.gcons (U.gn (U.gcons (U.gn (U.gnil ?_))))))))
  dsimp only
  refine go_sset (go_call (go_cons (go_var rfl (go_cons (go_c (go_nil ?_))))))
  refine sp_draw ho (by omega) (by decide) (by decide) h fun m1 r o1 hr hr2 ho1 h1 => ?_
  have fz : ∀ D', D' = ({ nx := D'.nx, rt := Q, bk := D'.bk, ct := D'.ct } : DEnds) → fsuite D' [some (.ref p), some (.ref lk), some (.ref g), some (.ref t), some (.tup [.ref rm, .ref ri]), some (.ref rm), some (.ref ri), some (.int r), none, none, none] m1 := fun D' e => by
    rw [e]
    exact freeze_suite hO hM ho1 (by omega) h1 fun m' o' P' s' g1 g2 g3 g4 => q m' o' link P' s' dd ld g1 g2 (g3.le (by omega)) (by omega) g4
  refine go_sif (U.orT (go_bl (go_op (go_var rfl (go_c (U.eqI ?_))))))
  by_cases w0 : r = 0
  · refine U.bt (by rw [decide_eq_true w0]; rfl) (U.bt rfl ?_)
    exact fz _ rfl
  refine U.bf (by rw [decide_eq_false w0]; rfl) (go_bl (go_op (go_var rfl (go_c (U.eqI ?_)))))
  by_cases w1 : r = 1
  · refine U.bt (by rw [decide_eq_true w1]; rfl) ?_
    exact fz _ rfl
  refine U.bf (by rw [decide_eq_false w1]; rfl) ?_
  refine go_sif (go_bl (go_op (go_var rfl (go_c (U.eqI ?_)))))
  by_cases w2 : r = 2
  · refine U.bt (by rw [decide_eq_true w2]; rfl) ?_
    refine go_ret (U.or (go_op (go_call (go_cons (go_var rfl (go_cons (go_c (go_nil ?_))))))))
    refine sp_draw ho1 (by omega) (by decide) (by decide) h1 fun m2 r2 o2 _ _ ho2 h2 => go_c (U.eqI (U.truB ?_))
    by_cases z0 : r2 = 0
    · have e : (xor false (decide (r2 = 0))) = true := by rw [decide_eq_true z0]; rfl
      rw [e]
      exact U.bt rfl (q m2 o2 link P s dd ld (hO.mono (by omega)) hM (ho2.le (by omega)) (by omega) h2)
    · refine U.bf (by rw [decide_eq_false z0]; rfl) ?_
      refine go_call (go_cons (go_var rfl (go_cons (go_var rfl (go_cons (go_c (go_cons (go_lst (go_nil ⟨Nat.zero_le _, U.newD (go_nil ?_)⟩)))))))))
      have h7 := h2
      unfold CS at h7
      rcases hO.ph with hp | hp | hp
      · refine begin_resume_no (ph := s.ph) (.inl hp) (toG h7) fun m7 I => q m7 _ link P s dd ld (hO.mono (by omega)) hM (ho2.le (by omega)) (by omega) ?_
        unfold CS
        exact ofG I
      · obtain ⟨g1, g2⟩ := hO.resume hp
        rw [hp] at h7
        refine begin_resume_ok (toG h7) fun m7 I => q m7 _ link P _ dd ld (g1.mono (by omega)) (fun d hd => g2 d (hM d hd)) (ho2.le (by omega)) (by omega) ?_
        unfold CS
        exact ofG I
      · refine begin_resume_no (ph := s.ph) (.inr hp) (toG h7) fun m7 I => q m7 _ link P s dd ld (hO.mono (by omega)) hM (ho2.le (by omega)) (by omega) ?_
        unfold CS
        exact ofG I
  refine U.bf (by rw [decide_eq_false w2]; rfl) ?_
  refine go_sif (go_bl (go_op (go_var rfl (go_c (go_rel ?_)))))
  by_cases w6 : r < 6
  · refine U.bt (decide_eq_true w6) ?_
    obtain ⟨g1, g2⟩ := gmsgs_ok hO
    refine go_sdrop (go_call (go_cons (go_var rfl (go_cons (go_var rfl (go_cons ?_))))))
    have h7 := h1
    unfold CS at h7
    refine U.meth (go_var rfl ⟨U.has (toG h7).g0, go_nil ?_⟩)
    refine sp_gmsgs (by rw [List.length_map]; have := hO.psl.1; omega) hO.ph (toG h7) fun m2 I => go_nil ?_
    have h8 : DL.St k m2 ((p, o1) :: (lk, .lst link) :: CS s g t rm ri dd ld) := by unfold CS; exact ofG I
    refine sp_sent (R := MOk P s) g1 hM ho1 (by omega) (by omega) (by omega) h8 fun m3 o3 link3 g3 g4 g5 g6 => go_ret (go_c ?_)
    exact q m3 o3 link3 P s dd ld (hO.mono (by omega)) g4 (g3.le (by omega)) (by omega) g6
  refine U.bf (decide_eq_false w6) ?_
  refine go_sif (go_bl (go_op (go_var rfl (go_c (U.eqI ?_)))))
  by_cases w7 : r = 6
  · refine U.bt (by rw [decide_eq_true w7]; rfl) ?_
    obtain ⟨g1, g2⟩ := tmsgs_ok hO
    refine go_sdrop (go_call (go_cons (go_var rfl (go_cons (go_var rfl (go_cons ?_))))))
    have h7 := h1
    unfold CS at h7
    refine U.meth (go_var rfl ⟨U.has (toT h7).g0, go_nil ?_⟩)
    refine sp_tmsgs (L := [(ri, itsO s.turn s.many ld s.runs), (ld, .dct (kvD s.xs)), (p, o1), (lk, .lst link), (g, gv s.ph s.n (dm s.ps) s.kn), (rm, mineO s.ph s.n (dm s.ps) s.kn)]) (toT h7) fun m2 I => go_nil ?_
    have h8 : DL.St k m2 ((p, o1) :: (lk, .lst link) :: CS s g t rm ri dd ld) := by unfold CS; exact ofT I
    refine sp_sent (R := MOk P s) g1 hM ho1 (by omega) (by omega) (by omega) h8 fun m3 o3 link3 g3 g4 g5 g6 => go_ret (go_c ?_)
    exact q m3 o3 link3 P s dd ld (hO.mono (by omega)) g4 (g3.le (by omega)) (by omega) g6
  refine U.bf (by rw [decide_eq_false w7]; rfl) ?_
  obtain ⟨lf1, lf2⟩ := all_lf link fun d hd => msg_lf hO hB (hM d hd)
  refine go_ret (U.or (go_op (go_var rfl (go_lst (go_nil ⟨Nat.zero_le _, U.newD ?_⟩)))))
  refine link_eq lf1 (by omega) h1.g1 (U.truB ?_)
  cases link with
  | nil => exact U.bt rfl (q m1 o1 [] P s dd ld (hO.mono (by omega)) hM (ho1.le (by omega)) (by omega) h1)
  | cons a as =>
    refine U.bf rfl ?_
    refine go_call (go_cons (go_var rfl (go_cons (go_var rfl (go_cons (go_var rfl (go_cons (go_var rfl (go_cons (go_var rfl (go_nil ?_)))))))))))
    exact sp_delivered hO hM ho1 (by omega) (List.cons_ne_nil _ _) (by omega) h1 fun m' o' link' s' dd' ld' g1 g2 g3 g4 g5 => q m' o' link' P s' dd' ld' (g1.mono (by omega)) g2 (g3.le (by omega)) (by omega) g5
end
end Law
namespace Law
open PySem PySem.Spec PyProof.Rows L2 DL
section
variable {k m : Sto} {L : List (Addr × MO)} {rm : Addr} {n : Int} {ps : List DV} {kn : Bool} {Q : DK}
theorem lgs_runs (h : DL.St k m ((rm, mineO "runs" n ps kn) :: L)) (q : ∀ m', DL.St k m' ((rm, mineO "runs" n ps kn) :: L) → Q (.lst []) m') : S__law_giver_sends [.ref rm] m Q := by
  with_reducible
    delta Law.S__law_giver_sends
    refine U.ar (by with_unfolding_all rfl) ?_
    refine U.run ?_
    delta Law.w__law_giver_sends
    refine U.seq ?_
    refine U.asg ?_
    refine U.op ?_
    refine U.v (by with_unfolding_all rfl) ?_
    refine U.cs ?_
    refine U.ixK h.g0 (by with_unfolding_all rfl) (by with_unfolding_all rfl) ?_
    refine U.gn ?_
    refine U.pnx ?_
    refine U.seq ?_
    refine U.ifs ?_
    refine U.bl ?_
    refine U.op ?_
    refine U.op ?_
    refine U.v (by with_unfolding_all rfl) ?_
    refine U.cs ?_
    refine U.ixK h.g0 (by with_unfolding_all rfl) (by with_unfolding_all rfl) ?_
    refine U.cs ?_
    refine U.eqS ?_
    refine U.bf (by decide +kernel) ?_
    refine U.next ?_
    refine U.pnx ?_
    refine U.ret ?_
    refine U.ife ?_
    refine U.andT ?_
    refine U.bl ?_
    refine U.op ?_
    refine U.op ?_
    refine U.v (by with_unfolding_all rfl) ?_
    refine U.cs ?_
    refine U.ixK h.g0 (by with_unfolding_all rfl) (by with_unfolding_all rfl) ?_
    refine U.cs ?_
    refine U.eqS ?_
    refine U.bf (by decide +kernel) ?_
    refine U.bf (by decide +kernel) ?_
    refine U.lst ?_
    refine U.nil ?_
    refine And.intro (by decide +kernel) ?_
    refine U.newD ?_
    refine U.prt ?_
  exact q _ h
theorem lgs_given (h : DL.St k m ((rm, mineO "given" n ps false) :: L)) (q : ∀ m', DL.St k m' ((rm, mineO "given" n ps false) :: L) → Q (.lst [.tup [.str "go", .int n]]) m') : S__law_giver_sends [.ref rm] m Q := by
  with_reducible
    delta Law.S__law_giver_sends
    refine U.ar (by with_unfolding_all rfl) ?_
    refine U.run ?_
    delta Law.w__law_giver_sends
    refine U.seq ?_
    refine U.asg ?_
    refine U.op ?_
    refine U.v (by with_unfolding_all rfl) ?_
    refine U.cs ?_
    refine U.ixK h.g0 (by with_unfolding_all rfl) (by with_unfolding_all rfl) ?_
    refine U.gn ?_
    refine U.pnx ?_
    refine U.seq ?_
    refine U.ifs ?_
    refine U.bl ?_
    refine U.op ?_
    refine U.op ?_
    refine U.v (by with_unfolding_all rfl) ?_
    refine U.cs ?_
    refine U.ixK h.g0 (by with_unfolding_all rfl) (by with_unfolding_all rfl) ?_
    refine U.cs ?_
    refine U.eqS ?_
    refine U.bf (by decide +kernel) ?_
    refine U.next ?_
    refine U.pnx ?_
    refine U.ret ?_
    refine U.ife ?_
    refine U.andT ?_
    refine U.bl ?_
    refine U.op ?_
    refine U.op ?_
    refine U.v (by with_unfolding_all rfl) ?_
    refine U.cs ?_
    refine U.ixK h.g0 (by with_unfolding_all rfl) (by with_unfolding_all rfl) ?_
    refine U.cs ?_
    refine U.eqS ?_
    refine U.bt (by decide +kernel) ?_
    refine U.notT ?_
    refine U.tru ?_
    refine U.op ?_
    refine U.v (by with_unfolding_all rfl) ?_
    refine U.cs ?_
    refine U.ixK h.g0 (by with_unfolding_all rfl) (by with_unfolding_all rfl) ?_
    refine U.truB ?_
    refine U.bt (by decide +kernel) ?_
    refine U.lst ?_
    refine U.cons ?_
    refine U.tup ?_
    refine U.cons ?_
    refine U.cs ?_
    refine U.cons ?_
    refine U.v (by with_unfolding_all rfl) ?_
    refine U.nil ?_
    refine And.intro (of_decide_eq_true (by kernel_rfl)) ?_
    refine U.nil ?_
    refine And.intro (of_decide_eq_true (by kernel_rfl)) ?_
    refine U.newD ?_
    refine U.prt ?_
  exact q _ h
theorem lgs_known (h : DL.St k m ((rm, mineO "given" n ps true) :: L)) (q : ∀ m', DL.St k m' ((rm, mineO "given" n ps true) :: L) → Q (.lst []) m') : S__law_giver_sends [.ref rm] m Q := by
  with_reducible
    delta Law.S__law_giver_sends
    refine U.ar (by with_unfolding_all rfl) ?_
    refine U.run ?_
    delta Law.w__law_giver_sends
    refine U.seq ?_
    refine U.asg ?_
    refine U.op ?_
    refine U.v (by with_unfolding_all rfl) ?_
    refine U.cs ?_
    refine U.ixK h.g0 (by with_unfolding_all rfl) (by with_unfolding_all rfl) ?_
    refine U.gn ?_
    refine U.pnx ?_
    refine U.seq ?_
    refine U.ifs ?_
    refine U.bl ?_
    refine U.op ?_
    refine U.op ?_
    refine U.v (by with_unfolding_all rfl) ?_
    refine U.cs ?_
    refine U.ixK h.g0 (by with_unfolding_all rfl) (by with_unfolding_all rfl) ?_
    refine U.cs ?_
    refine U.eqS ?_
    refine U.bf (by decide +kernel) ?_
    refine U.next ?_
    refine U.pnx ?_
    refine U.ret ?_
    refine U.ife ?_
    refine U.andT ?_
    refine U.bl ?_
    refine U.op ?_
    refine U.op ?_
    refine U.v (by with_unfolding_all rfl) ?_
    refine U.cs ?_
    refine U.ixK h.g0 (by with_unfolding_all rfl) (by with_unfolding_all rfl) ?_
    refine U.cs ?_
    refine U.eqS ?_
    refine U.bt (by decide +kernel) ?_
    refine U.notT ?_
    refine U.tru ?_
    refine U.op ?_
    refine U.v (by with_unfolding_all rfl) ?_
    refine U.cs ?_
    refine U.ixK h.g0 (by with_unfolding_all rfl) (by with_unfolding_all rfl) ?_
    refine U.truB ?_
    refine U.bf (by decide +kernel) ?_
    refine U.lst ?_
    refine U.nil ?_
    refine And.intro (by decide +kernel) ?_
    refine U.newD ?_
    refine U.prt ?_
  exact q _ h
theorem lgs_frozen (hl : ps.length ≤ 100) (h : DL.St k m ((rm, mineO "frozen" n ps kn) :: L)) (q : ∀ m', DL.St k m' ((rm, mineO "frozen" n ps kn) :: L) → Q (.lst ((enD 0 ps).map (msgD n ps.length))) m') : S__law_giver_sends [.ref rm] m Q := by
  with_reducible
    delta Law.S__law_giver_sends
    refine U.ar (by with_unfolding_all rfl) ?_
    refine U.run ?_
    delta Law.w__law_giver_sends
    refine U.seq ?_
    refine U.asg ?_
    refine U.op ?_
    refine U.v (by with_unfolding_all rfl) ?_
    refine U.cs ?_
    refine U.ixK h.g0 (by with_unfolding_all rfl) (by with_unfolding_all rfl) ?_
    refine U.gn ?_
    refine U.pnx ?_
    refine U.seq ?_
    refine U.ifs ?_
    refine U.bl ?_
    refine U.op ?_
    refine U.op ?_
    refine U.v (by with_unfolding_all rfl) ?_
    refine U.cs ?_
    refine U.ixK h.g0 (by with_unfolding_all rfl) (by with_unfolding_all rfl) ?_
    refine U.cs ?_
    refine U.eqS ?_
    refine U.bt (by decide +kernel) ?_
    refine U.ret ?_
    refine U.lc ?_
    refine U.enum ?_
    refine U.cons ?_
    refine U.op ?_
    refine U.v (by with_unfolding_all rfl) ?_
    refine U.cs ?_
    refine U.ixK h.g0 (by with_unfolding_all rfl) (by with_unfolding_all rfl) ?_
    refine U.nil ?_
    refine U.enumL (by with_unfolding_all rfl) ?_
    refine U.mk h ?_
    intro p1
    intro m1
    intro I1
    clear h
  refine lc_all (k := k) (L := (rm, mineO "frozen" n ps kn) :: L) (msgD n ps.length) (fun m acc _ => rfl) ?_ (by assumption) ?_ q
  · intro x hx acc m K h hK
    obtain ⟨i, hi⟩ := List.getElem?_of_mem hx
    rw [enD_get] at hi
    obtain ⟨t, _, rfl⟩ := Option.map_eq_some_iff.mp hi
    with_reducible
      refine U.gseq (by with_unfolding_all rfl) (of_decide_eq_true (by kernel_rfl)) ?_
    refine U.gcons ?_
    with_reducible
      refine U.gn ?_
    refine U.gcons ?_
    with_reducible
      refine U.gn ?_
      refine U.gnil ?_
      refine U.tup ?_
      refine U.cons ?_
      refine U.cs ?_
      refine U.cons ?_
      refine U.v (by with_unfolding_all rfl) ?_
      refine U.cons ?_
      refine U.v (by with_unfolding_all rfl) ?_
      refine U.cons ?_
      refine U.bi ?_
      refine U.cons ?_
      refine U.op ?_
      refine U.v (by with_unfolding_all rfl) ?_
      refine U.cs ?_
      refine U.ixK h.g1 (by with_unfolding_all rfl) (by with_unfolding_all rfl) ?_
      refine U.nil ?_
      refine U.lenL (by with_unfolding_all rfl) ?_
      refine U.cons ?_
      refine U.v (by with_unfolding_all rfl) ?_
      refine U.nil ?_
      refine And.intro (of_decide_eq_true (by kernel_rfl)) ?_
    exact hK _ h.f1.f1
  · rw [enD_length, sizeLine_eq]; omega
theorem sp_lgs {ph : Str} (hl : ps.length ≤ 100) (hp : Phs ph) (h : DL.St k m ((rm, mineO ph n ps kn) :: L)) (q : ∀ m', DL.St k m' ((rm, mineO ph n ps kn) :: L) → Q (.lst (gmsgs ph n ps kn)) m') : S__law_giver_sends [.ref rm] m Q := by
  unfold gmsgs at q
  rcases hp with rfl | rfl | rfl
  · rw [if_neg ne_rf, if_neg fun z => ne_rg z.1] at q
    exact lgs_runs h q
  · rw [if_pos rfl] at q
    exact lgs_frozen hl h q
  · rw [if_neg ne_gf] at q
    cases kn
    · rw [if_pos ⟨rfl, rfl⟩] at q
      exact lgs_given h q
    · rw [if_neg fun z => Bool.noConfusion z.2] at q
      exact lgs_known h q
end
def runD (s : Sd) : DV := if s.runs = true then .str (textF s.xs) else .non
section
variable {k m : Sto} {c0 c1 : Addr × MO} {g rm ri t dd ld : Addr} {P : Int → List Str} {B : Int} {s : Sd} {Q : DK} {δ : Slots} {i : Nat}
abbrev W8 (k m : Sto) (c0 c1 : Addr × MO) (s : Sd) (g t rm ri dd ld : Addr) : Prop := DL.St k m (c0 :: c1 :: CS s g t rm ri dd ld)
theorem c_phase (hi : δ[i]? = some (some (.ref g))) (h : W8 k m c0 c1 s g t rm ri dd ld) (q : ∀ m', W8 k m' c0 c1 s g t rm ri dd ld → Q (.str s.ph) m') : wMeth 2 S_Giver_phase [] (wVar i) wNil δ m Q := by
  have h7 := h
  unfold W8 CS at h7
  exact U.meth (go_var hi ⟨U.has (toG h7).g0, go_nil (sp_phase (toG h7) fun m2 I => q m2 (by unfold W8 CS; exact ofG I))⟩)
theorem c_gm (hi : δ[i]? = some (some (.ref g))) (hO : Ok P B s) (h : W8 k m c0 c1 s g t rm ri dd ld) (q : ∀ m', W8 k m' c0 c1 s g t rm ri dd ld → Q (.lst (gmsgs s.ph s.n (dm s.ps) s.kn)) m') : wMeth 2 S_Giver_messages [] (wVar i) wNil δ m Q := by
  have h7 := h
  unfold W8 CS at h7
  exact U.meth (go_var hi ⟨U.has (toG h7).g0, go_nil (sp_gmsgs (by rw [List.length_map]; have := hO.psl.1; omega) hO.ph (toG h7) fun m2 I => q m2 (by unfold W8 CS; exact ofG I))⟩)
theorem c_tm (hi : δ[i]? = some (some (.ref t))) (h : W8 k m c0 c1 s g t rm ri dd ld) (q : ∀ m', W8 k m' c0 c1 s g t rm ri dd ld → Q (.lst (tmsgs s.turn s.many s.xs s.runs)) m') : wMeth 3 S_Taker_messages [] (wVar i) wNil δ m Q := by
  have h7 := h
  unfold W8 CS at h7
  exact U.meth (go_var hi ⟨U.has (toT h7).g0, go_nil (sp_tmsgs (toT h7) fun m2 I => q m2 (by unfold W8 CS; exact ofT I))⟩)
theorem Ok.short (hO : Ok P B s) : s.xs.length < 60 ∧ shortT s.xs := by
  have := hO.xsl
  exact ⟨by omega, okV_short this.2 (by decide)⟩
theorem c_run (hi : δ[i]? = some (some (.ref t))) (hO : Ok P B s) (h : W8 k m c0 c1 s g t rm ri dd ld) (q : ∀ m', W8 k m' c0 c1 s g t rm ri dd ld → Q (runD s) m') : wMeth 3 S_Taker_running [] (wVar i) wNil δ m Q := by
  have h7 := h
  unfold W8 CS at h7
  refine U.meth (go_var hi ⟨U.has (toT h7).g0, go_nil ?_⟩)
  cases hr : s.runs with
  | true =>
    have e : runD s = .str (textF s.xs) := if_pos hr
    rw [hr] at h7
    rw [e] at q
    exact sp_running hO.short.1 hO.short.2 (toT h7) fun m2 I => q m2 (by unfold W8 CS; rw [hr]; exact ofT I)
  | false =>
    have e : runD s = .non := if_neg (by rw [hr]; exact Bool.false_ne_true)
    rw [hr] at h7
    rw [e] at q
    exact sp_running_no (toT h7) fun m2 I => q m2 (by unfold W8 CS; rw [hr]; exact ofT I)
theorem c_lgs (hO : Ok P B s) (h : W8 k m c0 c1 s g t rm ri dd ld) (q : ∀ m', W8 k m' c0 c1 s g t rm ri dd ld → Q (.lst (gmsgs s.ph s.n (dm s.ps) s.kn)) m') : S__law_giver_sends [.ref rm] m Q := by
  have h7 := h
  unfold W8 CS at h7
  exact sp_lgs (by rw [List.length_map]; have := hO.psl.1; omega) hO.ph h7.f3 fun m2 I => q m2 (by unfold W8 CS; exact I.f3.f3.f3)
theorem c_its (h : W8 k m c0 c1 s g t rm ri dd ld) (q : ∀ m', W8 k m' c0 c1 s g t rm ri dd ld → Q (.lst (tmsgs s.turn s.many s.xs s.runs)) m') : S__law_taker_sends [.ref ri] m Q := by
  have h7 := h
  unfold W8 CS at h7
  exact its_sends h7.f7.f7 fun m2 I => q m2 (by unfold W8 CS; exact I.f7.f7.f7.f7.f7.f7)
theorem x_ph (h : W8 k m c0 c1 s g t rm ri dd ld) (q : Q (.str s.ph) m) : dIx (.ref rm) (.str "phase") m Q := by
  unfold W8 CS at h
  exact U.ixK h.g3 rfl rfl q
theorem x_many (h : W8 k m c0 c1 s g t rm ri dd ld) (q : Q (.int s.n) m) : dIx (.ref rm) (.str "many") m Q := by
  unfold W8 CS at h
  exact U.ixK h.g3 rfl rfl q
theorem x_pieces (h : W8 k m c0 c1 s g t rm ri dd ld) (q : Q (.lst (dm s.ps)) m) : dIx (.ref rm) (.str "pieces") m Q := by
  unfold W8 CS at h
  exact U.ixK h.g3 rfl rfl q
theorem x_runs (h : W8 k m c0 c1 s g t rm ri dd ld) (q : Q (.bl s.runs) m) : dIx (.ref ri) (.str "runs") m Q := by
  unfold W8 CS at h
  exact U.ixK h.g6 rfl rfl q
theorem c_due (hi : δ[i]? = some (some (.ref ri))) (hO : Ok P B s) (h : W8 k m c0 c1 s g t rm ri dd ld) (q : ∀ m', W8 k m' c0 c1 s g t rm ri dd ld → Q (runD s) m') :
    wIf (wTru (wOp dIx (wVar i) (wC (.str "runs")))) (wCall S__law_text [] (wCons (wVar i) (wNil))) (wC .non) δ m Q := by
  refine go_ifE (go_tru (go_op (go_var hi (go_c (x_runs h (U.truB ?_))))))
  cases hr : s.runs with
  | true =>
    have e : runD s = .str (textF s.xs) := if_pos hr
    rw [e] at q
    refine U.bt rfl (go_call (go_cons (go_var hi (go_nil ?_))))
    have h7 := h
    unfold W8 CS at h7
    exact its_text hO.short.1 hO.short.2 h7.f7.f7 fun m2 I => q m2 (by unfold W8 CS; exact I.f7.f7.f7.f7.f7.f7)
  | false =>
    have e : runD s = .non := if_neg (by rw [hr]; exact Bool.false_ne_true)
    rw [e] at q
    exact U.bf rfl (go_c (q m h))
theorem mok_N {d : DV} (h : MOk P s d) : okN 4 d := by
  have two : ∀ {w : Str} {i : Int}, okN 4 (.tup [.str w, .int i]) := fun {w i} => ⟨by show 2 ≤ 1000; decide, fun y hy => by
    simp only [List.mem_cons, List.not_mem_nil, or_false] at hy
    rcases hy with rfl | rfl <;> rfl⟩
  rcases h with ⟨t', j, x, rfl, _⟩ | ⟨rfl, _⟩ | ⟨t', rfl, _⟩ | ⟨rfl, _⟩
  · exact ⟨by show 5 ≤ 1000; decide, fun y hy => by
      simp only [List.mem_cons, List.not_mem_nil, or_false] at hy
      rcases hy with rfl | rfl | rfl | rfl | rfl <;> rfl⟩
  · exact two
  · exact two
  · exact two
theorem told_ok (hO : Ok P B s) : okN 6 (.lst [.str s.ph, .lst (gmsgs s.ph s.n (dm s.ps) s.kn), .lst (tmsgs s.turn s.many s.xs s.runs), runD s]) := by
  obtain ⟨g1, g2⟩ := gmsgs_ok hO
  obtain ⟨t1, t2⟩ := tmsgs_ok hO
  refine ⟨by show 4 ≤ 1000; decide, fun y hy => ?_⟩
  simp only [List.mem_cons, List.not_mem_nil, or_false] at hy
  rcases hy with rfl | rfl | rfl | rfl
  · rfl
  · exact ⟨by omega, fun d hd => mok_N (g1 d hd)⟩
  · exact ⟨by omega, fun d hd => mok_N (t1 d hd)⟩
  · unfold runD
    split <;> rfl
abbrev ksuite : DS := wSeq (wIfS (wBl (wOp (dEq true) (wMeth 2 S_Giver_phase [] (wVar 0) wNil) (wC (.str "given")))) (wRet (wC (.bl true))) (wNext)) (wSeq (wIfS (wBl (wOp (dInXT true) (wMeth 3 S_Taker_messages [] (wVar 1) wNil) (wTup (wCons (wLst false (wCons (wTup (wCons (wC (.str "whole")) (wCons (wOp dIx (wVar 2) (wC (.str "many"))) (wNil)))) (wNil))) (wCons (wLst false (wCons (wTup (wCons (wC (.str "going")) (wCons (wOp dIx (wVar 2) (wC (.str "many"))) (wNil)))) (wNil))) (wNil)))))) (wRet (wC (.bl false))) (wNext)) (wRet (wOp (dIn false) (wMeth 3 S_Taker_running [] (wVar 1) wNil) (wTup (wCons (wC .non) (wCons (wJoin (wC (.str "")) (wOp dIx (wVar 2) (wC (.str "pieces")))) (wNil)))))))
theorem in_two {w v : Str} {n : Int} (hw : w = "whole" ∨ w = "going") {m : Sto} (q : Q (.bl false) m) : dInXT true (.lst [.tup [.str w, .int n]]) (.tup [.lst [.tup [.str "whole", .int n]], .lst [.tup [.str "going", .int n]]]) m Q := by
  have hok : PyData.strOk w = true := by rcases hw with rfl | rfl <;> decide +kernel
  have h1 : PyData.strOk ("whole" : Str) = true := by decide +kernel
  have h2 : PyData.strOk ("going" : Str) = true := by decide +kernel
  refine ⟨.list [.tuple [.str w, .int n]], [.list [.tuple [.str "whole", .int n]], .list [.tuple [.str "going", .int n]]], rfl, rfl, ?_, ?_, ?_⟩
  · simp [PySem.SeqAt.shaped, PySem.PyData.canLay0, PySem.PyData.canLayAll0, PySem.PyData.depth, PySem.PyData.depthAll, hok]
  · simp [PySem.SeqAt.shaped, PySem.PyData.canLay0, PySem.PyData.canLayAll0, PySem.PyData.depth, PySem.PyData.depthAll, h1, h2]
  · have e : ([PyData.list [.tuple [.str "whole", .int n]], .list [.tuple [.str "going", .int n]]].any fun z => PyData.eqv z (.list [.tuple [.str w, .int n]])) = true := by
      rcases hw with rfl | rfl <;> simp [PyData.eqv, PyData.eqvAll]
    rw [e]
    exact q
theorem kept_suite {p4 p5 : Option DV} {D : DEnds} (hO : Ok P B s) (h : W8 k m c0 c1 s g t rm ri dd ld) (q : ∀ m', W8 k m' c0 c1 s g t rm ri dd ld → D.rt (.bl true) m') : ksuite D [some (.ref g), some (.ref t), some (.ref rm), some (.ref ri), p4, p5] m := by
  unfold ksuite
  refine go_sif (go_bl (go_op (c_phase rfl h fun m1 h1 => go_c (U.eqS ?_))))
  by_cases hg : s.ph = "given"
  · refine U.bf (by rw [decide_eq_true hg]; rfl) ?_
    obtain ⟨g1, g2, g3⟩ := hO.g hg
    have htm : ∃ w : Str, (w = "whole" ∨ w = "going") ∧ tmsgs s.turn s.many s.xs s.runs = [.tup [.str w, .int s.n]] := by
      unfold tmsgs
      by_cases hr : s.runs = true
      · exact ⟨_, .inr rfl, by rw [if_pos hr, g1]⟩
      · have hw : wholeB s.turn s.many s.xs = true := by
          unfold wholeB
          rw [decide_eq_true (by omega), decide_eq_true g3]; rfl
        exact ⟨_, .inl rfl, by rw [if_neg hr, if_pos hw, g1]⟩
    obtain ⟨w, hw, etm⟩ := htm
    refine go_sif (go_bl (go_op (c_tm rfl h1 fun m2 h2 => ?_)))
    rw [etm]
    refine go_tup (go_cons (go_lst (go_cons (go_tup (go_cons (go_c (go_cons (go_op (go_var rfl (go_c (x_many h2 (go_nil ⟨n60 rfl, go_nil ⟨n60 rfl, U.newD ?_⟩⟩))))))))))))
    refine go_cons (go_lst (go_cons (go_tup (go_cons (go_c (go_cons (go_op (go_var rfl (go_c (x_many h2 (go_nil ⟨n60 rfl, go_nil ⟨n60 rfl, U.newD (go_nil ⟨n60 rfl, ?_⟩)⟩⟩)))))))))))
    refine in_two (v := w) hw (U.bf rfl ?_)
    refine go_ret (go_op (c_run rfl hO h2 fun m3 h3 => go_tup (go_cons (go_c (go_cons (U.join (go_c ?_)))))))
    refine go_op (go_var rfl (go_c (x_pieces h3 ⟨s.ps, rfl, ?_, go_nil ⟨n60 rfl, ?_⟩⟩)))
    · have hl := hO.psl
      have := sum_short s.ps fun y hy => Nat.le_trans (hl.2 y hy).2 (by decide)
      have e0 : ("" : Str).length = 0 := rfl
      rw [e0]; omega
    have hrd : runD s = .non ∨ runD s = .str (Txt.join "" s.ps) := by
      unfold runD
      split
      · exact .inr (by rw [hO.whole hg])
      · exact .inl rfl
    rcases hrd with e | e
    · rw [e]
      refine U.inL rfl rfl rfl ?_
      exact q m3 h3
    · rw [e]
      refine U.inL rfl rfl rfl ?_
      have e2 : ([DV.non, .str (Txt.join "" s.ps)].any fun z => eqF z (.str (Txt.join "" s.ps))) = true := by simp [eqF]
      rw [e2]
      exact q m3 h3
  · refine U.bt (by rw [decide_eq_false hg]; rfl) ?_
    exact go_ret (go_c (q m1 h1))
theorem sp_kept (hO : Ok P B s) (h : W8 k m c0 c1 s g t rm ri dd ld) (q : ∀ m', W8 k m' c0 c1 s g t rm ri dd ld → Q (.bl true) m') : S__law_kept [.ref g, .ref t, .ref rm, .ref ri] m Q := by
  refine ⟨rfl, ?_⟩
  show w__law_kept { nx := fun _ m' => Q .non m', rt := Q } [some (.ref g), some (.ref t), some (.ref rm), some (.ref ri), none, none] m
  unfold w__law_kept
  refine go_sset (go_lst (go_cons (c_phase rfl h fun m1 h1 => go_cons (c_gm rfl hO h1 fun m2 h2 => go_cons (c_tm rfl h2 fun m3 h3 => go_cons (c_run rfl hO h3 fun m4 h4 => go_nil ⟨n60 rfl, U.newD ?_⟩))))))
  refine go_sset (go_lst (go_cons (go_op (go_var rfl (go_c (x_ph h4 ?_))))))
  refine go_cons (go_call (go_cons (go_var rfl (go_nil ?_))))
  refine c_lgs hO h4 fun m5 h5 => ?_
  refine go_cons (go_call (go_cons (go_var rfl (go_nil ?_))))
  refine c_its h5 fun m6 h6 => ?_
  refine go_cons (c_due rfl hO h6 fun m7 h7 => go_nil ⟨n60 rfl, U.newD ?_⟩)
  refine go_sif (go_not (go_tru (go_call (go_cons (go_var rfl (go_cons (go_var rfl (go_nil ?_))))))))
  refine same_ok (told_ok hO) h7 fun m8 h8 => U.truB (U.bf rfl ?_)
  refine go_sif (U.andT (go_bl (go_op (c_run rfl hO h8 fun m9 h9 => go_c ?_))))
  cases hr : s.runs with
  | true =>
    have e : runD s = .str (textF s.xs) := if_pos hr
    rw [e]
    refine U.isS (U.bt rfl (go_bl (go_op (c_phase rfl h9 fun m10 h10 => go_c (U.eqS ?_)))))
    refine U.bf (by rw [decide_eq_true (hO.r hr)]; rfl) ?_
    exact kept_suite hO h10 q
  | false =>
    have e : runD s = .non := if_neg (by rw [hr]; exact Bool.false_ne_true)
    rw [e]
    refine U.isN (U.bf rfl (U.bf rfl ?_))
    exact kept_suite hO h9 q
end
end Law
namespace Law
open PySem PySem.Spec PyProof.Rows L2 DL
theorem eq_same {neg : Bool} {m : Sto} {d e : DV} {xs : List DV} {Q : DK} (h1 : asL m d = some xs) (h2 : asL m e = some xs) (hl : lfA xs = true) (hd : dpA xs ≤ 40) (q : Q (.bl (!neg)) m) : dEq neg d e m Q := by
  obtain ⟨ps, e1, r⟩ := rp_all xs hl
  have h3 := asPy_lst0 h1 e1
  have h4 := asPy_lst0 h2 e1
  have hs : SeqAt.shaped (.list ps) = true := by
    unfold SeqAt.shaped
    rw [PyData.canLay0, r.lay, Bool.true_and]
    refine decide_eq_true ?_
    rw [PyData.depth]
    have := r.dep
    omega
  have c1 : scEq d e = none := by
    cases d <;> first | (cases e <;> first | rfl | (simp [asL] at h2; done)) | (simp [asL] at h1; done)
  have c2 : emptyD m d e = none := by
    cases d <;> first | rfl | skip
    cases e <;> first | rfl | skip
    rename_i a b
    unfold asL at h1
    dsimp only at h1
    unfold emptyD
    dsimp only
    cases ha : m a with
    | none => rfl
    | some o =>
      rw [ha] at h1
      cases o <;> first | rfl | (cases h1)
  unfold dEq
  rw [c1]
  dsimp only
  rw [c2]
  refine ⟨_, _, h3, h4, hs, hs, ?_⟩
  rw [SeqAt.eqv_refl _ (by rw [PyData.canLay0]; exact r.lay)]
  cases neg <;> exact q
section
variable {k m : Sto} {L : List (Addr × MO)} {x : Str} {z : Int} {Q : DK}
end
theorem lookup_app {xs ys : KVs} {i : Int} : (xs ++ ys).lookup i = (xs.lookup i).or (ys.lookup i) := by
  induction xs with
  | nil => rfl
  | cons a r ih =>
    obtain ⟨j, x⟩ := a
    rw [List.cons_append, List.lookup_cons, List.lookup_cons, ih]
    split <;> rfl
theorem keep_step {turn many n mn : Int} {xs : KVs} {j : Nat} {x : Str} (h : turn ≤ n) : (keepF turn many xs n j mn x).1 = n ∧ (keepF turn many xs n j mn x).2.2.lookup (j : Int) ≠ none ∧ (turn = n → ∀ i : Int, xs.lookup i ≠ none → (keepF turn many xs n j mn x).2.2.lookup i ≠ none) := by
  unfold keepF
  by_cases c1 : turn < n
  · simp only [if_pos c1, List.lookup_nil, and_self, if_true]
    exact ⟨trivial, by simp [List.lookup], fun z => absurd z (by omega)⟩
  · have e : turn = n := by omega
    subst e
    simp only [if_neg c1, true_and]
    by_cases c2 : xs.lookup (j : Int) = none
    · simp only [if_pos c2]
      refine ⟨trivial, ?_, fun _ i hi => ?_⟩
      · rw [lookup_app, c2]; simp [List.lookup]
      · rw [lookup_app]
        cases e : xs.lookup i with
        | none => exact absurd e hi
        | some y => simp
    · simp only [if_neg c2]
      exact ⟨trivial, c2, fun _ i hi => hi⟩
section
variable {k m : Sto} {L : List (Addr × MO)} {g t dd : Addr} {P : Int → List Str} {B : Int} {s : Sd} {Q : DK} {δ : Slots} {i : Nat}
/-- both sides alone -/
def C3 (s : Sd) (g t dd : Addr) (L : List (Addr × MO)) : List (Addr × MO) := (g, gv s.ph s.n (dm s.ps) s.kn) :: (t, tk s.turn s.many dd s.runs) :: (dd, .dct (kvD s.xs)) :: L
theorem r_go {n : Int} (hO : Ok P B s) (hg : s.ph = "given") (e : n = s.n) (h : DL.St k m (C3 s g t dd L)) (q : ∀ m', DL.St k m' (C3 { s with runs := true } g t dd L) → Q .non m') : S_Taker_receive [.ref t, .tup [.str "go", .int n]] m Q := by
  subst e
  have h7 := h
  unfold C3 at h7
  cases hr : s.runs with
  | true =>
    rw [hr] at h7
    refine trecv_run (r := []) (.inl rfl) (by decide) h7.f2.f2 fun m' I => q m' ?_
    unfold C3
    exact I.f2
  | false =>
    rw [hr] at h7
    obtain ⟨g1, g2, g3⟩ := hO.g hg
    have e : (decide (s.n = s.turn) && wholeB s.turn s.many s.xs) = true := by
      unfold wholeB
      rw [decide_eq_true g1.symm, decide_eq_true (by omega), decide_eq_true g3]; rfl
    refine trecv_go (.inl rfl) h7.f2.f2 fun m' I => q m' ?_
    rw [e] at I
    unfold C3
    exact I.f2
theorem r_piece {j : Nat} {x : Str} (hl : s.xs.length < 60) (hr : s.runs = false) (h : DL.St k m (C3 s g t dd L)) (q : ∀ m' dd', DL.St k m' (C3 { s with turn := (keepF s.turn s.many s.xs s.n j s.ps.length x).1, many := (keepF s.turn s.many s.xs s.n j s.ps.length x).2.1, xs := (keepF s.turn s.many s.xs s.n j s.ps.length x).2.2 } g t dd' L) → Q .non m') :
    S_Taker_receive [.ref t, pieceD s.n j s.ps.length x] m Q := by
  have h7 := h
  unfold C3 at h7
  rw [hr] at h7
  refine trecv_piece (.inl rfl) hl h7.f2.f2 fun m' dd' I => q m' dd' ?_
  unfold C3
  dsimp only
  rw [hr]
  exact I.f2
theorem c3_gm (hi : δ[i]? = some (some (.ref g))) (hO : Ok P B s) (h : DL.St k m (C3 s g t dd L)) (q : ∀ m', DL.St k m' (C3 s g t dd L) → Q (.lst (gmsgs s.ph s.n (dm s.ps) s.kn)) m') : wMeth 2 S_Giver_messages [] (wVar i) wNil δ m Q := by
  have h7 := h
  unfold C3 at h7
  exact U.meth (go_var hi ⟨U.has h7.g0, go_nil (sp_gmsgs (by rw [List.length_map]; have := hO.psl.1; omega) hO.ph h7 fun m2 I => q m2 (by unfold C3; exact I))⟩)
theorem c3_tm (hi : δ[i]? = some (some (.ref t))) (h : DL.St k m (C3 s g t dd L)) (q : ∀ m', DL.St k m' (C3 s g t dd L) → Q (.lst (tmsgs s.turn s.many s.xs s.runs)) m') : wMeth 3 S_Taker_messages [] (wVar i) wNil δ m Q := by
  have h7 := h
  unfold C3 at h7
  exact U.meth (go_var hi ⟨U.has h7.g1, go_nil (sp_tmsgs (L := (g, gv s.ph s.n (dm s.ps) s.kn) :: L) h7.f2.f2 fun m2 I => q m2 (by unfold C3; exact I.f2))⟩)
/-- all that the giver sends comes through -/
theorem give_all {y1 y3 y4 y5 y6 y7 : Option DV} {D : DEnds} (hO : Ok P B s) (hn : s.ph ≠ "runs") (h : DL.St k m (C3 s g t dd L))
    (q : ∀ m' s' dd' y7, Ok P B s' → s'.ph = s.ph → s'.n = s.n → s'.ps = s.ps → s'.kn = s.kn → (s.ph = "frozen" → s'.turn = s.n ∧ (s'.xs.length : Int) = s'.many ∧ s'.runs = false) → (s.ph = "given" → s'.runs = true) → DL.St k m' (C3 s' g t dd' L) → D.nx [y1, some (.ref g), some (.ref t), y3, y4, y5, y6, y7] m') :
    wFor (iAny (wMeth 2 S_Giver_messages [] (wVar 1) wNil)) (gN 7) (wDrop (wMeth 3 S_Taker_receive [] (wVar 2) (wCons (wVar 7) (wNil)))) D [y1, some (.ref g), some (.ref t), y3, y4, y5, y6, y7] m := by
  have hn0 := hO.n0
  refine U.for_ (U.any (c3_gm rfl hO h fun m1 h1 => U.itL rfl ?_))
  rcases hO.ph with hp | hp | hp
  · exact absurd hp hn
  · have hn1 : 1 ≤ s.n := by
      by_cases z : s.n = 0
      · exact absurd (hO.p0 z).2 hn
      · omega
    have hr0 := hO.run0 (by rw [hp]; exact ne_fg)
    have em : gmsgs s.ph s.n (dm s.ps) s.kn = (enD 0 (dm s.ps)).map (msgD s.n (dm s.ps).length) := if_pos hp
    rw [em]
    have hml : ((enD 0 (dm s.ps)).map (msgD s.n (dm s.ps).length)).length = s.ps.length := by rw [List.length_map, enD_length, List.length_map]
    refine fx_forI (it := ⟨(enD 0 (dm s.ps)).map (msgD s.n (dm s.ps).length), _, none⟩) (fun j δ m => ∃ s' dd' y, δ = [y1, some (.ref g), some (.ref t), y3, y4, y5, y6, y] ∧ Ok P B s' ∧ s'.ph = s.ph ∧ s'.n = s.n ∧ s'.ps = s.ps ∧ s'.kn = s.kn ∧ s'.runs = false ∧ (1 ≤ j → s'.turn = s.n) ∧ (∀ i, i < j → s'.xs.lookup (i : Int) ≠ none) ∧ DL.St k m (C3 s' g t dd' L)) rfl (fun _ _ _ _ => rfl) ⟨s, dd, y7, rfl, hO, rfl, rfl, rfl, rfl, hr0, fun z => absurd z (by omega), fun i hi => absurd hi (by omega), h1⟩ ?_ ?_
    · rintro j y δ m2 D' hy ⟨s', dd', y0, rfl, o1, o2, o3, o4, o5, o6, o7, o8, h2⟩ hrt hnx hct hbk
      dsimp only at hy
      rw [List.getElem?_map, enD_get, List.getElem?_map] at hy
      cases ex : s.ps[j]? with
      | none => rw [ex] at hy; cases hy
      | some x =>
        rw [ex] at hy
        cases hy
        have e0 : ((0 + j : Nat) : Int) = (j : Int) := by omega
        have ey : msgD s.n (dm s.ps).length (.tup [.int ((0 + j : Nat) : Int), .str x]) = pieceD s'.n j s'.ps.length x := by
          show DV.tup [.str "piece", .int s.n, .int ((0 + j : Nat) : Int), .int ((dm s.ps).length : Nat), .str x] = _
          rw [e0, List.length_map, o3, o4]; rfl
        have h7 := h2
        unfold C3 at h7
        have hps : s.ps = P s.n := hO.p1 hn1
        have hx3 : (P s'.n)[j]? = some x := by rw [o3, ← hps]; exact ex
        have eP : (P s'.n).length = s'.ps.length := by rw [o3, o4, hps]
        have htn : s'.turn ≤ s'.n := by
          rcases o1.tk with ⟨z, _⟩ | ⟨_, z, _⟩
          · rw [z, o3]; omega
          · exact z
        obtain ⟨g1, g2⟩ := o1.piece o6 (by rw [o3]; exact hn1) (Int.le_refl _) hx3
        rw [eP] at g1
        obtain ⟨k1, k2, k3⟩ := keep_step (turn := s'.turn) (many := s'.many) (n := s'.n) (mn := (s'.ps.length : Int)) (xs := s'.xs) (j := j) (x := x) htn
        refine U.gn (go_drop (U.meth (go_var rfl ⟨U.has h7.g1, go_cons (go_var rfl (go_nil ?_))⟩)))
        rw [ey]
        refine r_piece (o1.short.1) o6 h2 fun m3 dd3 h3 => ?_
        refine hnx _ _ ⟨_, dd3, _, rfl, g1, o2, o3, o4, o5, o6, fun _ => by rw [← o3]; exact k1, fun i hi => ?_, h3⟩
        by_cases z : i = j
        · rw [z]; exact k2
        · exact k3 (by rw [o3]; exact o7 (by omega)) i (o8 i (by omega))
    · rintro δ m2 ⟨s', dd', y0, rfl, o1, o2, o3, o4, o5, o6, o7, o8, h2⟩
      dsimp only at o7 o8
      rw [hml] at o7 o8
      have hpos : 1 ≤ s.ps.length := List.length_pos_iff.mpr (hO.psV hn1).1
      have et := o7 hpos
      refine q m2 s' dd' y0 o1 o2 o3 o4 o5 (fun _ => ⟨et, ?_, o6⟩) (fun z => absurd (z.symm.trans hp) ne_gf) h2
      rcases o1.tk with ⟨z, _⟩ | ⟨g1, g2, g3, g4⟩
      · omega
      · have eP : P s'.turn = s.ps := by rw [et, hO.p1 hn1]
        rw [eP] at g3 g4
        rw [g3, g4.all o8]
  · cases hk : s.kn with
    | true =>
      have em : gmsgs s.ph s.n (dm s.ps) true = [] := by
        unfold gmsgs
        rw [if_neg fun z => ne_gf (hp.symm.trans z), if_neg fun z => Bool.noConfusion z.2]
      rw [em]
      refine U.fnil rfl (U.fin ?_)
      exact q m1 s dd y7 hO rfl rfl rfl rfl (fun z => absurd (hp.symm.trans z) ne_gf) (fun _ => hO.k hk) h1
    | false =>
      have em : gmsgs s.ph s.n (dm s.ps) false = [.tup [.str "go", .int s.n]] := by
        unfold gmsgs
        rw [if_neg fun z => ne_gf (hp.symm.trans z), if_pos ⟨hp, rfl⟩]
      rw [em]
      have h7 := h1
      unfold C3 at h7
      refine U.fcons rfl (U.gn (go_drop (U.meth (go_var rfl ⟨U.has h7.g1, go_cons (go_var rfl (go_nil ?_))⟩))))
      refine r_go hO hp rfl h1 fun m2 h2 => ?_
      refine U.fnil (g := gN 7) (tb := wNext) rfl (U.fin ?_)
      obtain ⟨o1, o2⟩ := hO.go (t := s.n) (.inr (.inl ⟨rfl, hp⟩))
      exact q m2 _ dd _ o1 rfl rfl rfl rfl (fun z => absurd (hp.symm.trans z) ne_gf) (fun _ => rfl) h2
end
end Law
namespace Law
open PySem PySem.Spec PyProof.Rows L2 DL
section
variable {k m : Sto} {L : List (Addr × MO)} {g t dd p rm : Addr} {P : Int → List Str} {B : Int} {s : Sd} {Q : DK} {δ : Slots} {i : Nat}
/-- all that the taker sends comes through -/
theorem take_all {y1 y3 y4 y5 y6 y7 : Option DV} {D : DEnds} (hO : Ok P B s) (hn : s.ph ≠ "runs") (hf : s.ph = "frozen" → s.turn = s.n ∧ (s.xs.length : Int) = s.many ∧ s.runs = false) (hg : s.ph = "given" → s.runs = true) (h : DL.St k m (C3 s g t dd L))
    (q : ∀ m' s' y7, Ok P B s' → s'.ph = "given" → s'.n = s.n → s'.ps = s.ps → (s.ph = "given" → s'.kn = true) → DL.St k m' (C3 s' g t dd L) → D.nx [y1, some (.ref g), some (.ref t), y3, y4, y5, y6, y7] m') :
    wFor (iAny (wMeth 3 S_Taker_messages [] (wVar 2) wNil)) (gN 7) (wDrop (wMeth 2 S_Giver_receive [] (wVar 1) (wCons (wVar 7) (wNil)))) D [y1, some (.ref g), some (.ref t), y3, y4, y5, y6, y7] m := by
  have hn0 := hO.n0
  refine U.for_ (U.any (c3_tm rfl h fun m1 h1 => U.itL rfl ?_))
  have h7 := h1
  unfold C3 at h7
  rcases hO.ph with hp | hp | hp
  · exact absurd hp hn
  · have hn1 : 1 ≤ s.n := by
      by_cases z : s.n = 0
      · exact absurd (hO.p0 z).2 hn
      · omega
    obtain ⟨f1, f2, f3⟩ := hf hp
    have hw : wholeB s.turn s.many s.xs = true := by
      unfold wholeB
      rw [decide_eq_true (by omega), decide_eq_true f2]; rfl
    have em : tmsgs s.turn s.many s.xs s.runs = [.tup [.str "whole", .int s.n]] := by
      unfold tmsgs
      rw [f3, if_neg Bool.false_ne_true, if_pos hw, f1]
    rw [em]
    obtain ⟨o1, o2⟩ := hO.given hp (by have := MOk.whole hO (by omega) f2; rw [f1] at this; exact this)
    rw [hp] at h7
    refine U.fcons rfl (U.gn (go_drop (U.meth (go_var rfl ⟨U.has h7.g0, go_cons (go_var rfl (go_nil ?_))⟩))))
    refine grecv_whole (.inl rfl) h7 fun m2 I => ?_
    refine U.fnil (g := gN 7) (tb := wNext) rfl (U.fin ?_)
    refine q m2 _ _ o1 rfl rfl rfl (fun z => absurd (z.symm.trans hp) ne_gf) ?_
    unfold C3
    exact I
  · have hr := hg hp
    obtain ⟨g1, g2, g3⟩ := hO.g hp
    have em : tmsgs s.turn s.many s.xs s.runs = [.tup [.str "going", .int s.n]] := by
      unfold tmsgs
      rw [if_pos hr, g1]
    rw [em]
    obtain ⟨o1, o2⟩ := hO.known (by have := MOk.going hO hr; rw [g1] at this; exact this)
    rw [hp] at h7
    refine U.fcons rfl (U.gn (go_drop (U.meth (go_var rfl ⟨U.has h7.g0, go_cons (go_var rfl (go_nil ?_))⟩))))
    refine grecv_going (.inl rfl) h7 fun m2 I => ?_
    refine U.fnil (g := gN 7) (tb := wNext) rfl (U.fin ?_)
    refine q m2 _ _ o1 hp rfl rfl (fun _ => rfl) ?_
    unfold C3
    dsimp only
    rw [hp]
    exact I
theorem c3_phase (hi : δ[i]? = some (some (.ref g))) (h : DL.St k m (C3 s g t dd L)) (q : ∀ m', DL.St k m' (C3 s g t dd L) → Q (.str s.ph) m') : wMeth 2 S_Giver_phase [] (wVar i) wNil δ m Q := by
  have h7 := h
  unfold C3 at h7
  exact U.meth (go_var hi ⟨U.has h7.g0, go_nil (sp_phase h7 fun m2 I => q m2 (by unfold C3; exact I))⟩)
theorem c3_run (hi : δ[i]? = some (some (.ref t))) (hO : Ok P B s) (hr : s.runs = true) (h : DL.St k m (C3 s g t dd L)) (q : ∀ m', DL.St k m' (C3 s g t dd L) → Q (.str (textF s.xs)) m') : wMeth 3 S_Taker_running [] (wVar i) wNil δ m Q := by
  have h7 := h
  unfold C3 at h7
  rw [hr] at h7
  exact U.meth (go_var hi ⟨U.has h7.g1, go_nil (sp_running hO.short.1 hO.short.2 (L := (g, gv s.ph s.n (dm s.ps) s.kn) :: L) h7.f2.f2 fun m2 I => q m2 (by unfold C3; rw [hr]; exact I.f2))⟩)
theorem disp_mine {δ : Slots} (h : DL.St k m L) (q : ∀ p m', DL.St k m' ((p, mineO "runs" 0 [] false) :: L) → Q (.ref p) m') : wDisp [("phase", wC (.str "runs")), ("many", wC (.int 0)), ("pieces", wLst false (wNil)), ("known", wC (.bl false))] δ m Q := fun p hp => by
  have h1 := h.new hp (.dct [])
  have h2 := h1.put 0 (.dct (mergeD [] (DL.kvD [("phase", .str "runs"), ("many", .int 0), ("pieces", .lst []), ("known", .bl false)]))) rfl
  refine go_c (go_c (go_lst (go_nil ⟨Nat.zero_le _, U.newD (go_c ⟨h1.g0, q p _ h2⟩)⟩)))
theorem disp_its {δ : Slots} (h : DL.St k m L) (q : ∀ p ld m', DL.St k m' ((p, itsO 0 0 ld false) :: (ld, .dct (kvD [])) :: L) → Q (.ref p) m') : wDisp [("turn", wC (.int 0)), ("many", wC (.int 0)), ("kept", wDict0), ("runs", wC (.bl false))] δ m Q := fun p hp => by
  have h1 := h.new hp (.dct [])
  refine go_c (go_c (kv_new h1 fun ld m2 h2 => go_c ⟨h2.g1, ?_⟩))
  have h3 := h2.f1.put 0 (.dct (mergeD [] (DL.kvD [("turn", .int 0), ("many", .int 0), ("kept", .ref ld), ("runs", .bl false)]))) rfl
  exact q p ld _ h3
theorem ok0 : Ok (fun _ => []) 0 ⟨"runs", 0, [], false, 0, 0, [], false⟩ := ⟨.inl rfl, Int.le_refl _, Int.le_refl _, fun t h1 h2 => absurd h1 (by have h2 : t ≤ 0 := h2; omega), fun _ => ⟨rfl, rfl⟩, fun z => absurd z (by decide), .inl ⟨rfl, rfl, rfl, rfl⟩, fun z => Bool.noConfusion z, fun z => absurd z ne_rg, fun z => Bool.noConfusion z⟩
theorem start8 {c0 c1 c2 c3 c4 c5 c6 c7 : Addr × MO} (h : DL.St k m [c0, c1, c2, c3, c4, c5, c6, c7]) : DL.St k m [c7, c3, c6, c2, c4, c5, c0, c1] := h.f5.f5.f4.f6.f6.f7
theorem toC3 {c0 c1 c2 c3 c4 c5 c6 c7 : Addr × MO} (h : DL.St k m [c0, c1, c2, c3, c4, c5, c6, c7]) : DL.St k m [c2, c4, c5, c0, c1, c3, c6, c7] := h.f5.f5.f4
theorem sp_right {o : MO} {c : Nat} (hp : m p = some o) (ho : SrcO o c) (hc : c < 500000) (q : ∀ m' o', SrcO o' (c + 1400) → m' p = some o' → SubX p m m' → Q (.bl true) m') : S__law_right [.ref p] m Q := by
  have I0 : DL.St (DL.rmv m p) m [(p, o)] := (DL.St.refl m).cut hp
  have fin : ∀ m' o' L, SrcO o' (c + 1400) → DL.St (DL.rmv m p) m' L → (p, o') ∈ L → Q (.bl true) m' := fun m' o' L g1 g2 g3 => q m' o' g1 (g2.cl.mem g3) fun a u ha hu => g2.kp a u (by rw [rmv_ne ha]; exact hu)
  generalize DL.rmv m p = k at I0 fin
  refine ⟨rfl, ?_⟩
  show w__law_right { nx := fun _ m' => Q .non m', rt := Q } [some (.ref p), none, none, none, none, none, none, none] m
  unfold w__law_right
  refine go_seq (U.par3 (go_cons (U.make (go_nil fun g hg => sp_ginit (I0.new hg _) fun m1 h1 => ⟨rfl, ?_⟩))))
  refine go_cons (U.make (go_nil fun t ht => sp_tinit (h1.new ht _) fun m2 dd h2 => ⟨rfl, ?_⟩))
  refine go_cons (go_lst (go_nil ⟨Nat.zero_le _, go_new fun lk hlk => go_nil ?_⟩))
  have h3 := h2.new hlk (.lst [])
  dsimp only
  refine go_sset (disp_mine h3 fun rm m3 h4 => ?_)
  refine go_sset (disp_its h4 fun ri ld m4 h5 => ?_)
  have h6 : W8 k m4 (p, o) (lk, .lst []) ⟨"runs", 0, [], false, 0, 0, [], false⟩ g t rm ri dd ld := start8 h5
  refine go_seq (U.for_ (U.rng (go_cons (go_c (go_nil ⟨by decide, by decide, ?_⟩)))))
  refine fx_forI (it := ⟨rgD 0 70, _, none⟩) (fun i δ m => ∃ o link P s dd ld x6 x7, δ = [some (.ref p), some (.ref g), some (.ref t), some (.ref lk), some (.ref rm), some (.ref ri), x6, x7] ∧ Ok P i s ∧ (∀ d ∈ link, MOk P s d) ∧ SrcO o (c + 20 * i) ∧ link.length ≤ 28 * i ∧ W8 k m (p, o) (lk, .lst link) s g t rm ri dd ld) rfl (fun _ _ _ _ => trivial) ⟨o, [], _, _, dd, ld, none, none, rfl, ok0, fun d hd => absurd hd List.not_mem_nil, ho, Nat.le_refl _, h6⟩ ?_ ?_
  · rintro i y δ m5 D' hy ⟨o1, link, P, s, dd1, ld1, x6, x7, rfl, g1, g2, g3, g4, g5⟩ hrt hnx hct hbk
    have hi : i < 70 := (rg_get hy).1
    refine U.gn (go_if (U.orT (go_not (go_tru (go_call (go_cons (go_var rfl (go_cons (go_var rfl (go_cons (go_var rfl (go_cons (go_var rfl (go_cons (go_tup (go_cons (go_var rfl (go_cons (go_var rfl (go_nil ⟨n60 rfl, go_nil ?_⟩))))))))))))))))))))
    refine sp_step g1 (by omega) g2 g3 (by omega) (by omega) g5 fun m6 o2 link2 P2 s2 dd2 ld2 e1 e2 e3 e4 e5 => U.truB (U.bf rfl ?_)
    refine go_not (go_tru (go_call (go_cons (go_var rfl (go_cons (go_var rfl (go_cons (go_var rfl (go_cons (go_var rfl (go_nil ?_)))))))))))
    refine sp_kept e1 e5 fun m7 h7 => U.truB (U.bf rfl (go_next ?_))
    refine hnx _ _ ⟨o2, link2, P2, s2, dd2, ld2, _, _, rfl, ?_, e2, ?_, ?_, h7⟩
    · have : ((i + 1 : Nat) : Int) = (i : Int) + 1 := by omega
      rw [this]; exact e1
    · have : c + 20 * (i + 1) = c + 20 * i + 20 := by omega
      rw [this]; exact e3
    · omega
  · rintro δ m5 ⟨o1, link, P, s, dd1, ld1, x6, x7, rfl, g1, g2, g3, g4, g5⟩
    have h70 : (rgD 0 70).length = 70 := rfl
    dsimp only at g1 g3 ⊢
    rw [h70] at g1 g3
    refine go_sif (go_bl (go_op (c_phase rfl g5 fun m6 h7 => go_c (U.eqS ?_))))
    by_cases hp2 : s.ph = "runs"
    · refine U.bt (by rw [decide_eq_true hp2]; rfl) ?_
      have hr := g1.run0 (by rw [hp2]; exact ne_rg)
      refine go_ret (go_op (c_run rfl g1 h7 fun m8 h8 => go_c ?_))
      have e : runD s = .non := if_neg (by rw [hr]; exact Bool.false_ne_true)
      rw [e]
      exact U.isN (fin m8 o1 _ g3 h8 List.mem_cons_self)
    · refine U.bf (by rw [decide_eq_false hp2]; rfl) ?_
      have h8 := h7
      unfold W8 CS at h8
      have h9 : DL.St k m6 (C3 s g t dd1 [(p, o1), (lk, .lst link), (rm, mineO s.ph s.n (dm s.ps) s.kn), (ri, itsO s.turn s.many ld1 s.runs), (ld1, .dct (kvD s.xs))]) := by unfold C3; exact toC3 h8
      generalize hL : ([(p, o1), (lk, .lst link), (rm, mineO s.ph s.n (dm s.ps) s.kn), (ri, itsO s.turn s.many ld1 s.runs), (ld1, .dct (kvD s.xs))] : List (Addr × MO)) = L2 at h9
      have hpL : (p, o1) ∈ L2 := by rw [← hL]; exact List.mem_cons_self
      have hrL : (rm, mineO s.ph s.n (dm s.ps) s.kn) ∈ L2 := by rw [← hL]; simp
      refine go_seq (U.for_ (U.rng (go_cons (go_c (go_nil ⟨by decide, by decide, ?_⟩)))))
      refine fx_forI (it := ⟨rgD 0 3, _, none⟩) (fun i δ m => ∃ s' dd' y6 y7, δ = [some (.ref p), some (.ref g), some (.ref t), some (.ref lk), some (.ref rm), some (.ref ri), y6, y7] ∧ Ok P 70 s' ∧ s'.ph ≠ "runs" ∧ s'.ps = s.ps ∧ (1 ≤ i → s'.ph = "given") ∧ (2 ≤ i → s'.kn = true) ∧ DL.St k m (C3 s' g t dd' L2)) rfl (fun _ _ _ _ => trivial) ⟨s, dd1, _, _, rfl, g1, hp2, rfl, fun z => absurd z (by decide), fun z => absurd z (by decide), h9⟩ ?_ ?_
      · rintro i y δ m7 D' hy ⟨s', dd', y6, y7, rfl, e1, e2, e3, e4, e5, e6⟩ hrt hnx hct hbk
        refine U.gn (go_seq (give_all e1 e2 e6 fun m8 s2 dd2 z7 a1 a2 a3 a4 a5 a6 a7 a8 => ?_))
        refine take_all a1 (by rw [a2]; exact e2) (fun z => by rw [a2] at z; have := a6 z; rw [a3]; exact this) (fun z => a7 (by rw [← a2]; exact z)) a8 fun m9 s3 z8 b1 b2 b3 b4 b5 b6 => ?_
        refine hnx _ _ ⟨s3, dd2, _, _, rfl, b1, by rw [b2]; exact ne_gr, by rw [b4, a4, e3], fun _ => b2, fun z => b5 (by rw [a2]; exact e4 (by omega)), b6⟩
      · rintro δ m7 ⟨s', dd', y6, y7, rfl, e1, e2, e3, e4, e5, e6⟩
        have h3' : (rgD 0 3).length = 3 := rfl
        dsimp only at e4 e5 ⊢
        rw [h3'] at e4 e5
        have hgv := e4 (by decide)
        have hkn := e5 (by decide)
        have hrn := e1.k hkn
        refine go_ret (go_op (go_lst (go_cons (c3_phase rfl e6 fun m8 h8 => go_cons (c3_gm rfl e1 h8 fun m9 h9 => go_cons (c3_run rfl e1 hrn h9 fun m10 h10 => go_nil ⟨n60 rfl, U.newD ?_⟩))))))
        refine go_lst (go_cons (go_c (go_cons (go_lst (go_nil ⟨Nat.zero_le _, U.newD (go_cons (U.join (go_c ?_)))⟩)))))
        refine go_op (go_var rfl (go_c ?_))
        refine U.ixK (h10.cl.mem (List.mem_cons_of_mem _ (List.mem_cons_of_mem _ (List.mem_cons_of_mem _ hrL)))) rfl rfl ⟨s.ps, rfl, ?_, go_nil ⟨n60 rfl, U.newD ?_⟩⟩
        · have hl := g1.psl
          have := sum_short s.ps fun y hy => Nat.le_trans (hl.2 y hy).2 (by decide)
          have e0 : ("" : Str).length = 0 := rfl
          rw [e0]; omega
        have em : gmsgs s'.ph s'.n (dm s'.ps) s'.kn = [] := by
          unfold gmsgs
          rw [if_neg fun z => ne_gf (hgv.symm.trans z), if_neg fun z => by rw [hkn] at z; exact Bool.noConfusion z.2]
        have et : textF s'.xs = Txt.join "" s.ps := by rw [e1.whole hgv, e3]
        rw [em, hgv, et]
        have hok : okS 64 (Txt.join "" s.ps) := okS_join (n := 3) g1.psl.2 (by have := g1.psl.1; omega)
        refine eq_same (xs := [.str "given", .lst [], .str (Txt.join "" s.ps)]) rfl rfl (lfA_cons (by decide +kernel) (lfA_cons rfl (lfA_cons (lfB_str hok) rfl))) (by simp [dpA, dpD]) ?_
        exact fin m10 o1 _ g3 h10 (List.mem_cons_of_mem _ (List.mem_cons_of_mem _ (List.mem_cons_of_mem _ hpL)))
end
end Law
namespace Law
open PySem PySem.Spec PyProof.Rows L2 DL
theorem sub_none {m m' : Sto} {p : Addr} (s : Sub m m') (h : m' p = none) : m p = none := by
  cases e : m p with
  | none => rfl
  | some o => rw [s _ _ e] at h; cases h
theorem plain (d : DV) (ns : List Int) (m : Sto) (Q : DK) (h : asL m d = some (ns.map DV.int)) (hl : ns.length ≤ 63) (q : ∀ m', Q (.bl true) m') : S_law [d] m Q := by
  have big := line_eq
  refine ⟨rfl, ?_⟩
  show w_law { nx := fun _ m' => Q .non m', rt := Q } [some d, none, none, none, none] m
  unfold w_law
  refine go_sset (go_call (go_cons (go_var rfl (go_cons (go_c (go_nil ?_))))))
  refine sp_folded h fun a cs m2 ha h1 h3 => ?_
  show wSeq _ _ _ [some d, some (.ref a), none, none, none] m2
  refine go_seq (U.for_ (U.rng (go_cons (go_b (go_cons (go_var rfl (go_nil (go_lenI (st_asQ ha) (go_nil ?_)))))))))
  rw [List.length_map]
  refine ⟨by omega, by omega, ?_⟩
  have e0 : ((cs.length : Nat) : Int).toNat = cs.length := by omega
  rw [e0]
  refine fx_for (xs := rgD 0 cs.length) rfl rfl (fun i δ m' => ∃ x y z, δ = [some d, some (.ref a), x, y, z] ∧ Sub m2 m') (fun _ _ _ _ => trivial) ⟨_, _, _, rfl, .refl _⟩ ?_ gN_mono ?_
  · rintro i y0 δ m3 hy ⟨x, y, z, rfl, s3⟩
    obtain ⟨hi, rfl⟩ := rg_get hy
    refine U.gn fun D' hnx hrt hbk hct => ?_
    refine go_sset (go_call (go_cons (go_var rfl (go_cons (go_var rfl (go_nil ?_))))))
    refine sp_stream0 (k := i) (s3 _ _ ha) hi (by omega) fun p u v hp hu hv hv2 => ?_
    have hm2p : m2 p = none := sub_none s3 hp
    have ho : SrcO (.lst [.int u, .int v, .int 0]) 0 := ⟨u, v, 0, rfl, hu, hv, hv2, Nat.le_refl _⟩
    have hpp : (DL.put m3 p (.lst [.int u, .int v, .int 0])) p = some (.lst [.int u, .int v, .int 0]) := put_same
    have s4 : Sub m2 (DL.put m3 p (.lst [.int u, .int v, .int 0])) := s3.trans (Sub.put hp)
    generalize DL.put m3 p (.lst [.int u, .int v, .int 0]) = m4 at *
    generalize MO.lst [.int u, .int v, .int 0] = o at ho hpp
    refine go_if (go_not (go_tru (go_b (go_cons ?_))))
    refine U.lc (U.rng (go_cons (go_c (go_nil ⟨by decide, by decide, fun D hD => ?_⟩))))
    have nDp : D ≠ p := fun z => by rw [z, hpp] at hD; cases hD
    have hm2D : m2 D = none := sub_none s4 hD
    have s5 : Sub m2 (DL.put m4 D (.lst [])) := s4.trans (Sub.put hD)
    have hp5 : (DL.put m4 D (.lst [])) p = some o := by rw [put_ne nDp.symm]; exact hpp
    have e5 : (DL.put m4 D (.lst [])) D = some (.lst []) := put_same
    generalize DL.put m4 D (.lst []) = m5 at *
    have turn : ∀ (m5 : Sto) (o : MO) (c : Nat) (acc : List DV) (δ : Slots) (K : DV → Sto → Prop), δ[3]? = some (some (.ref p)) → m5 p = some o → SrcO o c → c < 500000 → m5 D = some (.lst acc) → Sub m2 m5 → (∀ m6 o', SrcO o' (c + 1400) → m6 D = some (.lst acc) → m6 p = some o' → Sub m2 m6 → K (.bl true) m6) →
        wCall S__law_right [] (wCons (wVar 3) (wNil)) δ m5 K := fun m5 o c acc δ K hδ hp5 ho hc e5 s5 hK => by
      refine go_call (go_cons (go_var hδ (go_nil ?_)))
      refine sp_right hp5 ho hc fun m6 o' ho' hp6 sx6 => ?_
      exact hK m6 o' ho' (sx6 _ _ nDp e5) hp6 fun b w hbw => sx6 b w (fun z => by rw [z, hm2p] at hbw; cases hbw) (s5 _ _ hbw)
    refine U.lcons trivial (U.gn (U.yes (U.bt rfl ?_)))
    refine turn m5 o 0 [] _ _ rfl hp5 ho (by decide) e5 s5 fun m6 o6 ho6 e6 hp6 s6 => ⟨e6, n60 rfl, ?_⟩
    have s7 : Sub m2 (DL.put m6 D (.lst ([] ++ [.bl true]))) := Sub.put2 hm2D s6
    have hp7 : (DL.put m6 D (.lst ([] ++ [.bl true]))) p = some o6 := by rw [put_ne nDp.symm]; exact hp6
    have e7 : (DL.put m6 D (.lst ([] ++ [.bl true]))) D = some (.lst ([] ++ [.bl true])) := put_same
    generalize DL.put m6 D (.lst ([] ++ [.bl true])) = m7 at *
    refine U.lcons trivial (U.gn (U.yes (U.bt rfl ?_)))
    refine turn m7 o6 _ ([] ++ [.bl true]) _ _ rfl hp7 ho6 (by decide) e7 s7 fun m8 o8 ho8 e8 hp8 s8 => ⟨e8, n60 rfl, ?_⟩
    have s9 : Sub m2 (DL.put m8 D (.lst ([] ++ [.bl true] ++ [.bl true]))) := Sub.put2 hm2D s8
    have hp9 : (DL.put m8 D (.lst ([] ++ [.bl true] ++ [.bl true]))) p = some o8 := by rw [put_ne nDp.symm]; exact hp8
    have e9 : (DL.put m8 D (.lst ([] ++ [.bl true] ++ [.bl true]))) D = some (.lst ([] ++ [.bl true] ++ [.bl true])) := put_same
    generalize DL.put m8 D (.lst ([] ++ [.bl true] ++ [.bl true])) = m9 at *
    refine U.lcons trivial (U.gn (U.yes (U.bt rfl ?_)))
    refine turn m9 o8 _ ([] ++ [.bl true] ++ [.bl true]) _ _ rfl hp9 ho8 (by decide) e9 s9 fun m10 o10 ho10 e10 hp10 s10 => ⟨e10, n60 rfl, ?_⟩
    refine U.lnil trivial put_same (U.fin ?_)
    have s11 : Sub m2 (DL.rmv (DL.put m10 D (.lst ([] ++ [.bl true] ++ [.bl true] ++ [.bl true]))) D) := Sub.rmv hm2D (Sub.put2 hm2D s10)
    unfold lcFin
    rw [if_neg Bool.false_ne_true]
    refine go_nil (U.all (bs := [true, true, true]) rfl rfl (U.truB (U.bf rfl (go_next ?_))))
    exact hnx _ _ ⟨_, _, _, rfl, s11⟩
  · rintro δ m3 ⟨x, y, z, rfl, s3⟩
    dsimp only
    refine go_ret (go_c ?_)
    exact q m3
end Law
open PySem PySem.W PySem.Calls PyProof.Rows
theorem PySem.Challenge.cw_treethaw_k70_whole_moving_over_a_bad_lin_holds : PySem.Challenge.rw_treethaw_k70_whole_moving_over_a_bad_lin.Holds := by
  w_on; o_law
  refine HandSHeadRun.head_any (r := OpenLaw.row PySem.Challenge.rw_treethaw_k70_whole_moving_over_a_bad_lin) (q := view (OpenLaw.row PySem.Challenge.rw_treethaw_k70_whole_moving_over_a_bad_lin).prog [34]) (H := Law.hk) (ob := Law.ob) (M := 20000) (loose := Law.looseP) (d := HandSHeadRun.topDef (OpenLaw.row PySem.Challenge.rw_treethaw_k70_whole_moving_over_a_bad_lin).prog 34) (kwd := []) Law.ob_eq
    (by kernel_rfl) (fun s => by kernel_rfl) Law.run (by kernel_rfl) (by kernel_rfl) (by kernel_rfl) (by rfl) (by first | assumption | decide +kernel) (by decide +kernel) ⟨rfl, rfl, rfl, rfl, rfl, by decide +kernel⟩ ?hw ?hc
  case hw => w_witness2
  case hc =>
    refine DL.walk_ofG (l := PySem.Challenge.rw_treethaw_k70_whole_moving_over_a_bad_lin) (n := 63) (k := 10) (x := "_law_script") (CX := L2.CX0) rfl (by decide) (by kernel_rfl) ⟨rfl, by decide, by decide⟩ ?F (fun _ _ _ _ z => z)
    intro w mg fa h Y G hmg0
    obtain ⟨K, KX, c⟩ := Y
    have hmg : mg ("law" : PySem.Str) = some (.ref fa) := by
      have e : (HandSHeadRun.topDef (OpenLaw.row PySem.Challenge.rw_treethaw_k70_whole_moving_over_a_bad_lin).prog 34).name = ("law" : PySem.Str) := by kernel_rfl
      rw [← e]
      exact hmg0
    have cx := Law.cxt_of KX G c
    have ea := hmg.symm.trans (He.glo_ok KX G (c.t.d.fact 70 (f := .glo "law") rfl))
    cases ea
    obtain ⟨fd, Fd, Fu⟩ := Law.ok_law (P := (PySem.Challenge.rw_treethaw_k70_whole_moving_over_a_bad_lin).prog) (w := w) (base := h) cx
    refine ⟨K, fd, _, KX, fun s v => (Fu.bindsA (ps := ["_law_script"]) (fun _ _ _ _ _ _ us hl => match us, hl with | [_], _ => rfl)) s [v] rfl, fun H a ns hl hb _ hS => Law.law_sp Law.plain H a ns hl hS, fun base _ _ => ?_⟩
    obtain ⟨fd2, Fd2, Fu2⟩ := Law.ok_law (P := (PySem.Challenge.rw_treethaw_k70_whole_moving_over_a_bad_lin).prog) (w := w) (base := base) cx
    cases DL.funD_fd Fu Fu2
    exact Fd2.ok
