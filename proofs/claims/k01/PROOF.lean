import PyProof.Rows.All
import Wide.All
import OpenK.AllK
import Wide.FinOn
import HandS.ForMost
import HandS.Evl
import HandS.Wide
import HandS.IsInst
import HandS.Flow
import HandS.DictComp
import HandS.EndBits
import HandS.DictEq
import HandS.TupAny
import HandS.Words
import HandS.Style
import HandS.TryOnly
import HandS.Small
import HandS.Zip
import HandS.SetFor
import HandS.WordsDict
import HandS.SortInts
import HandS.DictTup
import HandS.Strs
import HandS.Comp
import HandS.Ends
import HandS.HeadEnd
import HandS.Defaults
import HandS.HeadHook1
import HandS.HeadHook2
import HandS.Conv
import PyProof.ReprRoads
import HandS.Deep
import HandS.RaiseMore
import KE.KRevSl
import HandS.SortRule
import KE.GoesEnum
import KE.KDictMeth
import HandS.More
import HandS.TupLe
import HandS.Text
import HandS.HeadHook4
import HandS.Iter
import HandS.Head0
import HandS.Head1
import HandS.Head2
import KE.KStateDown
import Lean
import PySem.Challenge.RW_treethaw_k01_calls_or_not
set_option Elab.async false
set_option linter.all false
set_option maxRecDepth 100000
set_option maxHeartbeats 4000000
namespace DL
open PySem PySem.Spec PyProof.Rows L2
/-- a value: data as trees (ktup: a tuple written at the top); ref: an object of the store (or any other address) -/
inductive DV where
  | non | bl (b : Bool) | int (i : Int) | str (x : Str) | ref (a : Addr)
  | lst (xs : List DV) | tup (xs : List DV) | ktup (xs : List DV) | klst (xs : List DV)
/-- an object that may change -/
inductive MO where
  | lst (xs : List DV) | dct (kvs : List (Key × DV)) | dcT (kvs : List (List Key × DV)) | ins (c : Nat) (fs : List (Nat × DV))
  /-- a dict that is being walked -/
  | lck (o : Obj) (kv : List (Key × V)) (kvs : List (Key × DV))
abbrev Sto := Addr → Option MO
def put (m : Sto) (a : Addr) (o : MO) : Sto := fun b => if b = a then some o else m b
def rmv (m : Sto) (a : Addr) : Sto := fun b => if b = a then none else m b
theorem put_same {m : Sto} {a : Addr} {o : MO} : put m a o a = some o := if_pos rfl
theorem put_ne {m : Sto} {a b : Addr} {o : MO} (h : b ≠ a) : put m a o b = m b := if_neg h
theorem rmv_ne {m : Sto} {a b : Addr} (h : b ≠ a) : rmv m a b = m b := if_neg h
theorem rmv_same {m : Sto} {a : Addr} : rmv m a a = none := if_pos rfl
theorem put_put {m : Sto} {a : Addr} {o u : MO} : put (put m a o) a u = put m a u := by
  funext b; unfold put; split <;> rfl
theorem put_comm {m : Sto} {a b : Addr} {o u : MO} (h : a ≠ b) : put (put m a o) b u = put (put m b u) a o := by
  funext c; unfold put
  by_cases h1 : c = a
  · subst h1; rw [if_neg h, if_pos rfl, if_pos rfl]
  · by_cases h2 : c = b
    · subst h2; rw [if_pos rfl, if_neg h1, if_pos rfl]
    · rw [if_neg h2, if_neg h1, if_neg h1, if_neg h2]
theorem rmv_put {m : Sto} {a : Addr} {o : MO} (h : m a = none) : rmv (put m a o) a = m := by
  funext b; unfold rmv put
  by_cases h1 : b = a
  · subst h1; rw [if_pos rfl, h]
  · rw [if_neg h1, if_neg h1]
theorem put_self {m : Sto} {a : Addr} {o : MO} (h : m a = some o) : put m a o = m := by
  funext b; unfold put
  by_cases h1 : b = a
  · subst h1; rw [if_pos rfl, h]
  · rw [if_neg h1]
/-- what is told of the classes and the names of fields -/
structure Gam where
  K : PySem.W.Frag
  cls : Nat → Addr
  fld : Nat → Str
mutual
inductive VR (K : PySem.W.Frag) (F : Hp) : V → DV → Prop
  | non : VR K F .non .non
  | bl (b : Bool) : VR K F (.bl b) (.bl b)
  | int (i : Int) : VR K F (.int i) (.int i)
  | str (x : Str) : VR K F (.str x) (.str x)
  | ref (a : Addr) : VR K F (.ref a) (.ref a)
  | lst {a : Addr} {vs : List V} {ds : List DV} : Rd F a (.lst vs) → VRs K F vs ds → VR K F (.ref a) (.lst ds)
  | tup {a : Addr} {vs : List V} {ds : List DV} : F a = some (.tup vs) → VRs K F vs ds → VR K F (.ref a) (.tup ds)
  | ktup {a : Addr} {vs : List V} {ds : List DV} : SqT K (fun _ => none) a vs → VRs K F vs ds → VR K F (.ref a) (.ktup ds)
  | klst {a : Addr} {vs : List V} {ds : List DV} : SqL K (fun _ => none) a vs → VRs K F vs ds → VR K F (.ref a) (.klst ds)
inductive VRs (K : PySem.W.Frag) (F : Hp) : List V → List DV → Prop
  | nil : VRs K F [] []
  | cons {v : V} {vs : List V} {d : DV} {ds : List DV} : VR K F v d → VRs K F vs ds → VRs K F (v :: vs) (d :: ds)
end
abbrev Ex (F F' : Hp) : Prop := ∀ a o, F a = some o → F' a = some o
theorem Ex.refl (F : Hp) : Ex F F := fun _ _ h => h
theorem Ex.trans {F F1 F2 : Hp} (a : Ex F F1) (b : Ex F1 F2) : Ex F F2 := fun x o h => b x o (a x o h)
theorem ex_none {F : Hp} : Ex (fun _ => none) F := fun a o e => by
  have e' : (none : Option HO) = some o := e
  cases e'
theorem Ex.rd {F F' : Hp} {a : Addr} {u : HO} (e : Ex F F') (h : Rd F a u) : Rd F' a u := by
  rcases h with h | ⟨o, h⟩
  · exact Or.inl (e a _ h)
  · exact Or.inr ⟨o, e a _ h⟩
theorem Ex.sqL {K : PySem.W.Frag} {F F' : Hp} {a : Addr} {xs : List V} (e : Ex F F') (h : SqL K F a xs) : SqL K F' a xs := by
  rcases h with h | h
  · exact Or.inl (e.rd h)
  · exact Or.inr h
theorem Ex.sqT {K : PySem.W.Frag} {F F' : Hp} {a : Addr} {xs : List V} (e : Ex F F') (h : SqT K F a xs) : SqT K F' a xs := by
  rcases h with h | h
  · exact Or.inl (e.rd h)
  · exact Or.inr h
theorem Ex.new {F : Hp} {p : Addr} {o : HO} (h : F p = none) : Ex F (upd F p o) := fun a u e => by
  rw [upd_ne (ne_of_none e h)]
  exact e
mutual
theorem VR.mono {K : PySem.W.Frag} {F F' : Hp} (e : Ex F F') : ∀ {v : V} {d : DV}, VR K F v d → VR K F' v d
  | _, _, .non => .non
  | _, _, .bl b => .bl b
  | _, _, .int i => .int i
  | _, _, .str x => .str x
  | _, _, .ref a => .ref a
  | _, _, .lst h r => .lst (e.rd h) (VRs.mono e r)
  | _, _, .tup h r => .tup (e _ _ h) (VRs.mono e r)
  | _, _, .ktup h r => .ktup h (VRs.mono e r)
  | _, _, .klst h r => .klst h (VRs.mono e r)
theorem VRs.mono {K : PySem.W.Frag} {F F' : Hp} (e : Ex F F') : ∀ {vs : List V} {ds : List DV}, VRs K F vs ds → VRs K F' vs ds
  | _, _, .nil => .nil
  | _, _, .cons h r => .cons (VR.mono e h) (VRs.mono e r)
end
section
variable {K : PySem.W.Frag} {F : Hp}
theorem VRs.length : ∀ {vs : List V} {ds : List DV}, VRs K F vs ds → vs.length = ds.length
  | _, _, .nil => rfl
  | _, _, .cons _ r => by rw [List.length_cons, List.length_cons, r.length]
theorem VRs.get : ∀ {vs : List V} {ds : List DV} {i : Nat} {d : DV}, VRs K F vs ds → ds[i]? = some d → ∃ v, vs[i]? = some v ∧ VR K F v d
  | _, _, _, _, .nil, e => by simp at e
  | _, _, 0, _, .cons r _, e => by simp at e; subst e; exact ⟨_, rfl, r⟩
  | _, _, i + 1, d, .cons _ t, e => by
    obtain ⟨u, h1, h2⟩ := VRs.get (i := i) (d := d) t (by simpa using e)
    exact ⟨u, by simpa using h1, h2⟩
theorem VRs.getV : ∀ {vs : List V} {ds : List DV} {i : Nat} {v : V}, VRs K F vs ds → vs[i]? = some v → ∃ d, ds[i]? = some d ∧ VR K F v d
  | _, _, _, _, .nil, e => by simp at e
  | _, _, 0, _, .cons r _, e => by simp at e; subst e; exact ⟨_, rfl, r⟩
  | _, _, i + 1, v, .cons _ t, e => by
    obtain ⟨u, h1, h2⟩ := VRs.getV (i := i) (v := v) t (by simpa using e)
    exact ⟨u, by simpa using h1, h2⟩
theorem VRs.append : ∀ {vs ws : List V} {ds es : List DV}, VRs K F vs ds → VRs K F ws es → VRs K F (vs ++ ws) (ds ++ es)
  | _, _, _, _, .nil, s => s
  | _, _, _, _, .cons r t, s => .cons r (VRs.append t s)
theorem VRs.set {v : V} {d : DV} (r : VR K F v d) : ∀ {vs : List V} {ds : List DV} (i : Nat), VRs K F vs ds → VRs K F (vs.set i v) (ds.set i d)
  | _, _, _, .nil => .nil
  | _, _, 0, .cons _ t => .cons r t
  | _, _, i + 1, .cons q t => .cons q (VRs.set r i t)
theorem VRs.take : ∀ {vs : List V} {ds : List DV} (n : Nat), VRs K F vs ds → VRs K F (vs.take n) (ds.take n)
  | _, _, 0, _ => .nil
  | _, _, _ + 1, .nil => .nil
  | _, _, n + 1, .cons r t => .cons r (VRs.take n t)
theorem VRs.drop : ∀ {vs : List V} {ds : List DV} (n : Nat), VRs K F vs ds → VRs K F (vs.drop n) (ds.drop n)
  | _, _, 0, r => r
  | _, _, _ + 1, .nil => .nil
  | _, _, n + 1, .cons _ t => VRs.drop n t
theorem VRs.one {v : V} {d : DV} (r : VR K F v d) : VRs K F [v] [d] := .cons r .nil
theorem VRs.ints : ∀ {vs : List V} {ns : List Int}, VRs K F vs (ns.map DV.int) → vs = ns.map V.int
  | _, [], h => by cases h; rfl
  | _, n :: ns, h => by
    cases h with
    | cons r t => cases r; rw [VRs.ints t]; rfl
theorem VRs.of_ints : ∀ (ns : List Int), VRs K F (ns.map V.int) (ns.map DV.int)
  | [] => .nil
  | n :: ns => .cons (.int n) (VRs.of_ints ns)
theorem VRs.strs : ∀ {vs : List V} {ns : List Str}, VRs K F vs (ns.map DV.str) → vs = ns.map V.str
  | _, [], h => by cases h; rfl
  | _, n :: ns, h => by
    cases h with
    | cons r t => cases r; rw [VRs.strs t]; rfl
end
/-- pairs of a dict, of fields -/
def KR {κ : Type} (K : PySem.W.Frag) (F : Hp) : List (κ × V) → List (κ × DV) → Prop := Paired fun p q => p.1 = q.1 ∧ VR K F p.2 q.2
def FR (G : Gam) (F : Hp) : List (Str × V) → List (Nat × DV) → Prop := Paired fun p q => p.1 = G.fld q.1 ∧ VR G.K F p.2 q.2
theorem KR.mono {κ : Type} {K : PySem.W.Frag} {F F' : Hp} (e : Ex F F') {a : List (κ × V)} {b : List (κ × DV)} (h : KR K F a b) : KR K F' a b := Paired.mapP h fun _ _ z => ⟨z.1, z.2.mono e⟩
theorem FR.mono {G : Gam} {F F' : Hp} (e : Ex F F') {a : List (Str × V)} {b : List (Nat × DV)} (h : FR G F a b) : FR G F' a b := Paired.mapP h fun _ _ z => ⟨z.1, z.2.mono e⟩
def MR (G : Gam) (F : Hp) : MO → HO → Prop
  | .lst xs, u => ∃ vs, u = .lst vs ∧ VRs G.K F vs xs
  | .dct kvs, u => ∃ kv, u = .dK kv ∧ KR G.K F kv kvs
  | .dcT kvs, u => ∃ kv, u = .dT kv ∧ KR G.K F kv kvs
  | .ins c fs, u => ∃ dx fv, u = .ins (G.cls c) dx fv ∧ FR G F fv fs
  | .lck o kv kvs, u => u = .frz o (.dK kv) ∧ KR G.K F kv kvs
theorem MR.mono {G : Gam} {F F' : Hp} (e : Ex F F') : ∀ {o : MO} {u : HO}, MR G F o u → MR G F' o u
  | .lst _, _, ⟨vs, h, r⟩ => ⟨vs, h, r.mono e⟩
  | .dct _, _, ⟨vs, h, r⟩ => ⟨vs, h, KR.mono e r⟩
  | .dcT _, _, ⟨vs, h, r⟩ => ⟨vs, h, KR.mono e r⟩
  | .ins _ _, _, ⟨dx, fv, h, r⟩ => ⟨dx, fv, h, FR.mono e r⟩
  | .lck _ _ _, _, ⟨h, r⟩ => ⟨h, KR.mono e r⟩
/-- the abstract heap bears the data F and the store m -/
structure Rel (G : Gam) (F : Hp) (m : Sto) (H : Hp) : Prop where
  ex : Ex F H
  mo : ∀ a o, m a = some o → F a = none ∧ ∃ u, H a = some u ∧ MR G F o u
section
variable {G : Gam} {F F' H H' : Hp} {m : Sto} {a p : Addr} {o : MO} {u : HO}
theorem Rel.freeM (r : Rel G F m H) (h : H p = none) : m p = none := by
  cases e : m p with
  | none => rfl
  | some o =>
    obtain ⟨_, u, hu, _⟩ := r.mo p o e
    rw [h] at hu; cases hu
theorem Rel.freeF (r : Rel G F m H) (h : H p = none) : F p = none := by
  cases e : F p with
  | none => rfl
  | some o => rw [r.ex p o e] at h; cases h
/-- more may be known of the heap -/
theorem Rel.grow (r : Rel G F m H) (e : Ex H H') : Rel G F m H' := ⟨r.ex.trans e, fun a o h => let ⟨n, u, hu, q⟩ := r.mo a o h; ⟨n, u, e a u hu, q⟩⟩
/-- new data -/
theorem Rel.data (r : Rel G F m H) (h : H p = none) : Rel G (upd F p u) m (upd H p u) where
  ex := fun b o e => by
    by_cases hb : b = p
    · subst hb; rw [upd_same] at e ⊢; exact e
    · rw [upd_ne hb] at e ⊢; exact r.ex b o e
  mo := fun b o e => by
    obtain ⟨n, w, hw, q⟩ := r.mo b o e
    have hb : b ≠ p := ne_of_none hw h
    exact ⟨by rw [upd_ne hb]; exact n, w, by rw [upd_ne hb]; exact hw, q.mono (Ex.new (r.freeF h))⟩
/-- a new object -/
theorem Rel.newM (r : Rel G F m H) (h : H p = none) (q : MR G F o u) : Rel G F (put m p o) (upd H p u) where
  ex := fun b w e => by
    have hb : b ≠ p := ne_of_none (r.ex b w e) h
    rw [upd_ne hb]; exact r.ex b w e
  mo := fun b w e => by
    by_cases hb : b = p
    · subst hb
      rw [put_same] at e; cases e
      exact ⟨r.freeF h, u, upd_same, q⟩
    · rw [put_ne hb] at e
      obtain ⟨n, w, hw, q⟩ := r.mo b w e
      exact ⟨n, w, by rw [upd_ne hb]; exact hw, q⟩
/-- an object changes -/
theorem Rel.write (r : Rel G F m H) {o' : MO} (h : m p = some o') (q : MR G F o u) : Rel G F (put m p o) (upd H p u) where
  ex := fun b w e => by
    have hb : b ≠ p := ne_of_none e (r.mo p o' h).1
    rw [upd_ne hb]; exact r.ex b w e
  mo := fun b w e => by
    by_cases hb : b = p
    · subst hb
      rw [put_same] at e; cases e
      exact ⟨(r.mo _ o' h).1, u, upd_same, q⟩
    · rw [put_ne hb] at e
      obtain ⟨n, w, hw, q⟩ := r.mo b w e
      exact ⟨n, w, by rw [upd_ne hb]; exact hw, q⟩
/-- an object becomes data -/
theorem Rel.freeze (r : Rel G F m H) (h : m p = some o) (hu : H p = some u) : Rel G (upd F p u) (rmv m p) H where
  ex := fun b w e => by
    by_cases hb : b = p
    · subst hb; rw [upd_same] at e; rw [hu]; exact e
    · rw [upd_ne hb] at e; exact r.ex b w e
  mo := fun b w e => by
    by_cases hb : b = p
    · subst hb; rw [rmv_same] at e; cases e
    · rw [rmv_ne hb] at e
      obtain ⟨n, w, hw, q⟩ := r.mo b w e
      exact ⟨by rw [upd_ne hb]; exact n, w, hw, q.mono (Ex.new (r.mo p o h).1)⟩
end
abbrev Slots := List (Option DV)
/-- the values by slot -/
structure SR (K : PySem.W.Frag) (F : Hp) (σ : L2.St) (δ : Slots) : Prop where
  len : σ.length = δ.length
  at_ : ∀ (i : Nat) (d : DV), δ[i]? = some (some d) → ∃ v, σ[i]? = some (some v) ∧ VR K F v d
theorem SR.mono {K : PySem.W.Frag} {F F' : Hp} {σ : L2.St} {δ : Slots} (e : Ex F F') (h : SR K F σ δ) : SR K F' σ δ :=
  ⟨h.len, fun i d q => let ⟨v, a, b⟩ := h.at_ i d q; ⟨v, a, b.mono e⟩⟩
theorem SR.set {K : PySem.W.Frag} {F : Hp} {σ : L2.St} {δ : Slots} {v : V} {d : DV} (i : Nat) (h : SR K F σ δ) (r : VR K F v d) : SR K F (σ.set i (some v)) (δ.set i (some d)) := by
  refine ⟨by simp [h.len], fun j c q => ?_⟩
  by_cases e : i = j
  · subst e
    by_cases hl : i < δ.length
    · rw [List.getElem?_set_self hl] at q
      cases q
      exact ⟨v, by rw [List.getElem?_set_self (by rw [h.len]; exact hl)], r⟩
    · rw [List.getElem?_eq_none (by simp; omega)] at q; cases q
  · rw [List.getElem?_set_ne e] at q
    obtain ⟨w, a, b⟩ := h.at_ j c q
    exact ⟨w, by rw [List.getElem?_set_ne e]; exact a, b⟩
abbrev DK := DV → Sto → Prop
abbrev DE := Slots → Sto → DK → Prop
abbrev DT := Slots → Sto → (Bool → Sto → Prop) → Prop
abbrev DA := Slots → Sto → (List DV → Sto → Prop) → Prop
structure DEnds where
  nx : Slots → Sto → Prop
  rt : DK
  bk : Slots → Sto → Prop := fun _ _ => False
  ct : Slots → Sto → Prop := fun _ _ => False
abbrev DS := DEnds → Slots → Sto → Prop
/-- what follows, told of data, serves what follows, told of values -/
def Kt (G : Gam) (F : Hp) (Q0 : DK) (Q : VK) : Prop := ∀ d m' v F' H', Q0 d m' → Ex F F' → Rel G F' m' H' → VR G.K F' v d → Q v H'
def KtB (G : Gam) (F : Hp) (Q0 : Bool → Sto → Prop) (Q : Bool → Hp → Prop) : Prop := ∀ b m' F' H', Q0 b m' → Ex F F' → Rel G F' m' H' → Q b H'
def KtA (G : Gam) (F : Hp) (Q0 : List DV → Sto → Prop) (Q : List V → Hp → Prop) : Prop := ∀ ds m' vs F' H', Q0 ds m' → Ex F F' → Rel G F' m' H' → VRs G.K F' vs ds → Q vs H'
def KtS (G : Gam) (F : Hp) (Q0 : Slots → Sto → Prop) (Q : L2.St → Hp → Prop) : Prop := ∀ δ' m' σ' F' H', Q0 δ' m' → Ex F F' → Rel G F' m' H' → SR G.K F' σ' δ' → Q σ' H'
theorem Kt.mono {G : Gam} {F F' : Hp} {Q0 : DK} {Q : VK} (k : Kt G F Q0 Q) (e : Ex F F') : Kt G F' Q0 Q := fun d m v F1 H1 h e1 => k d m v F1 H1 h (e.trans e1)
theorem KtB.mono {G : Gam} {F F' : Hp} {Q0 : Bool → Sto → Prop} {Q : Bool → Hp → Prop} (k : KtB G F Q0 Q) (e : Ex F F') : KtB G F' Q0 Q := fun d m F1 H1 h e1 => k d m F1 H1 h (e.trans e1)
theorem KtA.mono {G : Gam} {F F' : Hp} {Q0 : List DV → Sto → Prop} {Q : List V → Hp → Prop} (k : KtA G F Q0 Q) (e : Ex F F') : KtA G F' Q0 Q := fun d m v F1 H1 h e1 => k d m v F1 H1 h (e.trans e1)
theorem KtS.mono {G : Gam} {F F' : Hp} {Q0 : Slots → Sto → Prop} {Q : L2.St → Hp → Prop} (k : KtS G F Q0 Q) (e : Ex F F') : KtS G F' Q0 Q := fun d m v F1 H1 h e1 => k d m v F1 H1 h (e.trans e1)
structure KtD (G : Gam) (F : Hp) (D0 : DEnds) (D : Ends) : Prop where
  nx : KtS G F D0.nx D.nx
  rt : Kt G F D0.rt D.rt
  bk : KtS G F D0.bk D.bk
  ct : KtS G F D0.ct D.ct
theorem KtD.mono {G : Gam} {F F' : Hp} {D0 : DEnds} {D : Ends} (k : KtD G F D0 D) (e : Ex F F') : KtD G F' D0 D := ⟨k.nx.mono e, k.rt.mono e, k.bk.mono e, k.ct.mono e⟩
/-- the readings over data as readings over the abstract heap -/
def LE (G : Gam) (w : DE) : TE := fun σ H Q => ∃ F m δ Q0, Rel G F m H ∧ SR G.K F σ δ ∧ w δ m Q0 ∧ Kt G F Q0 Q
def LT (G : Gam) (w : DT) : TT := fun σ H Q => ∃ F m δ Q0, Rel G F m H ∧ SR G.K F σ δ ∧ w δ m Q0 ∧ KtB G F Q0 Q
def LA (G : Gam) (w : DA) : TA := fun σ H Q => ∃ F m δ Q0, Rel G F m H ∧ SR G.K F σ δ ∧ w δ m Q0 ∧ KtA G F Q0 Q
def LS (G : Gam) (w : DS) : TS := fun D σ H => ∃ F m δ D0, Rel G F m H ∧ SR G.K F σ δ ∧ w D0 δ m ∧ KtD G F D0 D
theorem PE.imp {X : Cx} {e : Expr} {t t' : TE} (h : PE X e t) (k : ∀ σ H Q, t' σ H Q → t σ H Q) : PE X e t' := ⟨fun pins s σ H Q I q => h.run pins s σ H Q I (k σ H Q q)⟩
theorem PT.imp {X : Cx} {e : Expr} {t t' : TT} (h : PT X e t) (k : ∀ σ H Q, t' σ H Q → t σ H Q) : PT X e t' := ⟨fun pins s σ H Q I q => h.run pins s σ H Q I (k σ H Q q)⟩
theorem PW.imp {X : Cx} {e : Expr} {t t' : TT} (h : PW X e t) (k : ∀ σ H Q, t' σ H Q → t σ H Q) : PW X e t' := ⟨fun wh pins s σ H Q I q => h.run wh pins s σ H Q I (k σ H Q q)⟩
theorem PA.imp {X : Cx} {e : List Expr} {t t' : TA} (h : PA X e t) (k : ∀ σ H Q, t' σ H Q → t σ H Q) : PA X e t' := ⟨fun pos pins s σ H Q I q => h.run pos pins s σ H Q I (k σ H Q q)⟩
theorem PK.imp {X : Cx} {e : List Keyword} {t t' : TA} (h : PK X e t) (k : ∀ σ H Q, t' σ H Q → t σ H Q) : PK X e t' := ⟨fun pos pins s σ H Q I q => h.run pos pins s σ H Q I (k σ H Q q)⟩
theorem PS.imp {X : Cx} {e : Stmt} {t t' : TS} (h : PS X e t) (k : ∀ D σ H, t' D σ H → t D σ H) : PS X e t' := ⟨fun pins s σ H D I q => h.run pins s σ H D I (k D σ H q)⟩
theorem PSs.imp {X : Cx} {e : List Stmt} {t t' : TS} (h : PSs X e t) (k : ∀ D σ H, t' D σ H → t D σ H) : PSs X e t' := ⟨fun pins s σ H D I q => h.run pins s σ H D I (k D σ H q)⟩
end DL
namespace DL
open PySem PySem.Spec PyProof.Rows L2
def asL (m : Sto) : DV → Option (List DV)
  | .lst xs => some xs
  | .klst xs => some xs
  | .ref p => match m p with
    | some (.lst xs) => some xs
    | _ => none
  | _ => none
def asT : DV → Option (List DV)
  | .tup xs => some xs
  | .ktup xs => some xs
  | _ => none
def asQ (m : Sto) : DV → Option (List DV)
  | .tup xs => some xs
  | .ktup xs => some xs
  | d => asL m d
section
variable {G : Gam} {F H : Hp} {m : Sto} {x : V} {d : DV} {xs : List DV}
theorem asL_ok (r : Rel G F m H) (v : VR G.K F x d) (h : asL m d = some xs) : ∃ a vs, x = .ref a ∧ SqL G.K H a vs ∧ VRs G.K F vs xs := by
  cases v with
  | @lst a vs ds hs hr =>
    cases h
    exact ⟨a, vs, rfl, .inl (r.ex.rd hs), hr⟩
  | @klst a vs ds hs hr =>
    cases h
    exact ⟨a, vs, rfl, Ex.sqL ex_none hs, hr⟩
  | ref a =>
    simp only [asL] at h
    cases e : m a with
    | none => rw [e] at h; cases h
    | some o =>
      rw [e] at h
      cases o with
      | lst ys =>
        cases h
        obtain ⟨_, u, hu, vs, rfl, hr⟩ := r.mo a _ e
        exact ⟨a, vs, rfl, SqL.of hu, hr⟩
      | _ => cases h
  | _ => cases h
theorem asT_ok (r : Rel G F m H) (v : VR G.K F x d) (h : asT d = some xs) : ∃ a vs, x = .ref a ∧ SqT G.K H a vs ∧ VRs G.K F vs xs := by
  cases v with
  | @tup a vs ds hs hr =>
    cases h
    exact ⟨a, vs, rfl, SqT.of (r.ex _ _ hs), hr⟩
  | @ktup a vs ds hs hr =>
    cases h
    exact ⟨a, vs, rfl, Ex.sqT ex_none hs, hr⟩
  | _ => cases h
theorem asQ_ok (r : Rel G F m H) (v : VR G.K F x d) (h : asQ m d = some xs) : ∃ a vs, x = .ref a ∧ (SqL G.K H a vs ∨ SqT G.K H a vs) ∧ VRs G.K F vs xs := by
  cases v with
  | @tup a vs ds hs hr =>
    cases h
    exact ⟨a, vs, rfl, .inr (SqT.of (r.ex _ _ hs)), hr⟩
  | @ktup a vs ds hs hr =>
    cases h
    exact ⟨a, vs, rfl, .inr (Ex.sqT ex_none hs), hr⟩
  | lst hs hr =>
    obtain ⟨a, vs, e, q, t⟩ := asL_ok r (.lst hs hr) h
    exact ⟨a, vs, e, .inl q, t⟩
  | klst hs hr =>
    obtain ⟨a, vs, e, q, t⟩ := asL_ok r (.klst hs hr) h
    exact ⟨a, vs, e, .inl q, t⟩
  | ref a =>
    obtain ⟨a, vs, e, q, t⟩ := asL_ok r (.ref a) h
    exact ⟨a, vs, e, .inl q, t⟩
  | _ => cases h
end
/-- a new list: data, or (mu) an object of the store -/
def newL (mu : Bool) (xs : List DV) (m : Sto) (Q : DK) : Prop := if mu = true then ∀ p, m p = none → Q (.ref p) (put m p (.lst xs)) else Q (.lst xs) m
theorem newL_data {xs : List DV} {m : Sto} {Q : DK} : newL false xs m Q = Q (.lst xs) m := rfl
theorem newL_own {xs : List DV} {m : Sto} {Q : DK} : newL true xs m Q = ∀ p, m p = none → Q (.ref p) (put m p (.lst xs)) := rfl
theorem newL_ok {G : Gam} {F H : Hp} {m : Sto} {mu : Bool} {xs : List DV} {vs : List V} {Q0 : DK} {Q : VK} (r : Rel G F m H) (h : newL mu xs m Q0) (k : Kt G F Q0 Q) (v : VRs G.K F vs xs) :
    ∀ p, H p = none → Q (.ref p) (upd H p (.lst vs)) := fun p hp => by
  cases mu with
  | true => exact k _ _ _ F _ (h p (r.freeM hp)) (Ex.refl F) (r.newM hp ⟨vs, rfl, v⟩) (.ref p)
  | false => exact k _ _ _ (upd F p (.lst vs)) _ h (Ex.new (r.freeF hp)) (r.data hp) (.lst (.inl upd_same) (v.mono (Ex.new (r.freeF hp))))
theorem newT_ok {G : Gam} {F H : Hp} {m : Sto} {xs : List DV} {vs : List V} {Q0 : DK} {Q : VK} (r : Rel G F m H) (h : Q0 (.tup xs) m) (k : Kt G F Q0 Q) (v : VRs G.K F vs xs) :
    ∀ p, H p = none → Q (.ref p) (upd H p (.tup vs)) := fun p hp =>
  k _ _ _ (upd F p (.tup vs)) _ h (Ex.new (r.freeF hp)) (r.data hp) (.tup upd_same (v.mono (Ex.new (r.freeF hp))))
/-- a two-place operation, told of data -/
abbrev D2 := DV → DV → Sto → DK → Prop
def LR2 (G : Gam) (R : D2) : R2 := fun x y H Q => ∃ F m d1 d2 Q0, Rel G F m H ∧ VR G.K F x d1 ∧ VR G.K F y d2 ∧ R d1 d2 m Q0 ∧ Kt G F Q0 Q
def wOp (R : D2) (wa wb : DE) : DE := fun δ m Q => wa δ m fun x m1 => wb δ m1 fun y m2 => R x y m2 Q
theorem le_op {G : Gam} {R : D2} {wa wb : DE} {σ : L2.St} {H : Hp} {Q : VK} (h : LE G (wOp R wa wb) σ H Q) : tOp (LR2 G R) (LE G wa) (LE G wb) σ H Q := by
  obtain ⟨F, m, δ, Q0, r, s, h, k⟩ := h
  refine ⟨F, m, δ, _, r, s, h, fun d1 m1 x F1 H1 h1 e1 r1 v1 => ⟨F1, m1, δ, _, r1, s.mono e1, h1, fun d2 m2 y F2 H2 h2 e2 r2 v2 => ?_⟩⟩
  exact ⟨F2, m2, d1, d2, Q0, r2, v1.mono e2, v2, h2, k.mono (e1.trans e2)⟩
theorem pd_op {X : Cx} {G : Gam} {op : Operator} {R : D2} {wa wb : DE} {a b : Expr} {pos : Pos} (ho : OpR X (binaryOp op) (LR2 G R)) (ha : PE X a (LE G wa)) (hb : PE X b (LE G wb)) : PE X (.BinOp a op b pos) (LE G (wOp R wa wb)) :=
  PE.imp (pe_op ho ha hb) fun _ _ _ h => le_op h
theorem pd_cmp {X : Cx} {G : Gam} {op : CmpOp} {R : D2} {wa wb : DE} {a b : Expr} {pos : Pos} (ho : OpR X (compareOp op) (LR2 G R)) (ha : PE X a (LE G wa)) (hb : PE X b (LE G wb)) (hm : behindInMarks op b = false) : PE X (.Compare a [op] [b] pos) (LE G (wOp R wa wb)) :=
  PE.imp (pe_cmpR ho ha hb hm) fun _ _ _ h => le_op h
/-- lists of any provenance joined -/
def rCatL (K : PySem.W.Frag) : R2 := fun x y H Q => ∃ l b xs zs, x = .ref l ∧ y = .ref b ∧ SqL K H l xs ∧ SqL K H b zs ∧ xs.length + zs.length ≤ sizeLine ∧ ∀ p, H p = none → Q (.ref p) (upd H p (.lst (xs ++ zs)))
theorem op_catL {X : Cx} : OpR X (binaryOp .Add) (rCatL X.K) := by
  intro pins s σ H x y v u Q I rx ry h
  obtain ⟨l, b, xs, zs, rfl, rfl, hH, hB, hz, q⟩ := h
  cases rx
  cases ry
  obtain ⟨its, r, ⟨o, n, e, c1, c2, c3⟩, z⟩ := I.list hH
  obtain ⟨its2, r2, ⟨o2, n2, e2, d1, d2, d3⟩, z2⟩ := I.list hB
  obtain ⟨oc, od, dt, sl⟩ := o
  obtain ⟨oc2, od2, dt2, sl2⟩ := o2
  simp only at c1 c2 c3 d1 d2 d3
  subst c1 c2 c3 d1 d2 d3
  have hl := r.length
  have hl2 := r2.length
  refine concat_meets ⟨_, e, rfl⟩ ⟨_, e2, rfl⟩ noFill_list_add seq_list_add PySem.F.slot_list_add PySem.F.entry_list_add (PySem.F.args_list_add_2 _ _) (list_addW l b its.toArray its2.toArray n n2 none none sl sl2 (by simp only [List.size_toArray]; omega)) ⟨e, e2, ?_⟩
  have ea : its.toArray ++ its2.toArray = (its ++ its2).toArray := by simp
  rw [ea]
  exact ⟨.ref _, _, I.lnew (t' := s.toks) (r.append r2) (by rw [List.length_append]; omega), rfl, q _ I.fresh⟩
def dAdd (mu : Bool) : D2 := fun x y m Q => match x, y with
  | .int i, .int j => Q (.int (i + j)) m
  | .int i, .bl k => Q (.int (i + b2i k)) m
  | .str a, .str b => a.length + b.length ≤ sizeLine ∧ Q (.str (a ++ b)) m
  | .tup xs, .tup ys => xs ≠ [] ∧ xs.length + ys.length ≤ sizeLine ∧ Q (.tup (xs ++ ys)) m
  | x, y => ∃ xs ys, asL m x = some xs ∧ asL m y = some ys ∧ xs.length + ys.length ≤ sizeLine ∧ newL mu (xs ++ ys) m Q
theorem dAdd_list {mu : Bool} {x y : DV} {m : Sto} {Q : DK} {xs ys : List DV} (hx : asL m x = some xs) (hy : asL m y = some ys) (h : xs.length + ys.length ≤ sizeLine) (q : newL mu (xs ++ ys) m Q) : dAdd mu x y m Q := by
  cases x <;> first
    | exact ⟨xs, ys, hx, hy, h, q⟩
    | (simp only [asL] at hx; cases hx)
theorem catL_ok {G : Gam} {F H : Hp} {m : Sto} {x y : V} {d1 d2 : DV} {mu : Bool} {Q0 : DK} {Q : VK} (r : Rel G F m H) (v1 : VR G.K F x d1) (v2 : VR G.K F y d2) (k : Kt G F Q0 Q)
    (h : ∃ xs ys, asL m d1 = some xs ∧ asL m d2 = some ys ∧ xs.length + ys.length ≤ sizeLine ∧ newL mu (xs ++ ys) m Q0) : rCatL G.K x y H Q := by
  obtain ⟨xs, ys, hx, hy, hz, q⟩ := h
  obtain ⟨a, vs, rfl, ha, ra⟩ := asL_ok r v1 hx
  obtain ⟨b, ws, rfl, hb, rb⟩ := asL_ok r v2 hy
  exact ⟨a, b, vs, ws, rfl, rfl, ha, hb, by rw [ra.length, rb.length]; exact hz, newL_ok r q k (ra.append rb)⟩
theorem od_add {X : Cx} {G : Gam} (hK : X.K = G.K) (mu : Bool) : OpR X (binaryOp .Add) (LR2 G (dAdd mu)) := by
  intro pins s σ H x y v u Q I rx ry h
  obtain ⟨F, m, d1, d2, Q0, r, v1, v2, h, k⟩ := h
  have viaL : (∃ xs ys, asL m d1 = some xs ∧ asL m d2 = some ys ∧ xs.length + ys.length ≤ sizeLine ∧ newL mu (xs ++ ys) m Q0) → wpAny (model X.prog X.w) X.A (binaryOp .Add v u) (EP X pins σ Q) X.xe s := fun z => by
    refine op_catL pins s σ H x y v u Q I rx ry ?_
    rw [hK]
    exact catL_ok r v1 v2 k z
  cases v1 with
  | int i =>
    cases v2 with
    | int j => exact op_add pins s σ H _ _ v u Q I rx ry ⟨i, j, rfl, rfl, k _ _ _ _ _ h (Ex.refl F) r (.int _)⟩
    | bl j => exact op_add_ib pins s σ H _ _ v u Q I rx ry ⟨i, j, rfl, rfl, k _ _ _ _ _ h (Ex.refl F) r (.int _)⟩
    | _ => exact viaL h
  | str a =>
    cases v2 with
    | str b => exact op_add_str pins s σ H _ _ v u Q I rx ry ⟨a, b, rfl, rfl, h.1, k _ _ _ _ _ h.2 (Ex.refl F) r (.str _)⟩
    | _ => exact viaL h
  | @tup a vs ds hs hr =>
    cases v2 with
    | @tup b ws es ht hq =>
      obtain ⟨h1, h2, h3⟩ := h
      refine op_catT pins s σ H _ _ v u Q I rx ry ⟨a, b, vs, ws, rfl, rfl, ?_, ?_, fun z => h1 ?_, by rw [hr.length, hq.length]; exact h2, fun z => ?_, fun z => newT_ok r h3 k (hr.append hq)⟩
      · rw [hK]; exact SqT.of (r.ex _ _ hs)
      · rw [hK]; exact SqT.of (r.ex _ _ ht)
      · subst z; cases hr; rfl
      · subst z
        cases hq
        have h3' : Q0 (.tup ds) m := by rw [List.append_nil] at h3; exact h3
        exact k _ _ _ _ _ h3' (Ex.refl F) r (.tup hs hr)
    | _ => exact viaL h
  | _ => exact viaL (by cases v2 <;> exact h)
end DL
namespace DL
open PySem PySem.Spec PyProof.Rows L2
def dSub : D2 := fun x y m Q => match x, y with
  | .int i, .int j => Q (.int (i - j)) m
  | _, _ => False
theorem od_sub {X : Cx} {G : Gam} : OpR X (binaryOp .Sub) (LR2 G dSub) := by
  intro pins s σ H x y v u Q I rx ry h
  obtain ⟨F, m, d1, d2, Q0, r, v1, v2, h, k⟩ := h
  cases v1 with
  | int i =>
    cases v2 with
    | int j => exact op_sub pins s σ H _ _ v u Q I rx ry ⟨i, j, rfl, rfl, k _ _ _ _ _ h (Ex.refl F) r (.int _)⟩
    | _ => exact False.elim h
  | _ => exact False.elim (by cases v2 <;> exact h)
/-- a list k times over -/
def rRepL (K : PySem.W.Frag) : R2 := fun x y H Q => ∃ l k xs, x = .ref l ∧ y = .int k ∧ SqL K H l xs ∧ -(2 ^ 63) ≤ k ∧ k < 2 ^ 63 ∧ xs.length * k.toNat ≤ sizeLine ∧ ∀ p, H p = none → Q (.ref p) (upd H p (.lst (List.replicate k.toNat xs).flatten))
theorem op_repL {X : Cx} : OpR X (binaryOp .Mult) (rRepL X.K) := by
  intro pins s σ H x y v u Q I rx ry h
  obtain ⟨l, k, xs, rfl, rfl, hH, h1, h2, hz, q⟩ := h
  cases rx
  obtain ⟨t, rfl⟩ := ry
  obtain ⟨its, r, ⟨o, n, e, c1, c2, c3⟩, z⟩ := I.list hH
  obtain ⟨oc, od, dt, sl⟩ := o
  simp only at c1 c2 c3
  subst c1 c2 c3
  have hl := r.length
  have hlen : its.toArray.size * k.toNat ≤ sizeLine := by rw [List.size_toArray, ← hl]; exact hz
  have hcap : ¬ its.toArray.size * k.toNat > (2 ^ 63 - 1) / 8 := by
    have : (sizeLine : Nat) ≤ (2 ^ 63 - 1) / 8 := by decide
    omega
  have hfit : ¬ (!Builtin.List.listFitsIndex k) = true := by
    rw [fitsIndex_both h1 h2]
    exact Bool.false_ne_true
  have hlong : ¬ Builtin.List.listTooLong (its.toArray.size * k.toNat) = true := by
    rw [notLongL hlen]
    exact Bool.false_ne_true
  have hnew : List.foldl (fun x1 x2 => x1 ++ x2) #[] (List.replicate (if its.toArray.isEmpty = true then 0 else k.toNat) its.toArray) = (List.replicate k.toNat its).flatten.toArray := by
    have f0 : ∀ m : Nat, List.foldl (fun x1 x2 => x1 ++ x2) #[] (List.replicate m its.toArray) = (List.replicate m its).flatten.toArray := fun m => by
      have := foldl_rep its m []
      rw [List.nil_append] at this
      exact this
    rw [f0]
    cases its with
    | nil => simp
    | cons a r' => rw [if_neg (by simp)]
  refine wpAny_binaryOp_repeat_ref (T := "list") (U := "int") (by decide) ⟨_, e, rfl⟩ (fun s' => typeIs_int s' k t) noFill_list_mul F.fills_int_mul F.slot_int_rmul repeat_list F.slot_int_index.lookup
    (call_meets F.slot_int_rmul (typeIs_int s k t) F.entry_int_rmul (F.args_int_rmul_2 _ _) (lm_int_rmul_list_any k t l its.toArray n none sl)
      ⟨e, rfl, ⟨_, e, rfl⟩, call_meets F.slot_list_mul ⟨_, e, rfl⟩ F.entry_list_mul (F.args_list_mul_2 _ _) (lm_list_mul_any l its.toArray n none sl k t hfit hcap hlong) ⟨e, ?_⟩⟩)
  rw [hnew]
  exact ⟨.ref _, _, I.lnew (t' := s.toks) (r.rep k.toNat) (by rw [PyProof.Rows.lm_len_rep_flat, Nat.mul_comm]; exact hz), rfl, q _ I.fresh⟩
theorem VRs.rep {K : PySem.W.Frag} {F : Hp} {vs : List V} {ds : List DV} (h : VRs K F vs ds) : ∀ n : Nat, VRs K F (List.replicate n vs).flatten (List.replicate n ds).flatten
  | 0 => .nil
  | n + 1 => by
    rw [List.replicate_succ, List.replicate_succ, List.flatten_cons, List.flatten_cons]
    exact h.append (VRs.rep h n)
/-- * of two factors of which one is short, or which are together of less than a million bits -/
def CMulD (i j : Int) : Prop := ((-(2 ^ 64) < i ∧ i < 2 ^ 64) ∨ (-(2 ^ 64) < j ∧ j < 2 ^ 64)) ∨ i.natAbs.log2 + j.natAbs.log2 < 1000000
theorem short_bits {i : Int} (h : -(2 ^ 64) < i ∧ i < 2 ^ 64) : Builtin.Int.intBits i ≤ 64 := PyProof.Rows.intBits_le (by
  have e : (2 : Int) ^ 64 = 18446744073709551616 := by decide
  have e2 : (2 : Nat) ^ 64 = 18446744073709551616 := by decide
  rw [e2]; rw [e] at h; omega)
theorem CMulD.ok {i j : Int} (h : CMulD i j) : IntMulOk i j := by
  rcases h with (h | h) | h
  · exact .of_left (short_bits h)
  · exact .of_right (short_bits h)
  · exact CMulW.ok h
theorem op_mulD {X : Cx} : OpR X (binaryOp .Mult) (rI CMulD fun i j => .int (i * j)) := opI fun _ _ _ _ _ _ _ hc q => mul_int q hc.ok
def dMul (mu : Bool) : D2 := fun x y m Q => match x, y with
  | .int i, .int j => CMulD i j ∧ Q (.int (i * j)) m
  | x, .int k => ∃ xs, asL m x = some xs ∧ -(2 ^ 63) ≤ k ∧ k < 2 ^ 63 ∧ xs.length * k.toNat ≤ sizeLine ∧ newL mu (List.replicate k.toNat xs).flatten m Q
  | _, _ => False
theorem od_mul {X : Cx} {G : Gam} (hK : X.K = G.K) (mu : Bool) : OpR X (binaryOp .Mult) (LR2 G (dMul mu)) := by
  intro pins s σ H x y v u Q I rx ry h
  obtain ⟨F, m, d1, d2, Q0, r, v1, v2, h, k⟩ := h
  cases v2 with
  | int j =>
    have viaL : (∃ xs, asL m d1 = some xs ∧ -(2 ^ 63) ≤ j ∧ j < 2 ^ 63 ∧ xs.length * j.toNat ≤ sizeLine ∧ newL mu (List.replicate j.toNat xs).flatten m Q0) → wpAny (model X.prog X.w) X.A (binaryOp .Mult v u) (EP X pins σ Q) X.xe s := fun z => by
      obtain ⟨xs, hx, h1, h2, h3, q⟩ := z
      obtain ⟨a, vs, rfl, ha, ra⟩ := asL_ok r v1 hx
      exact op_repL pins s σ H _ _ v u Q I rx ry ⟨a, j, vs, rfl, rfl, by rw [hK]; exact ha, h1, h2, by rw [ra.length]; exact h3, newL_ok r q k (ra.rep _)⟩
    cases v1 with
    | int i => exact op_mulD pins s σ H _ _ v u Q I rx ry ⟨i, j, rfl, rfl, h.1, k _ _ _ _ _ h.2 (Ex.refl F) r (.int _)⟩
    | _ => exact viaL h
  | _ => exact False.elim (by cases v1 <;> exact h)
def dDiv : D2 := fun x y m Q => match x, y with
  | .int i, .int j => 0 < j ∧ j.natAbs.log2 < 9000 ∧ Q (.int (i / j)) m
  | _, _ => False
theorem od_div {X : Cx} {G : Gam} : OpR X (binaryOp .FloorDiv) (LR2 G dDiv) := by
  intro pins s σ H x y v u Q I rx ry h
  obtain ⟨F, m, d1, d2, Q0, r, v1, v2, h, k⟩ := h
  cases v1 with
  | int i =>
    cases v2 with
    | int j => exact op_fdivW pins s σ H _ _ v u Q I rx ry ⟨i, j, rfl, rfl, ⟨h.1, h.2.1⟩, k _ _ _ _ _ h.2.2 (Ex.refl F) r (.int _)⟩
    | _ => exact False.elim h
  | _ => exact False.elim (by cases v2 <;> exact h)
def dMod : D2 := fun x y m Q => match x, y with
  | .int i, .int j => 0 < j ∧ Q (.int (i % j)) m
  | _, _ => False
theorem od_mod {X : Cx} {G : Gam} : OpR X (binaryOp .Mod) (LR2 G dMod) := by
  intro pins s σ H x y v u Q I rx ry h
  obtain ⟨F, m, d1, d2, Q0, r, v1, v2, h, k⟩ := h
  cases v1 with
  | int i =>
    cases v2 with
    | int j => exact op_mod pins s σ H _ _ v u Q I rx ry ⟨i, j, rfl, rfl, h.1, k _ _ _ _ _ h.2 (Ex.refl F) r (.int _)⟩
    | _ => exact False.elim h
  | _ => exact False.elim (by cases v2 <;> exact h)
def dPow : D2 := fun x y m Q => match x, y with
  | .int i, .int j => 0 ≤ j ∧ j ≤ 1000000 ∧ i.natAbs < 2 ^ 64 ∧ Q (.int (i ^ j.toNat)) m
  | _, _ => False
theorem od_pow {X : Cx} {G : Gam} : OpR X (binaryOp .Pow) (LR2 G dPow) := by
  intro pins s σ H x y v u Q I rx ry h
  obtain ⟨F, m, d1, d2, Q0, r, v1, v2, h, k⟩ := h
  cases v1 with
  | int i =>
    cases v2 with
    | int j => exact op_pow pins s σ H _ _ v u Q I rx ry ⟨i, j, rfl, rfl, ⟨h.1, h.2.1, h.2.2.1⟩, k _ _ _ _ _ h.2.2.2 (Ex.refl F) r (.int _)⟩
    | _ => exact False.elim h
  | _ => exact False.elim (by cases v2 <;> exact h)
def dRel (p : Int → Int → Bool) : D2 := fun x y m Q => match x, y with
  | .int i, .int j => Q (.bl (p i j)) m
  | _, _ => False
theorem od_rel {X : Cx} {G : Gam} {op : CmpOp} {p : Int → Int → Bool} (ho : OpR X (compareOp op) (rI0 fun i j => .bl (p i j))) : OpR X (compareOp op) (LR2 G (dRel p)) := by
  intro pins s σ H x y v u Q I rx ry h
  obtain ⟨F, m, d1, d2, Q0, r, v1, v2, h, k⟩ := h
  cases v1 with
  | int i =>
    cases v2 with
    | int j => exact ho pins s σ H _ _ v u Q I rx ry ⟨i, j, rfl, rfl, k _ _ _ _ _ h (Ex.refl F) r (.bl _)⟩
    | _ => exact False.elim h
  | _ => exact False.elim (by cases v2 <;> exact h)
mutual
def py : DV → Option PyData
  | .non => some .none
  | .bl b => some (.bool b)
  | .int i => some (.int i)
  | .str x => some (.str x)
  | .ref _ => none
  | .lst xs => (pys xs).map .list
  | .tup xs => (pys xs).map .tuple
  | .ktup xs => (pys xs).map .tuple
  | .klst xs => (pys xs).map .list
def pys : List DV → Option (List PyData)
  | [] => some []
  | x :: xs => match py x, pys xs with
    | some a, some b => some (a :: b)
    | _, _ => none
end
mutual
theorem py_ok {K : PySem.W.Frag} {F : Hp} : ∀ {v : V} {d : DV} {p : PyData}, VR K F v d → py d = some p → Dp K F v p
  | _, _, _, .non, h => by simp only [py] at h; cases h; exact .non
  | _, _, _, .bl b, h => by simp only [py] at h; cases h; exact .bl b
  | _, _, _, .int i, h => by simp only [py] at h; cases h; exact .int i
  | _, _, _, .str x, h => by simp only [py] at h; cases h; exact .str x
  | _, _, _, .ref a, h => by simp only [py] at h; cases h
  | _, _, _, .lst (ds := ds) hs hr, h => by
    simp only [py] at h
    cases e : pys ds with
    | none => rw [e] at h; cases h
    | some ps => rw [e] at h; cases h; exact .lst (.inl hs) (pys_ok hr e)
  | _, _, _, .tup (ds := ds) hs hr, h => by
    simp only [py] at h
    cases e : pys ds with
    | none => rw [e] at h; cases h
    | some ps => rw [e] at h; cases h; exact .tup (SqT.of hs) (pys_ok hr e)
  | _, _, _, .ktup (ds := ds) hs hr, h => by
    simp only [py] at h
    cases e : pys ds with
    | none => rw [e] at h; cases h
    | some ps => rw [e] at h; cases h; exact .tup (Ex.sqT ex_none hs) (pys_ok hr e)
  | _, _, _, .klst (ds := ds) hs hr, h => by
    simp only [py] at h
    cases e : pys ds with
    | none => rw [e] at h; cases h
    | some ps => rw [e] at h; cases h; exact .lst (Ex.sqL ex_none hs) (pys_ok hr e)
theorem pys_ok {K : PySem.W.Frag} {F : Hp} : ∀ {vs : List V} {ds : List DV} {ps : List PyData}, VRs K F vs ds → pys ds = some ps → DpAll K F vs ps
  | _, _, _, .nil, h => by simp only [pys] at h; cases h; exact .nil
  | _, _, _, .cons (d := d) (ds := ds) hv hr, h => by
    simp only [pys] at h
    cases e1 : py d with
    | none => rw [e1] at h; cases h
    | some a =>
      cases e2 : pys ds with
      | none => rw [e1, e2] at h; cases h
      | some b => rw [e1, e2] at h; cases h; exact .cons (py_ok hv e1) (pys_ok hr e2)
end
mutual
theorem dp_mono {K : PySem.W.Frag} {F F' : Hp} (e : Ex F F') : ∀ {v : V} {p : PyData}, Dp K F v p → Dp K F' v p
  | _, _, .non => .non
  | _, _, .bl b => .bl b
  | _, _, .int i => .int i
  | _, _, .str x => .str x
  | _, _, .lst h r => .lst (e.sqL h) (dps_mono e r)
  | _, _, .tup h r => .tup (e.sqT h) (dps_mono e r)
theorem dps_mono {K : PySem.W.Frag} {F F' : Hp} (e : Ex F F') : ∀ {vs : List V} {ps : List PyData}, DpAll K F vs ps → DpAll K F' vs ps
  | _, _, .nil => .nil
  | _, _, .cons h r => .cons (dp_mono e h) (dps_mono e r)
end
/-- a value, or a list of the store whose items are data -/
def asPy (m : Sto) (d : DV) : Option PyData := match asL m d with
  | some xs => (pys xs).map .list
  | none => py d
theorem asPy_ok {G : Gam} {F H : Hp} {m : Sto} {x : V} {d : DV} {p : PyData} (r : Rel G F m H) (v : VR G.K F x d) (h : asPy m d = some p) : Dp G.K H x p := by
  unfold asPy at h
  cases e : asL m d with
  | none => rw [e] at h; exact dp_mono r.ex (py_ok v h)
  | some xs =>
    rw [e] at h
    obtain ⟨a, vs, rfl, hs, hr⟩ := asL_ok r v e
    dsimp only at h
    cases e2 : pys xs with
    | none => rw [e2] at h; cases h
    | some ps => rw [e2] at h; cases h; exact .lst hs (dps_mono r.ex (pys_ok hr e2))
/-- == of what is told apart at sight -/
def scEq : DV → DV → Option Bool
  | .non, .non => some true
  | .non, .int _ => some false | .int _, .non => some false
  | .non, .bl _ => some false | .bl _, .non => some false
  | .non, .str _ => some false | .str _, .non => some false
  | .int i, .int j => some (decide (i = j))
  | .bl i, .bl j => some (decide (i = j))
  | .str i, .str j => some (decide (i = j))
  | .int _, .str _ => some false | .str _, .int _ => some false
  | .bl _, .str _ => some false | .str _, .bl _ => some false
  | _, _ => none
/-- a dict beside an empty one -/
def emptyD (m : Sto) : DV → DV → Option Bool
  | .ref a, .ref b => match m a, m b with
    | some (.dct ks), some (.dct []) => some ks.isEmpty
    | _, _ => none
  | _, _ => none
def dEq (neg : Bool) : D2 := fun x y m Q => match scEq x y with
  | some b => Q (.bl (xor neg b)) m
  | none => match emptyD m x y with
    | some b => Q (.bl (xor neg b)) m
    | none => ∃ a b, asPy m x = some a ∧ asPy m y = some b ∧ SeqAt.shaped a = true ∧ SeqAt.shaped b = true ∧ Q (.bl (xor neg (PyData.eqv a b))) m
theorem sc_ok {K : PySem.W.Frag} {F : Hp} {x y : V} {d e : DV} {b : Bool} (v : VR K F x d) (u : VR K F y e) (h : scEq d e = some b) : scal x y = true ∧ decide (x = y) = b := by
  cases v <;> cases u <;> simp only [scEq, Option.some.injEq, reduceCtorEq] at h <;> subst h <;> refine ⟨rfl, ?_⟩ <;> simp
theorem od_eq {X : Cx} {G : Gam} (hK : X.K = G.K) (hu : X.A.units + 65 < cLine) (neg : Bool) {op : CmpOp} (ho : op = if neg = true then .NotEq else .Eq) : OpR X (compareOp op) (LR2 G (dEq neg)) := by
  intro pins s σ H x y v u Q I rx ry h
  obtain ⟨F, m, d1, d2, Q0, r, v1, v2, h, k⟩ := h
  unfold dEq at h
  cases e : scEq d1 d2 with
  | some b =>
    rw [e] at h
    obtain ⟨h1, h2⟩ := sc_ok v1 v2 e
    cases neg with
    | true =>
      subst ho
      refine op_ne pins s σ H x y v u Q I rx ry ⟨h1, ?_⟩
      rw [h2]
      have h' : Q0 (.bl (!b)) m := by cases b <;> exact h
      exact k _ _ _ _ _ h' (Ex.refl F) r (.bl _)
    | false =>
      subst ho
      refine op_eq pins s σ H x y v u Q I rx ry ⟨h1, ?_⟩
      rw [h2]
      have h' : Q0 (.bl b) m := by cases b <;> exact h
      exact k _ _ _ _ _ h' (Ex.refl F) r (.bl _)
  | none =>
    rw [e] at h
    cases e2 : emptyD m d1 d2 with
    | some b =>
      rw [e2] at h
      cases v1 <;> simp only [emptyD, reduceCtorEq] at e2
      cases v2 <;> simp only [emptyD, reduceCtorEq] at e2
      rename_i a c
      cases ea : m a with
      | none => rw [ea] at e2; cases e2
      | some oa =>
        cases ec : m c with
        | none => rw [ea, ec] at e2; cases oa <;> cases e2
        | some oc =>
          rw [ea, ec] at e2
          cases oa with
          | dct ks =>
            cases oc with
            | dct ls =>
              cases ls with
              | cons _ _ => cases e2
              | nil =>
                have eb : ks.isEmpty = b := Option.some.inj e2
                obtain ⟨_, ua, hua, ka, rfl, ra⟩ := r.mo a _ ea
                obtain ⟨_, uc, huc, kc, rfl, rc⟩ := r.mo c _ ec
                cases rc
                obtain rfl : v = Value.ref a := rx
                obtain rfl : u = Value.ref c := ry
                obtain ⟨_, ya, va, qa, da⟩ := (show ObjOk X.prog X.w H s.heap a (.dK ka) from I.hok a _ hua)
                obtain ⟨_, yb, vb, qb, db⟩ := (show ObjOk X.prog X.w H s.heap c (.dK []) from I.hok c _ huc)
                cases qb
                have hl : va.length = ks.length := by rw [← qa.length]; exact Paired.length ra
                have hb : (va.length == ([] : List (Key × Value)).length && true) = b := by
                  rw [Bool.and_true, ← eb, hl]
                  cases ks <;> rfl
                have hits : va.length = ([] : List (Key × Value)).length → PySem.W.KeqHits X.A.in1 s ([] : List (Key × Value)) va true := fun z => by
                  cases va with
                  | nil => exact .nil
                  | cons _ _ => cases z
                cases neg with
                | true =>
                  subst ho
                  have h' : Q0 (.bl (!b)) m := by cases b <;> exact h
                  exact PySem.W.keq_ne (knd := mixKind X.prog X.w) (r := true) ya yb da db (by omega) hits (fin_bl I (k _ _ _ _ _ h' (Ex.refl F) r (.bl _)) (by rw [hb]))
                | false =>
                  subst ho
                  have h' : Q0 (.bl b) m := by cases b <;> exact h
                  exact PySem.W.keq_eq (knd := mixKind X.prog X.w) (r := true) ya yb da db (by omega) hits (fin_bl I (k _ _ _ _ _ h' (Ex.refl F) r (.bl _)) (by rw [hb]))
            | _ => cases e2
          | _ => cases oc <;> cases e2
    | none =>
      rw [e2] at h
      obtain ⟨a, b, ha, hb, sa, sb, q⟩ := h
      have pa := asPy_ok r v1 ha
      have pb := asPy_ok r v2 hb
      cases neg with
      | true =>
        subst ho
        have q' : Q0 (.bl (!PyData.eqv a b)) m := by cases z : PyData.eqv a b <;> (rw [z] at q; exact q)
        exact op_neD (by omega) pins s σ H x y v u Q I rx ry ⟨a, b, by rw [hK]; exact pa, by rw [hK]; exact pb, sa, sb, k _ _ _ _ _ q' (Ex.refl F) r (.bl _)⟩
      | false =>
        subst ho
        have q' : Q0 (.bl (PyData.eqv a b)) m := by cases z : PyData.eqv a b <;> (rw [z] at q; exact q)
        exact op_eqD (by omega) pins s σ H x y v u Q I rx ry ⟨a, b, by rw [hK]; exact pa, by rw [hK]; exact pb, sa, sb, k _ _ _ _ _ q' (Ex.refl F) r (.bl _)⟩
end DL
namespace DL
open PySem PySem.Spec PyProof.Rows L2
section
variable {κ : Type} [DecidableEq κ]
def lookD (kvs : List (κ × DV)) (k : κ) : Option DV := match kvs with
  | [] => none
  | (j, d) :: r => if j = k then some d else lookD r k
def putD (kvs : List (κ × DV)) (k : κ) (d : DV) : List (κ × DV) := match kvs with
  | [] => [(k, d)]
  | (j, e) :: r => if j = k then (j, d) :: r else (j, e) :: putD r k d
def dropD (kvs : List (κ × DV)) (k : κ) : List (κ × DV) := kvs.filter fun kv => decide (kv.1 ≠ k)
variable {K : PySem.W.Frag} {F : Hp}
theorem KR.look {vs : List (κ × V)} {ds : List (κ × DV)} (h : KR K F vs ds) (k : κ) : (∀ d, lookD ds k = some d → ∃ v, valV vs k = some v ∧ VR K F v d) ∧ (lookD ds k = none → valV vs k = none) := by
  unfold KR at h
  induction h with
  | nil => exact ⟨fun d e => (by simp only [lookD] at e; cases e), fun _ => rfl⟩
  | @cons p q ps qs h t ih =>
    obtain ⟨h1, h2⟩ := h
    obtain ⟨j, d⟩ := q
    by_cases e : p.1 = k
    · have e' : j = k := h1.symm.trans e
      refine ⟨fun x hx => ⟨p.2, valV_pos e, ?_⟩, fun hx => ?_⟩
      · simp only [lookD, if_pos e'] at hx; cases hx; exact h2
      · simp only [lookD, if_pos e'] at hx; cases hx
    · have e' : ¬ j = k := fun z => e (h1.trans z)
      refine ⟨fun x hx => ?_, fun hx => ?_⟩
      · simp only [lookD, if_neg e'] at hx; rw [valV_neg e]; exact ih.1 x hx
      · simp only [lookD, if_neg e'] at hx; rw [valV_neg e]; exact ih.2 hx
theorem KR.isSome {vs : List (κ × V)} {ds : List (κ × DV)} (h : KR K F vs ds) (k : κ) : (valV vs k).isSome = (lookD ds k).isSome := by
  obtain ⟨h1, h2⟩ := KR.look h k
  cases e : lookD ds k with
  | none => rw [h2 e]; rfl
  | some d => obtain ⟨v, hv, _⟩ := h1 d e; rw [hv]; rfl
theorem KR.put {vs : List (κ × V)} {ds : List (κ × DV)} (h : KR K F vs ds) (hn : (vs.map (·.1)).Nodup) (k : κ) {v : V} {d : DV} (r : VR K F v d) : KR K F (putK vs k v) (putD ds k d) := by
  unfold KR at h ⊢
  induction h with
  | nil => exact .cons ⟨rfl, r⟩ .nil
  | @cons p q ps qs h t ih =>
    obtain ⟨j, e⟩ := q
    obtain ⟨h1, h2⟩ := h
    rw [List.map_cons, List.nodup_cons] at hn
    by_cases z : p.1 = k
    · have z' : j = k := h1.symm.trans z
      have hk : ∀ kv ∈ ps, ¬ kv.1 = k := fun kv hkv w => hn.1 (List.mem_map.mpr ⟨kv, hkv, by rw [w, z]⟩)
      have e1 : putK (p :: ps) k v = (p.1, v) :: ps := by
        unfold putK
        rw [List.any_cons, decide_eq_true z, Bool.true_or, if_pos rfl, List.map_cons, if_pos z]
        congr 1
        have : ∀ l : List (κ × V), (∀ kv ∈ l, ¬ kv.1 = k) → l.map (fun kv => if kv.1 = k then (kv.1, v) else kv) = l := by
          intro l
          induction l with
          | nil => intro _; rfl
          | cons a b ih2 =>
            intro hl
            rw [List.map_cons, if_neg (hl a List.mem_cons_self), ih2 fun kv hkv => hl kv (List.mem_cons_of_mem _ hkv)]
        exact this ps hk
      rw [e1]
      simp only [putD, if_pos z']
      exact .cons ⟨h1, r⟩ t
    · have z' : ¬ j = k := fun w => z (h1.trans w)
      have e1 : putK (p :: ps) k v = p :: putK ps k v := by
        unfold putK
        rw [List.any_cons, decide_eq_false z, Bool.false_or]
        by_cases w : (ps.any fun kv => decide (kv.1 = k)) = true
        · rw [if_pos w, if_pos w, List.map_cons, if_neg z]
        · rw [if_neg w, if_neg w, List.cons_append]
      rw [e1]
      simp only [putD, if_neg z']
      exact .cons ⟨h1, h2⟩ (ih hn.2)
theorem KR.drop {vs : List (κ × V)} {ds : List (κ × DV)} (h : KR K F vs ds) (k : κ) : KR K F (dropK vs k) (dropD ds k) := by
  unfold KR at h ⊢
  unfold dropK dropD
  induction h with
  | nil => exact .nil
  | @cons p q ps qs h t ih =>
    obtain ⟨h1, h2⟩ := h
    rw [List.filter_cons, List.filter_cons]
    by_cases e : p.1 = k
    · have a : ¬ decide (p.1 ≠ k) = true := by simp [e]
      have b : ¬ decide (q.1 ≠ k) = true := by simp [h1.symm.trans e]
      rw [if_neg a, if_neg b]; exact ih
    · have e' : ¬ q.1 = k := fun z => e (h1.trans z)
      have a : decide (p.1 ≠ k) = true := by simp [e]
      have b : decide (q.1 ≠ k) = true := by simp [e']
      rw [if_pos a, if_pos b]; exact .cons ⟨h1, h2⟩ ih
theorem KR.keys {vs : List (κ × V)} {ds : List (κ × DV)} (h : KR K F vs ds) : vs.map (·.1) = ds.map (·.1) := by
  unfold KR at h
  induction h with
  | nil => rfl
  | cons h t ih => rw [List.map_cons, List.map_cons, ih, h.1]
theorem KR.length {vs : List (κ × V)} {ds : List (κ × DV)} (h : KR K F vs ds) : vs.length = ds.length := Paired.length h
theorem lookD_put {kvs : List (κ × DV)} {k j : κ} {d : DV} : lookD (putD kvs k d) j = if j = k then some d else lookD kvs j := by
  induction kvs with
  | nil =>
    by_cases e : j = k
    · subst e; simp [putD, lookD]
    · have e' : ¬ k = j := fun z => e z.symm
      simp [putD, lookD, e, e']
  | cons p r ih =>
    obtain ⟨i, e⟩ := p
    by_cases z : i = k
    · subst z
      simp only [putD, if_pos]
      by_cases y : i = j
      · subst y; simp [lookD]
      · have y' : ¬ j = i := fun w => y w.symm
        simp [lookD, y, y']
    · simp only [putD, if_neg z]
      by_cases y : i = j
      · subst y; simp [lookD, z]
      · simp only [lookD, if_neg y]; exact ih
end
theorem paired_keys {κ α β : Type} {R : κ × α → κ × β → Prop} {as : List (κ × α)} {bs : List (κ × β)} (h : Paired R as bs) (k : ∀ a b, R a b → a.1 = b.1) : as.map (·.1) = bs.map (·.1) := by
  induction h with
  | nil => rfl
  | cons h t ih => rw [List.map_cons, List.map_cons, ih, k _ _ h]
/-- the keys of a dict that is tracked stand once -/
theorem dk_nodup {X : Cx} {pins : List (Addr × Obj)} {σ : L2.St} {H : Hp} {s : Shared} {a : Addr} {kvs : List (Key × V)} (I : Inv X pins σ H s) (h : H a = some (.dK kvs)) : (kvs.map (·.1)).Nodup := by
  obtain ⟨_, _, vs, rel, o, es, ep, _, _, _, hp⟩ := dk_of I.hok h
  rw [rel.keys]
  exact hp.2.2
theorem dt_nodup {X : Cx} {pins : List (Addr × Obj)} {σ : L2.St} {H : Hp} {s : Shared} {a : Addr} {kvs : List (List Key × V)} (I : Inv X pins σ H s) (h : H a = some (.dT kvs)) : (kvs.map (·.1)).Nodup := by
  obtain ⟨_, _, xs, rel, o, es, ep, _, _, _, hp⟩ := I.hok a _ h
  rw [paired_keys rel fun _ _ z => z.1]
  exact hp.2
def kD : Key → DV
  | .inl i => .int i
  | .inr x => .str x
def dK? : DV → Option Key
  | .int i => some (.inl i)
  | .str x => some (.inr x)
  | _ => none
def dKs? : List DV → Option (List Key)
  | [] => some []
  | d :: r => match dK? d, dKs? r with
    | some k, some ks => some (k :: ks)
    | _, _ => none
section
variable {K : PySem.W.Frag} {F : Hp}
theorem vr_key {v : V} {d : DV} {k : Key} (h : VR K F v d) (e : dK? d = some k) : v = kV k := by
  cases h <;> simp only [dK?, Option.some.injEq, reduceCtorEq] at e <;> subst e <;> rfl
theorem vr_keys : ∀ {vs : List V} {ds : List DV} {ks : List Key}, VRs K F vs ds → dKs? ds = some ks → vs = ks.map kV
  | _, _, _, .nil, e => by simp only [dKs?] at e; cases e; rfl
  | _, _, _, .cons (d := d) (ds := ds) h t, e => by
    simp only [dKs?] at e
    cases e1 : dK? d with
    | none => rw [e1] at e; cases e
    | some k =>
      cases e2 : dKs? ds with
      | none => rw [e1, e2] at e; cases e
      | some ks => rw [e1, e2] at e; cases e; rw [vr_key h e1, vr_keys t e2]; rfl
end
/-- what a dict of the store gives at a key: none if this is no such look -/
def dictAt (m : Sto) (x y : DV) : Option (Option DV) := match x with
  | .ref p => match m p with
    | some (.dct kvs) => (dK? y).map fun k => lookD kvs k
    | some (.lck _ _ kvs) => (dK? y).map fun k => lookD kvs k
    | some (.dcT kvs) => match y with
      | .tup ds => (dKs? ds).map fun k => lookD kvs k
      | _ => none
    | _ => none
  | _ => none
theorem dictAt_ok {G : Gam} {F H : Hp} {m : Sto} {x y : V} {d e : DV} {o : Option DV} (r : Rel G F m H) (v : VR G.K F x d) (u : VR G.K F y e) (h : dictAt m d e = some o) :
    ∃ a o', x = .ref a ∧ DGet H a y o' ∧ (∀ z, o = some z → ∃ w, o' = some w ∧ VR G.K F w z) ∧ (o = none → o' = none) ∧ o'.isSome = o.isSome := by
  cases v <;> simp only [dictAt, reduceCtorEq] at h
  rename_i p
  cases em : m p with
  | none => rw [em] at h; cases h
  | some ob =>
    rw [em] at h
    cases ob with
    | dct kvs =>
      dsimp only at h
      cases ek : dK? e with
      | none => rw [ek] at h; cases h
      | some k =>
        rw [ek] at h
        obtain ⟨_, w, hw, kv, rfl, hr⟩ := r.mo p _ em
        have eo : lookD kvs k = o := Option.some.inj h
        subst eo
        refine ⟨p, valV kv k, rfl, ?_, fun z hz => (KR.look hr k).1 z hz, fun hz => (KR.look hr k).2 hz, KR.isSome hr k⟩
        rw [vr_key u ek]
        exact DGet.k hw
    | lck o1 kv kvs =>
      dsimp only at h
      cases ek : dK? e with
      | none => rw [ek] at h; cases h
      | some k =>
        rw [ek] at h
        obtain ⟨_, w, hw, rfl, hr⟩ := r.mo p _ em
        have eo : lookD kvs k = o := Option.some.inj h
        subst eo
        refine ⟨p, valV kv k, rfl, ?_, fun z hz => (KR.look hr k).1 z hz, fun hz => (KR.look hr k).2 hz, KR.isSome hr k⟩
        rw [vr_key u ek]
        exact .inl ⟨kv, k, .inr ⟨o1, hw⟩, rfl, rfl⟩
    | dcT kvs =>
      dsimp only at h
      cases u <;> simp only [reduceCtorEq] at h
      rename_i b vs ds hb hv
      cases ek : dKs? ds with
      | none => rw [ek] at h; cases h
      | some k =>
        rw [ek] at h
        obtain ⟨_, w, hw, kv, rfl, hr⟩ := r.mo p _ em
        have eo : lookD kvs k = o := Option.some.inj h
        subst eo
        refine ⟨p, valV kv k, rfl, ?_, fun z hz => (KR.look hr k).1 z hz, fun hz => (KR.look hr k).2 hz, KR.isSome hr k⟩
        rw [vr_keys hv ek] at hb
        exact DGet.t hw (r.ex _ _ hb)
    | _ => cases h
def flatD : DV → Bool
  | .non => true | .bl _ => true | .int _ => true | .str _ => true
  | _ => false
def eqF : DV → DV → Bool
  | .non, .non => true
  | .bl a, .bl b => a == b
  | .bl a, .int b => (if a then 1 else 0) == b
  | .int a, .bl b => a == (if b then 1 else 0)
  | .int a, .int b => a == b
  | .str a, .str b => a == b
  | _, _ => false
section
variable {K : PySem.W.Frag} {F : Hp}
theorem flat_ok {v : V} {d : DV} (h : VR K F v d) (f : flatD d = true) : flatV v = true := by
  cases h <;> first | rfl | cases f
theorem flats_ok : ∀ {vs : List V} {ds : List DV}, VRs K F vs ds → ds.all flatD = true → vs.all flatV = true
  | _, _, .nil, _ => rfl
  | _, _, .cons h t, f => by
    rw [List.all_cons, Bool.and_eq_true] at f ⊢
    exact ⟨flat_ok h f.1, flats_ok t f.2⟩
theorem eqF_ok {v w : V} {d e : DV} (h : VR K F v d) (g : VR K F w e) (f : flatD d = true) (f' : flatD e = true) : eqV v w = eqF d e := by
  cases h <;> first
    | (cases g <;> first | rfl | cases f')
    | cases f
theorem any_ok {w : V} {e : DV} (g : VR K F w e) (f' : flatD e = true) : ∀ {vs : List V} {ds : List DV}, VRs K F vs ds → ds.all flatD = true → (vs.any fun y => eqV y w) = ds.any fun y => eqF y e
  | _, _, .nil, _ => rfl
  | _, _, .cons h t, f => by
    rw [List.all_cons, Bool.and_eq_true] at f
    rw [List.any_cons, List.any_cons, eqF_ok h g f.1 f', any_ok g f' t f.2]
end
/-- x in y: flat items of a list or tuple; the keys of a dict; one sign of a text -/
def dIn (neg : Bool) : D2 := fun x y m Q => match dictAt m y x with
  | some o => Q (.bl (xor neg o.isSome)) m
  | none => match asQ m y with
    | some ys => (flatD x && ys.all flatD) = true ∧ Q (.bl (xor neg (ys.any fun z => eqF z x))) m
    | none => match x, y with
      | .str w, .str z => ∃ c : Nat, w = ⟨#[c]⟩ ∧ Q (.bl (xor neg (decide (c ∈ z.cps.toList)))) m
      | _, _ => False
theorem od_in {X : Cx} {G : Gam} (hK : X.K = G.K) (hu : X.A.units + 1 < cLine) (neg : Bool) {op : CmpOp} (ho : op = if neg = true then .NotIn else .In) : OpR X (compareOp op) (LR2 G (dIn neg)) := by
  intro pins s σ H x y v u Q I rx ry h
  obtain ⟨F, m, d1, d2, Q0, r, v1, v2, h, k⟩ := h
  unfold dIn at h
  cases e : dictAt m d2 d1 with
  | some o =>
    rw [e] at h
    dsimp only at h
    obtain ⟨a, o', rfl, g, _, _, hs⟩ := dictAt_ok r v2 v1 e
    obtain rfl : u = Value.ref a := ry
    cases neg with
    | true =>
      subst ho
      have h' : Q0 (.bl (!o.isSome)) m := by cases z : o.isSome <;> (rw [z] at h; exact h)
      exact d_notIn hu I g rx fun s' I' => fin_bl I' (k _ _ _ _ _ h' (Ex.refl F) r (.bl _)) (by rw [hs])
    | false =>
      subst ho
      have h' : Q0 (.bl o.isSome) m := by cases z : o.isSome <;> (rw [z] at h; exact h)
      exact d_in hu I g rx fun s' I' => fin_bl I' (k _ _ _ _ _ h' (Ex.refl F) r (.bl _)) (by rw [hs])
  | none =>
    rw [e] at h
    dsimp only at h
    cases e2 : asQ m d2 with
    | some ys =>
      rw [e2] at h
      obtain ⟨f, q⟩ := h
      rw [Bool.and_eq_true] at f
      obtain ⟨a, vs, rfl, ha, ra⟩ := asQ_ok r v2 e2
      have ea : inV x vs = ys.any fun z => eqF z d1 := any_ok v1 f.1 ra f.2
      have go : ∀ b : Bool, Q0 (.bl (if b then !inV x vs else inV x vs)) m → Q (.bl (if b then !inV x vs else inV x vs)) H := fun b z => k _ _ _ _ _ z (Ex.refl F) r (.bl _)
      cases neg with
      | true =>
        subst ho
        refine op_notIn_seq pins s σ H _ _ v u Q I rx ry ⟨a, vs, rfl, by rw [hK]; exact ha, flat_ok v1 f.1, flats_ok ra f.2, go true ?_⟩
        rw [← ea] at q
        cases z : inV x vs <;> (rw [z] at q; exact q)
      | false =>
        subst ho
        refine op_in_seq pins s σ H _ _ v u Q I rx ry ⟨a, vs, rfl, by rw [hK]; exact ha, flat_ok v1 f.1, flats_ok ra f.2, go false ?_⟩
        rw [← ea] at q
        cases z : inV x vs <;> (rw [z] at q; exact q)
    | none =>
      rw [e2] at h
      dsimp only at h
      cases v1 <;> cases v2 <;> first
        | exact False.elim h
        | skip
      obtain ⟨c, rfl, q⟩ := h
      rename_i z
      cases neg with
      | true =>
        subst ho
        have q' : Q0 (.bl (!decide (c ∈ z.cps.toList))) m := by cases w : decide (c ∈ z.cps.toList) <;> (rw [w] at q; exact q)
        exact op_notIn_sign pins s σ H _ _ v u Q I rx ry ⟨c, z, rfl, rfl, k _ _ _ _ _ q' (Ex.refl F) r (.bl _)⟩
      | false =>
        subst ho
        have q' : Q0 (.bl (decide (c ∈ z.cps.toList))) m := by cases w : decide (c ∈ z.cps.toList) <;> (rw [w] at q; exact q)
        exact op_in_sign pins s σ H _ _ v u Q I rx ry ⟨c, z, rfl, rfl, k _ _ _ _ _ q' (Ex.refl F) r (.bl _)⟩
/-- is None, is not None -/
def dIsN (neg : Bool) : D2 := fun x y m Q => match y with
  | .non => match x with
    | .non => Q (.bl (!neg)) m
    | _ => Q (.bl neg) m
  | _ => False
theorem od_isN {X : Cx} {G : Gam} (neg : Bool) {op : CmpOp} (ho : op = if neg = true then .IsNot else .Is) : OpR X (compareOp op) (LR2 G (dIsN neg)) := by
  intro pins s σ H x y v u Q I rx ry h
  obtain ⟨F, m, d1, d2, Q0, r, v1, v2, h, k⟩ := h
  cases v2 <;> first | exact False.elim h | skip
  have key : ∀ b : Bool, Q0 (.bl b) m → Q (.bl b) H := fun b q => k _ _ _ _ _ q (Ex.refl F) r (.bl _)
  cases neg with
  | true =>
    subst ho
    refine op_notN pins s σ H _ _ v u Q I rx ry ⟨rfl, key _ ?_⟩
    cases v1 <;> exact h
  | false =>
    subst ho
    refine op_isN pins s σ H _ _ v u Q I rx ry ⟨rfl, key _ ?_⟩
    cases v1 <;> exact h
theorem plainIx_of {b : Expr} (h : ∀ lo hi st p, b ≠ .Slice lo hi st p) : PlainIx b := fun o i => by
  cases b <;> first
    | rfl
    | exact absurd rfl (h _ _ _ _)
theorem ix_dct {X : Cx} (hu : X.A.units + 1 < cLine) : IxR X (fun x y H Q => ∃ a v, x = .ref a ∧ DGet H a y (some v) ∧ Q v H) := by
  intro value slice pins s σ H x y v u Q I rx ry h hs
  obtain ⟨a, z, rfl, g, q⟩ := h
  obtain rfl : v = Value.ref a := rx
  exact tail_any (dict_typeIs I g) PySem.F.slot_dict_getitem.lookup (d_getItem hu I g ry fun w' s3 I3 rw' => ⟨z, H, I3, rw', q⟩) hs
def dIx : D2 := fun x y m Q => match dictAt m x y with
  | some o => match o with
    | some d => Q d m
    | none => False
  | none => match asQ m x with
    | some xs => match y with
      | .int i => match atI xs i with
        | some d => Q d m
        | none => False
      | _ => False
    | none => match x, y with
      | .str z, .int i => z.length ≤ sizeLine ∧ ∃ c, atI z.cps.toList i = some c ∧ Q (.str ⟨#[c]⟩) m
      | _, _ => False
theorem atI_vr {K : PySem.W.Frag} {F : Hp} {vs : List V} {ds : List DV} {i : Int} {d : DV} (h : VRs K F vs ds) (e : atI ds i = some d) : ∃ v, atI vs i = some v ∧ VR K F v d := by
  unfold atI at e ⊢
  rw [h.length]
  cases q : ixN ds.length i with
  | none => rw [q] at e; cases e
  | some j =>
    rw [q] at e
    obtain ⟨v, hv, r⟩ := h.get (i := j) e
    exact ⟨v, hv, r⟩
theorem od_ix {X : Cx} {G : Gam} (hK : X.K = G.K) (hu : X.A.units + 1 < cLine) : IxR X (LR2 G dIx) := by
  intro value slice pins s σ H x y v u Q I rx ry h hs
  obtain ⟨F, m, d1, d2, Q0, r, v1, v2, h, k⟩ := h
  unfold dIx at h
  cases e : dictAt m d1 d2 with
  | some o =>
    rw [e] at h
    cases o with
    | none => exact False.elim h
    | some d =>
      obtain ⟨a, o', rfl, g, hv, _, _⟩ := dictAt_ok r v1 v2 e
      obtain ⟨w, rfl, rw'⟩ := hv d rfl
      exact ix_dct hu value slice pins s σ H _ _ v u Q I rx ry ⟨a, w, rfl, g, k _ _ _ _ _ h (Ex.refl F) r rw'⟩ hs
  | none =>
    rw [e] at h
    dsimp only at h
    cases e2 : asQ m d1 with
    | some xs =>
      rw [e2] at h
      dsimp only at h
      cases v2 <;> first | exact False.elim h | skip
      rename_i i
      dsimp only at h
      cases e3 : atI xs i with
      | none => rw [e3] at h; exact False.elim h
      | some d =>
        rw [e3] at h
        obtain ⟨a, vs, rfl, ha, ra⟩ := asQ_ok r v1 e2
        obtain ⟨w, hw, rw'⟩ := atI_vr ra e3
        have q := k _ _ _ _ _ h (Ex.refl F) r rw'
        rcases ha with ha | ha
        · exact ix_list value slice pins s σ H _ _ v u Q I rx ry ⟨a, vs, i, w, rfl, rfl, by rw [hK]; exact ha, hw, q⟩ hs
        · exact ix_tup value slice pins s σ H _ _ v u Q I rx ry ⟨a, vs, i, w, rfl, rfl, by rw [hK]; exact ha, hw, q⟩ hs
    | none =>
      rw [e2] at h
      dsimp only at h
      cases v1 <;> cases v2 <;> first | exact False.elim h | skip
      obtain ⟨hz, c, hc, q⟩ := h
      exact ix_str value slice pins s σ H _ _ v u Q I rx ry ⟨_, _, c, rfl, rfl, hz, hc, k _ _ _ _ _ q (Ex.refl F) r (.str _)⟩ hs
theorem pd_ix {X : Cx} {G : Gam} {wa wb : DE} {a b : Expr} {pos : Pos} (hK : X.K = G.K) (hu : X.A.units + 1 < cLine) (ha : PE X a (LE G wa)) (hb : PE X b (LE G wb)) (hs : ∀ lo hi st p, b ≠ .Slice lo hi st p) : PE X (.Subscript a b pos) (LE G (wOp dIx wa wb)) :=
  PE.imp (pe_ix (od_ix hK hu) ha hb (plainIx_of hs)) fun _ _ _ h => le_op h
/-- a part of a slice -/
def wPart (w : Option DE) : Slots → Sto → (Option Int → Sto → Prop) → Prop := match w with
  | none => fun _ m Q => Q none m
  | some w => fun δ m Q => w δ m fun d m1 => match d with
    | .int i => Q (some i) m1
    | _ => False
def cutD (xs : List DV) (lo hi : Option Int) : List DV := (xs.drop (HT.sIx xs.length 0 lo)).take (HT.sIx xs.length xs.length hi - HT.sIx xs.length 0 lo)
def dSl (mu : Bool) : DV → Option Int → Option Int → Sto → DK → Prop := fun x lo hi m Q => match x with
  | .tup xs => Q (.tup (cutD xs lo hi)) m
  | .str z => z.length ≤ sizeLine ∧ Q (.str (cutS z lo hi)) m
  | x => ∃ xs, asL m x = some xs ∧ newL mu (cutD xs lo hi) m Q
def wSl (mu : Bool) (w : DE) (lo hi : Option DE) : DE := fun δ m Q => w δ m fun x m1 => wPart lo δ m1 fun l m2 => wPart hi δ m2 fun u m3 => dSl mu x l u m3 Q
def LO (G : Gam) (w : Option DE) : TO := fun σ H Q => ∃ F m δ Q0, Rel G F m H ∧ SR G.K F σ δ ∧ wPart w δ m Q0 ∧ ∀ o m' F' H', Q0 o m' → Ex F F' → Rel G F' m' H' → Q o H'
theorem po_none' {X : Cx} {G : Gam} : PO X none (LO G none) := by
  have h : PO X none tNoPart := po_none
  exact ⟨fun pins s σ H Q I q => h.run pins s σ H Q I (by obtain ⟨F, m, δ, Q0, r, s, h, k⟩ := q; exact k _ _ _ _ h (Ex.refl F) r)⟩
theorem po_some' {X : Cx} {G : Gam} {e : Expr} {w : DE} (he : PE X e (LE G w)) : PO X (some e) (LO G (some w)) := by
  have h : PO X (some e) (tPart (LE G w)) := po_some he
  refine ⟨fun pins s σ H Q I q => h.run pins s σ H Q I ?_⟩
  obtain ⟨F, m, δ, Q0, r, s, h, k⟩ := q
  refine ⟨F, m, δ, _, r, s, h, fun d m' v F' H' hd e1 r1 v1 => ?_⟩
  cases v1 <;> first | exact False.elim hd | skip
  exact ⟨_, rfl, k _ _ _ _ hd e1 r1⟩
theorem cut_ok {K : PySem.W.Frag} {F : Hp} {vs : List V} {ds : List DV} (h : VRs K F vs ds) (lo hi : Option Int) : VRs K F (cutV vs lo hi) (cutD ds lo hi) := by
  unfold cutV cutD
  rw [h.length]
  exact (h.drop _).take _
def LR3 (G : Gam) (R : DV → Option Int → Option Int → Sto → DK → Prop) : V → Option Int → Option Int → Hp → VK → Prop := fun x lo hi H Q => ∃ F m d Q0, Rel G F m H ∧ VR G.K F x d ∧ R d lo hi m Q0 ∧ Kt G F Q0 Q
theorem od_sl {X : Cx} {G : Gam} (hK : X.K = G.K) (mu : Bool) : SlR X (LR3 G (dSl mu)) := by
  intro pins s σ H x v vl vu lo hi sl Q I rx hs pl pu h
  obtain ⟨F, m, d, Q0, r, v1, h, k⟩ := h
  have viaL : (∃ xs, asL m d = some xs ∧ newL mu (cutD xs lo hi) m Q0) → ∃ T id, typeLookup (.type T) "__getitem__" = pure (some (.builtin id)) ∧ s.TypeIs v T ∧ wpAny (model X.prog X.w) X.A (getItem v (.ref sl)) (EP X pins σ Q) X.xe s := fun z => by
    obtain ⟨xs, hx, q⟩ := z
    obtain ⟨a, vs, rfl, ha, ra⟩ := asL_ok r v1 hx
    exact sl_list pins s σ H _ v vl vu lo hi sl Q I rx hs pl pu ⟨a, vs, rfl, by rw [hK]; exact ha, newL_ok r q k (cut_ok ra lo hi)⟩
  cases v1 with
  | @tup a vs ds ht hr =>
    refine sl_tupA pins s σ H _ v vl vu lo hi sl Q I rx hs pl pu ⟨a, vs, rfl, by rw [hK]; exact SqT.of (r.ex _ _ ht), fun z => ?_, fun _ => newT_ok r h k (cut_ok hr lo hi)⟩
    have e : cutD ds lo hi = ds := by
      unfold cutD
      rw [← hr.length, z.1, z.2, List.drop_zero, Nat.sub_zero, hr.length, List.take_length]
    have h' : Q0 (.tup ds) m := by rw [← e]; exact h
    exact k _ _ _ _ _ h' (Ex.refl F) r (.tup ht hr)
  | str z => exact sl_str pins s σ H _ v vl vu lo hi sl Q I rx hs pl pu ⟨z, rfl, h.1, k _ _ _ _ _ h.2 (Ex.refl F) r (.str _)⟩
  | _ => exact viaL h
theorem pd_sl {X : Cx} {G : Gam} {mu : Bool} {w : DE} {lo hi : Option DE} {e : Expr} {l u : Option Expr} {pos p2 : Pos} (hK : X.K = G.K) (he : PE X e (LE G w)) (hl : PO X l (LO G lo)) (hu : PO X u (LO G hi)) : PE X (.Subscript e (.Slice l u none p2) pos) (LE G (wSl mu w lo hi)) := by
  refine PE.imp (pe_slice (od_sl hK mu) he hl hu) fun σ H Q h => ?_
  obtain ⟨F, m, δ, Q0, r, s, h, k⟩ := h
  refine ⟨F, m, δ, _, r, s, h, fun d1 m1 x F1 H1 h1 e1 r1 v1 => ⟨F1, m1, δ, _, r1, s.mono e1, h1, fun o m2 F2 H2 h2 e2 r2 => ⟨F2, m2, δ, _, r2, s.mono (e1.trans e2), h2, fun o' m3 F3 H3 h3 e3 r3 => ?_⟩⟩⟩
  exact ⟨F3, m3, d1, Q0, r3, v1.mono (e2.trans e3), h3, k.mono ((e1.trans e2).trans e3)⟩
end DL
namespace DL
open PySem PySem.Spec PyProof.Rows L2
structure FnG (P : Program) (w : World) (K : PySem.W.Frag) (mg : Str → Option Value) (base : Heap) (CX : CXT) (k : Nat) (f : Addr) (fd : FuncData) (ps : List Str) (sp : Sp) : Prop where
  len : ∀ vs H Q E, sp vs H Q E → vs.length = ps.length
  run : ∀ (A : Around) (outer : List Env) (s : Shared) (H : Hp) (args : Args) (us : List Value) (vs : List V) (Q : VK) (E : XK), Room k A → A.guards = some [] → Env0 P w K mg base A outer s H → BindsTo s fd args (ps.zip us) → Vals vs us → sp vs H Q E →
    codeAny (model P w) A (.call (.ref f) args) (CR CX outer P w H s Q E) s
section
variable {P : Program} {w : World} {K : PySem.W.Frag} {mg : Str → Option Value} {base : Heap} {CX : CXT} {j k : Nat} {f : Addr} {fd : FuncData} {ps : List Str} {sp sp' : Sp}
theorem FnG.of (F : FnOk P w K mg base CX k f fd ps sp) : FnG P w K mg base CX k f fd ps sp := ⟨F.len, fun A outer s H args us vs Q E hr _ => F.run A outer s H args us vs Q E hr⟩
theorem FnG.mono (F : FnG P w K mg base CX j f fd ps sp) (h : j ≤ k) : FnG P w K mg base CX k f fd ps sp := ⟨F.len, fun A outer s H args us vs Q E hr => F.run A outer s H args us vs Q E (hr.mono h)⟩
theorem FnG.imp (F : FnG P w K mg base CX k f fd ps sp) (h : ∀ vs H Q E, sp' vs H Q E → sp vs H Q E) : FnG P w K mg base CX k f fd ps sp' :=
  ⟨fun vs H Q E q => F.len vs H Q E (h _ _ _ _ q), fun A outer s H args us vs Q E hr hg he hb hv hs => F.run A outer s H args us vs Q E hr hg he hb hv (h _ _ _ _ hs)⟩
end
theorem guards_make {A : Around} {C : Addr} {us : List Value} {kw : List (Str × Value)} (h : A.guards = some []) : (A.under (.builtin "type.__call__" ⟨.ref C :: us, kw⟩)).guards = some [] := by
  have e : (Code.builtin "type.__call__" ⟨.ref C :: us, kw⟩).guards = [] := rfl
  simp only [Around.under, e, h]
  rfl
section
variable {X : Cx} {CX : CXT} {k : Nat} {f C : Addr} {fd : FuncData} {ps ks : List Str} {sp : Sp} {dvs : List V} {ds : List Value} {E : XK} {x m : Str} {p pos apos : Pos} {e o : Expr} {es : List Expr} {kws : List Keyword} {ta : TE} {t tk : TA}
theorem run_fnG {pins : List (Addr × Obj)} {σ : L2.St} {H : Hp} {s : Shared} {Q : VK} {us : List Value} {vs : List V} (F : FnG X.prog X.w X.K X.mg X.base CX k f fd ps sp) (hr : Room k X.A) (hG : X.A.guards = some []) (hb : Binds X.K fd ps ds) (hd : Vals dvs ds) (hx : Passes CX X E)
    (I : Inv X pins σ H s) (r : Vals vs us) (h : sp (vs ++ dvs) H Q E) : wpAny (model X.prog X.w) X.A (call (.ref f) us) (EP X pins σ Q) X.xe s := by
  have r2 : Vals (vs ++ dvs) (us ++ ds) := r.append hd
  have hl : (us ++ ds).length = ps.length := by rw [← r2.length]; exact F.len _ _ _ _ h
  refine wpAny_call (codeAny_mono (F.run X.A X.stack s H ⟨us, []⟩ (us ++ ds) (vs ++ dvs) Q E hr hG I.env0 (hb s us I.kIn hl) r2 h) fun r s' hq => ?_)
  cases r with
  | error e => exact hx pins σ H s e s' I hq
  | ok fl =>
    cases fl with
    | ret u => exact I.after hq
    | next => exact False.elim hq
    | brk => exact False.elim hq
    | cont => exact False.elim hq
theorem pe_callG (F : FnG X.prog X.w X.K X.mg X.base CX k f fd ps sp) (hr : Room k X.A) (hG : X.A.guards = some []) (hg : Gl X x) (hm : X.mg x = some (.ref f)) (hk : PySem.W.keepIn X.K (.ref f) = true) (hb : Binds X.K fd ps ds) (hd : Vals dvs ds) (hx : Passes CX X E)
    (ha : PA X (e :: es) t) (hdb : (x == ("__debug__" : Str)) = false := by decide) (he : starEach (e :: es) X.env = (false, eval e X.env) :: starEach es X.env := by rfl) (hpl : (backTo pos (starEach es X.env)).any (·.1) = false := by rfl) :
    PE X (.Call (.Name x p) (e :: es) [] pos) (tCall sp dvs E t) := by
  refine ⟨fun pins s σ H Q I h => ?_⟩
  refine wpAny_Call_Name_kw (ld_glob I hg hm ?_ hdb)
  refine PySem.W.callWith_K (h₀ := X.base) I.ok.mod.kin hk (thn (ha.run pos pins s σ H _ I h) fun us s1 ⟨vs, H1, I1, r, q⟩ => ⟨I1.kIn, ?_⟩) he hpl
  exact run_fnG F hr hG hb hd hx I1 r q
theorem pe_callG0 (F : FnG X.prog X.w X.K X.mg X.base CX k f fd ps sp) (hr : Room k X.A) (hG : X.A.guards = some []) (hg : Gl X x) (hm : X.mg x = some (.ref f)) (hk : PySem.W.keepIn X.K (.ref f) = true) (hb : Binds X.K fd ps ds) (hd : Vals dvs ds) (hx : Passes CX X E)
    (hdb : (x == ("__debug__" : Str)) = false := by decide) : PE X (.Call (.Name x p) [] [] pos) (tCall sp dvs E tNil) := by
  refine ⟨fun pins s σ H Q I h => ?_⟩
  refine wpAny_Call_Name_kw (ld_glob I hg hm ?_ hdb)
  exact PySem.W.callWith_K0 I.kIn hk (run_fnG (us := []) F hr hG hb hd hx I .nil h)
theorem pe_methG {pl : Sem Bool} (he : PE X o ta) (c : Cls X.K C) (hm : Meth X.K C m f) (F : FnG X.prog X.w X.K X.mg X.base CX k f fd ps sp) (hr : Room k X.A) (hG : X.A.guards = some []) (hb : Binds X.K fd ps ds) (hd : Vals dvs ds) (hx : Passes CX X E) (ha : PA X (e :: es) t)
    (hst : starEach (e :: es) X.env = (false, eval e X.env) :: starEach es X.env := by rfl) (hpl : (backTo pos (starEach es X.env)).any (·.1) = false := by rfl)
    (ht : eval (.Call (.Attribute o m apos) (e :: es) [] pos) X.env = (do
      let ov ← eval o X.env
      standAt apos.atName
      let (f, first) ← holding [ov] (getMethod ov m pl)
      callWith pos f first (backTo pos (starEach (e :: es) X.env)) (backToKw pos (keywordEach [] X.env))) := by rfl) :
    PE X (.Call (.Attribute o m apos) (e :: es) [] pos) (tMeth C m sp dvs E ta t) := by
  refine ⟨fun pins s σ H Q I h => ?_⟩
  refine PySem.W.methodCall_KW (pl := pl) (thn (he.run pins s σ H _ I h) fun u s1 ⟨x, H1, I1, rx, a, dx, fs, ex, ea, l, q⟩ => ?_) ht
  subst ex
  obtain rfl : u = Value.ref a := rx
  refine getmeth_ok I1 ea c hm l ?_
  refine PySem.W.callWith_K (first := [.ref a]) (h₀ := X.base) I.ok.mod.kin hm.kp (thn (ha.run pos pins s1 σ H1 _ I1 q) fun us s2 ⟨vs, H2, I2, r, q2⟩ => ⟨I2.kIn, ?_⟩) hst hpl
  exact run_fnG (us := .ref a :: us) (vs := .ref a :: vs) F hr hG hb hd hx I2 (.cons rfl r) q2
theorem pe_methG0 {pl : Sem Bool} (he : PE X o ta) (c : Cls X.K C) (hm : Meth X.K C m f) (F : FnG X.prog X.w X.K X.mg X.base CX k f fd ps sp) (hr : Room k X.A) (hG : X.A.guards = some []) (hb : Binds X.K fd ps ds) (hd : Vals dvs ds) (hx : Passes CX X E)
    (ht : eval (.Call (.Attribute o m apos) [] [] pos) X.env = (do
      let ov ← eval o X.env
      standAt apos.atName
      let (f, first) ← holding [ov] (getMethod ov m pl)
      callWith pos f first (backTo pos (starEach [] X.env)) (backToKw pos (keywordEach [] X.env))) := by rfl) :
    PE X (.Call (.Attribute o m apos) [] [] pos) (tMeth C m sp dvs E ta tNil) := by
  refine ⟨fun pins s σ H Q I h => ?_⟩
  refine PySem.W.methodCall_KW (pl := pl) (thn (he.run pins s σ H _ I h) fun u s1 ⟨x, H1, I1, rx, a, dx, fs, ex, ea, l, q⟩ => ?_) ht
  subst ex
  obtain rfl : u = Value.ref a := rx
  refine getmeth_ok I1 ea c hm l ?_
  exact PySem.W.callWith_K0 (first := [.ref a]) I1.kIn hm.kp (run_fnG (us := [.ref a]) (vs := [.ref a]) F hr hG hb hd hx I1 (.cons rfl .nil) q)
theorem run_makeG {pins : List (Addr × Obj)} {σ : L2.St} {H : Hp} {s : Shared} {Q : VK} {us : List Value} {vs : List V} (M : Mk X.K C f) (F : FnG X.prog X.w X.K X.mg X.base CX k f fd ps sp) (hr : Room (k + 1) X.A) (hG : X.A.guards = some []) (hb : Binds X.K fd ps ds) (hd : Vals dvs ds)
    (hx : Passes CX X E) (I : Inv X pins σ H s) (r : Vals vs us)
    (h : ∀ x dx, H x = none → H dx = none → dx ≠ x → sp (.ref x :: (vs ++ dvs)) (upd (upd H dx (.own x)) x (.ins C dx [])) (fun v H2 => v = .non ∧ Q (.ref x) H2) E) :
    wpAny (model X.prog X.w) X.A (call (.ref C) us) (EP X pins σ Q) X.xe s := by
  have hq := h (s.heap.objs.size + 1) s.heap.objs.size (I.hok.fresh (Nat.le_succ _)) (I.hok.fresh (Nat.le_refl _)) (Nat.ne_of_lt (Nat.lt_succ_self _))
  have I2 := Inv.made (C := C) I
  have r2 : Vals (V.ref (s.heap.objs.size + 1) :: (vs ++ dvs)) (Value.ref (s.heap.objs.size + 1) :: (us ++ ds)) := .cons rfl (r.append hd)
  have hl : (Value.ref (s.heap.objs.size + 1) :: us ++ ds).length = ps.length := by
    have e := r2.length
    rw [F.len _ _ _ _ hq] at e
    exact e.symm
  refine wpAny_call (make_map (f := f) I.kIn M.makes M.init (beq_iff_eq.mp M.fn) (codeAny_mono (F.run _ X.stack _ _ ⟨Value.ref (s.heap.objs.size + 1) :: us, []⟩ (Value.ref (s.heap.objs.size + 1) :: (us ++ ds)) _ _ E (hr.make C us []) (guards_make hG)
    (I2.env0.make C us []) (hb _ (Value.ref (s.heap.objs.size + 1) :: us) I2.kIn hl) r2 hq) fun r s' hq' => ?_))
  cases r with
  | error e => exact hx pins σ _ _ e s' I2 hq'
  | ok fl =>
    cases fl with
    | ret u =>
      obtain ⟨v, H', I3, rv, ev, q3⟩ := I2.after hq'
      subst ev
      exact ⟨rv, ⟨V.ref (s.heap.objs.size + 1), H', I3, rfl, q3⟩⟩
    | next => exact False.elim hq'
    | brk => exact False.elim hq'
    | cont => exact False.elim hq'
theorem pe_makeG (M : Mk X.K C f) (F : FnG X.prog X.w X.K X.mg X.base CX k f fd ps sp) (hr : Room (k + 1) X.A) (hG : X.A.guards = some []) (hg : Gl X x) (hm : X.mg x = some (.ref C)) (hb : Binds X.K fd ps ds) (hd : Vals dvs ds) (hx : Passes CX X E)
    (ha : PA X (e :: es) t) (hdb : (x == ("__debug__" : Str)) = false := by decide) (he : starEach (e :: es) X.env = (false, eval e X.env) :: starEach es X.env := by rfl) (hpl : (backTo pos (starEach es X.env)).any (·.1) = false := by rfl) :
    PE X (.Call (.Name x p) (e :: es) [] pos) (tMake C sp dvs E t) := by
  refine ⟨fun pins s σ H Q I h => ?_⟩
  refine wpAny_Call_Name_kw (ld_glob I hg hm ?_ hdb)
  refine PySem.W.callWith_K (h₀ := X.base) I.ok.mod.kin M.kp (thn (ha.run pos pins s σ H _ I h) fun us s1 ⟨vs, H1, I1, r, q⟩ => ⟨I1.kIn, ?_⟩) he hpl
  exact run_makeG M F hr hG hb hd hx I1 r q
theorem pe_makeG0 (M : Mk X.K C f) (F : FnG X.prog X.w X.K X.mg X.base CX k f fd ps sp) (hr : Room (k + 1) X.A) (hG : X.A.guards = some []) (hg : Gl X x) (hm : X.mg x = some (.ref C)) (hb : Binds X.K fd ps ds) (hd : Vals dvs ds) (hx : Passes CX X E)
    (hdb : (x == ("__debug__" : Str)) = false := by decide) : PE X (.Call (.Name x p) [] [] pos) (tMake C sp dvs E tNil) := by
  refine ⟨fun pins s σ H Q I h => ?_⟩
  refine wpAny_Call_Name_kw (ld_glob I hg hm ?_ hdb)
  exact PySem.W.callWith_K0 I.kIn M.kp (run_makeG (us := []) M F hr hG hb hd hx I .nil h)
variable {g : List Value → List Value → List Value} {gV : List V → List V → List V}
theorem run_fnkG {pins : List (Addr × Obj)} {σ : L2.St} {H : Hp} {s : Shared} {Q : VK} {us ws : List Value} {vs zs : List V} (F : FnG X.prog X.w X.K X.mg X.base CX k f fd ps sp) (hr : Room k X.A) (hG : X.A.guards = some []) (hb : KBinds X.K fd ps ks g gV) (hx : Passes CX X E)
    (I : Inv X pins σ H s) (r : Vals vs us) (rz : Vals zs ws) (h : sp (gV vs zs) H Q E) : wpAny (model X.prog X.w) X.A (call (.ref f) us (ks.zip ws)) (EP X pins σ Q) X.xe s := by
  have r2 := hb.rel r rz
  have hl : (g us ws).length = ps.length := by rw [← r2.length]; exact F.len _ _ _ _ h
  refine wpAny_call (codeAny_mono (F.run X.A X.stack s H ⟨us, ks.zip ws⟩ (g us ws) (gV vs zs) Q E hr hG I.env0 (hb.to s us ws I.kIn hl) r2 h) fun r s' hq => ?_)
  cases r with
  | error e => exact hx pins σ H s e s' I hq
  | ok fl =>
    cases fl with
    | ret u => exact I.after hq
    | next => exact False.elim hq
    | brk => exact False.elim hq
    | cont => exact False.elim hq
theorem pe_callGK (F : FnG X.prog X.w X.K X.mg X.base CX k f fd ps sp) (hr : Room k X.A) (hG : X.A.guards = some []) (hg : Gl X x) (hm : X.mg x = some (.ref f)) (hk : PySem.W.keepIn X.K (.ref f) = true) (hb : KBinds X.K fd ps ks g gV) (hx : Passes CX X E)
    (ha : PA X (e :: es) t) (hkw : PK X kws tk) (hall : (backToKw pos (keywordEach kws X.env)).all (·.1.isSome) = true := by rfl) (hks : (backToKw pos (keywordEach kws X.env)).filterMap (·.1) = ks := by rfl)
    (hdb : (x == ("__debug__" : Str)) = false := by decide) (he : starEach (e :: es) X.env = (false, eval e X.env) :: starEach es X.env := by rfl)
    (hpl : ((backTo pos (starEach (e :: es) X.env)).any (·.1) || (backToKw pos (keywordEach kws X.env)).any (·.1.isNone)) = false := by rfl) :
    PE X (.Call (.Name x p) (e :: es) kws pos) (tCallK sp gV E t tk) := by
  refine ⟨fun pins s σ H Q I h => ?_⟩
  refine wpAny_Call_Name_kw (ld_glob I hg hm ?_ hdb)
  refine PySem.W.callWith_KW (h₀ := X.base) I.ok.mod.kin hk hall (thn (ha.run pos pins s σ H _ I h) fun us s1 ⟨vs, H1, I1, r, q⟩ => ?_) hpl he
  refine thn (hkw.run pos pins s1 σ H1 _ I1 q) fun ws s2 ⟨zs, H2, I2, rz, q2⟩ => ⟨I2.kIn, ?_⟩
  rw [hks]
  exact run_fnkG F hr hG hb hx I2 r rz q2
end
/-- a def by its body -/
theorem fn_ofG {CX : CXT} {P : Program} {w : World} {K : PySem.W.Frag} {mg : Str → Option Value} {base : Heap} {k : Nat} {f : Addr} {name qual : Str} {params : Arguments} {body : List Stmt} {scope : Scope} {dV kV doc pm cdv ct oc : Value} {an od : Option Addr}
    {osl : Array (Option Value)} {N ps : List Str} {sp : Sp} (lk : K.lookup f = some ⟨oc, od, .func (PySem.W.fnOf name qual params body scope dV kV doc pm an cdv ct), osl⟩) (hcd : PySem.W.codeIn K cdv qual = true) (S : FnScope N ps scope)
    (len : ∀ vs H Q E, sp vs H Q E → vs.length = ps.length)
    (hbody : ∀ (A : Around) (outer : List Env) (s : Shared) (H : Hp) (vs : List V) (Q : VK) (E : XK), Room k (A.deeper (envOfC qual scope s.heap.objs.size f cdv)) → A.guards = some [] → sp vs H Q E →
      ∃ t, PSs (cxOf CX P w K mg base N qual scope f cdv A outer s H E) body t ∧ t { nx := fun _ H' => Q .non H', rt := Q } (start N vs) H) :
    FnG P w K mg base CX (k + 1) f (PySem.W.fnOf name qual params body scope dV kV doc pm an cdv ct) ps sp := by
  refine ⟨len, fun A outer s H args us vs Q E hr hG e0 hb r hsp => ?_⟩
  have hl := len _ _ _ _ hsp
  have KX : K.In s.heap := e0.mod.kin.keeps fun b o e => (e0.bs b o e).1
  have lim : s.heap.NoLimit := e0.mod.nolimit.keeps fun b o e => (e0.bs b o e).1
  have hkind : ∀ y ∈ ps.zip us, scope.names.lookup y.1 = some .local ∨ (scope.names.lookup y.1 = some .cell ∧ ((cellsFrom (s.heap.objs.size + 1) scope.names []).lookup y.1).isSome = true) := fun ⟨n, v⟩ hy => by
    rcases S.par n (List.of_mem_zip hy).1 with q | q
    · exact .inl q
    · exact .inr ⟨q, PySem.W.cellsFrom_some _ _ _ (.inl q)⟩
  refine codeAny_call_function hr.depth (KX _ _ lk) rfl S.co S.gen rfl (PySem.W.codeRec_of KX hcd) (hb _ _ _ _ ?_)
  refine wpAny_newFunctionEnv_cells S.kind hkind fun env he s1 x => ?_
  subst he
  refine ⟨lim.keeps x.toInCall.keep, codeAny_func ?_⟩
  obtain ⟨t, ht, hq⟩ := hbody A outer s H vs Q E (hr.deeper _) hG hsp
  have I : Inv (cxOf CX P w K mg base N qual scope f cdv A outer s H E) [] (start N vs) H s1 := inv_start S hr.hd e0 hl r x
  refine wpAny_mono (ht.run [] s1 (start N vs) H _ I hq) (fun fl s' hs => ?_) fun e s' hs => hs
  have fin : ∀ {σ' : L2.St} {H' : Hp} {v : V} {u : Value}, Inv (cxOf CX P w K mg base N qual scope f cdv A outer s H E) [] σ' H' s' → RelV v u → Q v H' → CE outer P w H s Q u s' :=
    fun {σ' H' v u} J rv q => ⟨v, H', J.os, J.bare, J.base, J.hok, rv, q⟩
  cases fl with
  | ret u =>
    obtain ⟨v, σ', H', J, rv, q⟩ := hs
    exact fin J rv q
  | next =>
    obtain ⟨σ', H', J, q⟩ := hs
    exact fin (v := V.non) (u := Value.none) J rfl q
  | brk =>
    obtain ⟨_, _, _, q⟩ := hs
    exact False.elim q
  | cont =>
    obtain ⟨_, _, _, q⟩ := hs
    exact False.elim q
abbrev DSp := List DV → Sto → DK → Prop
def spL (G : Gam) (S : DSp) : Sp := fun vs H Q _ => ∃ F m ds Q0, Rel G F m H ∧ VRs G.K F vs ds ∧ S ds m Q0 ∧ Kt G F Q0 Q
/-- n arguments -/
def arD (n : Nat) (S : DSp) : DSp := fun ds m Q => ds.length = n ∧ S ds m Q
theorem spL_len {G : Gam} {S : DSp} {n : Nat} {vs : List V} {H : Hp} {Q : VK} {E : XK} (h : spL G (arD n S) vs H Q E) : vs.length = n := by
  obtain ⟨F, m, ds, Q0, _, r, ⟨e, _⟩, _⟩ := h
  rw [r.length, e]
def startD (n : Nat) (ds : List DV) : Slots := ds.map some ++ List.replicate (n - ds.length) none
theorem sr_start {K : PySem.W.Frag} {F : Hp} {N : List Str} {vs : List V} {ds : List DV} (r : VRs K F vs ds) : SR K F (start N vs) (startD N.length ds) := by
  refine ⟨by simp [L2.start, startD, r.length], fun i d h => ?_⟩
  unfold startD at h
  unfold L2.start
  by_cases hi : i < ds.length
  · rw [List.getElem?_append_left (by simpa using hi), List.getElem?_map] at h
    cases e : ds[i]? with
    | none => rw [e] at h; cases h
    | some c =>
      rw [e] at h; cases h
      obtain ⟨v, hv, rv⟩ := r.get e
      refine ⟨v, ?_, rv⟩
      rw [List.getElem?_append_left (by simp [r.length]; exact hi), List.getElem?_map, hv]; rfl
  · rw [List.getElem?_append_right (by simpa using hi), List.getElem?_replicate] at h
    split at h <;> cases h
def runD (n : Nat) (w : DS) : DSp := fun ds m Q => w { nx := fun _ m' => Q .non m', rt := Q } (startD n ds) m
theorem runD_ok {G : Gam} {N : List Str} {w : DS} {vs : List V} {H : Hp} {Q : VK} {E : XK} {n : Nat} (h : spL G (arD n (runD N.length w)) vs H Q E) : LS G w { nx := fun _ H' => Q .non H', rt := Q } (start N vs) H := by
  obtain ⟨F, m, ds, Q0, r, rv, ⟨_, h⟩, k⟩ := h
  refine ⟨F, m, startD N.length ds, _, r, sr_start rv, h, ⟨fun δ' m' σ' F' H' q e r' s' => k _ _ _ _ _ q e r' .non, k, fun _ _ _ _ _ q => False.elim q, fun _ _ _ _ _ q => False.elim q⟩⟩
/-- a def over data, by its body -/
theorem Fun.okD {P : Program} {w : World} {K : PySem.W.Frag} {mg : Str → Option Value} {base : Heap} {G : Gam} {x qual : Str} {st : Stmt} {f : Addr} {fd : FuncData} {N ps : List Str} {k : Nat} {W : DS} (F : Fun K x qual st f fd) (S : FnScope N ps (defScope st))
    (hbody : ∀ (cdv : Value) (A : Around) (outer : List Env) (s : Shared) (H : Hp) (E : XK), Room k (A.deeper (envOfC qual (defScope st) s.heap.objs.size f cdv)) → A.guards = some [] →
      PSs (cxOf CX0 P w K mg base N qual (defScope st) f cdv A outer s H E).nox (defBody st) (LS G W)) : FnG P w K mg base CX0 (k + 1) f fd ps (spL G (arD ps.length (runD N.length W))) := by
  obtain ⟨oc, od, kV, doc, pm, an, cdv, ct, osl, rfl, lk, hcd⟩ := F.ex
  exact fn_ofG lk hcd S (fun vs H Q E h => spL_len h) fun A outer s H vs Q E hr hG hsp => ⟨_, (hbody cdv A outer s H E hr hG).nox, runD_ok hsp⟩
structure DX (X : Cx) (G : Gam) (k : Nat) : Prop where
  K : X.K = G.K
  room : Room k X.A
  gd : X.A.guards = some []
  calm : X.calm = true
  pas : PassesOwn (model X.prog X.w) X.A X.env X.xe
  nd : X.N.Nodup
section
variable {X : Cx} {G : Gam} {k j : Nat} {f C : Addr} {c : Nat} {fd : FuncData} {ps ks : List Str} {S : DSp} {dvs : List V} {dds : List DV} {ds : List Value} {x m : Str} {p pos apos : Pos} {e o : Expr} {es : List Expr} {kws : List Keyword} {w : DE} {wa wb : DA}
def wNil : DA := fun _ m Q => Q [] m
def wCons (a : DE) (r : DA) : DA := fun δ m Q => a δ m fun d m1 => r δ m1 fun ds m2 => Q (d :: ds) m2
theorem la_nil {σ : L2.St} {H : Hp} {Q : List V → Hp → Prop} (h : LA G wNil σ H Q) : tNil σ H Q := by
  obtain ⟨F, m, δ, Q0, r, s, h, k⟩ := h
  exact k _ _ _ _ _ h (Ex.refl F) r .nil
theorem la_cons {σ : L2.St} {H : Hp} {Q : List V → Hp → Prop} (h : LA G (wCons w wa) σ H Q) : tCons (LE G w) (LA G wa) σ H Q := by
  obtain ⟨F, m, δ, Q0, r, s, h, k⟩ := h
  exact ⟨F, m, δ, _, r, s, h, fun d1 m1 v1 F1 H1 h1 e1 r1 v1r => ⟨F1, m1, δ, _, r1, s.mono e1, h1, fun ds m2 vs F2 H2 h2 e2 r2 v2 => k _ _ _ _ _ h2 (e1.trans e2) r2 (.cons (v1r.mono e2) v2)⟩⟩
theorem qa_nil : PA X [] (LA G wNil) := PA.imp pa_nil fun _ _ _ h => la_nil h
theorem qa_cons (ha : PE X e (LE G w)) (hr : PA X es (LA G wa)) (hs : starEach (e :: es) X.env = (false, eval e X.env) :: starEach es X.env := by rfl) : PA X (e :: es) (LA G (wCons w wa)) :=
  PA.imp (pa_cons ha hr hs) fun _ _ _ h => la_cons h
theorem qk_nil : PK X [] (LA G wNil) := PK.imp pk_nil fun _ _ _ h => la_nil h
theorem qk_cons {nm : Option Str} {kpos : Pos} (ha : PE X e (LE G w)) (hr : PK X kws (LA G wa)) : PK X (⟨nm, e, kpos⟩ :: kws) (LA G (wCons w wa)) :=
  PK.imp (pk_cons ha hr) fun _ _ _ h => la_cons h
/-- f(..) -/
def wCall (S : DSp) (dds : List DV) (t : DA) : DE := fun δ m Q => t δ m fun ds m1 => S (ds ++ dds) m1 Q
theorem le_call {σ : L2.St} {H : Hp} {Q : VK} (hdd : ∀ F, VRs G.K F dvs dds) (h : LE G (wCall S dds wa) σ H Q) : tCall (spL G S) dvs E0 (LA G wa) σ H Q := by
  obtain ⟨F, m, δ, Q0, r, s, h, k⟩ := h
  exact ⟨F, m, δ, _, r, s, h, fun ds m1 vs F1 H1 h1 e1 r1 v1 => ⟨F1, m1, _, Q0, r1, v1.append (hdd F1), h1, k.mono e1⟩⟩
theorem qe_call (F : FnG X.prog X.w X.K X.mg X.base CX0 k f fd ps (spL G S)) (dx : DX X G j) (hj : k ≤ j) (hg : Gl X x) (hm : X.mg x = some (.ref f)) (hk : PySem.W.keepIn X.K (.ref f) = true) (hb : Binds X.K fd ps ds) (hd : Vals dvs ds) (hdd : ∀ F, VRs G.K F dvs dds)
    (ha : PA X (e :: es) (LA G wa)) (hdb : (x == ("__debug__" : Str)) = false := by decide) (he : starEach (e :: es) X.env = (false, eval e X.env) :: starEach es X.env := by rfl) (hpl : (backTo pos (starEach es X.env)).any (·.1) = false := by rfl) :
    PE X (.Call (.Name x p) (e :: es) [] pos) (LE G (wCall S dds wa)) :=
  PE.imp (pe_callG F (dx.room.mono hj) dx.gd hg hm hk hb hd pass0 ha hdb he hpl) fun _ _ _ h => le_call hdd h
theorem qe_call0 (F : FnG X.prog X.w X.K X.mg X.base CX0 k f fd ps (spL G S)) (dx : DX X G j) (hj : k ≤ j) (hg : Gl X x) (hm : X.mg x = some (.ref f)) (hk : PySem.W.keepIn X.K (.ref f) = true) (hb : Binds X.K fd ps ds) (hd : Vals dvs ds) (hdd : ∀ F, VRs G.K F dvs dds)
    (hdb : (x == ("__debug__" : Str)) = false := by decide) : PE X (.Call (.Name x p) [] [] pos) (LE G (wCall S dds wNil)) :=
  PE.imp (pe_callG0 F (dx.room.mono hj) dx.gd hg hm hk hb hd pass0 hdb) fun σ H Q h => by
    obtain ⟨F, m, δ, Q0, r, s, h, k⟩ := h
    exact ⟨F, m, dds, Q0, r, hdd F, h, k⟩
/-- f(.., k = ..): gD tells where the values go -/
def wCallK (S : DSp) (gD : List DV → List DV → List DV) (t tk : DA) : DE := fun δ m Q => t δ m fun ds m1 => tk δ m1 fun es m2 => S (gD ds es) m2 Q
theorem qe_callK {g : List Value → List Value → List Value} {gV : List V → List V → List V} {gD : List DV → List DV → List DV} (F : FnG X.prog X.w X.K X.mg X.base CX0 k f fd ps (spL G S)) (dx : DX X G j) (hj : k ≤ j) (hg : Gl X x) (hm : X.mg x = some (.ref f)) (hk : PySem.W.keepIn X.K (.ref f) = true) (hb : KBinds X.K fd ps ks g gV)
    (hgd : ∀ F vs ds ws es, VRs G.K F vs ds → VRs G.K F ws es → VRs G.K F (gV vs ws) (gD ds es))
    (ha : PA X (e :: es) (LA G wa)) (hkw : PK X kws (LA G wb)) (hall : (backToKw pos (keywordEach kws X.env)).all (·.1.isSome) = true := by rfl) (hks : (backToKw pos (keywordEach kws X.env)).filterMap (·.1) = ks := by rfl)
    (hdb : (x == ("__debug__" : Str)) = false := by decide) (he : starEach (e :: es) X.env = (false, eval e X.env) :: starEach es X.env := by rfl)
    (hpl : ((backTo pos (starEach (e :: es) X.env)).any (·.1) || (backToKw pos (keywordEach kws X.env)).any (·.1.isNone)) = false := by rfl) :
    PE X (.Call (.Name x p) (e :: es) kws pos) (LE G (wCallK S gD wa wb)) :=
  PE.imp (pe_callGK F (dx.room.mono hj) dx.gd hg hm hk hb pass0 ha hkw hall hks hdb he hpl) fun σ H Q h => by
    obtain ⟨F, m, δ, Q0, r, s, h, k⟩ := h
    exact ⟨F, m, δ, _, r, s, h, fun ds m1 vs F1 H1 h1 e1 r1 v1 => ⟨F1, m1, δ, _, r1, s.mono e1, h1, fun es m2 ws F2 H2 h2 e2 r2 v2 => ⟨F2, m2, _, Q0, r2, hgd _ _ _ _ _ (v1.mono e2) v2, h2, k.mono (e1.trans e2)⟩⟩⟩
/-- o.m(..) of an instance of class c -/
def hasF (m : Sto) (c : Nat) (d : DV) : Prop := match d with
  | .ref p => match m p with
    | some (.ins c' _) => c' = c
    | _ => False
  | _ => False
theorem hasF_ok {F : Hp} {mm : Sto} {v : V} {d : DV} (h : VR G.K F v d) (hf : hasF mm c d) : ∃ a fs, v = .ref a ∧ d = .ref a ∧ mm a = some (.ins c fs) := by
  cases h <;> first | exact False.elim hf | skip
  rename_i a
  unfold hasF at hf
  cases em : mm a with
  | none => simp only [em] at hf
  | some ob =>
    simp only [em] at hf
    cases ob <;> first | exact False.elim hf | skip
    rename_i c' fs
    have hf : c' = c := hf
    subst hf
    exact ⟨a, fs, rfl, rfl, em⟩
def wMeth (c : Nat) (S : DSp) (dds : List DV) (w : DE) (t : DA) : DE := fun δ m Q => w δ m fun x m1 => hasF m1 c x ∧ t δ m1 fun ds m2 => S (x :: (ds ++ dds)) m2 Q
theorem lookup_fr {F : Hp} {fv : List (Str × V)} {fs : List (Nat × DV)} {mm : Str} (h : FR G F fv fs) (hn : ∀ i, G.fld i ≠ mm) : fv.lookup mm = none := by
  unfold FR at h
  induction h with
  | nil => rfl
  | @cons a b as bs h t ih =>
    obtain ⟨n, v⟩ := a
    have e : n = G.fld b.1 := h.1
    rw [List.lookup_cons]
    have hb : (mm == n) = false := by
      rw [e]; exact beq_eq_false_iff_ne.mpr fun q => hn b.1 q.symm
    rw [hb]; exact ih
theorem le_meth {σ : L2.St} {H : Hp} {Q : VK} (hC : G.cls c = C) (hn : ∀ i, G.fld i ≠ m) (hdd : ∀ F, VRs G.K F dvs dds) (h : LE G (wMeth c S dds w wa) σ H Q) : tMeth C m (spL G S) dvs E0 (LE G w) (LA G wa) σ H Q := by
  obtain ⟨F, mm, δ, Q0, r, s, h, k⟩ := h
  refine ⟨F, mm, δ, _, r, s, h, fun d m1 v F1 H1 ⟨hf, h1⟩ e1 r1 v1 => ?_⟩
  obtain ⟨a, fs, rfl, rfl, em⟩ := hasF_ok v1 hf
  obtain ⟨_, u, hu, dx, fv, rfl, hfr⟩ := r1.mo a _ em
  refine ⟨a, dx, fv, rfl, by rw [← hC]; exact hu, lookup_fr hfr hn, F1, m1, δ, _, r1, s.mono e1, h1, fun ds m2 vs F2 H2 h2 e2 r2 v2 => ?_⟩
  exact ⟨F2, m2, _, Q0, r2, .cons (.ref a) (v2.append (hdd F2)), h2, k.mono (e1.trans e2)⟩
theorem qe_meth {pl : Sem Bool} (he : PE X o (LE G w)) (cl : Cls X.K C) (hC : G.cls c = C) (hn : ∀ i, G.fld i ≠ m) (hm : Meth X.K C m f) (F : FnG X.prog X.w X.K X.mg X.base CX0 k f fd ps (spL G S)) (dx : DX X G j) (hj : k ≤ j) (hb : Binds X.K fd ps ds) (hd : Vals dvs ds) (hdd : ∀ F, VRs G.K F dvs dds)
    (ha : PA X (e :: es) (LA G wa)) (hst : starEach (e :: es) X.env = (false, eval e X.env) :: starEach es X.env := by rfl) (hpl : (backTo pos (starEach es X.env)).any (·.1) = false := by rfl)
    (ht : eval (.Call (.Attribute o m apos) (e :: es) [] pos) X.env = (do
      let ov ← eval o X.env
      standAt apos.atName
      let (f, first) ← holding [ov] (getMethod ov m pl)
      callWith pos f first (backTo pos (starEach (e :: es) X.env)) (backToKw pos (keywordEach [] X.env))) := by rfl) :
    PE X (.Call (.Attribute o m apos) (e :: es) [] pos) (LE G (wMeth c S dds w wa)) :=
  PE.imp (pe_methG (pl := pl) he cl hm F (dx.room.mono hj) dx.gd hb hd pass0 ha hst hpl ht) fun _ _ _ h => le_meth hC hn hdd h
theorem qe_meth0 {pl : Sem Bool} (he : PE X o (LE G w)) (cl : Cls X.K C) (hC : G.cls c = C) (hn : ∀ i, G.fld i ≠ m) (hm : Meth X.K C m f) (F : FnG X.prog X.w X.K X.mg X.base CX0 k f fd ps (spL G S)) (dx : DX X G j) (hj : k ≤ j) (hb : Binds X.K fd ps ds) (hd : Vals dvs ds) (hdd : ∀ F, VRs G.K F dvs dds)
    (ht : eval (.Call (.Attribute o m apos) [] [] pos) X.env = (do
      let ov ← eval o X.env
      standAt apos.atName
      let (f, first) ← holding [ov] (getMethod ov m pl)
      callWith pos f first (backTo pos (starEach [] X.env)) (backToKw pos (keywordEach [] X.env))) := by rfl) :
    PE X (.Call (.Attribute o m apos) [] [] pos) (LE G (wMeth c S dds w wNil)) :=
  PE.imp (pe_methG0 (pl := pl) he cl hm F (dx.room.mono hj) dx.gd hb hd pass0 ht) fun σ H Q h => by
    obtain ⟨a, b, c, d, e⟩ := le_meth hC hn hdd h
    exact ⟨a, b, c, d, e.1, e.2.1, e.2.2.1, fun d m v F1 H1 h1 e1 r1 v1 => by
      obtain ⟨a1, dx1, fs1, q1, q2, q3, q4⟩ := e.2.2.2 d m v F1 H1 h1 e1 r1 v1
      exact ⟨a1, dx1, fs1, q1, q2, q3, la_nil q4⟩⟩
/-- C(..) -/
def wMake (c : Nat) (S : DSp) (dds : List DV) (t : DA) : DE := fun δ m Q => t δ m fun ds m1 => ∀ x, m1 x = none → S (.ref x :: (ds ++ dds)) (put m1 x (.ins c [])) fun v m2 => v = .non ∧ Q (.ref x) m2
theorem make_ok {F : Hp} {mm : Sto} {H : Hp} {vs : List V} {dd : List DV} {Q0 : DK} {Q : VK} (hC : G.cls c = C) (r : Rel G F mm H) (v : VRs G.K F vs dd) (h : ∀ x, mm x = none → S (.ref x :: dd) (put mm x (.ins c [])) fun v m2 => v = .non ∧ Q0 (.ref x) m2) (k : Kt G F Q0 Q) :
    ∀ x dx, H x = none → H dx = none → dx ≠ x → spL G S (.ref x :: vs) (upd (upd H dx (.own x)) x (.ins C dx [])) (fun v H2 => v = .non ∧ Q (.ref x) H2) E0 := fun x dx hx hdx ne => by
  have r1 : Rel G F mm (upd H dx (.own x)) := r.grow (Ex.new hdx)
  have r2 : Rel G F (put mm x (.ins c [])) (upd (upd H dx (.own x)) x (.ins C dx [])) := r1.newM (by rw [upd_ne (fun z => ne z.symm)]; exact hx) ⟨dx, [], by rw [hC], .nil⟩
  exact ⟨F, _, _, _, r2, .cons (.ref x) v, h x (r.freeM hx), fun d m' v F' H' ⟨q1, q2⟩ e' r' v' => by subst q1; cases v'; exact ⟨rfl, k _ _ _ _ _ q2 e' r' (.ref x)⟩⟩
theorem qe_make (M : Mk X.K C f) (hC : G.cls c = C) (F : FnG X.prog X.w X.K X.mg X.base CX0 k f fd ps (spL G S)) (dx : DX X G j) (hj : k + 1 ≤ j) (hg : Gl X x) (hm : X.mg x = some (.ref C)) (hb : Binds X.K fd ps ds) (hd : Vals dvs ds) (hdd : ∀ F, VRs G.K F dvs dds)
    (ha : PA X (e :: es) (LA G wa)) (hdb : (x == ("__debug__" : Str)) = false := by decide) (he : starEach (e :: es) X.env = (false, eval e X.env) :: starEach es X.env := by rfl) (hpl : (backTo pos (starEach es X.env)).any (·.1) = false := by rfl) :
    PE X (.Call (.Name x p) (e :: es) [] pos) (LE G (wMake c S dds wa)) :=
  PE.imp (pe_makeG M F (dx.room.mono hj) dx.gd hg hm hb hd pass0 ha hdb he hpl) fun σ H Q h => by
    obtain ⟨F, mm, δ, Q0, r, s, h, k⟩ := h
    exact ⟨F, mm, δ, _, r, s, h, fun ds m1 vs F1 H1 h1 e1 r1 v1 => make_ok hC r1 (v1.append (hdd F1)) h1 (k.mono e1)⟩
theorem qe_make0 (M : Mk X.K C f) (hC : G.cls c = C) (F : FnG X.prog X.w X.K X.mg X.base CX0 k f fd ps (spL G S)) (dx : DX X G j) (hj : k + 1 ≤ j) (hg : Gl X x) (hm : X.mg x = some (.ref C)) (hb : Binds X.K fd ps ds) (hd : Vals dvs ds) (hdd : ∀ F, VRs G.K F dvs dds)
    (hdb : (x == ("__debug__" : Str)) = false := by decide) : PE X (.Call (.Name x p) [] [] pos) (LE G (wMake c S dds wNil)) :=
  PE.imp (pe_makeG0 M F (dx.room.mono hj) dx.gd hg hm hb hd pass0 hdb) fun σ H Q h => by
    obtain ⟨F, mm, δ, Q0, r, s, h, k⟩ := h
    exact make_ok hC r (hdd F) h k
end
end DL
namespace DL
open PySem PySem.Spec PyProof.Rows L2
theorem DX.u65 {X : Cx} {G : Gam} {k : Nat} (d : DX X G k) : X.A.units + 65 < cLine := by
  have := d.room.un
  omega
theorem DX.u1 {X : Cx} {G : Gam} {k : Nat} (d : DX X G k) : X.A.units + 1 < cLine := by
  have := d.room.un
  omega
theorem DX.u0 {X : Cx} {G : Gam} {k : Nat} (d : DX X G k) : X.A.units < cLine := by
  have := d.room.un
  omega
section
variable {X : Cx} {G : Gam} {k : Nat} {a b e : Expr} {es : List Expr} {pos : Pos} {x : Str} {w wa wb : DE} {wt wu : DT} {wl : DA}
def wVar (i : Nat) : DE := fun δ m Q => match δ[i]? with
  | some (some d) => Q d m
  | _ => False
theorem qe_var {i : Nat} (hN : X.N[i]? = some x) (hv : Vis X.env.scope x) (hd : (x == ("__debug__" : Str)) = false := by decide) (hcd : (x == ("__classdict__" : Str)) = false := by decide) : PE X (.Name x pos) (LE G (wVar i)) :=
  PE.imp (pe_var hN hv hd hcd) fun σ H Q h => by
    obtain ⟨F, m, δ, Q0, r, s, h, k⟩ := h
    unfold wVar at h
    cases e : δ[i]? with
    | none => rw [e] at h; exact False.elim h
    | some o =>
      rw [e] at h
      cases o with
      | none => exact False.elim h
      | some d =>
        obtain ⟨v, hv, rv⟩ := s.at_ i d e
        exact ⟨v, hv, k _ _ _ _ _ h (Ex.refl F) r rv⟩
/-- a list of the store becomes data -/
def frzL (d : DV) (m : Sto) (Q : DK) : Prop := match d with
  | .ref p => match m p with
    | some (.lst xs) => Q (.lst xs) (rmv m p)
    | _ => Q d m
  | _ => Q d m
theorem frz_ok {F H : Hp} {m : Sto} {v : V} {d : DV} {Q0 : DK} {Q : VK} (r : Rel G F m H) (rv : VR G.K F v d) (h : frzL d m Q0) (k : Kt G F Q0 Q) : Q v H := by
  have pl : Q0 d m → Q v H := fun h => k _ _ _ _ _ h (Ex.refl F) r rv
  cases rv <;> first | exact pl h | skip
  rename_i a
  unfold frzL at h
  dsimp only at h
  cases e : m a with
  | none => rw [e] at h; exact pl h
  | some o =>
    rw [e] at h
    cases o <;> first | exact pl h | skip
    rename_i xs
    obtain ⟨hn, u, hu, vs, rfl, hr⟩ := r.mo a _ e
    have r' := r.freeze e hu
    exact k _ _ _ _ _ h (Ex.new hn) r' (.lst (.inl upd_same) (hr.mono (Ex.new hn)))
def wVarZ (i : Nat) : DE := fun δ m Q => match δ[i]? with
  | some (some d) => frzL d m Q
  | _ => False
theorem qe_varZ {i : Nat} (hN : X.N[i]? = some x) (hv : Vis X.env.scope x) (hd : (x == ("__debug__" : Str)) = false := by decide) (hcd : (x == ("__classdict__" : Str)) = false := by decide) : PE X (.Name x pos) (LE G (wVarZ i)) :=
  PE.imp (pe_var hN hv hd hcd) fun σ H Q h => by
    obtain ⟨F, m, δ, Q0, r, s, h, k⟩ := h
    unfold wVarZ at h
    cases e : δ[i]? with
    | none => rw [e] at h; exact False.elim h
    | some o =>
      rw [e] at h
      cases o with
      | none => exact False.elim h
      | some d =>
        obtain ⟨v, hv, rv⟩ := s.at_ i d e
        exact ⟨v, hv, frz_ok r rv h k⟩
def wC (d : DV) : DE := fun _ m Q => Q d m
theorem le_c {v : V} {d : DV} (hv : ∀ F, VR G.K F v d) {σ : L2.St} {H : Hp} {Q : VK} (h : LE G (wC d) σ H Q) : tC v σ H Q := by
  obtain ⟨F, m, δ, Q0, r, s, h, k⟩ := h
  exact k _ _ _ _ _ h (Ex.refl F) r (hv F)
theorem qe_int {i j} : PE X (.Constant (.int i) j pos) (LE G (wC (.int i))) := PE.imp pe_int fun _ _ _ h => le_c (fun _ => .int i) h
theorem qe_bl {i j} : PE X (.Constant (.bool i) j pos) (LE G (wC (.bl i))) := PE.imp pe_bl fun _ _ _ h => le_c (fun _ => .bl i) h
theorem qe_non {j} : PE X (.Constant .none j pos) (LE G (wC .non)) := PE.imp pe_non fun _ _ _ h => le_c (fun _ => .non) h
theorem qe_str {y : Str} {j} : PE X (.Constant (.str y) j pos) (LE G (wC (.str y))) := PE.imp pe_str fun _ _ _ h => le_c (fun _ => .str y) h
theorem qe_glob {v : V} {u : Value} {d : DV} (hg : Gl X x) (hm : X.mg x = some u) (r : RelV v u) (hv : ∀ F, VR G.K F v d) (hd : (x == ("__debug__" : Str)) = false := by decide) : PE X (.Name x pos) (LE G (wC d)) :=
  PE.imp (pe_glob hg hm r hd) fun _ _ _ h => le_c hv h
def wTup (t : DA) : DE := fun δ m Q => t δ m fun ds m1 => ds.length ≤ sizeLine ∧ Q (.tup ds) m1
theorem qe_tup {x1} (h : PA X es (LA G wl)) : PE X (.Tuple es x1 pos) (LE G (wTup wl)) :=
  PE.imp (pe_tup h) fun σ H Q h => by
    obtain ⟨F, m, δ, Q0, r, s, h, k⟩ := h
    exact ⟨F, m, δ, _, r, s, h, fun ds m1 vs F1 H1 ⟨h1, h2⟩ e1 r1 v1 => ⟨by rw [v1.length]; exact h1, newT_ok r1 h2 (k.mono e1) v1⟩⟩
def wLst (mu : Bool) (t : DA) : DE := fun δ m Q => t δ m fun ds m1 => ds.length ≤ sizeLine ∧ newL mu ds m1 Q
theorem qe_lst (mu : Bool) (h : PA X es (LA G wl)) : PE X (.List es pos) (LE G (wLst mu wl)) :=
  PE.imp (pe_lst h) fun σ H Q h => by
    obtain ⟨F, m, δ, Q0, r, s, h, k⟩ := h
    exact ⟨F, m, δ, _, r, s, h, fun ds m1 vs F1 H1 ⟨h1, h2⟩ e1 r1 v1 => ⟨by rw [v1.length]; exact h1, newL_ok r1 h2 (k.mono e1) v1⟩⟩
def wNeg (w : DE) : DE := fun δ m Q => w δ m fun d m1 => match d with
  | .int i => Q (.int (-i)) m1
  | _ => False
theorem qe_neg (he : PE X e (LE G w)) : PE X (.UnaryOp .USub e pos) (LE G (wNeg w)) :=
  PE.imp (pe_un un_neg he) fun σ H Q h => by
    obtain ⟨F, m, δ, Q0, r, s, h, k⟩ := h
    refine ⟨F, m, δ, _, r, s, h, fun d m1 v F1 H1 h1 e1 r1 v1 => ?_⟩
    cases v1 <;> first | exact False.elim h1 | skip
    exact ⟨_, rfl, k _ _ _ _ _ h1 e1 r1 (.int _)⟩
/-- the truth of a value -/
def truD (m : Sto) (d : DV) (Q : Bool → Prop) : Prop := match d with
  | .non => Q false
  | .bl b => Q b
  | .int i => Q (i != 0)
  | .str y => y.length ≤ sizeLine ∧ Q ((y.length : Int) != 0)
  | .lst xs => Q (!xs.isEmpty)
  | .tup xs => Q (!xs.isEmpty)
  | .ktup xs => Q (!xs.isEmpty)
  | .klst xs => Q (!xs.isEmpty)
  | .ref p => match m p with
    | some (.lst xs) => Q (!xs.isEmpty)
    | some (.dct kvs) => Q (!kvs.isEmpty)
    | _ => False
theorem isEmpty_vrs {K : PySem.W.Frag} {F : Hp} {vs : List V} {ds : List DV} (h : VRs K F vs ds) : vs.isEmpty = ds.isEmpty := by cases h <;> rfl
theorem tru_vr {F H : Hp} {m : Sto} {v : V} {d : DV} {Q : Bool → Prop} (r : Rel G F m H) (rv : VR G.K F v d) (h : truD m d Q) : ∃ b, TruV G.K v H b ∧ Q b := by
  cases rv with
  | non => exact ⟨_, rfl, h⟩
  | bl b => exact ⟨_, rfl, h⟩
  | int i => exact ⟨_, rfl, h⟩
  | str y => exact ⟨_, ⟨h.1, rfl⟩, h.2⟩
  | lst hs hr => exact ⟨_, .inl ⟨_, .inl (r.ex.rd hs), rfl⟩, by rw [isEmpty_vrs hr]; exact h⟩
  | tup hs hr => exact ⟨_, .inr (.inl ⟨_, SqT.of (r.ex _ _ hs), rfl⟩), by rw [isEmpty_vrs hr]; exact h⟩
  | ktup hs hr => exact ⟨_, .inr (.inl ⟨_, Ex.sqT ex_none hs, rfl⟩), by rw [isEmpty_vrs hr]; exact h⟩
  | klst hs hr => exact ⟨_, .inl ⟨_, Ex.sqL ex_none hs, rfl⟩, by rw [isEmpty_vrs hr]; exact h⟩
  | ref a =>
    unfold truD at h
    dsimp only at h
    cases e : m a with
    | none => rw [e] at h; exact False.elim h
    | some o =>
      rw [e] at h
      cases o <;> first | exact False.elim h | skip
      · obtain ⟨_, u, hu, vs, rfl, hr⟩ := r.mo a _ e
        exact ⟨_, .inl ⟨_, SqL.of hu, rfl⟩, by rw [isEmpty_vrs hr]; exact h⟩
      · rename_i kvs
        obtain ⟨_, u, hu, kv, rfl, hr⟩ := r.mo a _ e
        have hh : kv.isEmpty = kvs.isEmpty := by
          unfold KR at hr
          cases hr <;> rfl
        exact ⟨_, .inr (.inr ⟨_, hu, rfl⟩), by rw [hh]; exact h⟩
def wTru (w : DE) : DT := fun δ m Q => w δ m fun d m1 => truD m1 d fun b => Q b m1
theorem qt_truth (hK : X.K = G.K) (ha : PE X a (LE G w)) (he : ∀ whole, isTrue a X.env whole = (do let v ← whole; standAt a.pos; holding [v] (truthy v)) := by intro _; rfl) : PT X a (LT G (wTru w)) :=
  PT.imp (pt_truth ha he) fun σ H Q h => by
    obtain ⟨F, m, δ, Q0, r, s, h, k⟩ := h
    refine ⟨F, m, δ, _, r, s, h, fun d m1 v F1 H1 h1 e1 r1 v1 => ?_⟩
    obtain ⟨b, t, q⟩ := tru_vr r1 v1 h1
    exact ⟨b, by rw [hK]; exact t, k _ _ _ _ q e1 r1⟩
/-- the truth of a bool -/
def wBl (w : DE) : DT := fun δ m Q => w δ m fun d m1 => match d with
  | .bl b => Q b m1
  | _ => False
theorem lt_bl {σ : L2.St} {H : Hp} {Q : Bool → Hp → Prop} (h : LT G (wBl w) σ H Q) : tTest (LE G w) σ H Q := by
  obtain ⟨F, m, δ, Q0, r, s, h, k⟩ := h
  refine ⟨F, m, δ, _, r, s, h, fun d m1 v F1 H1 h1 e1 r1 v1 => ?_⟩
  cases v1 <;> first | exact False.elim h1 | skip
  exact ⟨_, rfl, k _ _ _ _ h1 e1 r1⟩
theorem qt_cmp {op : CmpOp} {R : D2} (ho : OpR X (compareOp op) (LR2 G R)) (ha : PE X a (LE G wa)) (hb : PE X b (LE G wb)) (hm : behindInMarks op b = false) : PT X (.Compare a [op] [b] pos) (LT G (wBl (wOp R wa wb))) :=
  PT.imp (pt_cmpR ho ha hb hm) fun σ H Q h => by
    obtain ⟨F, m, δ, Q0, r, s, h, k⟩ := lt_bl h
    exact le_op ⟨F, m, δ, Q0, r, s, h, k⟩
/-- x op y op' z -/
def wChain (R R' : D2) (wa wb wc : DE) : DE := fun δ m Q => wa δ m fun x m1 => wb δ m1 fun y m2 => R x y m2 fun z m3 => match z with
  | .bl true => wc δ m3 fun u m4 => R' y u m4 Q
  | .bl false => Q (.bl false) m3
  | _ => False
theorem le_chain {R R' : D2} {wc : DE} {σ : L2.St} {H : Hp} {Q : VK} (h : LE G (wChain R R' wa wb wc) σ H Q) : tChain (LR2 G R) (LR2 G R') (LE G wa) (LE G wb) (LE G wc) σ H Q := by
  obtain ⟨F, m, δ, Q0, r, s, h, k⟩ := h
  refine ⟨F, m, δ, _, r, s, h, fun d1 m1 v1 F1 H1 h1 e1 r1 q1 => ⟨F1, m1, δ, _, r1, s.mono e1, h1, fun d2 m2 v2 F2 H2 h2 e2 r2 q2 => ⟨F2, m2, d1, d2, _, r2, q1.mono e2, q2, h2, fun d3 m3 v3 F3 H3 h3 e3 r3 q3 => ?_⟩⟩⟩
  cases q3 <;> first | exact False.elim h3 | skip
  rename_i b
  refine ⟨b, rfl, ?_⟩
  cases b with
  | true =>
    rw [if_pos rfl]
    exact ⟨F3, m3, δ, _, r3, s.mono ((e1.trans e2).trans e3), h3, fun d4 m4 v4 F4 H4 h4 e4 r4 q4 => ⟨F4, m4, d2, d4, Q0, r4, q2.mono (e3.trans e4), q4, h4, k.mono (((e1.trans e2).trans e3).trans e4)⟩⟩
  | false =>
    rw [if_neg Bool.false_ne_true]
    exact k _ _ _ _ _ h3 ((e1.trans e2).trans e3) r3 (.bl false)
theorem qe_chain {op op' : CmpOp} {R R' : D2} {c : Expr} {wc : DE} (ho : OpR X (compareOp op) (LR2 G R)) (ho' : OpR X (compareOp op') (LR2 G R')) (ha : PE X a (LE G wa)) (hb : PE X b (LE G wb)) (hc : PE X c (LE G wc)) (hm : lastMarks [op, op'] [b, c] = false := by with_unfolding_all rfl) :
    PE X (.Compare a [op, op'] [b, c] pos) (LE G (wChain R R' wa wb wc)) := PE.imp (pe_chain ho ho' ha hb hc hm) fun _ _ _ h => le_chain h
theorem qt_chain {op op' : CmpOp} {R R' : D2} {c : Expr} {wc : DE} (ho : OpR X (compareOp op) (LR2 G R)) (ho' : OpR X (compareOp op') (LR2 G R')) (ha : PE X a (LE G wa)) (hb : PE X b (LE G wb)) (hc : PE X c (LE G wc)) (hm : lastMarks [op, op'] [b, c] = false := by with_unfolding_all rfl) :
    PT X (.Compare a [op, op'] [b, c] pos) (LT G (wBl (wChain R R' wa wb wc))) := PT.imp (pt_chain ho ho' ha hb hc hm) fun σ H Q h => by
    obtain ⟨F, m, δ, Q0, r, s, h, k⟩ := lt_bl h
    exact le_chain ⟨F, m, δ, Q0, r, s, h, k⟩
/-- and, or, not as tests -/
def wAndT (t u : DT) : DT := fun δ m Q => t δ m fun b m1 => if b = true then u δ m1 Q else Q false m1
def wOrT (t u : DT) : DT := fun δ m Q => t δ m fun b m1 => if b = true then Q true m1 else u δ m1 Q
def wNotT (t : DT) : DT := fun δ m Q => t δ m fun b m1 => Q (!b) m1
theorem qw_and1 (ha : PT X a (LT G wt)) : PW X (.BoolOp .And [a] pos) (LT G wt) := pw_and1 ha
theorem qw_or1 (ha : PT X a (LT G wt)) : PW X (.BoolOp .Or [a] pos) (LT G wt) := pw_or1 ha
theorem qw_and {rest : List Expr} (ha : PT X a (LT G wt)) (hb : PW X (.BoolOp .And (b :: rest) pos) (LT G wu)) : PW X (.BoolOp .And (a :: b :: rest) pos) (LT G (wAndT wt wu)) :=
  PW.imp (pw_and ha hb) fun σ H Q h => by
    obtain ⟨F, m, δ, Q0, r, s, h, k⟩ := h
    refine ⟨F, m, δ, _, r, s, h, fun c m1 F1 H1 h1 e1 r1 => ?_⟩
    cases c with
    | true => exact ⟨F1, m1, δ, Q0, r1, s.mono e1, h1, k.mono e1⟩
    | false => exact k _ _ _ _ h1 e1 r1
theorem qw_or {rest : List Expr} (ha : PT X a (LT G wt)) (hb : PW X (.BoolOp .Or (b :: rest) pos) (LT G wu)) : PW X (.BoolOp .Or (a :: b :: rest) pos) (LT G (wOrT wt wu)) :=
  PW.imp (pw_or ha hb) fun σ H Q h => by
    obtain ⟨F, m, δ, Q0, r, s, h, k⟩ := h
    refine ⟨F, m, δ, _, r, s, h, fun c m1 F1 H1 h1 e1 r1 => ?_⟩
    cases c with
    | false => exact ⟨F1, m1, δ, Q0, r1, s.mono e1, h1, k.mono e1⟩
    | true => exact k _ _ _ _ h1 e1 r1
theorem qt_not (ha : PT X a (LT G wt)) : PT X (.UnaryOp .Not a pos) (LT G (wNotT wt)) :=
  PT.imp (pt_not ha) fun σ H Q h => by
    obtain ⟨F, m, δ, Q0, r, s, h, k⟩ := h
    exact ⟨F, m, δ, _, r, s, h, fun c m1 F1 H1 h1 e1 r1 => k _ _ _ _ h1 e1 r1⟩
/-- and, or, not as values -/
def wAnd (wa wb : DE) : DE := fun δ m Q => wa δ m fun x m1 => truD m1 x fun b => if b = true then wb δ m1 Q else Q x m1
def wOr (wa wb : DE) : DE := fun δ m Q => wa δ m fun x m1 => truD m1 x fun b => if b = true then Q x m1 else wb δ m1 Q
def wNot (wa : DE) : DE := fun δ m Q => wa δ m fun x m1 => truD m1 x fun b => Q (.bl (!b)) m1
theorem qe_one {op} (h : PE X a (LE G w)) : PE X (.BoolOp op [a] pos) (LE G w) := pe_one h
theorem qe_and {rest : List Expr} (hK : X.K = G.K) (ha : PE X a (LE G wa)) (hb : PE X (.BoolOp .And (b :: rest) pos) (LE G wb)) : PE X (.BoolOp .And (a :: b :: rest) pos) (LE G (wAnd wa wb)) :=
  PE.imp (pe_andT ha hb) fun σ H Q h => by
    obtain ⟨F, m, δ, Q0, r, s, h, k⟩ := h
    refine ⟨F, m, δ, _, r, s, h, fun d m1 v F1 H1 h1 e1 r1 v1 => ?_⟩
    obtain ⟨b, t, q⟩ := tru_vr r1 v1 h1
    refine ⟨b, by rw [hK]; exact t, ?_⟩
    cases b with
    | true => exact ⟨F1, m1, δ, Q0, r1, s.mono e1, q, k.mono e1⟩
    | false => exact k _ _ _ _ _ q e1 r1 v1
theorem qe_or {rest : List Expr} (hK : X.K = G.K) (ha : PE X a (LE G wa)) (hb : PE X (.BoolOp .Or (b :: rest) pos) (LE G wb)) : PE X (.BoolOp .Or (a :: b :: rest) pos) (LE G (wOr wa wb)) :=
  PE.imp (pe_orT ha hb) fun σ H Q h => by
    obtain ⟨F, m, δ, Q0, r, s, h, k⟩ := h
    refine ⟨F, m, δ, _, r, s, h, fun d m1 v F1 H1 h1 e1 r1 v1 => ?_⟩
    obtain ⟨b, t, q⟩ := tru_vr r1 v1 h1
    refine ⟨b, by rw [hK]; exact t, ?_⟩
    cases b with
    | false => exact ⟨F1, m1, δ, Q0, r1, s.mono e1, q, k.mono e1⟩
    | true => exact k _ _ _ _ _ q e1 r1 v1
theorem qe_not (hK : X.K = G.K) (ha : PE X a (LE G wa)) : PE X (.UnaryOp .Not a pos) (LE G (wNot wa)) :=
  PE.imp (pe_notT ha) fun σ H Q h => by
    obtain ⟨F, m, δ, Q0, r, s, h, k⟩ := h
    refine ⟨F, m, δ, _, r, s, h, fun d m1 v F1 H1 h1 e1 r1 v1 => ?_⟩
    obtain ⟨b, t, q⟩ := tru_vr r1 v1 h1
    exact ⟨b, by rw [hK]; exact t, k _ _ _ _ _ q e1 r1 (.bl _)⟩
/-- a if c else b -/
def wIf (t : DT) (wa wb : DE) : DE := fun δ m Q => t δ m fun b m1 => if b = true then wa δ m1 Q else wb δ m1 Q
theorem qe_if {c : Expr} (hc : PT X c (LT G wt)) (ha : PE X a (LE G wa)) (hb : PE X b (LE G wb)) : PE X (.IfExp c a b pos) (LE G (wIf wt wa wb)) :=
  PE.imp (pe_ifExp hc ha hb) fun σ H Q h => by
    obtain ⟨F, m, δ, Q0, r, s, h, k⟩ := h
    refine ⟨F, m, δ, _, r, s, h, fun c m1 F1 H1 h1 e1 r1 => ?_⟩
    cases c with
    | true => exact ⟨F1, m1, δ, Q0, r1, s.mono e1, h1, k.mono e1⟩
    | false => exact ⟨F1, m1, δ, Q0, r1, s.mono e1, h1, k.mono e1⟩
def lookN (fs : List (Nat × DV)) (i : Nat) : Option DV := match fs with
  | [] => none
  | (j, d) :: r => if j = i then some d else lookN r i
def putN (i : Nat) (d : DV) : List (Nat × DV) → List (Nat × DV)
  | [] => [(i, d)]
  | (j, e) :: r => if j = i then (j, d) :: r else (j, e) :: putN i d r
def Gam.Inj (G : Gam) : Prop := ∀ i j, G.fld i = G.fld j → i = j
theorem FR.look {F : Hp} (hi : G.Inj) {i : Nat} {d : DV} {fv : List (Str × V)} {fs : List (Nat × DV)} (h : FR G F fv fs) (e : lookN fs i = some d) : ∃ v, fv.lookup (G.fld i) = some v ∧ VR G.K F v d := by
  unfold FR at h
  induction h with
  | nil => cases e
  | @cons a b as bs h t ih =>
    obtain ⟨n, v⟩ := a
    obtain ⟨j, c⟩ := b
    have en : n = G.fld j := h.1
    subst en
    rw [List.lookup_cons]
    unfold lookN at e
    by_cases z : j = i
    · subst z
      rw [if_pos rfl] at e; cases e
      rw [beq_self_eq_true]
      exact ⟨v, rfl, h.2⟩
    · rw [if_neg z] at e
      have hb : (G.fld i == G.fld j) = false := beq_eq_false_iff_ne.mpr fun q => z (hi _ _ q).symm
      rw [hb]
      exact ih e
theorem FR.put {F : Hp} (hi : G.Inj) {i : Nat} {v : V} {d : DV} (rv : VR G.K F v d) {fv : List (Str × V)} {fs : List (Nat × DV)} (h : FR G F fv fs) : FR G F (putF (G.fld i) v fv) (putN i d fs) := by
  unfold FR at h ⊢
  induction h with
  | nil => exact .cons ⟨rfl, rv⟩ .nil
  | @cons a b as bs h t ih =>
    obtain ⟨n, v'⟩ := a
    obtain ⟨j, c⟩ := b
    have en : n = G.fld j := h.1
    subst en
    unfold putF putN
    by_cases z : j = i
    · subst z
      rw [if_pos rfl, if_pos rfl]
      exact .cons ⟨rfl, rv⟩ t
    · rw [if_neg z, if_neg fun q => z (hi _ _ q)]
      exact .cons h ih
/-- a field of an instance of the class c -/
def fldD (c i : Nat) (d : DV) (m : Sto) (Q : DK) : Prop := match d with
  | .ref p => match m p with
    | some (.ins c' fs) => c' = c ∧ match lookN fs i with
      | some x => Q x m
      | none => False
    | _ => False
  | _ => False
theorem fld_ok {F H : Hp} {m : Sto} {v : V} {d : DV} {c i : Nat} {Q0 : DK} {Q : VK} (hi : G.Inj) (r : Rel G F m H) (rv : VR G.K F v d) (h : fldD c i d m Q0) (k : Kt G F Q0 Q) :
    ∃ a dx fs x, v = .ref a ∧ H a = some (.ins (G.cls c) dx fs) ∧ fs.lookup (G.fld i) = some x ∧ Q x H := by
  cases rv <;> first | exact False.elim h | skip
  rename_i a
  unfold fldD at h
  dsimp only at h
  cases e : m a with
  | none => rw [e] at h; exact False.elim h
  | some o =>
    rw [e] at h
    cases o <;> first | exact False.elim h | skip
    dsimp only at h
    obtain ⟨rfl, h⟩ := h
    rename_i fs
    cases e2 : lookN fs i with
    | none => rw [e2] at h; exact False.elim h
    | some x =>
      rw [e2] at h
      obtain ⟨_, u, hu, dx, fv, rfl, hf⟩ := r.mo a _ e
      obtain ⟨w, hw, rw'⟩ := FR.look hi hf e2
      exact ⟨a, dx, fv, w, rfl, hu, hw, k _ _ _ _ _ h (Ex.refl F) r rw'⟩
def wFld (c i : Nat) (w : DE) : DE := fun δ m Q => w δ m fun d m1 => fldD c i d m1 Q
theorem qe_fld {f : Str} {c i : Nat} (hi : G.Inj) (hf : G.fld i = f) (cl : Cls X.K (G.cls c)) (na : NoAttr X.K (G.cls c) f) (he : PE X e (LE G w)) (hb : attributeBase e f X.env (eval e X.env) = eval e X.env := by rfl) : PE X (.Attribute e f pos) (LE G (wFld c i w)) :=
  PE.imp (pe_fld he hb) fun σ H Q h => by
    obtain ⟨F, m, δ, Q0, r, s, h, k⟩ := h
    refine ⟨F, m, δ, _, r, s, h, fun d m1 v F1 H1 h1 e1 r1 v1 => ?_⟩
    obtain ⟨a, dx, fs, x, h2, h3, h4, h5⟩ := fld_ok hi r1 v1 h1 (k.mono e1)
    exact ⟨a, G.cls c, dx, fs, x, h2, h3, cl, na, by rw [← hf]; exact h4, h5⟩
end
end DL
namespace DL
open PySem PySem.Spec PyProof.Rows L2 RZ
def UnlV (X : Cx) (N : VK) : VK := fun v H => N v H ∨ ∃ d od u, H d = some (.frz od u) ∧ (∀ o' u', X.H_0 d ≠ some (.frz o' u')) ∧ N v (upd H d u)
def UnlS (X : Cx) (N : L2.St → Hp → Prop) : L2.St → Hp → Prop := fun σ H => N σ H ∨ ∃ d od u, H d = some (.frz od u) ∧ (∀ o' u', X.H_0 d ≠ some (.frz o' u')) ∧ N σ (upd H d u)
theorem PE.unl {X : Cx} {e : Expr} {t : TE} (h : PE X e t) : PE X e (fun σ H Q => t σ H (UnlV X Q)) := ⟨fun pins s σ H Q I q => thn (h.run pins s σ H _ I q) fun u s1 ⟨v, H1, I1, r1, q1⟩ => by
  rcases q1 with q1 | ⟨d, od, u', e, n, q1⟩
  · exact ⟨v, H1, I1, r1, q1⟩
  · exact ⟨v, _, I1.unlock e n, r1, q1⟩⟩
theorem PS.unl {X : Cx} {st : Stmt} {t : TS} (h : PS X st t) : PS X st (fun D σ H => t { nx := UnlS X D.nx, rt := UnlV X D.rt, bk := UnlS X D.bk, ct := UnlS X D.ct } σ H) := by
  have key : ∀ {pins : List (Addr × Obj)} {s : Shared} {σ : L2.St} {H : Hp} {N : L2.St → Hp → Prop}, Inv X pins σ H s → UnlS X N σ H → ∃ σ' H', Inv X pins σ' H' s ∧ N σ' H' := fun {pins s σ H N} I q => by
    rcases q with q | ⟨d, od, u', e, n, q⟩
    · exact ⟨σ, H, I, q⟩
    · exact ⟨σ, _, I.unlock e n, q⟩
  refine ⟨fun pins s σ H D I q => thn (h.run pins s σ H _ I q) fun f s1 q1 => ?_⟩
  cases f with
  | next => obtain ⟨σ1, H1, I1, q1⟩ := q1; exact key I1 q1
  | brk => obtain ⟨σ1, H1, I1, q1⟩ := q1; exact key I1 q1
  | cont => obtain ⟨σ1, H1, I1, q1⟩ := q1; exact key I1 q1
  | ret u =>
    obtain ⟨v, σ1, H1, I1, r1, q1⟩ := q1
    rcases q1 with q1 | ⟨d, od, u', e, n, q1⟩
    · exact ⟨v, σ1, H1, I1, r1, q1⟩
    · exact ⟨v, σ1, _, I1.unlock e n, r1, q1⟩
structure DIt where
  items : List DV
  st : Sto → Prop
  lk : Option (Addr × Obj × List (Key × V) × List (Key × DV)) := none
def DIt.fin (it : DIt) (m : Sto) (k : Sto → Prop) : Prop := match it.lk with
  | none => k m
  | some (p, o, kv, kvs) => m p = some (.lck o kv kvs) ∧ k (put m p (.dct kvs))
abbrev DI := Slots → Sto → (DIt → Sto → Prop) → Prop
def ItOk (G : Gam) (F0 : Hp) (J : It) (it : DIt) : Prop := ∀ (i : Nat) (F : Hp) (m : Sto) (H : Hp), Ex F0 F → Rel G F m H → it.st m →
  (∀ d, it.items[i]? = some d → J.go i H ∧ ∀ x H', J.yld i H x H' → ∃ F', Ex F F' ∧ Rel G F' m H' ∧ VR G.K F' x d) ∧ (it.items[i]? = none → J.stop i H)
def LI (X : Cx) (G : Gam) (w : DI) : TI := fun σ H R => ∃ F m δ R0, Rel G F m H ∧ SR G.K F σ δ ∧ w δ m R0 ∧ ∀ it m' F' H' J, R0 it m' → Ex F F' → Rel G F' m' H' → ItOk G F' J it → (∀ pk, it.lk = some pk → ∀ o u, X.H_0 pk.1 ≠ some (.frz o u)) → R J H'
theorem fin_ok {X : Cx} {G : Gam} {F H : Hp} {m : Sto} {it : DIt} {k : Sto → Prop} {N : Hp → Prop} (r : Rel G F m H) (hn : ∀ pk, it.lk = some pk → ∀ o u, X.H_0 pk.1 ≠ some (.frz o u)) (h : it.fin m k) (q : ∀ m' H', k m' → Rel G F m' H' → N H') :
    N H ∨ ∃ d od u, H d = some (.frz od u) ∧ (∀ o' u', X.H_0 d ≠ some (.frz o' u')) ∧ N (upd H d u) := by
  obtain ⟨items, st, lk⟩ := it
  unfold DIt.fin at h
  cases lk with
  | none => exact .inl (q _ _ h r)
  | some pk =>
    obtain ⟨p, o, kv, kvs⟩ := pk
    obtain ⟨e, h⟩ := h
    obtain ⟨_, u, hu, rfl, hr⟩ := r.mo p _ e
    exact .inr ⟨p, o, .dK kv, hu, hn _ rfl, q _ _ h (r.write e ⟨kv, rfl, hr⟩)⟩
/-- what a value gives when it is walked -/
def itOf (d : DV) (m : Sto) (R : DIt → Sto → Prop) : Prop := match asQ m d with
  | some xs => R ⟨xs, fun m' => asQ m' d = some xs, none⟩ m
  | none => match d with
    | .ref p => match m p with
      | some (.dct kvs) => ∀ o kv, R ⟨kvs.map fun kv => kD kv.1, fun m' => m' p = some (.lck o kv kvs), some (p, o, kv, kvs)⟩ (put m p (.lck o kv kvs))
      | some (.lck o kv kvs) => R ⟨kvs.map fun kv => kD kv.1, fun m' => m' p = some (.lck o kv kvs), none⟩ m
      | _ => False
    | _ => False
theorem vr_kD {K : PySem.W.Frag} {F : Hp} (k : Key) : VR K F (kV k) (kD k) := by
  cases k with
  | inl i => exact .int i
  | inr x => exact .str x
theorem itok_seq {G : Gam} {F : Hp} {a : Addr} {xs : List DV} {S : Hp → List V → Prop} {st : Sto → Prop} {J : It}
    (h : ∀ F' m H, Ex F F' → Rel G F' m H → st m → ∃ vs, S H vs ∧ VRs G.K F' vs xs)
    (go : ∀ i H vs x, S H vs → vs[i]? = some x → J.go i H) (yl : ∀ i H vs x H', S H vs → J.yld i H x H' → H' = H ∧ vs[i]? = some x) (sp : ∀ i H vs, S H vs → vs.length ≤ i → J.stop i H) : ItOk G F J ⟨xs, st, none⟩ := by
  intro i F' m H e r s
  obtain ⟨vs, hs, hv⟩ := h F' m H e r s
  refine ⟨fun d hd => ?_, fun hd => ?_⟩
  · obtain ⟨x, hx, rx⟩ := hv.get hd
    refine ⟨go i H vs x hs hx, fun y H' hy => ?_⟩
    obtain ⟨eH, hz⟩ := yl i H vs y H' hs hy
    rw [hx] at hz; cases hz
    rw [eH]
    exact ⟨F', Ex.refl F', r, rx⟩
  · refine sp i H vs hs ?_
    rw [hv.length]
    exact List.getElem?_eq_none_iff.mp hd
theorem SqL.inj {K : PySem.W.Frag} {H : Hp} {a : Addr} {xs ys : List V} {X : Cx} {pins : List (Addr × Obj)} {σ : L2.St} {s : Shared} (I : Inv X pins σ H s) (hK : X.K = K) (h : SqL K H a xs) (g : SqL K H a ys) : xs = ys := by
  subst hK; exact I.list_inj h g
def iAny (w : DE) : DI := fun δ m R => w δ m fun d m1 => itOf d m1 R
theorem itl_ok {G : Gam} {F : Hp} {a : Addr} {xs : List DV} {st : Sto → Prop} (h : ∀ F' m H, Ex F F' → Rel G F' m H → st m → ∃ vs, SqL G.K H a vs ∧ VRs G.K F' vs xs) : ItOk G F (Itl G.K a) ⟨xs, st, none⟩ := by
  refine itok_seq (a := a) (S := fun H vs => SqL G.K H a vs) h (fun i H vs x hs hx => ⟨vs, x, hs, hx⟩) (fun i H vs x H' hs hy => ⟨hy.1, hy.2 vs hs⟩) fun i H vs hs hl => ⟨vs, hs, hl⟩
theorem itt_ok {G : Gam} {F : Hp} {a : Addr} {xs : List DV} {st : Sto → Prop} (h : ∀ F' m H, Ex F F' → Rel G F' m H → st m → ∃ vs, SqT G.K H a vs ∧ VRs G.K F' vs xs) : ItOk G F (Itt G.K a) ⟨xs, st, none⟩ := by
  refine itok_seq (a := a) (S := fun H vs => SqT G.K H a vs) h (fun i H vs x hs hx => ⟨vs, x, hs, hx⟩) (fun i H vs x H' hs hy => ⟨hy.1, hy.2 vs hs⟩) fun i H vs hs hl => ⟨vs, hs, hl⟩
theorem itk_ok {G : Gam} {F : Hp} {p : Addr} {o : Obj} {kv : List (Key × V)} {kvs : List (Key × DV)} {lk} (hr : KR G.K F kv kvs) :
    ItOk G F (Itk p o kv) ⟨kvs.map fun kv => kD kv.1, fun m' => m' p = some (.lck o kv kvs), lk⟩ := by
  intro i F' m H e r s
  have hH : H p = some (.frz o (.dK kv)) := by
    obtain ⟨_, u, hu, rfl, _⟩ := r.mo p _ s
    exact hu
  have hl := KR.length hr
  have hk := KR.keys hr
  refine ⟨fun d hd => ?_, fun hd => ?_⟩
  · have hi : i < kvs.length := by
      have := List.getElem?_eq_some_iff.mp hd
      obtain ⟨z, _⟩ := this
      simpa using z
    refine ⟨⟨hH, by omega⟩, fun y H' hy => ?_⟩
    obtain ⟨rfl, k, v, e1, rfl⟩ := hy
    have e2 : (kv.map (·.1))[i]? = some k := by rw [List.getElem?_map, e1]; rfl
    rw [hk, List.getElem?_map] at e2
    dsimp only at hd
    rw [List.getElem?_map] at hd
    cases e3 : kvs[i]? with
    | none => rw [e3] at e2; cases e2
    | some q =>
      rw [e3] at e2 hd
      have e4 : q.1 = k := Option.some.inj e2
      have e5 : kD q.1 = d := Option.some.inj hd
      subst e5
      rw [e4]
      exact ⟨F', Ex.refl F', r, vr_kD k⟩
  · refine ⟨hH, ?_⟩
    have := List.getElem?_eq_none_iff.mp hd
    simp at this
    omega
theorem qi_any {X : Cx} {G : Gam} {tg e : Expr} {w : DE} (hK : X.K = G.K) (he : PE X e (LE G w)) : PI X tg e (LI X G (iAny w)) := by
  refine ⟨fun pins s σ H R I h => ?_⟩
  obtain ⟨F, m, δ, R0, r, sr, h, k⟩ := h
  refine thn (he.run pins s σ H (fun v H1 => ∃ F1 m1 d, Ex F F1 ∧ Rel G F1 m1 H1 ∧ VR G.K F1 v d ∧ itOf d m1 R0) I ⟨F, m, δ, _, r, sr, h, fun d m1 v F1 H1 q e1 r1 v1 => ⟨F1, m1, d, e1, r1, v1, q⟩⟩) fun v s1 ⟨x, H1, I1, rx, F1, m1, d, e1, r1, v1, q⟩ => ?_
  -- a list, a tuple
  have asList : ∀ a xs, x = .ref a → (∀ F' m H, Ex F1 F' → Rel G F' m H → asQ m d = some xs → ∃ vs, SqL G.K H a vs ∧ VRs G.K F' vs xs) → asQ m1 d = some xs → R0 ⟨xs, fun m' => asQ m' d = some xs, none⟩ m1 →
      wpAny (model X.prog X.w) X.A (pyIter v) (PIE X pins σ tg R) X.xe s1 := fun a xs ex hl ha hq => by
    subst ex
    cases rx
    obtain ⟨vs, hs, _⟩ := hl F1 m1 H1 (Ex.refl F1) r1 ha
    obtain ⟨its, rv, p, hz⟩ := I1.list (by rw [hK]; exact hs)
    refine wpAny_pyIter_list p.isList ?_
    refine ⟨s1.heap.objs.size, [s1.heap.objs.size], _, _, H1, rfl, I1.kept (t' := s1.toks) fun b o e => Heap.get?_push_of_some _ e, turn_list a _, ⟨_, Heap.get?_push_size _ rfl, rfl, rfl⟩, fun b hb => ?_,
      k _ _ _ _ _ hq e1 r1 (by rw [hK]; exact itl_ok hl) fun pk e => by cases e⟩
    have e : b = s1.heap.objs.size := by simpa using hb
    subst e
    exact I1.fpOk (Nat.le_refl _) (I1.hok.fresh (Nat.le_refl _))
  have asTup : ∀ a xs, x = .ref a → (∀ F' m H, Ex F1 F' → Rel G F' m H → asQ m d = some xs → ∃ vs, SqT G.K H a vs ∧ VRs G.K F' vs xs) → asQ m1 d = some xs → R0 ⟨xs, fun m' => asQ m' d = some xs, none⟩ m1 →
      wpAny (model X.prog X.w) X.A (pyIter v) (PIE X pins σ tg R) X.xe s1 := fun a xs ex hl ha hq => by
    subst ex
    cases rx
    obtain ⟨vs, hs, _⟩ := hl F1 m1 H1 (Ex.refl F1) r1 ha
    obtain ⟨its, rv, p, hz⟩ := I1.tuple (by rw [hK]; exact hs)
    refine wpAny_pyIter_tuple (show s1.heap.IsTuple a its.toArray from p) ?_
    refine ⟨s1.heap.objs.size, [s1.heap.objs.size], _, _, H1, rfl, I1.kept (t' := s1.toks) fun b o e => Heap.get?_push_of_some _ e, turn_tuple a _, ⟨_, Heap.get?_push_size _ rfl, rfl, rfl⟩, fun b hb => ?_,
      k _ _ _ _ _ hq e1 r1 (by rw [hK]; exact itt_ok hl) fun pk e => by cases e⟩
    have e : b = s1.heap.objs.size := by simpa using hb
    subst e
    exact I1.fpOk (Nat.le_refl _) (I1.hok.fresh (Nat.le_refl _))
  have dKeys : ∀ (p : Addr) (o : Obj) (kv : List (Key × V)) (H2 : Hp), v = .ref p → Inv X pins σ H2 s1 → H2 p = some (.frz o (.dK kv)) → R (Itk p o kv) H2 → wpAny (model X.prog X.w) X.A (pyIter v) (PIE X pins σ tg R) X.xe s1 := fun p o kv H2 ev I2 hd q => by
    subst ev
    obtain ⟨hs, hgd, hx, es, ep, vs, hdt, hsz, kv', hm⟩ := I2.frzK hd
    refine iter_keys hs hgd hx hdt (pi_one (tk := s1.toks) I2 _ (turn_keys _ hdt) ⟨_, Heap.get?_push_size _ rfl, rfl, ?_⟩ q)
    rw [hsz] <;> rfl
  unfold itOf at q
  cases ea : asQ m1 d with
  | some xs =>
    rw [ea] at q
    dsimp only at q
    cases v1 with
    | @lst a vs ds hs hr =>
      refine asList a xs rfl (fun F' m H e r h => ⟨vs, .inl ((e.trans r.ex).rd hs), ?_⟩) ea q
      have z : ds = xs := Option.some.inj h
      subst z
      exact hr.mono e
    | @klst a vs ds hs hr =>
      refine asList a xs rfl (fun F' m H e r h => ⟨vs, Ex.sqL ex_none hs, ?_⟩) ea q
      have z : ds = xs := Option.some.inj h
      subst z
      exact hr.mono e
    | @tup a vs ds hs hr =>
      refine asTup a xs rfl (fun F' m H e r h => ⟨vs, SqT.of ((e.trans r.ex) _ _ hs), ?_⟩) ea q
      have z : ds = xs := Option.some.inj h
      subst z
      exact hr.mono e
    | @ktup a vs ds hs hr =>
      refine asTup a xs rfl (fun F' m H e r h => ⟨vs, Ex.sqT ex_none hs, ?_⟩) ea q
      have z : ds = xs := Option.some.inj h
      subst z
      exact hr.mono e
    | ref a =>
      refine asList a xs rfl (fun F' m H e r h => ?_) ea q
      obtain ⟨a', vs, e1, e2, e3⟩ := asL_ok (G := G) (F := F') r (.ref a) h
      cases e1
      exact ⟨vs, e2, e3⟩
    | _ => cases ea
  | none =>
    rw [ea] at q
    dsimp only at q
    cases v1 <;> first | exact False.elim q | skip
    rename_i p
    dsimp only at q
    cases em : m1 p with
    | none => rw [em] at q; exact False.elim q
    | some ob =>
      rw [em] at q
      cases ob <;> first | exact False.elim q | skip
      · rename_i kvs
        dsimp only at q
        obtain ⟨hF, u, hu, kv, rfl, hr⟩ := r1.mo p _ em
        obtain ⟨od, I2⟩ := I1.lock hu trivial
        have r2 : Rel G F1 (put m1 p (.lck od kv kvs)) (upd H1 p (.frz od (.dK kv))) := r1.write em ⟨rfl, hr⟩
        exact dKeys p od kv _ rx I2 upd_same (k _ _ F1 _ _ (q od kv) e1 r2 (itk_ok hr) fun pk e => by cases e; exact I1.nofrz hu trivial)
      · rename_i o kv kvs
        dsimp only at q
        obtain ⟨hF, u, hu, rfl, hr⟩ := r1.mo p _ em
        exact dKeys p o kv _ rx I1 hu (k _ _ F1 _ _ q e1 r1 (itk_ok hr) fun pk e => by cases e)
section
variable {X : Cx} {G : Gam} {tg e e2 : Expr} {elts : List Expr} {kk : Nat} {p pos tpos : Pos} {wl : DA}
theorem asL_stay {G : Gam} {F F' H : Hp} {m : Sto} {a : Addr} {d : DV} {xs : List DV} (v : VR G.K F (.ref a) d) (e : Ex F F') (r : Rel G F' m H) (h : asL m d = some xs) : ∃ vs, SqL G.K H a vs ∧ VRs G.K F' vs xs := by
  obtain ⟨a', vs, e1, e2, e3⟩ := asL_ok r (v.mono e) h
  cases e1
  exact ⟨vs, e2, e3⟩
theorem asT_stay {G : Gam} {F F' H : Hp} {m : Sto} {a : Addr} {d : DV} {xs : List DV} (v : VR G.K F (.ref a) d) (e : Ex F F') (r : Rel G F' m H) (h : asT d = some xs) : ∃ vs, SqT G.K H a vs ∧ VRs G.K F' vs xs := by
  obtain ⟨a', vs, e1, e2, e3⟩ := asT_ok r (v.mono e) h
  cases e1
  exact ⟨vs, e2, e3⟩
/-- pairs of number and item -/
def enD (i : Nat) : List DV → List DV
  | [] => []
  | x :: r => .tup [.int i, x] :: enD (i + 1) r
theorem enD_get : ∀ (xs : List DV) (j i : Nat), (enD j xs)[i]? = xs[i]?.map fun x => .tup [.int ((j + i : Nat) : Int), x]
  | [], j, i => by simp [enD]
  | x :: r, j, 0 => by simp [enD]
  | x :: r, j, i + 1 => by
    show (enD (j + 1) r)[i]? = r[i]?.map _
    rw [enD_get r (j + 1) i]
    have : j + 1 + i = j + (i + 1) := by omega
    rw [this]
theorem ite_ok {G : Gam} {F : Hp} {a : Addr} {d : DV} {xs : List DV} (v : VR G.K F (.ref a) d) : ItOk G F (Ite G.K a) ⟨enD 0 xs, fun m => asL m d = some xs, none⟩ := by
  intro i F' m H e r s
  obtain ⟨vs, hs, hv⟩ := asL_stay v e r s
  refine ⟨fun x hx => ?_, fun hx => ?_⟩
  · dsimp only at hx
    rw [enD_get, Nat.zero_add] at hx
    cases ex : xs[i]? with
    | none => rw [ex] at hx; cases hx
    | some c =>
      rw [ex] at hx
      cases hx
      obtain ⟨u, hu, ru⟩ := hv.get ex
      refine ⟨⟨vs, u, hs, hu⟩, fun y H' hy => ?_⟩
      obtain ⟨T, z, rfl, hT, rfl, hz⟩ := hy
      have := hz vs hs
      rw [hu] at this; cases this
      have eF := Ex.new (o := .tup [.int (i : Nat), u]) (r.freeF hT)
      exact ⟨_, eF, r.data hT, .tup upd_same (.cons (.int _) (.cons (ru.mono eF) .nil))⟩
  · dsimp only at hx
    rw [enD_get] at hx
    cases ex : xs[i]? with
    | some c => rw [ex] at hx; cases hx
    | none => exact ⟨vs, hs, by rw [hv.length]; exact List.getElem?_eq_none_iff.mp ex⟩
def iEnumD (t : DA) : DI := fun δ m R => t δ m fun ds m1 => match ds with
  | [d] => match asL m1 d with
    | some xs => R ⟨enD 0 xs, fun m => asL m d = some xs, none⟩ m1
    | none => False
  | _ => False
theorem VRs.one_inv {K : PySem.W.Frag} {F : Hp} {vs : List V} {d : DV} (h : VRs K F vs [d]) : ∃ v, vs = [v] ∧ VR K F v d := by
  cases h with
  | cons a b => cases b; exact ⟨_, rfl, a⟩
theorem VRs.two_inv {K : PySem.W.Frag} {F : Hp} {vs : List V} {d e : DV} (h : VRs K F vs [d, e]) : ∃ v w, vs = [v, w] ∧ VR K F v d ∧ VR K F w e := by
  cases h with
  | cons a b =>
    obtain ⟨w, rfl, r⟩ := VRs.one_inv b
    exact ⟨_, _, rfl, a, r⟩
theorem VRs.three_inv {K : PySem.W.Frag} {F : Hp} {vs : List V} {d e f : DV} (h : VRs K F vs [d, e, f]) : ∃ v w u, vs = [v, w, u] ∧ VR K F v d ∧ VR K F w e ∧ VR K F u f := by
  cases h with
  | cons a b =>
    obtain ⟨w, u, rfl, r, s⟩ := VRs.two_inv b
    exact ⟨_, _, _, rfl, a, r, s⟩
theorem qi_enum (hK : X.K = G.K) (hg : Gl X "enumerate") (hm : X.mg "enumerate" = none) (ha : PA X [e] (LA G wl)) (hs : starEach [e] X.env = [(false, eval e X.env)] := by rfl) :
    PI X (.Tuple elts kk tpos) (.Call (.Name "enumerate" p) [e] [] pos) (LI X G (iEnumD wl)) := by
  have base : PI X (.Tuple elts kk tpos) (.Call (.Name "enumerate" p) [e] [] pos) (iEnum X.K (LA G wl)) := pi_enum hg hm ha hs
  refine ⟨fun pins s σ H R I h => base.run pins s σ H R I ?_⟩
  obtain ⟨F, m, δ, R0, r, sr, h, k⟩ := h
  refine ⟨F, m, δ, _, r, sr, h, fun ds m1 vs F1 H1 q e1 r1 v1 => ?_⟩
  match ds, q with
  | [d], q =>
    obtain ⟨v, rfl, rv⟩ := v1.one_inv
    dsimp only at q
    cases ea : asL m1 d with
    | none => rw [ea] at q; exact False.elim q
    | some xs =>
      rw [ea] at q
      obtain ⟨a, ws, rfl, hl, hr⟩ := asL_ok r1 rv ea
      rw [hK]
      exact ⟨a, ws, rfl, hl, k _ _ _ _ _ q e1 r1 (ite_ok rv) fun pk e => by cases e⟩
/-- pairs of the items of two -/
def zipD : List DV → List DV → List DV
  | x :: xs, y :: ys => .tup [x, y] :: zipD xs ys
  | _, _ => []
theorem zipD_get : ∀ (xs ys : List DV) (i : Nat), (zipD xs ys)[i]? = match xs[i]?, ys[i]? with
    | some x, some y => some (.tup [x, y])
    | _, _ => none
  | [], ys, i => by simp [zipD]
  | x :: xs, [], i => by
    simp [zipD]
  | x :: xs, y :: ys, 0 => by simp [zipD]
  | x :: xs, y :: ys, i + 1 => by
    show (zipD xs ys)[i]? = _
    rw [zipD_get xs ys i]
    simp
theorem zip_ok {G : Gam} {F : Hp} {S : Hp → Addr → List V → Prop} {a b : Addr} {xs ys : List DV} {st : Sto → Prop} {J : It}
    (h : ∀ F' m H, Ex F F' → Rel G F' m H → st m → ∃ vs ws, S H a vs ∧ S H b ws ∧ VRs G.K F' vs xs ∧ VRs G.K F' ws ys)
    (go : ∀ i H vs ws x y, S H a vs → S H b ws → vs[i]? = some x → ws[i]? = some y → J.go i H)
    (yl : ∀ i H vs ws v H', S H a vs → S H b ws → J.yld i H v H' → ∃ T x y, v = .ref T ∧ H T = none ∧ H' = upd H T (.tup [x, y]) ∧ vs[i]? = some x ∧ ws[i]? = some y)
    (sp : ∀ i H vs ws, S H a vs → S H b ws → (vs.length ≤ i ∨ ws.length ≤ i) → J.stop i H) : ItOk G F J ⟨zipD xs ys, st, none⟩ := by
  intro i F' m H e r s
  obtain ⟨vs, ws, h1, h2, r1, r2⟩ := h F' m H e r s
  refine ⟨fun d hd => ?_, fun hd => ?_⟩
  · dsimp only at hd
    rw [zipD_get] at hd
    cases e1 : xs[i]? with
    | none => rw [e1] at hd; cases hd
    | some x =>
      cases e2 : ys[i]? with
      | none => rw [e1, e2] at hd; cases hd
      | some y =>
        rw [e1, e2] at hd
        cases hd
        obtain ⟨u, hu, ru⟩ := r1.get e1
        obtain ⟨w, hw, rw'⟩ := r2.get e2
        refine ⟨go i H vs ws u w h1 h2 hu hw, fun v H' hv => ?_⟩
        obtain ⟨T, u', w', rfl, hT, rfl, hu', hw'⟩ := yl i H vs ws v H' h1 h2 hv
        rw [hu] at hu'; cases hu'
        rw [hw] at hw'; cases hw'
        have eF := Ex.new (o := .tup [u, w]) (r.freeF hT)
        exact ⟨_, eF, r.data hT, .tup upd_same (.cons (ru.mono eF) (.cons (rw'.mono eF) .nil))⟩
  · refine sp i H vs ws h1 h2 ?_
    rw [r1.length, r2.length]
    dsimp only at hd
    rw [zipD_get] at hd
    cases e1 : xs[i]? with
    | none => exact .inl (List.getElem?_eq_none_iff.mp e1)
    | some x =>
      cases e2 : ys[i]? with
      | none => exact .inr (List.getElem?_eq_none_iff.mp e2)
      | some y => rw [e1, e2] at hd; cases hd
def iZipD (t : DA) : DI := fun δ m R => t δ m fun ds m1 => match ds with
  | [c, d] => match asL m1 c, asL m1 d with
    | some xs, some ys => R ⟨zipD xs ys, fun m => asL m c = some xs ∧ asL m d = some ys, none⟩ m1
    | _, _ => match asT c, asT d with
      | some xs, some ys => R ⟨zipD xs ys, fun _ => True, none⟩ m1
      | _, _ => False
  | _ => False
theorem qi_zip (hK : X.K = G.K) (hg : Gl X "zip") (hm : X.mg "zip" = none) (ha : PA X [e, e2] (LA G wl))
    (hs : starEach [e, e2] X.env = (false, eval e X.env) :: starEach [e2] X.env := by rfl) (hpl : (backTo pos (starEach [e2] X.env)).any (·.1) = false := by rfl) :
    PI X (.Tuple elts kk tpos) (.Call (.Name "zip" p) [e, e2] [] pos) (LI X G (iZipD wl)) := by
  have base : PI X (.Tuple elts kk tpos) (.Call (.Name "zip" p) [e, e2] [] pos) (iZipA X.K (LA G wl)) := pi_zipA hg hm ha hs hpl
  refine ⟨fun pins s σ H R I h => base.run pins s σ H R I ?_⟩
  obtain ⟨F, m, δ, R0, r, sr, h, k⟩ := h
  refine ⟨F, m, δ, _, r, sr, h, fun ds m1 vs F1 H1 q e1 r1 v1 => ?_⟩
  match ds, q with
  | [c, d], q =>
    obtain ⟨v, w, rfl, rv, rw'⟩ := v1.two_inv
    dsimp only at q
    rw [hK]
    have tups : (match asT c, asT d with
      | some xs, some ys => R0 ⟨zipD xs ys, fun _ => True, none⟩ m1
      | _, _ => False) → ∃ a b xs ys, [v, w] = [V.ref a, V.ref b] ∧ ((SqL G.K H1 a xs ∧ SqL G.K H1 b ys ∧ R (Itz G.K a b) H1) ∨ (SqT G.K H1 a xs ∧ SqT G.K H1 b ys ∧ R (ItzT G.K a b) H1)) := fun q => by
      cases ec : asT c with
      | none => rw [ec] at q; exact False.elim q
      | some xs =>
        cases ed : asT d with
        | none => rw [ec, ed] at q; exact False.elim q
        | some ys =>
          rw [ec, ed] at q
          obtain ⟨a, us, rfl, hl, hr⟩ := asT_ok r1 rv ec
          obtain ⟨b, ws, rfl, hl2, hr2⟩ := asT_ok r1 rw' ed
          refine ⟨a, b, us, ws, rfl, .inr ⟨hl, hl2, k _ _ _ _ _ q e1 r1 ?_ fun pk e => by cases e⟩⟩
          refine zip_ok (S := fun H a vs => SqT G.K H a vs) (a := a) (b := b) (fun F' m H e r _ => ?_) (fun i H vs ws x y h1 h2 h3 h4 => ⟨vs, ws, x, y, h1, h2, h3, h4⟩) (fun i H vs ws v H' h1 h2 hy => ?_) fun i H vs ws h1 h2 h3 => ⟨vs, ws, h1, h2, h3⟩
          · obtain ⟨vs, g1, g2⟩ := asT_stay rv e r ec
            obtain ⟨ws, g3, g4⟩ := asT_stay rw' e r ed
            exact ⟨vs, ws, g1, g3, g2, g4⟩
          · obtain ⟨T, x, y, g1, g2, g3, g4, g5⟩ := hy
            exact ⟨T, x, y, g1, g2, g3, g4 _ h1, g5 _ h2⟩
    cases ec : asL m1 c with
    | none => rw [ec] at q; exact tups q
    | some xs =>
      cases ed : asL m1 d with
      | none => rw [ec, ed] at q; exact tups q
      | some ys =>
        rw [ec, ed] at q
        obtain ⟨a, us, rfl, hl, hr⟩ := asL_ok r1 rv ec
        obtain ⟨b, ws, rfl, hl2, hr2⟩ := asL_ok r1 rw' ed
        refine ⟨a, b, us, ws, rfl, .inl ⟨hl, hl2, k _ _ _ _ _ q e1 r1 ?_ fun pk e => by cases e⟩⟩
        refine zip_ok (S := fun H a vs => SqL G.K H a vs) (a := a) (b := b) (fun F' m H e r hst => ?_) (fun i H vs ws x y h1 h2 h3 h4 => ⟨vs, ws, x, y, h1, h2, h3, h4⟩) (fun i H vs ws v H' h1 h2 hy => ?_) fun i H vs ws h1 h2 h3 => ⟨vs, ws, h1, h2, h3⟩
        · obtain ⟨vs, g1, g2⟩ := asL_stay rv e r hst.1
          obtain ⟨ws, g3, g4⟩ := asL_stay rw' e r hst.2
          exact ⟨vs, ws, g1, g3, g2, g4⟩
        · obtain ⟨T, x, y, g1, g2, g3, g4, g5⟩ := hy
          exact ⟨T, x, y, g1, g2, g3, g4 _ h1, g5 _ h2⟩
/-- lo, lo + 1, .. -/
def rgD (lo : Int) (n : Nat) : List DV := (List.range n).map fun i : Nat => .int (lo + (i : Int))
theorem itr_ok {G : Gam} {F : Hp} {lo : Int} {n : Nat} : ItOk G F (Itr lo n) ⟨rgD lo n, fun _ => True, none⟩ := by
  intro i F' m H e r _
  refine ⟨fun d hd => ?_, fun hd => ?_⟩
  · dsimp only at hd
    unfold rgD at hd
    rw [List.getElem?_map] at hd
    by_cases hi : i < n
    · rw [List.getElem?_range hi] at hd
      cases hd
      refine ⟨hi, fun x H' hy => ?_⟩
      obtain ⟨rfl, rfl⟩ := hy
      exact ⟨F', Ex.refl F', r, .int _⟩
    · rw [List.getElem?_eq_none (by simpa using hi)] at hd
      cases hd
  · dsimp only at hd
    have := List.getElem?_eq_none_iff.mp hd
    unfold rgD at this
    show n ≤ i
    simpa using this
def iRngD (t : DA) : DI := fun δ m R => t δ m fun ds m1 => match ds with
  | [.int j] => -(2 ^ 62) ≤ j ∧ j < 2 ^ 62 ∧ R ⟨rgD 0 j.toNat, fun _ => True, none⟩ m1
  | _ => False
def iRngD2 (t : DA) : DI := fun δ m R => t δ m fun ds m1 => match ds with
  | [.int i, .int j] => (-(2 ^ 62) ≤ i ∧ i < 2 ^ 62 ∧ -(2 ^ 62) ≤ j ∧ j < 2 ^ 62) ∧ R ⟨rgD i (j - i).toNat, fun _ => True, none⟩ m1
  | _ => False
theorem qi_range1 (hg : Gl X "range") (hm : X.mg "range" = none) (ha : PA X [e] (LA G wl)) (hs : starEach [e] X.env = [(false, eval e X.env)] := by rfl) : PI X tg (.Call (.Name "range" p) [e] [] pos) (LI X G (iRngD wl)) := by
  have base : PI X tg (.Call (.Name "range" p) [e] [] pos) (iRng1 (LA G wl)) := pi_range1 hg hm ha hs
  refine ⟨fun pins s σ H R I h => base.run pins s σ H R I ?_⟩
  obtain ⟨F, m, δ, R0, r, sr, h, k⟩ := h
  refine ⟨F, m, δ, _, r, sr, h, fun ds m1 vs F1 H1 q e1 r1 v1 => ?_⟩
  match ds, q with
  | [.int j], q =>
    obtain ⟨v, rfl, rv⟩ := v1.one_inv
    cases rv
    exact ⟨j, rfl, q.1, q.2.1, k _ _ _ _ _ q.2.2 e1 r1 itr_ok fun pk e => by cases e⟩
theorem qi_range2 (hg : Gl X "range") (hm : X.mg "range" = none) (ha : PA X [e, e2] (LA G wl)) (hs : starEach [e, e2] X.env = [(false, eval e X.env), (false, eval e2 X.env)] := by rfl) (hs2 : starEach [e2] X.env = [(false, eval e2 X.env)] := by rfl) :
    PI X tg (.Call (.Name "range" p) [e, e2] [] pos) (LI X G (iRngD2 wl)) := by
  have base : PI X tg (.Call (.Name "range" p) [e, e2] [] pos) (iRng2 (LA G wl)) := pi_range2 hg hm ha hs hs2
  refine ⟨fun pins s σ H R I h => base.run pins s σ H R I ?_⟩
  obtain ⟨F, m, δ, R0, r, sr, h, k⟩ := h
  refine ⟨F, m, δ, _, r, sr, h, fun ds m1 vs F1 H1 q e1 r1 v1 => ?_⟩
  match ds, q with
  | [.int i, .int j], q =>
    obtain ⟨v, w, rfl, rv, rw'⟩ := v1.two_inv
    cases rv
    cases rw'
    exact ⟨i, j, rfl, q.1, k _ _ _ _ _ q.2 e1 r1 itr_ok fun pk e => by cases e⟩
end
end DL
namespace DL
open PySem PySem.Spec PyProof.Rows L2
def ChgIn (vs : List Nat) (σ σ' : L2.St) : Prop := σ'.length = σ.length ∧ ∀ i, i ∉ vs → σ'[i]? = σ[i]?
theorem ChgIn.refl (vs : List Nat) (σ : L2.St) : ChgIn vs σ σ := ⟨rfl, fun _ _ => rfl⟩
theorem ChgIn.comp {vs ws : List Nat} {a b c : L2.St} (h : ChgIn vs a b) (g : ChgIn ws b c) : ChgIn (vs ++ ws) a c :=
  ⟨g.1.trans h.1, fun i hi => (g.2 i fun z => hi (List.mem_append_right _ z)).trans (h.2 i fun z => hi (List.mem_append_left _ z))⟩
abbrev DG := DV → Slots → Sto → (Slots → Sto → Prop) → Prop
abbrev DGs := List DV → Slots → Sto → (Slots → Sto → Prop) → Prop
def KtG (G : Gam) (F : Hp) (vs : List Nat) (σ : L2.St) (Q0 : Slots → Sto → Prop) (Q : L2.St → Hp → Prop) : Prop := ∀ δ' m' σ' F' H', Q0 δ' m' → Ex F F' → Rel G F' m' H' → SR G.K F' σ' δ' → ChgIn vs σ σ' → Q σ' H'
def LG (G : Gam) (vs : List Nat) (g : DG) : TG := fun v σ H Q => ∃ F m δ d Q0, Rel G F m H ∧ SR G.K F σ δ ∧ VR G.K F v d ∧ g d δ m Q0 ∧ KtG G F vs σ Q0 Q
def LGs (G : Gam) (vs : List Nat) (g : DGs) : TGs := fun us σ H Q => ∃ F m δ ds Q0, Rel G F m H ∧ SR G.K F σ δ ∧ VRs G.K F us ds ∧ g ds δ m Q0 ∧ KtG G F vs σ Q0 Q
theorem PG.imp {X : Cx} {e : Expr} {t t' : TG} (h : PG X e t) (k : ∀ v σ H Q, t' v σ H Q → t v σ H Q) : PG X e t' := ⟨fun pins s σ H v u Q I r q => h.run pins s σ H v u Q I r (k v σ H Q q)⟩
theorem PGs.imp {X : Cx} {e : List Expr} {t t' : TGs} (h : PGs X e t) (k : ∀ v σ H Q, t' v σ H Q → t v σ H Q) : PGs X e t' := ⟨fun pins s σ H v u Q I r q => h.run pins s σ H v u Q I r (k v σ H Q q)⟩
section
variable {X : Cx} {G : Gam} {k : Nat} {e o i : Expr} {es : List Expr} {x : Str} {pos : Pos} {w wo wi : DE} {g : DG} {gs : DGs} {vs ws : List Nat}
def gN (i : Nat) : DG := fun d δ m Q => Q (δ.set i (some d)) m
theorem qg_name {i : Nat} (hN : X.N.Nodup) (hi : X.N[i]? = some x) (hx : Loc X.env.scope x) (hf : X.fn x = true ∨ X.env.scope.names.lookup x = some .local := by first | exact .inl rfl | exact .inr rfl | assumption) : PG X (.Name x pos) (LG G [i] (gN i)) :=
  PG.imp (pg_name hN hi hx hf) fun v σ H Q h => by
    obtain ⟨F, m, δ, d, Q0, r, s, rv, h, k⟩ := h
    exact k _ _ _ _ _ h (Ex.refl F) r (s.set i rv) ⟨by simp, fun j hj => by rw [List.getElem?_set_ne fun z => hj (by rw [z]; exact List.mem_cons_self)]⟩
def gNilD : DGs := fun ds δ m Q => ds = [] ∧ Q δ m
def gConsD (g : DG) (gs : DGs) : DGs := fun ds δ m Q => match ds with
  | d :: r => g d δ m fun δ1 m1 => gs r δ1 m1 Q
  | [] => False
theorem qgs_nil : PGs X [] (LGs G [] gNilD) := PGs.imp pgs_nil fun v σ H Q h => by
  obtain ⟨F, m, δ, d, Q0, r, s, rv, ⟨h1, h2⟩, k⟩ := h
  subst h1
  cases rv
  exact ⟨rfl, k _ _ _ _ _ h2 (Ex.refl F) r s (.refl _ _)⟩
theorem qgs_cons (h1 : PG X e (LG G vs g)) (h2 : PGs X es (LGs G ws gs)) (hs : (assignEach (e :: es) X.env).map (·.2) = assign e X.env :: (assignEach es X.env).map (·.2) := by rfl) : PGs X (e :: es) (LGs G (vs ++ ws) (gConsD g gs)) :=
  PGs.imp (pgs_cons h1 h2 hs) fun us σ H Q h => by
    obtain ⟨F, m, δ, ds, Q0, r, s, rv, h, k⟩ := h
    cases rv with
    | nil => exact False.elim h
    | cons rd rr =>
      refine ⟨_, _, rfl, F, m, δ, _, _, r, s, rd, h, fun δ1 m1 σ1 F1 H1 h1 e1 r1 s1 c1 => ?_⟩
      exact ⟨F1, m1, δ1, _, Q0, r1, s1, rr.mono e1, h1, fun δ2 m2 σ2 F2 H2 h2 e2 r2 s2 c2 => k _ _ _ _ _ h2 (e1.trans e2) r2 s2 (c1.comp c2)⟩
def gSeq (n : Nat) (gs : DGs) : DG := fun d δ m Q => match asQ m d with
  | some xs => xs.length = n ∧ gs xs δ m Q
  | none => False
theorem qg_tup {k n : Nat} (hK : X.K = G.K) (hc : X.calm = true) (h : PGs X es (LGs G vs gs)) (hn : (assignEach es X.env).length = n := by rfl) (hst : (assignEach es X.env).findIdx? (·.1) = none := by rfl) : PG X (.Tuple es k pos) (LG G vs (gSeq n gs)) := by
  refine ⟨fun pins s σ H v u Q I rv h => ?_⟩
  obtain ⟨F, m, δ, d, Q0, r, sr, rd, h, k⟩ := h
  unfold gSeq at h
  cases ea : asQ m d with
  | none => rw [ea] at h; exact False.elim h
  | some xs =>
    rw [ea] at h
    obtain ⟨hl, h⟩ := h
    obtain ⟨a, us, rfl, hs, hr⟩ := asQ_ok r rd ea
    have inner : LGs G vs gs us σ H Q := ⟨F, m, δ, xs, Q0, r, sr, hr, h, k⟩
    rcases hs with hs | hs
    · exact (pg_lst hc ‹PGs X es (LGs G vs gs)› hn hst).run pins s σ H _ u Q I rv ⟨a, us, rfl, by rw [hK]; exact hs, by rw [hr.length]; exact hl, inner⟩
    · exact (pg_tup hc ‹PGs X es (LGs G vs gs)› hn hst).run pins s σ H _ u Q I rv ⟨a, us, rfl, by rw [hK]; exact hs, by rw [hr.length]; exact hl, inner⟩
/-- o[i] = d -/
def setD (o i d : DV) (m : Sto) (Q : Sto → Prop) : Prop := match o with
  | .ref p => match m p with
    | some (.lst xs) => match i with
      | .int k => match ixN xs.length k with
        | some j => Q (put m p (.lst (xs.set j d)))
        | none => False
      | _ => False
    | some (.dct kvs) => match dK? i with
      | some k => kvs.length < sizeLine ∧ Q (put m p (.dct (putD kvs k d)))
      | none => False
    | some (.dcT kvs) => match i with
      | .tup ks => match dKs? ks with
        | some k => kvs.length < sizeLine ∧ Q (put m p (.dcT (putD kvs k d)))
        | none => False
      | _ => False
    | _ => False
  | _ => False
def LSet (G : Gam) : TSet := fun o i v H Q => ∃ F m do' di dv Q0, Rel G F m H ∧ VR G.K F o do' ∧ VR G.K F i di ∧ VR G.K F v dv ∧ setD do' di dv m Q0 ∧ ∀ m' H', Q0 m' → Rel G F m' H' → Q H'
theorem pset (hu : X.A.units + 1 < cLine) : PSet X (LSet G) := by
  intro pins s σ H o i v ov iv u Q I ro ri rv h
  obtain ⟨F, m, do', di, dv, Q0, r, r1, r2, r3, h, k⟩ := h
  cases r1 <;> first | exact False.elim h | skip
  rename_i p
  unfold setD at h
  dsimp only at h
  cases em : m p with
  | none => rw [em] at h; exact False.elim h
  | some ob =>
    rw [em] at h
    cases ob with
    | lst xs =>
      dsimp only at h
      cases r2 <;> first | exact False.elim h | skip
      rename_i j
      dsimp only at h
      cases ej : ixN xs.length j with
      | none => rw [ej] at h; exact False.elim h
      | some n =>
        rw [ej] at h
        obtain ⟨_, w, hw, us, rfl, hr⟩ := r.mo p _ em
        exact set_list pins s σ H _ _ v ov iv u Q I ro ri rv ⟨p, us, j, n, rfl, rfl, hw, by rw [hr.length]; exact ej, k _ _ h (r.write em ⟨_, rfl, hr.set r3 n⟩)⟩
    | dct kvs =>
      dsimp only at h
      cases ek : dK? di with
      | none => rw [ek] at h; exact False.elim h
      | some key =>
        rw [ek] at h
        obtain ⟨hz, h⟩ := h
        obtain ⟨_, w, hw, kv, rfl, hr⟩ := r.mo p _ em
        have ey := vr_key r2 ek
        subst ey
        exact set_dict hu pins s σ H _ _ v ov iv u Q I ro ri rv ⟨p, _, rfl, .inl ⟨kv, key, hw, rfl, by rw [KR.length hr]; exact hz, rfl⟩, k _ _ h (r.write em ⟨_, rfl, KR.put hr (dk_nodup I hw) key r3⟩)⟩
    | dcT kvs =>
      dsimp only at h
      cases r2 <;> first | exact False.elim h | skip
      rename_i b us ds hb hv
      dsimp only at h
      cases ek : dKs? ds with
      | none => rw [ek] at h; exact False.elim h
      | some key =>
        rw [ek] at h
        obtain ⟨hz, h⟩ := h
        obtain ⟨_, w, hw, kv, rfl, hr⟩ := r.mo p _ em
        have ey := vr_keys hv ek
        subst ey
        exact set_dict hu pins s σ H _ _ v ov iv u Q I ro ri rv ⟨p, _, rfl, .inr ⟨kv, key, b, hw, rfl, r.ex _ _ hb, by rw [KR.length hr]; exact hz, rfl⟩, k _ _ h (r.write em ⟨_, rfl, KR.put hr (dt_nodup I hw) key r3⟩)⟩
    | _ => exact False.elim h
def gSubD (wo wi : DE) : DG := fun d δ m Q => wo δ m fun o m1 => wi δ m1 fun i m2 => setD o i d m2 fun m3 => Q δ m3
theorem qg_sub (dx : DX X G k) (ho : PE X o (LE G wo)) (hi : PE X i (LE G wi)) (ha : ∀ v, assign (.Subscript o i pos) X.env v = (do
      let ov ← holding [v] (eval o X.env)
      let iv ← holding [v, ov] (eval i X.env)
      standAt pos
      holding [v, ov, iv] (setItem ov iv v)
      release [v, ov, iv] []) := by intro _; rfl) : PG X (.Subscript o i pos) (LG G vs (gSubD wo wi)) :=
  PG.imp (pg_sub ho hi (pset (G := G) dx.u1) ha) fun v σ H Q h => by
    obtain ⟨F, m, δ, d, Q0, r, s, rv, h, k⟩ := h
    exact ⟨F, m, δ, _, r, s, h, fun d1 m1 v1 F1 H1 h1 e1 r1 q1 => ⟨F1, m1, δ, _, r1, s.mono e1, h1, fun d2 m2 v2 F2 H2 h2 e2 r2 q2 =>
      ⟨F2, m2, d1, d2, d, _, r2, q1.mono e2, q2, rv.mono (e1.trans e2), h2, fun m' H' hq r' => k _ _ _ _ _ hq (e1.trans e2) r' (s.mono (e1.trans e2)) (.refl _ _)⟩⟩⟩
def wNext : DS := fun D δ m => D.nx δ m
def wSeq (t u : DS) : DS := fun D δ m => t { D with nx := u D } δ m
def wBreak : DS := fun D δ m => D.bk δ m
def wCont : DS := fun D δ m => D.ct δ m
def wDrop (w : DE) : DS := fun D δ m => w δ m fun _ m1 => D.nx δ m1
def wRet (w : DE) : DS := fun D δ m => w δ m D.rt
def wRetN : DS := fun D _ m => D.rt .non m
def wIfS (c : DT) (t u : DS) : DS := fun D δ m => c δ m fun b m1 => if b = true then t D δ m1 else u D δ m1
def wNever : DS := fun _ _ _ => False
variable {st : Stmt} {sts : List Stmt} {t u : DS} {wt : DT}
theorem kts_of {F : Hp} {D0 : DEnds} {D : Ends} (k : KtD G F D0 D) : KtS G F D0.nx D.nx := k.nx
theorem qss_nil : PSs X [] (LS G wNext) := PSs.imp pss_nil fun D σ H h => by
  obtain ⟨F, m, δ, D0, r, s, h, k⟩ := h
  exact k.nx _ _ _ _ _ h (Ex.refl F) r s
theorem qss_cons (h1 : PS X st (LS G t)) (h2 : PSs X sts (LS G u)) : PSs X (st :: sts) (LS G (wSeq t u)) := PSs.imp (pss_cons h1 h2) fun D σ H h => by
  obtain ⟨F, m, δ, D0, r, s, h, k⟩ := h
  exact ⟨F, m, δ, _, r, s, h, ⟨fun δ1 m1 σ1 F1 H1 h1 e1 r1 s1 => ⟨F1, m1, δ1, D0, r1, s1, h1, k.mono e1⟩, k.rt, k.bk, k.ct⟩⟩
theorem qss_one (h1 : PS X st (LS G t)) : PSs X [st] (LS G t) := pss_one h1
theorem qs_pass : PS X (.Pass pos) (LS G wNext) := PS.imp ps_pass fun D σ H h => by
  obtain ⟨F, m, δ, D0, r, s, h, k⟩ := h
  exact k.nx _ _ _ _ _ h (Ex.refl F) r s
theorem qs_break : PS X (.Break pos) (LS G wBreak) := PS.imp ps_break fun D σ H h => by
  obtain ⟨F, m, δ, D0, r, s, h, k⟩ := h
  exact k.bk _ _ _ _ _ h (Ex.refl F) r s
theorem qs_continue : PS X (.Continue pos) (LS G wCont) := PS.imp ps_continue fun D σ H h => by
  obtain ⟨F, m, δ, D0, r, s, h, k⟩ := h
  exact k.ct _ _ _ _ _ h (Ex.refl F) r s
theorem qs_expr (he : PE X e (LE G w)) (hs : swapsWith e none pos.line X.env = pure false := by rfl) : PS X (.Expr e pos) (LS G (wDrop w)) := PS.imp (ps_expr he hs) fun D σ H h => by
  obtain ⟨F, m, δ, D0, r, s, h, k⟩ := h
  exact ⟨F, m, δ, _, r, s, h, fun d m1 v F1 H1 h1 e1 r1 v1 => k.nx _ _ _ _ _ h1 e1 r1 (s.mono e1)⟩
theorem qs_ret (he : PE X e (LE G w)) : PS X (.Return (some e) pos) (LS G (wRet w)) := PS.imp (ps_ret he) fun D σ H h => by
  obtain ⟨F, m, δ, D0, r, s, h, k⟩ := h
  exact ⟨F, m, δ, _, r, s, h, k.rt⟩
theorem qs_retN : PS X (.Return none pos) (LS G wRetN) := PS.imp ps_retN fun D σ H h => by
  obtain ⟨F, m, δ, D0, r, s, h, k⟩ := h
  exact k.rt _ _ _ _ _ h (Ex.refl F) r .non
theorem qs_if {c : Expr} {a b : List Stmt} (hc : PT X c (LT G wt)) (ha : PSs X a (LS G t)) (hb : PSs X b (LS G u)) : PS X (.If c a b pos) (LS G (wIfS wt t u)) := PS.imp (ps_if hc ha hb) fun D σ H h => by
  obtain ⟨F, m, δ, D0, r, s, h, k⟩ := h
  refine ⟨F, m, δ, _, r, s, h, fun b m1 F1 H1 h1 e1 r1 => ?_⟩
  cases b with
  | true => exact ⟨F1, m1, δ, D0, r1, s.mono e1, h1, k.mono e1⟩
  | false => exact ⟨F1, m1, δ, D0, r1, s.mono e1, h1, k.mono e1⟩
theorem qs_never : PS X st (LS G wNever) := PS.imp ps_never fun D σ H h => by
  obtain ⟨F, m, δ, D0, r, s, h, k⟩ := h
  exact h
theorem qss_never : PSs X sts (LS G wNever) := PSs.imp pss_never fun D σ H h => by
  obtain ⟨F, m, δ, D0, r, s, h, k⟩ := h
  exact h
/-- target = e -/
def wAsg (w : DE) (g : DG) : DS := fun D δ m => w δ m fun d m1 => g d δ m1 D.nx
theorem ls_asg {D : Ends} {σ : L2.St} {H : Hp} (h : LS G (wAsg w g) D σ H) : tAsg (LE G w) (LG G vs g) D σ H := by
  obtain ⟨F, m, δ, D0, r, s, h, k⟩ := h
  exact ⟨F, m, δ, _, r, s, h, fun d m1 v F1 H1 h1 e1 r1 v1 => ⟨F1, m1, δ, d, _, r1, s.mono e1, v1, h1, fun δ' m' σ' F' H' q e' r' s' _ => k.nx _ _ _ _ _ q (e1.trans e') r' s'⟩⟩
theorem qs_asg {tg : Expr} (he : PE X e (LE G w)) (hg : PG X tg (LG G vs g)) (hs : swapsWithSole [tg] e pos.line X.env = pure false := by rfl) (hw : swappedStores [tg] e X.env = pure none := by rfl) (h1 : (assignEach [tg] X.env).map (·.2) = [assign tg X.env] := by rfl) : PS X (.Assign [tg] e pos) (LS G (wAsg w g)) :=
  PS.imp (ps_asg he hg hs hw h1) fun D σ H h => ls_asg h
theorem le_gname {D : Ends} {σ : L2.St} {H : Hp} {i : Nat} {te : TE} (hte : ∀ σ H Q, LE G w σ H Q → te σ H Q) (h : LS G (wAsg w (gN i)) D σ H) : tAsg te (gName i) D σ H := by
  obtain ⟨F, m, δ, D0, r, s, h, k⟩ := h
  exact hte _ _ _ ⟨F, m, δ, _, r, s, h, fun d m1 v F1 H1 h1 e1 r1 v1 => k.nx _ _ _ _ _ h1 e1 r1 ((s.mono e1).set i v1)⟩
theorem qs_set {i : Nat} {pos' : Pos} (hN : X.N.Nodup) (hi : X.N[i]? = some x) (hx : Loc X.env.scope x) (he : PE X e (LE G w)) (hs : swapsWith e (some (.Name x pos')) pos.line X.env = pure false := by rfl) (hf : X.fn x = true ∨ X.env.scope.names.lookup x = some .local := by first | exact .inl rfl | exact .inr rfl | assumption) :
    PS X (.Assign [.Name x pos'] e pos) (LS G (wAsg w (gN i))) := PS.imp (ps_set hN hi hx he hs hf) fun D σ H h => le_gname (fun _ _ _ h => h) h
def wPar (i j : Nat) (t : DA) : DS := fun D δ m => t δ m fun ds m1 => match ds with
  | [a, b] => D.nx ((δ.set i (some a)).set j (some b)) m1
  | _ => False
theorem qs_par {i j : Nat} {y : Str} {a b : Expr} {wl : DA} {px py pt : Pos} {kt k2 pt2} (hc : X.calm = true) (hN : X.N.Nodup) (hi : X.N[i]? = some x) (hj : X.N[j]? = some y) (hij : i ≠ j)
    (hx : X.env.scope.names.lookup x = some .local) (hy : X.env.scope.names.lookup y = some .local) (ha : PA X [a, b] (LA G wl))
    (hw : swappedStores [.Tuple [.Name x px, .Name y py] kt pt] (.Tuple [a, b] k2 pt2) X.env = pure (some [x, y]) := by rfl)
    (hs : swapsWithSole [.Tuple [.Name x px, .Name y py] kt pt] (.Tuple [a, b] k2 pt2) pos.line X.env = pure false := by rfl) : PS X (.Assign [.Tuple [.Name x px, .Name y py] kt pt] (.Tuple [a, b] k2 pt2) pos) (LS G (wPar i j wl)) :=
  PS.imp (ps_par hc hN hi hj hij hx hy ha hw hs) fun D σ H h => by
    obtain ⟨F, m, δ, D0, r, s, h, k⟩ := h
    refine ⟨F, m, δ, _, r, s, h, fun ds m1 vs F1 H1 h1 e1 r1 v1 => ?_⟩
    match ds, h1 with
    | [c, d], h1 =>
      obtain ⟨v, w, rfl, rv, rw'⟩ := v1.two_inv
      exact ⟨v, w, rfl, k.nx _ _ _ _ _ h1 e1 r1 (((s.mono e1).set i rv).set j rw')⟩
def wPar3 (i j l : Nat) (t : DA) : DS := fun D δ m => t δ m fun ds m1 => match ds with
  | [a, b, c] => D.nx (((δ.set i (some a)).set j (some b)).set l (some c)) m1
  | _ => False
theorem qs_par3 {i j l : Nat} {y z : Str} {a b c : Expr} {wl : DA} {px py pz pt : Pos} {kt k2 pt2} (hc : X.calm = true) (hN : X.N.Nodup) (hi : X.N[i]? = some x) (hj : X.N[j]? = some y) (hl : X.N[l]? = some z) (hij : i ≠ j) (hil : i ≠ l) (hjl : j ≠ l)
    (hx : X.env.scope.names.lookup x = some .local) (hy : X.env.scope.names.lookup y = some .local) (hz : X.env.scope.names.lookup z = some .local) (ha : PA X [a, b, c] (LA G wl))
    (hw : swappedStores [.Tuple [.Name x px, .Name y py, .Name z pz] kt pt] (.Tuple [a, b, c] k2 pt2) X.env = pure (some [x, y, z]) := by rfl)
    (hs : swapsWithSole [.Tuple [.Name x px, .Name y py, .Name z pz] kt pt] (.Tuple [a, b, c] k2 pt2) pos.line X.env = pure false := by rfl) : PS X (.Assign [.Tuple [.Name x px, .Name y py, .Name z pz] kt pt] (.Tuple [a, b, c] k2 pt2) pos) (LS G (wPar3 i j l wl)) :=
  PS.imp (ps_par3 hc hN hi hj hl hij hil hjl hx hy hz ha hw hs) fun D σ H h => by
    obtain ⟨F, m, δ, D0, r, s, h, k⟩ := h
    refine ⟨F, m, δ, _, r, s, h, fun ds m1 vs F1 H1 h1 e1 r1 v1 => ?_⟩
    match ds, h1 with
    | [c, d, f], h1 =>
      obtain ⟨v, w, u, rfl, rv, rw', ru⟩ := v1.three_inv
      exact ⟨v, w, u, rfl, k.nx _ _ _ _ _ h1 e1 r1 ((((s.mono e1).set i rv).set j rw').set l ru)⟩
/-- o.f = e -/
def setF (c i : Nat) (o d : DV) (m : Sto) (Q : Sto → Prop) : Prop := match o with
  | .ref p => match m p with
    | some (.ins c' fs) => c' = c ∧ fs.length < 1000 ∧ Q (put m p (.ins c (putN i d fs)))
    | _ => False
  | _ => False
theorem setF_ok {F H : Hp} {m : Sto} {v y : V} {d d' : DV} {c i : Nat} {Q0 : Sto → Prop} (hi : G.Inj) (r : Rel G F m H) (rv : VR G.K F v d) (ry : VR G.K F y d') (h : setF c i d d' m Q0) :
    ∃ a dx fs, v = .ref a ∧ H a = some (.ins (G.cls c) dx fs) ∧ fs.length < 1000 ∧ ∃ m', Q0 m' ∧ Rel G F m' (upd H a (.ins (G.cls c) dx (putF (G.fld i) y fs))) := by
  cases rv <;> first | exact False.elim h | skip
  rename_i a
  unfold setF at h
  dsimp only at h
  cases e : m a with
  | none => rw [e] at h; exact False.elim h
  | some ob =>
    rw [e] at h
    cases ob <;> first | exact False.elim h | skip
    dsimp only at h
    obtain ⟨rfl, hz, h⟩ := h
    rename_i fs
    obtain ⟨_, u, hu, dx, fv, rfl, hf⟩ := r.mo a _ e
    exact ⟨a, dx, fv, rfl, hu, by rw [Paired.length hf]; exact hz, _, h, r.write e ⟨dx, _, rfl, FR.put hi ry hf⟩⟩
def wSetF (c i : Nat) (wo w : DE) : DS := fun D δ m => w δ m fun d m1 => wo δ m1 fun o m2 => setF c i o d m2 fun m3 => D.nx δ m3
theorem qs_fld {f : Str} {c i : Nat} {pos' : Pos} (hi : G.Inj) (hf : G.fld i = f) (cl : Cls X.K (G.cls c)) (na : NoAttr X.K (G.cls c) f) (ho : PE X o (LE G wo)) (he : PE X e (LE G w)) (hs : swapsWith e (some (.Attribute o f pos')) pos.line X.env = pure false := by rfl) :
    PS X (.Assign [.Attribute o f pos'] e pos) (LS G (wSetF c i wo w)) := PS.imp (ps_fld ho he hs) fun D σ H h => by
  obtain ⟨F, m, δ, D0, r, s, h, k⟩ := h
  refine ⟨F, m, δ, _, r, s, h, fun d m1 v F1 H1 h1 e1 r1 v1 => ⟨F1, m1, δ, _, r1, s.mono e1, h1, fun d2 m2 v2 F2 H2 h2 e2 r2 q2 => ?_⟩⟩
  obtain ⟨a, dx, fs, rfl, h3, h4, m', h5, h6⟩ := setF_ok hi r2 q2 (v1.mono e2) h2
  exact ⟨a, G.cls c, dx, fs, rfl, h3, cl, na, h4, by rw [← hf]; exact k.nx _ _ _ _ _ h5 (e1.trans e2) h6 (s.mono (e1.trans e2))⟩
/-- x op= y: ints, texts, a list that grows -/
def dIAdd : D2 := fun x y m Q => match x, y with
  | .int i, .int j => Q (.int (i + j)) m
  | _, _ => False
theorem in_addD : InOp X .Add (LR2 G dIAdd) := by
  intro pins s σ H x y u v Q I rx ry h
  obtain ⟨F, m, d1, d2, Q0, r, v1, v2, h, k⟩ := h
  cases v1 with
  | int i =>
    cases v2 with
    | int j => exact in_add pins s σ H _ _ u v Q I rx ry ⟨i, j, rfl, rfl, k _ _ _ _ _ h (Ex.refl F) r (.int _)⟩
    | _ => exact False.elim h
  | _ => exact False.elim (by cases v2 <;> exact h)
def dISub : D2 := fun x y m Q => match x, y with
  | .int i, .int j => Q (.int (i - j)) m
  | _, _ => False
theorem in_subD : InOp X .Sub (LR2 G dISub) := by
  intro pins s σ H x y u v Q I rx ry h
  obtain ⟨F, m, d1, d2, Q0, r, v1, v2, h, k⟩ := h
  cases v1 with
  | int i =>
    cases v2 with
    | int j => exact in_sub pins s σ H _ _ u v Q I rx ry ⟨i, j, rfl, rfl, k _ _ _ _ _ h (Ex.refl F) r (.int _)⟩
    | _ => exact False.elim h
  | _ => exact False.elim (by cases v2 <;> exact h)
def wAug (i : Nat) (R : D2) (w : DE) : DS := fun D δ m => match δ[i]? with
  | some (some d) => w δ m fun d2 m1 => R d d2 m1 fun d3 m2 => D.nx (δ.set i (some d3)) m2
  | _ => False
theorem qs_aug {i : Nat} {op : Operator} {R : D2} {pos' : Pos} (hN : X.N.Nodup) (hi : X.N[i]? = some x) (hx : Loc X.env.scope x) (he : PE X e (LE G w)) (ho : InOp X op (LR2 G R)) (hf : X.fn x = true ∨ X.env.scope.names.lookup x = some .local := by first | exact .inl rfl | exact .inr rfl | assumption) :
    PS X (.AugAssign (.Name x pos') op e pos) (LS G (wAug i R w)) := PS.imp (ps_aug hN hi hx he ho hf) fun D σ H h => by
  obtain ⟨F, m, δ, D0, r, s, h, k⟩ := h
  unfold wAug at h
  cases ei : δ[i]? with
  | none => rw [ei] at h; exact False.elim h
  | some od =>
    rw [ei] at h
    cases od with
    | none => exact False.elim h
    | some d =>
      obtain ⟨v, hv, rv⟩ := s.at_ i d ei
      exact ⟨v, hv, F, m, δ, _, r, s, h, fun d2 m1 y F1 H1 h1 e1 r1 v1 => ⟨F1, m1, d, d2, _, r1, rv.mono e1, v1, h1, fun d3 m2 z F2 H2 h2 e2 r2 v2 => k.nx _ _ _ _ _ h2 (e1.trans e2) r2 ((s.mono (e1.trans e2)).set i v2)⟩⟩
def wAugF (c i : Nat) (R : D2) (wo w : DE) : DS := fun D δ m => wo δ m fun o m1 => fldD c i o m1 fun x m2 => w δ m2 fun y m3 => R x y m3 fun z m4 => setF c i o z m4 fun m5 => D.nx δ m5
theorem qs_fldaug {f : Str} {c i : Nat} {op : Operator} {R : D2} {tpos : Pos} (hi : G.Inj) (hf : G.fld i = f) (cl : Cls X.K (G.cls c)) (na : NoAttr X.K (G.cls c) f) (ho : PE X o (LE G wo)) (he : PE X e (LE G w)) (hop : InOp X op (LR2 G R)) :
    PS X (.AugAssign (.Attribute o f tpos) op e pos) (LS G (wAugF c i R wo w)) := PS.imp (ps_fldaug ho he hop) fun D σ H h => by
  obtain ⟨F, m, δ, D0, r, s, h, k⟩ := h
  refine ⟨F, m, δ, _, r, s, h, fun d m1 v F1 H1 h1 e1 r1 v1 => ?_⟩
  have kk : Kt G F1 (fun x m2 => w δ m2 fun y m3 => R x y m3 fun z m4 => setF c i d z m4 fun m5 => D0.nx δ m5) fun x H' => ∃ F2 m2 dd, Ex F1 F2 ∧ Rel G F2 m2 H' ∧ VR G.K F2 x dd ∧ w δ m2 fun y m3 => R dd y m3 fun z m4 => setF c i d z m4 fun m5 => D0.nx δ m5 :=
    fun dd m2 x F2 H2 h2 e2 r2 v2 => ⟨F2, m2, dd, e2, r2, v2, h2⟩
  obtain ⟨a, dx, fs, x, rfl, h3, h4, F2, m2, dd, e2, r2, v2, h5⟩ := fld_ok hi r1 v1 h1 kk
  refine ⟨a, G.cls c, dx, fs, x, rfl, h3, cl, na, by rw [← hf]; exact h4, F2, m2, δ, _, r2, s.mono (e1.trans e2), h5, fun y m3 vy F3 H3 h6 e3 r3 v3 => ⟨F3, m3, dd, y, _, r3, v2.mono e3, v3, h6, fun z m4 vz F4 H4 h7 e4 r4 v4 => ?_⟩⟩
  obtain ⟨a', dx', fs', h8, h9, h10, m', h11, h12⟩ := setF_ok hi r4 (v1.mono ((e2.trans e3).trans e4)) v4 h7
  cases h8
  exact ⟨dx', fs', h9, h10, by rw [← hf]; exact k.nx _ _ _ _ _ h11 (((e1.trans e2).trans e3).trans e4) h12 (s.mono (((e1.trans e2).trans e3).trans e4))⟩
def wWhile (c : DT) (tb : DS) : DS := fun D δ m => ∃ W : Nat → Slots → Sto → Prop, (∃ n, W n δ m) ∧ ∀ n δ m, W n δ m →
  c δ m fun b m1 => if b = true then tb { nx := fun δ' m' => ∃ n', n' < n ∧ W n' δ' m', rt := D.rt, bk := D.nx, ct := fun δ' m' => ∃ n', n' < n ∧ W n' δ' m' } δ m1 else D.nx δ m1
theorem qs_while {c : Expr} {body : List Stmt} (dx : DX X G k) (hc : PT X c (LT G wt)) (hb : PSs X body (LS G t)) : PS X (.While c body [] pos) (LS G (wWhile wt t)) := PS.imp (ps_while dx.pas hc hb) fun D σ H h => by
  obtain ⟨F, m, δ, D0, r, s, ⟨W, ⟨n0, h0⟩, hs⟩, k⟩ := h
  refine ⟨fun n σ' H' => ∃ F' m' δ', Ex F F' ∧ Rel G F' m' H' ∧ SR G.K F' σ' δ' ∧ W n δ' m', ⟨n0, F, m, δ, Ex.refl F, r, s, h0⟩, ?_⟩
  rintro n σ' H' ⟨F', m', δ', e', r', s', w'⟩
  refine ⟨F', m', δ', _, r', s', hs n δ' m' w', fun b m1 F1 H1 h1 e1 r1 => ?_⟩
  cases b with
  | false => exact k.nx _ _ _ _ _ h1 (e'.trans e1) r1 (s'.mono e1)
  | true =>
    refine ⟨fun σ2 H2 => ∃ n', n' < n ∧ ∃ F' m' δ', Ex F F' ∧ Rel G F' m' H2 ∧ SR G.K F' σ2 δ' ∧ W n' δ' m', fun _ _ q => q, F1, m1, δ', _, r1, s'.mono e1, h1, ?_⟩
    have nx : KtS G F1 (fun δ' m' => ∃ n', n' < n ∧ W n' δ' m') (fun σ2 H2 => ∃ n', n' < n ∧ ∃ F' m' δ', Ex F F' ∧ Rel G F' m' H2 ∧ SR G.K F' σ2 δ' ∧ W n' δ' m') := fun δ2 m2 σ2 F2 H2 ⟨n', hn, w2⟩ e2 r2 s2 => ⟨n', hn, F2, m2, δ2, (e'.trans e1).trans e2, r2, s2, w2⟩
    exact ⟨nx, (k.mono (e'.trans e1)).rt, (k.mono (e'.trans e1)).nx, nx⟩
def forGo (it : DIt) (g : DG) (tb : DS) (D : DEnds) : List DV → Slots → Sto → Prop
  | [], δ, m => it.st m ∧ it.fin m (D.nx δ)
  | x :: r, δ, m => it.st m ∧ g x δ m fun δ1 m1 => tb { nx := forGo it g tb D r, rt := fun v m' => it.fin m' (D.rt v), bk := fun δ' m' => it.fin m' (D.nx δ'), ct := forGo it g tb D r } δ1 m1
def wFor (wi : DI) (g : DG) (tb : DS) : DS := fun D δ m => wi δ m fun it m1 => forGo it g tb D it.items δ m1
theorem getElem_drop_cons {α : Type} {xs : List α} {i : Nat} {x : α} {r : List α} (h : xs.drop i = x :: r) : xs[i]? = some x ∧ xs.drop (i + 1) = r := by
  have h1 : (xs.drop i)[0]? = some x := by rw [h]; rfl
  rw [List.getElem?_drop, Nat.add_zero] at h1
  refine ⟨h1, ?_⟩
  have : xs.drop (i + 1) = (xs.drop i).drop 1 := by rw [List.drop_drop]
  rw [this, h]; rfl
theorem getElem_drop_nil {α : Type} {xs : List α} {i : Nat} (h : xs.drop i = []) : xs[i]? = none := by
  have := List.drop_eq_nil_iff.mp h
  exact List.getElem?_eq_none this
theorem qs_for {tg iter : Expr} {body : List Stmt} {wi : DI} (dx : DX X G k) (hi : PI X tg iter (LI X G wi)) (hg : PG X tg (LG G vs g)) (hb : PSs X body (LS G t)) (hs : ∀ x, foldedSetIterable iter X.env x = pure x := by intro _; rfl) :
    PS X (.For tg iter body [] pos) (LS G (wFor wi g t)) := PS.imp (PS.unl (ps_for dx.pas dx.calm hi hg hb hs)) fun D σ H h => by
  obtain ⟨F, m, δ, D0, r, s, h, k⟩ := h
  refine ⟨F, m, δ, _, r, s, h, fun it m1 F1 H1 J q e1 r1 ok hn => ?_⟩
  refine ⟨fun i n σ' H' => n = it.items.length - i ∧ i ≤ it.items.length ∧ ∃ F' m' δ', Ex F1 F' ∧ Rel G F' m' H' ∧ SR G.K F' σ' δ' ∧ forGo it g t D0 (it.items.drop i) δ' m', ⟨_, rfl, Nat.zero_le _, F1, m1, δ, Ex.refl F1, r1, s.mono e1, q⟩, ?_⟩
  rintro i n σ' H' ⟨rfl, hle, F', m', δ', e', r', s', w'⟩
  have nxOk : KtS G F' (fun δ m => it.fin m (D0.nx δ)) (UnlS X D.nx) := fun δ2 m2 σ2 F2 H2 h2 e2 r2 s2 =>
    fin_ok (N := fun H => D.nx σ2 H) r2 hn h2 fun m3 H3 h3 r3 => k.nx _ _ _ _ _ h3 ((e1.trans e').trans e2) r3 s2
  have rtOk : Kt G F' (fun v m => it.fin m (D0.rt v)) (UnlV X D.rt) := fun d2 m2 v2 F2 H2 h2 e2 r2 q2 =>
    fin_ok (N := fun H => D.rt v2 H) r2 hn h2 fun m3 H3 h3 r3 => k.rt _ _ _ _ _ h3 ((e1.trans e').trans e2) r3 q2
  cases ed : it.items.drop i with
  | nil =>
    rw [ed] at w'
    exact .inl ⟨(ok i F' m' H' e' r' w'.1).2 (getElem_drop_nil ed), nxOk _ _ _ _ _ w'.2 (Ex.refl F') r' s'⟩
  | cons x rest =>
    rw [ed] at w'
    obtain ⟨hx, hd⟩ := getElem_drop_cons ed
    obtain ⟨w1, w2⟩ := w'
    obtain ⟨go, yl⟩ := (ok i F' m' H' e' r' w1).1 x hx
    have hlt : i < it.items.length := by
      have := List.getElem?_eq_some_iff.mp hx
      obtain ⟨z, _⟩ := this
      exact z
    refine .inr ⟨go, fun σ2 H2 => ∃ F2 m2 δ2, Ex F1 F2 ∧ Rel G F2 m2 H2 ∧ SR G.K F2 σ2 δ2 ∧ forGo it g t D0 rest δ2 m2, fun σ2 H2 q2 => ⟨_, (by omega : it.items.length - (i + 1) < it.items.length - i), rfl, hlt, by rw [hd]; exact q2⟩, fun y H2 hy => ?_⟩
    obtain ⟨F2, e2, r2, v2⟩ := yl y H2 hy
    refine ⟨F2, m', δ', x, _, r2, s'.mono e2, v2, w2, fun δ3 m3 σ3 F3 H3 h3 e3 r3 s3 _ => ⟨F3, m3, δ3, _, r3, s3, h3, ?_⟩⟩
    have e13 : Ex F1 F3 := (e'.trans e2).trans e3
    have nx : KtS G F3 (forGo it g t D0 rest) (fun σ2 H2 => ∃ F2 m2 δ2, Ex F1 F2 ∧ Rel G F2 m2 H2 ∧ SR G.K F2 σ2 δ2 ∧ forGo it g t D0 rest δ2 m2) := fun δ4 m4 σ4 F4 H4 h4 e4 r4 s4 => ⟨F4, m4, δ4, e13.trans e4, r4, s4, h4⟩
    exact ⟨nx, rtOk.mono (e2.trans e3), nxOk.mono (e2.trans e3), nx⟩
end
end DL
namespace DL
open PySem PySem.Spec PyProof.Rows L2 RZ
section
variable {P : Program} {w : World} {A : Around} {E : Value → Shared → Prop} {s : Shared}
set_option maxRecDepth 100000 in
set_option maxHeartbeats 3200000 in
theorem call_set_listI {l : Addr} {items : Array Value} (ns : List Int) {Q : Value → Shared → Prop} (hh : A.handled = none) (hl : s.heap.IsList l items) (hit : IntsAre items.toList ns) (hb : ns.length + 1 < scanBound)
    (h : ∀ (h' : Heap) (tk c : Nat), SetR w h' s.heap.objs.size (fun j => decide (j ∈ ns)) c → c ≤ ns.length → (∀ b o, s.heap.get? b = some o → h'.get? b = some o) → Q (.ref s.heap.objs.size) { s with heap := h', toks := tk }) :
    wpAny (model P w) A (call (.type "set") [.ref l]) Q E s := by
  have hisz : items.size = ns.length := by
    have q := IntsAre.length hit
    rw [Array.length_toList] at q
    exact q
  obtain ⟨c, tl, hmro⟩ := F.called_set.mro
  have hmade := F.called_set.made
  have hsub := F.called_set.sub
  refine wpAny_call (codeAny_of_tree ?_)
  show wpAny _ _ (callAny (.type "set") _) _ _ _
  refine wpAny_pure ⟨Code.quiet_builtin _ (by decide +kernel), codeAny_builtin F.entry_type_call ?_⟩
  rw [Around.under_plain (weight_type_call_type "set" [.ref l] []) rfl]
  have h1 := F.called_set.notType
  have h2 := F.called_set.canCreate
  have hct := F.typeCall_set_1 (.ref l)
  repeat (any_goals (first | assumption | wp_step))
  refine codeAny_mono (code_set_led1 (.ref l) (E := E) (Q₁ := fun obj s₁ => obj = .ref s.heap.objs.size ∧ s₁ = { s with heap := s.heap.push { cls := .type "set", dict := none, data := .set #[] 0 (.fresh 0 0 (!w.params.followText "set-order")) } }) ⟨rfl, rfl⟩) fun r s₁ hr => ?_
  cases r with
  | error e => exact hr
  | ok fl =>
    cases fl with
    | ret obj =>
      obtain ⟨rfl, rfl⟩ := hr
      have hS : (s.heap.push { cls := .type "set", dict := none, data := .set #[] 0 (.fresh 0 0 (!w.params.followText "set-order")) }).get? s.heap.objs.size = some { cls := .type "set", dict := none, data := .set #[] 0 (.fresh 0 0 (!w.params.followText "set-order")) } := Heap.get?_push_size _ rfl
      have hT : Shared.TypeIs { s with heap := s.heap.push { cls := .type "set", dict := none, data := .set #[] 0 (.fresh 0 0 (!w.params.followText "set-order")) } } (.ref s.heap.objs.size) "set" := ⟨_, hS, rfl⟩
      have hli := F.called_set.init.lookup
      have hbi := F.called_set.init.bind (.ref s.heap.objs.size)
      repeat (any_goals (first | assumption | wp_step))
      refine codeAny_mono (codeAny_call_builtin (R := wants (fun r s₂ => r = .none ∧ ∃ h' tk c, s₂ = { s with heap := h', toks := tk } ∧ SetR w h' s.heap.objs.size (fun j => decide (j ∈ ns)) c ∧ c ≤ ns.length ∧
          (∀ b o, s.heap.get? b = some o → h'.get? b = some o)) E) F.called_set.init.plain F.entry_set_init (check_set_init_1 hT ?_)) fun r₂ s₂ hr₂ => ?_
      · obtain ⟨ol, hol, hcl, nl, hdl⟩ := hl
        obtain ⟨ocls, odict, odata, oslots⟩ := ol
        simp only at hcl hdl
        subst hcl; subst hdl
        have hol' : (s.heap.push { cls := .type "set", dict := none, data := .set #[] 0 (.fresh 0 0 (!w.params.followText "set-order")) }).get? l = some { cls := .type "list", dict := odict, data := .seq items nl, slots := oslots } := Heap.get?_push_of_some _ hol
        have hsls := F.sub_list_set
        have hslf := F.sub_list_frozenset
        have hne : (Value.type "tuple" == Value.type "dict") = false := by decide
        have hl1 : (s.heap.push { cls := .type "set", dict := none, data := .set #[] 0 (.fresh 0 0 (!w.params.followText "set-order")) }).IsList l items := ⟨_, hol', rfl, nl, rfl⟩
        unfold Builtin.«set.__init__» noKeywords Builtin.Frozenset.updateFrom
        generalize hPI : pyIter = PI
        wp_walk
        subst hPI
        refine wpAny_pyIter_list hl1 ?_
        refine wpAny_bind (wpAny_runValue ?_)
        have hlS : l < s.heap.objs.size := Heap.lt_size hol
        have hh3 : A.in1.in1.in1.handled = none := by simp [hh]
        have hz1 : (s.heap.push { cls := .type "set", dict := none, data := .set #[] 0 (.fresh 0 0 (!w.params.followText "set-order")) }).objs.size = s.heap.objs.size + 1 := Heap.size_push ..
        have hneI : l ≠ (s.heap.push { cls := .type "set", dict := none, data := .set #[] 0 (.fresh 0 0 (!w.params.followText "set-order")) }).objs.size := by
          rw [Heap.size_push]; exact Nat.ne_of_lt (Nat.lt_succ_of_lt hlS)
        have hSf : s.heap.objs.size ∉ [(s.heap.push { cls := .type "set", dict := none, data := .set #[] 0 (.fresh 0 0 (!w.params.followText "set-order")) }).objs.size, l] := by
          rw [Heap.size_push]; simp only [List.mem_cons, List.mem_singleton, List.not_mem_nil, or_false, not_or]
          exact ⟨Nat.ne_of_lt (Nat.lt_succ_self _), Nat.ne_of_gt hlS⟩
        have hval : ∀ (i : Nat) (v : Value), items[i]? = some v → ∃ k t, ns[i]? = some k ∧ v = .int k t := fun i v hv => by
          have hi : i < ns.length := by rw [← hisz]; exact (Array.getElem?_eq_some_iff.mp hv).1
          obtain ⟨t, e⟩ := PyProof.Rows.IntsAre.int_at hit i v (by rw [Array.getElem?_toList]; exact hv)
          refine ⟨ns[i], t, List.getElem?_eq_getElem hi, ?_⟩
          rw [e, List.getD_eq_getElem?_getD, List.getElem?_eq_getElem hi] <;> rfl
        refine set_update_ints ((Walks.list hh3 _ l hneI items).toS) s.heap.objs.size
          hSf ns hisz hb hval (items.size - 0) 0 _ (by omega) (Nat.zero_le _)
          ⟨⟨_, Heap.get?_push_size _ rfl, rfl, rfl⟩, (hl1.push _)⟩ ?hS0 ?hR
        case hS0 =>
          have hget : ((s.heap.push { cls := .type "set", dict := none, data := .set #[] 0 (.fresh 0 0 (!w.params.followText "set-order")) }).push { cls := .type "list_iterator", data := .fields #[.ref l, .int 0 0] }).get? s.heap.objs.size
              = some { cls := .type "set", dict := none, data := .set #[] 0 (.fresh 0 0 (!w.params.followText "set-order")) } := Heap.get?_push_of_some _ hS
          exact ⟨0, Nat.le_refl 0, setR_new_at hget⟩
        case hR =>
          intro s' c' hm hc' hS'
          obtain ⟨h', g2, d', tk', os'⟩ := s'
          have eg : g2 = s.gens := hm.gens
          have ed : d' = s.drawn := hm.drawn
          have eo : os' = s.os := hm.os
          subst eg; subst ed; subst eo
          show wpAny _ _ _ _ _ _
          refine wpAny_pure ?_
          show wpAny _ _ (ret Value.none) _ _ _
          rw [hisz] at hc'
          refine wpAny_pure ⟨rfl, h', tk', c', rfl, hS', hc', fun b o e => ?_⟩
          have hb0 : b < s.heap.objs.size := Heap.lt_size e
          have hb1 : b ≠ s.heap.objs.size := Nat.ne_of_lt hb0
          have hb2 : b ≠ (s.heap.push { cls := .type "set", dict := none, data := .set #[] 0 (.fresh 0 0 (!w.params.followText "set-order")) }).objs.size := by
            rw [Heap.size_push]; exact Nat.ne_of_lt (Nat.lt_succ_of_lt hb0)
          exact hm.heap b o (by simp only [List.mem_cons, List.mem_singleton, List.not_mem_nil, or_false, not_or]; exact ⟨hb1, hb2⟩) (Heap.get?_push_of_some _ (Heap.get?_push_of_some _ e))
      · cases r₂ with
        | error e => exact hr₂
        | ok fl₂ =>
          cases fl₂ with
          | ret r =>
            obtain ⟨rfl, h', tk, c', rfl, hS', hc', hk'⟩ := hr₂
            repeat (any_goals (first | assumption | wp_step))
            exact h _ _ _ hS' hc' hk'
          | _ => exact hr₂.elim
    | _ => exact hr.elim
end
def LC (G : Gam) (R : DSp) : List V → Hp → VK → Prop := fun vs H Q => ∃ F m ds Q0, Rel G F m H ∧ VRs G.K F vs ds ∧ R ds m Q0 ∧ Kt G F Q0 Q
def wB (R : DSp) (t : DA) : DE := fun δ m Q => t δ m fun ds m1 => R ds m1 Q
section
variable {X : Cx} {G : Gam} {k : Nat} {e : Expr} {es : List Expr} {x : Str} {p pos : Pos} {R : DSp} {wl : DA} {w : DE}
theorem le_b {σ : L2.St} {H : Hp} {Q : VK} (h : LE G (wB R wl) σ H Q) : tCB (LC G R) (LA G wl) σ H Q := by
  obtain ⟨F, m, δ, Q0, r, s, h, k⟩ := h
  exact ⟨F, m, δ, _, r, s, h, fun ds m1 vs F1 H1 h1 e1 r1 v1 => ⟨F1, m1, ds, Q0, r1, v1, h1, k.mono e1⟩⟩
theorem qe_callB {id : String} (hc : CallR X (.builtin id) (LC G R)) (hg : Gl X x) (hm : X.mg x = none) (hv : bootBuiltins x = some (.builtin id)) (ha : PA X (e :: es) (LA G wl)) (hn : x ≠ "__name__" := by decide) (hdb : (x == ("__debug__" : Str)) = false := by decide)
    (he : starEach (e :: es) X.env = (false, eval e X.env) :: starEach es X.env := by rfl) (hpl : (backTo pos (starEach es X.env)).any (·.1) = false := by rfl) : PE X (.Call (.Name x p) (e :: es) [] pos) (LE G (wB R wl)) :=
  PE.imp (pe_callB hc hg hm hv ha hn hdb he hpl) fun _ _ _ h => le_b h
theorem qe_callTy {T : String} (hc : CallR X (.type T) (LC G R)) (hg : Gl X x) (hm : X.mg x = none) (hv : bootBuiltins x = some (.type T)) (ha : PA X (e :: es) (LA G wl)) (hn : x ≠ "__name__" := by decide) (hdb : (x == ("__debug__" : Str)) = false := by decide)
    (he : starEach (e :: es) X.env = (false, eval e X.env) :: starEach es X.env := by rfl) (hpl : (backTo pos (starEach es X.env)).any (·.1) = false := by rfl) : PE X (.Call (.Name x p) (e :: es) [] pos) (LE G (wB R wl)) :=
  PE.imp (pe_callTy hc hg hm hv ha hn hdb he hpl) fun _ _ _ h => le_b h
theorem lc_one {vs : List V} {H : Hp} {Q : VK} (h : LC G R vs H Q) : ∃ F m ds Q0, Rel G F m H ∧ VRs G.K F vs ds ∧ R ds m Q0 ∧ Kt G F Q0 Q := h
def ints? : List DV → Option (List Int)
  | [] => some []
  | .int i :: r => (ints? r).map (i :: ·)
  | _ => none
theorem ints_ok {K : PySem.W.Frag} {F : Hp} : ∀ {vs : List V} {ds : List DV} {ns : List Int}, VRs K F vs ds → ints? ds = some ns → vs = ns.map V.int
  | _, _, _, .nil, h => by cases h; rfl
  | _, _, _, .cons (d := d) (ds := ds) rv t, h => by
    cases rv <;> first | (exfalso; simp [ints?] at h; done) | skip
    simp only [ints?] at h
    cases e : ints? ds with
    | none => rw [e] at h; cases h
    | some ms => rw [e] at h; cases h; rw [ints_ok t e]; rfl
theorem ints_of (ns : List Int) : ints? (ns.map DV.int) = some ns := by
  induction ns with
  | nil => rfl
  | cons n r ih => simp [ints?, ih]
def bls? : List DV → Option (List Bool)
  | [] => some []
  | .bl i :: r => (bls? r).map (i :: ·)
  | _ => none
theorem bls_ok {K : PySem.W.Frag} {F : Hp} : ∀ {vs : List V} {ds : List DV} {ns : List Bool}, VRs K F vs ds → bls? ds = some ns → vs = ns.map V.bl
  | _, _, _, .nil, h => by cases h; rfl
  | _, _, _, .cons (d := d) (ds := ds) rv t, h => by
    cases rv <;> first | (exfalso; simp [bls?] at h; done) | skip
    simp only [bls?] at h
    cases e : bls? ds with
    | none => rw [e] at h; cases h
    | some ms => rw [e] at h; cases h; rw [bls_ok t e]; rfl
theorem bls_of (ns : List Bool) : bls? (ns.map DV.bl) = some ns := by
  induction ns with
  | nil => rfl
  | cons n r ih => simp [bls?, ih]
def strs? : List DV → Option (List Str)
  | [] => some []
  | .str i :: r => (strs? r).map (i :: ·)
  | _ => none
theorem strs_ok {K : PySem.W.Frag} {F : Hp} : ∀ {vs : List V} {ds : List DV} {ns : List Str}, VRs K F vs ds → strs? ds = some ns → vs = ns.map V.str
  | _, _, _, .nil, h => by cases h; rfl
  | _, _, _, .cons (d := d) (ds := ds) rv t, h => by
    cases rv <;> first | (exfalso; simp [strs?] at h; done) | skip
    simp only [strs?] at h
    cases e : strs? ds with
    | none => rw [e] at h; cases h
    | some ms => rw [e] at h; cases h; rw [strs_ok t e]; rfl
theorem strs_of (ns : List Str) : strs? (ns.map DV.str) = some ns := by
  induction ns with
  | nil => rfl
  | cons n r ih => simp [strs?, ih]
theorem vrs_strs {K : PySem.W.Frag} {F : Hp} : ∀ ns : List Str, VRs K F (ns.map V.str) (ns.map DV.str)
  | [] => .nil
  | n :: r => .cons (.str n) (vrs_strs r)
/-- the size of a value -/
def lenD (m : Sto) (d : DV) (Q : Int → Prop) : Prop := match d with
  | .str z => z.length ≤ sizeLine ∧ Q (z.length : Int)
  | d => match asQ m d with
    | some xs => Q (xs.length : Int)
    | none => match d with
      | .ref p => match m p with
        | some (.dct kvs) => Q (kvs.length : Int)
        | _ => False
      | _ => False
def dLen : DSp := fun ds m Q => match ds with
  | [d] => lenD m d fun n => Q (.int n) m
  | _ => False
theorem cd_len (hK : X.K = G.K) : CallR X (.builtin "len") (LC G dLen) := by
  intro pins s σ H vs us Q I rr h
  obtain ⟨F, m, ds, Q0, r, rv, h, k⟩ := h
  match ds, h with
  | [d], h =>
    obtain ⟨v, rfl, rd⟩ := rv.one_inv
    have seq : ∀ xs, asQ m d = some xs → Q0 (.int (xs.length : Int)) m → wpAny (model X.prog X.w) X.A (call (.builtin "len") us) (EP X pins σ Q) X.xe s := fun xs ea q => by
      obtain ⟨a, ws, rfl, hs, hr⟩ := asQ_ok r rd ea
      refine call_len_seq pins s σ H _ us Q I rr ⟨a, ws, rfl, by rw [hK]; exact hs, ?_⟩
      rw [hr.length]
      exact k _ _ _ _ _ q (Ex.refl F) r (.int _)
    cases rd with
    | str z => exact call_len_str pins s σ H _ us Q I rr ⟨z, rfl, h.1, k _ _ _ _ _ h.2 (Ex.refl F) r (.int _)⟩
    | ref a =>
      simp only [dLen, lenD] at h
      cases ea : asQ m (.ref a) with
      | some xs => rw [ea] at h; exact seq xs ea h
      | none =>
        rw [ea] at h
        dsimp only at h
        cases em : m a with
        | none => rw [em] at h; exact False.elim h
        | some ob =>
          rw [em] at h
          cases ob <;> first | exact False.elim h | skip
          rename_i kvs
          obtain ⟨_, u, hu, kv, rfl, hr⟩ := r.mo a _ em
          exact call_lenD pins s σ H _ us Q I rr ⟨a, kv, rfl, hu, by rw [KR.length hr]; exact k _ _ _ _ _ h (Ex.refl F) r (.int _)⟩
    | lst hs hr => exact seq _ rfl h
    | tup hs hr => exact seq _ rfl h
    | ktup hs hr => exact seq _ rfl h
    | klst hs hr => exact seq _ rfl h
    | _ => exact False.elim h
def dAbs : DSp := fun ds m Q => match ds with
  | [.int i] => Q (.int (if i < 0 then -i else i)) m
  | _ => False
theorem cd_abs : CallR X (.builtin "abs") (LC G dAbs) := by
  intro pins s σ H vs us Q I rr h
  obtain ⟨F, m, ds, Q0, r, rv, h, k⟩ := h
  match ds, h with
  | [.int i], h =>
    obtain ⟨v, rfl, rd⟩ := rv.one_inv
    cases rd
    exact call_abs pins s σ H _ us Q I rr ⟨i, rfl, k _ _ _ _ _ h (Ex.refl F) r (.int _)⟩
def dInt : DSp := fun ds m Q => match ds with
  | [.int i] => Q (.int i) m
  | [.bl b] => Q (.int (if b then 1 else 0)) m
  | _ => False
theorem cd_int : CallR X (.type "int") (LC G dInt) := by
  intro pins s σ H vs us Q I rr h
  obtain ⟨F, m, ds, Q0, r, rv, h, k⟩ := h
  match ds, h with
  | [.int i], h =>
    obtain ⟨v, rfl, rd⟩ := rv.one_inv
    cases rd
    exact call_int1 pins s σ H _ us Q I rr (.inl ⟨i, rfl, k _ _ _ _ _ h (Ex.refl F) r (.int _)⟩)
  | [.bl b], h =>
    obtain ⟨v, rfl, rd⟩ := rv.one_inv
    cases rd
    exact call_int1 pins s σ H _ us Q I rr (.inr ⟨b, rfl, k _ _ _ _ _ h (Ex.refl F) r (.int _)⟩)
def minL : List Int → Int
  | [] => 0
  | [x] => x
  | x :: r => if x ≤ minL r then x else minL r
theorem minL_ok : ∀ (n : Int) (ns : List Int), minL (n :: ns) ∈ n :: ns ∧ ∀ y ∈ n :: ns, minL (n :: ns) ≤ y
  | n, [] => by simp [minL]
  | n, a :: r => by
    obtain ⟨h1, h2⟩ := minL_ok a r
    show (if n ≤ minL (a :: r) then n else minL (a :: r)) ∈ n :: a :: r ∧ ∀ y ∈ n :: a :: r, (if n ≤ minL (a :: r) then n else minL (a :: r)) ≤ y
    split
    · refine ⟨List.mem_cons_self, fun y hy => ?_⟩
      rcases List.mem_cons.mp hy with rfl | hy
      · exact Int.le_refl _
      · have := h2 y hy
        omega
    · refine ⟨List.mem_cons_of_mem _ h1, fun y hy => ?_⟩
      rcases List.mem_cons.mp hy with rfl | hy
      · omega
      · exact h2 y hy
def maxL : List Int → Int
  | [] => 0
  | [x] => x
  | x :: r => if maxL r ≤ x then x else maxL r
theorem maxL_ok : ∀ (n : Int) (ns : List Int), maxL (n :: ns) ∈ n :: ns ∧ ∀ y ∈ n :: ns, y ≤ maxL (n :: ns)
  | n, [] => by simp [maxL]
  | n, a :: r => by
    obtain ⟨h1, h2⟩ := maxL_ok a r
    show (if maxL (a :: r) ≤ n then n else maxL (a :: r)) ∈ n :: a :: r ∧ ∀ y ∈ n :: a :: r, y ≤ (if maxL (a :: r) ≤ n then n else maxL (a :: r))
    split
    · refine ⟨List.mem_cons_self, fun y hy => ?_⟩
      rcases List.mem_cons.mp hy with rfl | hy
      · exact Int.le_refl _
      · have := h2 y hy
        omega
    · refine ⟨List.mem_cons_of_mem _ h1, fun y hy => ?_⟩
      rcases List.mem_cons.mp hy with rfl | hy
      · omega
      · exact h2 y hy
def dMin : DSp := fun ds m Q => match ds with
  | [.int i, .int j] => Q (.int (if j < i then j else i)) m
  | [d] => match asL m d with
    | some xs => match ints? xs with
      | some ns => 0 < ns.length ∧ Q (.int (minL ns)) m
      | none => False
    | none => False
  | _ => False
theorem cd_min (hK : X.K = G.K) (hc : X.calm = true) : CallR X (.builtin "min") (LC G dMin) := by
  intro pins s σ H vs us Q I rr h
  obtain ⟨F, m, ds, Q0, r, rv, h, k⟩ := h
  unfold dMin at h
  split at h
  · obtain ⟨v, w, rfl, rd, re⟩ := rv.two_inv
    cases rd
    cases re
    exact call_min2 hc pins s σ H _ us Q I rr ⟨_, _, rfl, k _ _ _ _ _ h (Ex.refl F) r (.int _)⟩
  · obtain ⟨v, rfl, rd⟩ := rv.one_inv
    rename_i d
    cases ea : asL m d with
    | none => rw [ea] at h; exact False.elim h
    | some xs =>
      rw [ea] at h
      dsimp only at h
      cases ei : ints? xs with
      | none => rw [ei] at h; exact False.elim h
      | some ns =>
        rw [ei] at h
        obtain ⟨a, ws, rfl, hs, hr⟩ := asL_ok r rd ea
        have := ints_ok hr ei
        subst this
        refine cr_min hc pins s σ H _ us Q I rr ⟨a, ns, rfl, by rw [hK]; exact hs, h.1, fun z hz hle => ?_⟩
        have e : z = minL ns := by
          cases ns with
          | nil => cases hz
          | cons n r =>
            obtain ⟨h1, h2⟩ := minL_ok n r
            have := hle _ h1
            have := h2 _ hz
            omega
        subst e
        exact k _ _ _ _ _ h.2 (Ex.refl F) r (.int _)
  · exact False.elim h
def dMax : DSp := fun ds m Q => match ds with
  | [.int i, .int j] => Q (.int (if j > i then j else i)) m
  | [d] => match asL m d with
    | some xs => match ints? xs with
      | some ns => 0 < ns.length ∧ Q (.int (maxL ns)) m
      | none => False
    | none => False
  | _ => False
theorem cd_max (hK : X.K = G.K) (hc : X.calm = true) : CallR X (.builtin "max") (LC G dMax) := by
  intro pins s σ H vs us Q I rr h
  obtain ⟨F, m, ds, Q0, r, rv, h, k⟩ := h
  unfold dMax at h
  split at h
  · obtain ⟨v, w, rfl, rd, re⟩ := rv.two_inv
    cases rd
    cases re
    exact call_max2 hc pins s σ H _ us Q I rr ⟨_, _, rfl, k _ _ _ _ _ h (Ex.refl F) r (.int _)⟩
  · obtain ⟨v, rfl, rd⟩ := rv.one_inv
    rename_i d
    cases ea : asL m d with
    | none => rw [ea] at h; exact False.elim h
    | some xs =>
      rw [ea] at h
      dsimp only at h
      cases ei : ints? xs with
      | none => rw [ei] at h; exact False.elim h
      | some ns =>
        rw [ei] at h
        obtain ⟨a, ws, rfl, hs, hr⟩ := asL_ok r rd ea
        have := ints_ok hr ei
        subst this
        refine cr_max hc pins s σ H _ us Q I rr ⟨a, ns, rfl, by rw [hK]; exact hs, h.1, fun z hz hle => ?_⟩
        have e : z = maxL ns := by
          cases ns with
          | nil => cases hz
          | cons n r =>
            obtain ⟨h1, h2⟩ := maxL_ok n r
            have := hle _ h1
            have := h2 _ hz
            omega
        subst e
        exact k _ _ _ _ _ h.2 (Ex.refl F) r (.int _)
  · exact False.elim h
/-- of a list of bools, of ints -/
def dBls (f : List Bool → Bool) : DSp := fun ds m Q => match ds with
  | [d] => match asL m d with
    | some xs => match bls? xs with
      | some ns => Q (.bl (f ns)) m
      | none => False
    | none => False
  | _ => False
theorem cd_bls {id : String} {f : List Bool → Bool} (hK : X.K = G.K) (base : CallR X (.builtin id) fun vs H Q => ∃ (a : Addr) (bs : List Bool), vs = [V.ref a] ∧ SqL X.K H a (bs.map V.bl) ∧ Q (.bl (f bs)) H) : CallR X (.builtin id) (LC G (dBls f)) := by
  intro pins s σ H vs us Q I rr h
  obtain ⟨F, m, ds, Q0, r, rv, h, k⟩ := h
  match ds, h with
  | [d], h =>
    obtain ⟨v, rfl, rd⟩ := rv.one_inv
    unfold dBls at h
    dsimp only at h
    cases ea : asL m d with
    | none => rw [ea] at h; exact False.elim h
    | some xs =>
      rw [ea] at h
      dsimp only at h
      cases ei : bls? xs with
      | none => rw [ei] at h; exact False.elim h
      | some ns =>
        rw [ei] at h
        obtain ⟨a, ws, rfl, hs, hr⟩ := asL_ok r rd ea
        have := bls_ok hr ei
        subst this
        exact base pins s σ H _ us Q I rr ⟨a, ns, rfl, by rw [hK]; exact hs, k _ _ _ _ _ h (Ex.refl F) r (.bl _)⟩
abbrev dAll : DSp := dBls fun bs => bs.all id
abbrev dAny : DSp := dBls fun bs => bs.any id
theorem cd_all (hK : X.K = G.K) (hc : X.calm = true) : CallR X (.builtin "all") (LC G dAll) := cd_bls hK (cr_all hc)
theorem cd_any (hK : X.K = G.K) (hc : X.calm = true) : CallR X (.builtin "any") (LC G dAny) := cd_bls hK (cr_any hc)
def dSum : DSp := fun ds m Q => match ds with
  | [d] => match asL m d with
    | some xs => match ints? xs with
      | some ns => Q (.int ns.sum) m
      | none => False
    | none => False
  | _ => False
theorem cd_sum (hK : X.K = G.K) (hc : X.calm = true) : CallR X (.builtin "sum") (LC G dSum) := by
  intro pins s σ H vs us Q I rr h
  obtain ⟨F, m, ds, Q0, r, rv, h, k⟩ := h
  match ds, h with
  | [d], h =>
    obtain ⟨v, rfl, rd⟩ := rv.one_inv
    unfold dSum at h
    dsimp only at h
    cases ea : asL m d with
    | none => rw [ea] at h; exact False.elim h
    | some xs =>
      rw [ea] at h
      dsimp only at h
      cases ei : ints? xs with
      | none => rw [ei] at h; exact False.elim h
      | some ns =>
        rw [ei] at h
        obtain ⟨a, ws, rfl, hs, hr⟩ := asL_ok r rd ea
        have := ints_ok hr ei
        subst this
        exact cr_sum hc pins s σ H _ us Q I rr ⟨a, ns, rfl, by rw [hK]; exact hs, k _ _ _ _ _ h (Ex.refl F) r (.int _)⟩
def dListOf (mu : Bool) : DSp := fun ds m Q => match ds with
  | [d] => match asQ m d with
    | some xs => newL mu xs m Q
    | none => match d with
      | .ref p => match m p with
        | some (.dct kvs) => newL mu (kvs.map fun kv => kD kv.1) m Q
        | _ => False
      | _ => False
  | _ => False
theorem kr_keysV {K : PySem.W.Frag} {F F' : Hp} : ∀ {kv : List (Key × V)} {kvs : List (Key × DV)}, KR K F kv kvs → VRs K F' (kv.map fun kv => kV kv.1) (kvs.map fun kv => kD kv.1) := fun {kv kvs} h => by
  have h' : Paired (fun (p : Key × V) (q : Key × DV) => p.1 = q.1 ∧ VR K F p.2 q.2) kv kvs := h
  clear h
  induction h' with
  | nil => exact .nil
  | cons h t ih => exact .cons (by dsimp only; rw [h.1]; exact vr_kD _) ih
theorem cd_list (hK : X.K = G.K) (hc : X.calm = true) (mu : Bool) : CallR X (.type "list") (LC G (dListOf mu)) := by
  intro pins s σ H vs us Q I rr h
  obtain ⟨F, m, ds, Q0, r, rv, h, k⟩ := h
  match ds, h with
  | [d], h =>
    obtain ⟨v, rfl, rd⟩ := rv.one_inv
    unfold dListOf at h
    dsimp only at h
    cases ea : asQ m d with
    | some xs =>
      rw [ea] at h
      obtain ⟨a, ws, rfl, hs, hr⟩ := asQ_ok r rd ea
      exact call_list_of pins s σ H _ us Q I rr ⟨a, ws, rfl, by rw [hK]; exact hs, newL_ok r h k hr⟩
    | none =>
      rw [ea] at h
      dsimp only at h
      cases rd <;> first | exact False.elim h | skip
      rename_i a
      dsimp only at h
      cases em : m a with
      | none => rw [em] at h; exact False.elim h
      | some ob =>
        rw [em] at h
        cases ob <;> first | exact False.elim h | skip
        obtain ⟨_, u, hu, kv, rfl, hr⟩ := r.mo a _ em
        exact call_listD hc pins s σ H _ us Q I rr ⟨a, kv, rfl, .inl hu, newL_ok r h k (kr_keysV hr)⟩
def dTupOf : DSp := fun ds m Q => match ds with
  | [.tup xs] => Q (.tup xs) m
  | [.ktup xs] => Q (.ktup xs) m
  | [d] => match asL m d with
    | some xs => Q (.tup xs) m
    | none => False
  | _ => False
theorem cd_tup (hK : X.K = G.K) : CallR X (.type "tuple") (LC G dTupOf) := by
  intro pins s σ H vs us Q I rr h
  obtain ⟨F, m, ds, Q0, r, rv, h, k⟩ := h
  unfold dTupOf at h
  split at h
  · obtain ⟨v, rfl, rd⟩ := rv.one_inv
    cases rd with
    | tup hs hr => exact call_tuple_of pins s σ H _ us Q I rr ⟨_, _, rfl, .inr ⟨by rw [hK]; exact SqT.of (r.ex _ _ hs), k _ _ _ _ _ h (Ex.refl F) r (.tup hs hr)⟩⟩
  · obtain ⟨v, rfl, rd⟩ := rv.one_inv
    cases rd with
    | ktup hs hr => exact call_tuple_of pins s σ H _ us Q I rr ⟨_, _, rfl, .inr ⟨by rw [hK]; exact Ex.sqT ex_none hs, k _ _ _ _ _ h (Ex.refl F) r (.ktup hs hr)⟩⟩
  · obtain ⟨v, rfl, rd⟩ := rv.one_inv
    rename_i d _ _
    cases ea : asL m d with
    | none => rw [ea] at h; exact False.elim h
    | some xs =>
      rw [ea] at h
      obtain ⟨a, ws, rfl, hs, hr⟩ := asL_ok r rd ea
      exact call_tuple_of pins s σ H _ us Q I rr ⟨a, ws, rfl, .inl ⟨by rw [hK]; exact hs, newT_ok r h k hr⟩⟩
  · exact False.elim h
def insI (x : Int) : List Int → List Int
  | [] => [x]
  | y :: r => if x ≤ y then x :: y :: r else y :: insI x r
def sortI : List Int → List Int
  | [] => []
  | x :: r => insI x (sortI r)
theorem insI_perm (x : Int) : ∀ ns : List Int, (insI x ns).Perm (x :: ns)
  | [] => .refl _
  | y :: r => by
    unfold insI
    split
    · exact .refl _
    · exact ((insI_perm x r).cons y).trans (.swap x y r)
theorem sortI_perm : ∀ ns : List Int, (sortI ns).Perm ns
  | [] => .refl _
  | x :: r => (insI_perm x _).trans ((sortI_perm r).cons x)
theorem insI_sorted (x : Int) : ∀ ns : List Int, ns.Pairwise (· ≤ ·) → (insI x ns).Pairwise (· ≤ ·)
  | [], _ => List.pairwise_singleton _ _
  | y :: r, h => by
    rw [List.pairwise_cons] at h
    unfold insI
    split
    · rename_i hle
      refine List.pairwise_cons.mpr ⟨fun z hz => ?_, List.pairwise_cons.mpr h⟩
      rcases List.mem_cons.mp hz with rfl | hz
      · exact hle
      · exact Int.le_trans hle (h.1 z hz)
    · rename_i hle
      refine List.pairwise_cons.mpr ⟨fun z hz => ?_, insI_sorted x r h.2⟩
      rcases List.mem_cons.mp ((insI_perm x r).mem_iff.mp hz) with rfl | hz
      · omega
      · exact h.1 z hz
theorem sortI_sorted : ∀ ns : List Int, (sortI ns).Pairwise (· ≤ ·)
  | [] => .nil
  | x :: r => insI_sorted x _ (sortI_sorted r)
theorem sorted_unique : ∀ {as bs : List Int}, as.Perm bs → as.Pairwise (· ≤ ·) → bs.Pairwise (· ≤ ·) → as = bs
  | [], bs, h, _, _ => by rw [List.nil_perm.mp h]
  | a :: as, [], h, _, _ => absurd h.length_eq (by simp)
  | a :: as, b :: bs, h, h1, h2 => by
    rw [List.pairwise_cons] at h1 h2
    have e1 : a ≤ b := by
      have := h.mem_iff.mpr (List.mem_cons_self (a := b) (l := bs))
      rcases List.mem_cons.mp this with rfl | z
      · exact Int.le_refl _
      · exact h1.1 b z
    have e2 : b ≤ a := by
      have := h.mem_iff.mp (List.mem_cons_self (a := a) (l := as))
      rcases List.mem_cons.mp this with rfl | z
      · exact Int.le_refl _
      · exact h2.1 a z
    have e : a = b := by omega
    subst e
    rw [sorted_unique (h.cons_inv) h1.2 h2.2]
theorem sortI_of {ns ms : List Int} (h : ms.Perm ns) (s : ms.Pairwise (· ≤ ·)) : ms = sortI ns := sorted_unique (h.trans (sortI_perm ns).symm) s (sortI_sorted ns)
/-- the keys of a dict that are ints, texts -/
def keysI? : List (Key × DV) → Option (List Int)
  | [] => some []
  | (.inl i, _) :: r => (keysI? r).map (i :: ·)
  | _ => none
theorem keysI_ok : ∀ {kvs : List (Key × DV)} {ns : List Int}, keysI? kvs = some ns → kvs.map (·.1) = ns.map Sum.inl
  | [], _, h => by cases h; rfl
  | (.inl i, _) :: r, _, h => by
    simp only [keysI?] at h
    cases e : keysI? r with
    | none => rw [e] at h; cases h
    | some ms => rw [e] at h; cases h; rw [List.map_cons, keysI_ok e]; rfl
  | (.inr i, _) :: r, _, h => by cases h
def keysS? : List (Key × DV) → Option (List Str)
  | [] => some []
  | (.inr i, _) :: r => (keysS? r).map (i :: ·)
  | _ => none
theorem keysS_ok : ∀ {kvs : List (Key × DV)} {ns : List Str}, keysS? kvs = some ns → kvs.map (·.1) = ns.map Sum.inr
  | [], _, h => by cases h; rfl
  | (.inr i, _) :: r, _, h => by
    simp only [keysS?] at h
    cases e : keysS? r with
    | none => rw [e] at h; cases h
    | some ms => rw [e] at h; cases h; rw [List.map_cons, keysS_ok e]; rfl
  | (.inl i, _) :: r, _, h => by cases h
/-- sorted of ints (a list, a dict's keys), of texts -/
def dSorted (mu : Bool) : DSp := fun ds m Q => match ds with
  | [d] => match asL m d with
    | some xs => match ints? xs with
      | some ns => newL mu ((sortI ns).map DV.int) m Q
      | none => match strs? xs with
        | some ns => ns.length < 64 ∧ ∀ ys : List Str, ys.Perm ns → sortedS ys = true → newL mu (ys.map DV.str) m Q
        | none => False
    | none => match d with
      | .ref p => match m p with
        | some (.dct kvs) => kvs.length < 64 ∧ match keysI? kvs with
          | some ns => newL mu ((sortI ns).map DV.int) m Q
          | none => match keysS? kvs with
            | some ns => ∀ ys : List Str, ys.Perm ns → sortedS ys = true → newL mu (ys.map DV.str) m Q
            | none => False
        | _ => False
      | _ => False
  | _ => False
theorem cd_sorted (hK : X.K = G.K) (hc : X.calm = true) (mu : Bool) : CallR X (.builtin "sorted") (LC G (dSorted mu)) := by
  intro pins s σ H vs us Q I rr h
  obtain ⟨F, m, ds, Q0, r, rv, h, k⟩ := h
  match ds, h with
  | [d], h =>
    obtain ⟨v, rfl, rd⟩ := rv.one_inv
    unfold dSorted at h
    dsimp only at h
    cases ea : asL m d with
    | some xs =>
      rw [ea] at h
      dsimp only at h
      obtain ⟨a, ws, rfl, hs, hr⟩ := asL_ok r rd ea
      cases ei : ints? xs with
      | some ns =>
        rw [ei] at h
        have := ints_ok hr ei
        subst this
        refine cr_sortedI pins s σ H _ us Q I rr ⟨a, ns, rfl, by rw [hK]; exact hs, fun ns' p hp hs' hn => ?_⟩
        rw [sortI_of hp hs']
        exact newL_ok r h k (VRs.of_ints _) p hn
      | none =>
        rw [ei] at h
        dsimp only at h
        cases es : strs? xs with
        | none => rw [es] at h; exact False.elim h
        | some ns =>
          rw [es] at h
          have := strs_ok hr es
          subst this
          exact cr_sortedS pins s σ H _ us Q I rr ⟨a, ns, rfl, by rw [hK]; exact hs, h.1, fun ns' p hp hs' hn => newL_ok r (h.2 ns' hp hs') k (vrs_strs _) p hn⟩
    | none =>
      rw [ea] at h
      dsimp only at h
      cases rd <;> first | exact False.elim h | skip
      rename_i a
      dsimp only at h
      cases em : m a with
      | none => rw [em] at h; exact False.elim h
      | some ob =>
        rw [em] at h
        cases ob <;> first | exact False.elim h | skip
        rename_i kvs
        obtain ⟨_, u, hu, kv, rfl, hr⟩ := r.mo a _ em
        obtain ⟨h64, h⟩ := h
        cases ei : keysI? kvs with
        | some ns =>
          rw [ei] at h
          have hk := (KR.keys hr).trans (keysI_ok ei)
          have hl : ns.length < 64 := by
            have := congrArg List.length (keysI_ok ei)
            simp at this
            omega
          refine call_sortedDI hc pins s σ H _ us Q I rr ⟨a, kv, ns, rfl, .inl hu, hk, hl, fun ys p hp hs' hn => ?_⟩
          rw [sortI_of hp hs']
          exact newL_ok r h k (VRs.of_ints _) p hn
        | none =>
          rw [ei] at h
          dsimp only at h
          cases es : keysS? kvs with
          | none => rw [es] at h; exact False.elim h
          | some ns =>
            rw [es] at h
            have hk := (KR.keys hr).trans (keysS_ok es)
            have hl : ns.length < 64 := by
              have := congrArg List.length (keysS_ok es)
              simp at this
              omega
            exact call_sortedD hc pins s σ H _ us Q I rr ⟨a, kv, ns, rfl, .inl hu, hk, hl, fun ys p hp hs' hn => newL_ok r (h ys hp hs') k (vrs_strs _) p hn⟩
/-- sorted(set(l)) -/
def rSetOfI (K : PySem.W.Frag) (w : World) : List V → Hp → VK → Prop := fun vs H Q => ∃ (l : Addr) (ns : List Int), vs = [V.ref l] ∧ SqL K H l (ns.map V.int) ∧ ns.length < 1000 ∧ ∀ p c, H p = none → c ≤ ns.length → Q (.ref p) (upd H p (SetO w p (fun j => decide (j ∈ ns)) c))
theorem cr_setOfI (hc : X.calm = true) : CallR X (.type "set") (rSetOfI X.K X.w) := by
  intro pins s σ H vs us Q I rr h
  obtain ⟨l, ns, rfl, hs, hl, q⟩ := h
  obtain ⟨its, rv, pl, hz⟩ := I.list hs
  obtain ⟨u, rfl, ru⟩ := vals1 rr
  cases ru
  refine call_set_listI ns (I.ok.hd hc) pl.isList (by simpa using intsAre_vals rv) (by unfold scanBound; omega) fun h' tk c R hcle hk => ?_
  refine ⟨.ref _, _, I.laid (t' := tk) hk (Nat.le_refl _) (setO_new (P := X.prog) R), rfl, q _ c I.fresh hcle⟩
def ddI : List Int → List Int
  | [] => []
  | x :: r => if x ∈ r then ddI r else x :: ddI r
theorem ddI_mem {z : Int} : ∀ {ns : List Int}, z ∈ ddI ns ↔ z ∈ ns
  | [] => .rfl
  | x :: r => by
    unfold ddI
    split
    · rename_i h
      rw [ddI_mem, List.mem_cons]
      exact ⟨.inr, fun z => z.elim (fun e => e ▸ h) id⟩
    · rw [List.mem_cons, List.mem_cons, ddI_mem]
theorem ddI_nodup : ∀ ns : List Int, (ddI ns).Nodup
  | [] => .nil
  | x :: r => by
    unfold ddI
    split
    · exact ddI_nodup r
    · rename_i h
      exact List.nodup_cons.mpr ⟨fun z => h (ddI_mem.mp z), ddI_nodup r⟩
def sortU (ns : List Int) : List Int := sortI (ddI ns)
theorem sortU_mem {z : Int} {ns : List Int} : z ∈ sortU ns ↔ z ∈ ns := ((sortI_perm _).mem_iff).trans ddI_mem
theorem sortU_lt (ns : List Int) : (sortU ns).Pairwise (· < ·) := by
  have h1 := sortI_sorted (ddI ns)
  have h2 : (sortI (ddI ns)).Nodup := (sortI_perm _).nodup_iff.mpr (ddI_nodup ns)
  have h3 := List.pairwise_and_iff.mpr ⟨h1, h2⟩
  exact h3.imp fun {a b} h => by have := h.1; have := h.2; omega
theorem lt_unique : ∀ {as bs : List Int}, as.Pairwise (· < ·) → bs.Pairwise (· < ·) → (∀ z, z ∈ as ↔ z ∈ bs) → as = bs := fun {as bs} h1 h2 h => by
  have n1 : as.Nodup := h1.imp fun {a b} h => by omega
  have n2 : bs.Nodup := h2.imp fun {a b} h => by omega
  exact sorted_unique ((List.perm_ext_iff_of_nodup n1 n2).mpr h) (h1.imp fun {a b} h => by omega) (h2.imp fun {a b} h => by omega)
def dSortU (mu : Bool) (w : DE) : DE := fun δ m Q => w δ m fun d m1 => match asL m1 d with
  | some xs => match ints? xs with
    | some ns => ns.length < 64 ∧ newL mu ((sortU ns).map DV.int) m1 Q
    | none => False
  | none => False
theorem qe_sortU {p2 pos2 : Pos} (hK : X.K = G.K) (hc : X.calm = true) (mu : Bool) (hg : Gl X "sorted") (hm : X.mg "sorted" = none) (hg2 : Gl X "set") (hm2 : X.mg "set" = none) (he : PE X e (LE G w))
    (hs : starEach [e] X.env = (false, eval e X.env) :: starEach [] X.env := by rfl) (hs2 : starEach [.Call (.Name "set" p2) [e] [] pos2] X.env = (false, eval (.Call (.Name "set" p2) [e] [] pos2) X.env) :: starEach [] X.env := by rfl) :
    PE X (.Call (.Name "sorted" p) [.Call (.Name "set" p2) [e] [] pos2] [] pos) (LE G (dSortU mu w)) :=
  PE.imp (pe_callB (cr_sortedSet hc) hg hm boot_sorted (pa_cons (pe_callTy (cr_setOfI hc) hg2 hm2 boot_set (pa_cons he pa_nil hs) (by decide) (by decide) hs (by rfl)) pa_nil hs2) (by decide) (by decide) hs2 (by rfl)) fun σ H Q h => by
    obtain ⟨F, m, δ, Q0, r, sr, h, k⟩ := h
    refine ⟨F, m, δ, _, r, sr, h, fun d m1 v F1 H1 h1 e1 r1 v1 => ?_⟩
    cases ea : asL m1 d with
    | none => rw [ea] at h1; exact False.elim h1
    | some xs =>
      rw [ea] at h1
      dsimp only at h1
      cases ei : ints? xs with
      | none => rw [ei] at h1; exact False.elim h1
      | some ns =>
        rw [ei] at h1
        obtain ⟨a, ws, rfl, hs, hr⟩ := asL_ok r1 v1 ea
        have := ints_ok hr ei
        subst this
        refine ⟨a, ns, rfl, by rw [hK]; exact hs, by omega, fun p c hp hcle => ⟨p, _, c, rfl, upd_same, by omega, fun ms q hlt hmem hlen hq => ?_⟩⟩
        have e2 : ms = sortU ns := lt_unique hlt (sortU_lt ns) fun z => by rw [hmem z, sortU_mem]; simp
        subst e2
        have r2 : Rel G F1 m1 (upd H1 p (SetO X.w p (fun j => decide (j ∈ ns)) c)) := r1.grow (Ex.new hp)
        exact newL_ok r2 h1.2 (k.mono e1) (VRs.of_ints _) q hq
inductive Ty0 | non | bl | int | str | lst | tup | dct
  deriving DecidableEq
def Ty0.name : Ty0 → String
  | .non => "NoneType" | .bl => "bool" | .int => "int" | .str => "str" | .lst => "list" | .tup => "tuple" | .dct => "dict"
def isA : Ty0 → Ty0 → Bool
  | .bl, .int => true
  | a, b => decide (a = b)
theorem kit_isA (a b : Ty0) (hb : b ≠ .non) : kitB a.name b.name = some (isA a b) := by
  cases b <;> first | exact absurd rfl hb | skip
  all_goals (cases a <;> decide +kernel)
def tyD (m : Sto) : DV → Option Ty0
  | .non => some .non | .bl _ => some .bl | .int _ => some .int | .str _ => some .str
  | .lst _ => some .lst | .klst _ => some .lst | .tup _ => some .tup | .ktup _ => some .tup
  | .ref p => match m p with
    | some (.lst _) => some .lst
    | some (.dct _) => some .dct
    | some (.dcT _) => some .dct
    | some (.lck _ _ _) => some .dct
    | _ => none
theorem tyx_l {K : PySem.W.Frag} {H : Hp} {a : Addr} {vs : List V} (h : SqL K H a vs) : TyX K H (.ref a) (.type "list") := by
  rcases h with (h | ⟨o, h⟩) | ⟨o, its, n, hk, hc, _⟩
  · exact .base (.lst h)
  · exact .base (.frz h)
  · exact .kList hk hc
theorem tyx_t {K : PySem.W.Frag} {H : Hp} {a : Addr} {vs : List V} (h : SqT K H a vs) : TyX K H (.ref a) (.type "tuple") := by
  rcases h with (h | ⟨o, h⟩) | ⟨o, its, n, hk, hc, _⟩
  · exact .base (.tup h)
  · exact .fTuple h
  · exact .kTuple hk hc
theorem tyd_ok {F H : Hp} {m : Sto} {v : V} {d : DV} {t : Ty0} (r : Rel G F m H) (rv : VR G.K F v d) (h : tyD m d = some t) : TyX G.K H v (.type t.name) := by
  cases rv with
  | non => cases h; exact .base .non
  | bl b => cases h; exact .base (.bl b)
  | int b => cases h; exact .base (.int b)
  | str b => cases h; exact .base (.str b)
  | lst hs hr => cases h; exact tyx_l (.inl (r.ex.rd hs))
  | tup hs hr => cases h; exact tyx_t (SqT.of (r.ex _ _ hs))
  | ktup hs hr => cases h; exact tyx_t (Ex.sqT ex_none hs)
  | klst hs hr => cases h; exact tyx_l (Ex.sqL ex_none hs)
  | ref a =>
    unfold tyD at h
    dsimp only at h
    cases e : m a with
    | none => rw [e] at h; cases h
    | some o =>
      rw [e] at h
      cases o <;> first | (cases h; done) | skip
      · obtain ⟨_, u, hu, vs, rfl, hr⟩ := r.mo a _ e
        cases h; exact .base (.lst hu)
      · obtain ⟨_, u, hu, vs, rfl, hr⟩ := r.mo a _ e
        cases h; exact .base (.dK hu)
      · obtain ⟨_, u, hu, vs, rfl, hr⟩ := r.mo a _ e
        cases h; exact .base (.dT hu)
      · obtain ⟨_, u, hu, rfl, hr⟩ := r.mo a _ e
        cases h; exact .fDict hu
def wIsi (ts : List Ty0) (w : DE) : DE := fun δ m Q => w δ m fun d m1 => match tyD m1 d with
  | some t => Q (.bl (ts.any (isA t))) m1
  | none => False
theorem qe_isi {x2 : Str} {p2 : Pos} {t : Ty0} (hK : X.K = G.K) (ht : t ≠ .non) (hg : Gl X "isinstance") (hm : X.mg "isinstance" = none) (hg2 : Gl X x2) (hm2 : X.mg x2 = none) (hv : bootBuiltins x2 = some (.type t.name)) (he : PE X e (LE G w))
    (hn2 : x2 ≠ "__name__" := by decide) (hd2 : (x2 == ("__debug__" : Str)) = false := by decide)
    (hs : starEach [e, .Name x2 p2] X.env = (false, eval e X.env) :: starEach [.Name x2 p2] X.env := by rfl) (hs2 : starEach [.Name x2 p2] X.env = (false, eval (.Name x2 p2) X.env) :: starEach [] X.env := by rfl) (hpl : (backTo pos (starEach [.Name x2 p2] X.env)).any (·.1) = false := by rfl) :
    PE X (.Call (.Name "isinstance" p) [e, .Name x2 p2] [] pos) (LE G (wIsi [t] w)) :=
  PE.imp (pe_callB call_isi hg hm boot_isinstance (pa_cons he (pa_cons (pe_bltn (v := .ty t.name) hg2 hm2 hv rfl hn2 hd2) pa_nil hs2) hs) (by decide) (by decide) hs hpl) fun σ H Q h => by
    obtain ⟨F, m, δ, Q0, r, sr, h, k⟩ := h
    refine ⟨F, m, δ, _, r, sr, h, fun d m1 v F1 H1 h1 e1 r1 v1 => ?_⟩
    cases et : tyD m1 d with
    | none => rw [et] at h1; exact False.elim h1
    | some u =>
      rw [et] at h1
      refine ⟨v, .ty t.name, _, _, isA u t, rfl, .ty _, by rw [hK]; exact tyd_ok r1 v1 et, kit_ty (kit_isA u t ht), k _ _ _ _ _ ?_ e1 r1 (.bl _)⟩
      have e2 : [t].any (isA u) = isA u t := by simp
      rw [← e2]; exact h1
theorem qe_isi2 {x2 x3 : Str} {p2 p3 pt : Pos} {kt : Nat} {t t' : Ty0} (hK : X.K = G.K) (ht : t ≠ .non) (ht' : t' ≠ .non) (hg : Gl X "isinstance") (hm : X.mg "isinstance" = none) (hg2 : Gl X x2) (hm2 : X.mg x2 = none) (hv : bootBuiltins x2 = some (.type t.name))
    (hg3 : Gl X x3) (hm3 : X.mg x3 = none) (hv3 : bootBuiltins x3 = some (.type t'.name)) (he : PE X e (LE G w))
    (hn2 : x2 ≠ "__name__" := by decide) (hd2 : (x2 == ("__debug__" : Str)) = false := by decide) (hn3 : x3 ≠ "__name__" := by decide) (hd3 : (x3 == ("__debug__" : Str)) = false := by decide)
    (hs : starEach [e, .Tuple [.Name x2 p2, .Name x3 p3] kt pt] X.env = (false, eval e X.env) :: starEach [.Tuple [.Name x2 p2, .Name x3 p3] kt pt] X.env := by rfl)
    (hs2 : starEach [.Tuple [.Name x2 p2, .Name x3 p3] kt pt] X.env = (false, eval (.Tuple [.Name x2 p2, .Name x3 p3] kt pt) X.env) :: starEach [] X.env := by rfl) (hpl : (backTo pos (starEach [.Tuple [.Name x2 p2, .Name x3 p3] kt pt] X.env)).any (·.1) = false := by rfl)
    (hs3 : starEach [.Name x2 p2, .Name x3 p3] X.env = (false, eval (.Name x2 p2) X.env) :: starEach [.Name x3 p3] X.env := by rfl) (hs4 : starEach [.Name x3 p3] X.env = (false, eval (.Name x3 p3) X.env) :: starEach [] X.env := by rfl) :
    PE X (.Call (.Name "isinstance" p) [e, .Tuple [.Name x2 p2, .Name x3 p3] kt pt] [] pos) (LE G (wIsi [t, t'] w)) :=
  PE.imp (pe_callB call_isiT hg hm boot_isinstance (pa_cons he (pa_cons (pe_tup (pa_cons (pe_bltn (v := .ty t.name) hg2 hm2 hv rfl hn2 hd2) (pa_cons (pe_bltn (v := .ty t'.name) hg3 hm3 hv3 rfl hn3 hd3) pa_nil hs4) hs3)) pa_nil hs2) hs) (by decide) (by decide) hs hpl) fun σ H Q h => by
    obtain ⟨F, m, δ, Q0, r, sr, h, k⟩ := h
    refine ⟨F, m, δ, _, r, sr, h, fun d m1 v F1 H1 h1 e1 r1 v1 => ?_⟩
    cases et : tyD m1 d with
    | none => rw [et] at h1; exact False.elim h1
    | some u =>
      rw [et] at h1
      refine ⟨(by show 2 ≤ sizeLine; decide), fun q hq => ⟨v, q, _, .type u.name, _, [t, t'].any (isA u), rfl, upd_same, .cons (.ty _) (.cons (.ty _) .nil), ?_, ?_, ?_⟩⟩
      · have := tyd_ok (r1.grow (Ex.new (o := .tup [V.ty t.name, V.ty t'.name]) hq)) v1 et
        rw [hK]; exact this
      · cases hb : isA u t with
        | true =>
          refine kitAny_cons (kit_ty (kit_isA u t ht)) (fun z => absurd (hb.symm.trans z) (by decide)) fun _ => ?_
          simp [hb]
        | false =>
          have : [t, t'].any (isA u) = isA u t' := by simp [hb]
          rw [this]
          cases hb' : isA u t' with
          | true => exact kitAny_cons (kit_ty (kit_isA u t ht)) (fun _ => kitAny_cons (kit_ty (kit_isA u t' ht')) (fun z => absurd (hb'.symm.trans z) (by decide)) fun _ => rfl) fun z => absurd (hb.symm.trans z) (by decide)
          | false => exact kitAny_cons (kit_ty (kit_isA u t ht)) (fun _ => kitAny_cons (kit_ty (kit_isA u t' ht')) (fun _ => kitAny_nil) fun z => absurd (hb'.symm.trans z) (by decide)) fun z => absurd (hb.symm.trans z) (by decide)
      · exact k _ _ _ _ _ h1 e1 (r1.grow (Ex.new hq)) (.bl _)
end
end DL
namespace DL
open PySem PySem.Spec PyProof.Rows L2
abbrev DM := DV → List DV → Sto → DK → Prop
def LM (G : Gam) (R : DM) : V → List V → Hp → VK → Prop := fun x vs H Q => ∃ F m d ds Q0, Rel G F m H ∧ VR G.K F x d ∧ VRs G.K F vs ds ∧ R d ds m Q0 ∧ Kt G F Q0 Q
/-- the value is of the type -/
def ofTy (m : Sto) (t : Ty0) (d : DV) : Prop := tyD m d = some t ∧ match d with
  | .ref p => match m p with
    | some (.lck _ _ _) => False
    | _ => True
  | _ => True
theorem ofTy_l {G : Gam} {F H : Hp} {m : Sto} {v : V} {d : DV} (r : Rel G F m H) (rv : VR G.K F v d) (h : ofTy m .lst d) : tyV G.K "list" v H := by
  obtain ⟨h, _⟩ := h
  cases rv <;> first | (exfalso; simp [tyD] at h; done) | skip
  · rename_i a _
    unfold tyD at h
    dsimp only at h
    cases e : m a with
    | none => rw [e] at h; cases h
    | some o =>
      rw [e] at h
      cases o <;> first | (cases h; done) | skip
      obtain ⟨_, u, hu, vs, rfl, hr⟩ := r.mo a _ e
      exact .inl ⟨rfl, _, SqL.of hu⟩
  · exact .inl ⟨rfl, _, .inl (r.ex.rd (by assumption))⟩
  · exact .inl ⟨rfl, _, Ex.sqL ex_none (by assumption)⟩
theorem ofTy_d {G : Gam} {F H : Hp} {m : Sto} {v : V} {d : DV} (r : Rel G F m H) (rv : VR G.K F v d) (h : ofTy m .dct d) : tyV G.K "dict" v H := by
  obtain ⟨h, h2⟩ := h
  cases rv <;> first | (exfalso; simp [tyD] at h; done) | skip
  rename_i a
  unfold tyD at h
  dsimp only at h h2
  cases e : m a with
  | none => rw [e] at h; cases h
  | some o =>
    rw [e] at h h2
    cases o <;> first | (cases h; done) | (exact False.elim h2) | skip
    · obtain ⟨_, u, hu, vs, rfl, hr⟩ := r.mo a _ e
      exact .inr (.inr (.inl ⟨rfl, .inl ⟨_, hu⟩⟩))
    · obtain ⟨_, u, hu, vs, rfl, hr⟩ := r.mo a _ e
      exact .inr (.inr (.inl ⟨rfl, .inr ⟨_, hu⟩⟩))
theorem ofTy_s {G : Gam} {F H : Hp} {m : Sto} {v : V} {d : DV} (r : Rel G F m H) (rv : VR G.K F v d) (h : ofTy m .str d) : tyV G.K "str" v H := by
  obtain ⟨h, _⟩ := h
  cases rv <;> first | (exfalso; simp [tyD] at h; done) | rfl | skip
  rename_i a _
  unfold tyD at h
  dsimp only at h
  cases e : m a with
  | none => rw [e] at h; cases h
  | some o =>
    rw [e] at h
    cases o <;> cases h
theorem ofTy_ok {G : Gam} {F H : Hp} {m : Sto} {v : V} {d : DV} {t : Ty0} (ht : t = .lst ∨ t = .dct ∨ t = .str) (r : Rel G F m H) (rv : VR G.K F v d) (h : ofTy m t d) : tyV G.K t.name v H := by
  rcases ht with rfl | rfl | rfl
  · exact ofTy_l r rv h
  · exact ofTy_d r rv h
  · exact ofTy_s r rv h
def wM (t : Ty0) (R : DM) (w : DE) (wl : DA) : DE := fun δ m Q => w δ m fun d m1 => ofTy m1 t d ∧ wl δ m1 fun ds m2 => R d ds m2 Q
section
variable {X : Cx} {G : Gam} {k : Nat} {o e : Expr} {es : List Expr} {name : Str} {apos cpos pos : Pos} {R : DM} {wl : DA} {w : DE} {t : Ty0} {id : String}
theorem qe_m (hK : X.K = G.K) (ht : t = .lst ∨ t = .dct ∨ t = .str) (pa : PlainAttrs t.name) (slot : Slot t.name name id) (hty : typeOf (.builtin id) = pure (.type "method_descriptor")) (hm : MtR X id (LM G R)) (ho : PE X o (LE G w)) (ha : PA X (e :: es) (LA G wl))
    (hbase : attributeBase o name X.env (eval o X.env) = eval o X.env := by rfl)
    (hfew : ((backTo cpos (starEach (e :: es) X.env)).all (fun x => !x.1) && (backToKw cpos (keywordEach [] X.env)).all (fun x => x.1.isSome)
      && decide ((e :: es).length + ([] : List Keyword).length + (if ([] : List Keyword).isEmpty then 0 else 1) < 30)) = true := by rfl)
    (hline : (apos.endLine == cpos.line) = true := by rfl) (hs : starEach (e :: es) X.env = (false, eval e X.env) :: starEach es X.env := by rfl) (hplain : (backTo cpos (starEach es X.env)).any (·.1) = false := by rfl) :
    PE X (.Call (.Attribute o name apos) (e :: es) [] cpos) (LE G (wM t R w wl)) :=
  PE.imp (pe_bm pa slot hty hm ho ha hbase hfew hline hs hplain) fun σ H Q h => by
    obtain ⟨F, m, δ, Q0, r, s, h, k⟩ := h
    exact ⟨F, m, δ, _, r, s, h, fun d m1 v F1 H1 ⟨h1, h2⟩ e1 r1 v1 => ⟨by rw [hK]; exact ofTy_ok ht r1 v1 h1, F1, m1, δ, _, r1, s.mono e1, h2, fun ds m2 vs F2 H2 h3 e2 r2 v2 => ⟨F2, m2, d, ds, Q0, r2, v1.mono e2, v2, h3, k.mono (e1.trans e2)⟩⟩⟩
theorem qe_m0 (hK : X.K = G.K) (ht : t = .lst ∨ t = .dct ∨ t = .str) (pa : PlainAttrs t.name) (slot : Slot t.name name id) (hty : typeOf (.builtin id) = pure (.type "method_descriptor")) (hm : MtR X id (LM G R)) (ho : PE X o (LE G w))
    (hbase : attributeBase o name X.env (eval o X.env) = eval o X.env := by rfl) (hline : (apos.endLine == cpos.line) = true := by rfl) :
    PE X (.Call (.Attribute o name apos) [] [] cpos) (LE G (wM t R w wNil)) :=
  PE.imp (pe_bm0 pa slot hty hm ho hbase hline) fun σ H Q h => by
    obtain ⟨F, m, δ, Q0, r, s, h, k⟩ := h
    exact ⟨F, m, δ, _, r, s, h, fun d m1 v F1 H1 ⟨h1, h2⟩ e1 r1 v1 => ⟨by rw [hK]; exact ofTy_ok ht r1 v1 h1, F1, m1, d, [], Q0, r1, v1, .nil, h2, k.mono e1⟩⟩
/-- the list at p in the store -/
def ownL (m : Sto) (d : DV) (Q : Addr → List DV → Prop) : Prop := match d with
  | .ref p => match m p with
    | some (.lst xs) => Q p xs
    | _ => False
  | _ => False
theorem ownL_ok {F H : Hp} {m : Sto} {v : V} {d : DV} {Q : Addr → List DV → Prop} (r : Rel G F m H) (rv : VR G.K F v d) (h : ownL m d Q) : ∃ a xs vs, v = .ref a ∧ m a = some (.lst xs) ∧ H a = some (.lst vs) ∧ VRs G.K F vs xs ∧ Q a xs := by
  cases rv <;> first | exact False.elim h | skip
  rename_i a
  unfold ownL at h
  dsimp only at h
  cases e : m a with
  | none => rw [e] at h; exact False.elim h
  | some ob =>
    rw [e] at h
    cases ob <;> first | exact False.elim h | skip
    obtain ⟨_, u, hu, vs, rfl, hr⟩ := r.mo a _ e
    exact ⟨a, _, vs, rfl, e, hu, hr, h⟩
def mAppend : DM := fun d ds m Q => match ds with
  | [y] => ownL m d fun p xs => xs.length < sizeLine ∧ Q .non (put m p (.lst (xs ++ [y])))
  | _ => False
theorem md_append : MtR X "list.append" (LM G mAppend) := by
  intro pins s σ H x vs v us Q I rx rv h
  obtain ⟨F, m, d, ds, Q0, r, r1, r2, h, k⟩ := h
  match ds, h with
  | [y], h =>
    obtain ⟨z, rfl, rz⟩ := r2.one_inv
    obtain ⟨a, xs, ws, rfl, e, hu, hr, hl, h⟩ := ownL_ok r r1 h
    exact mt_append pins s σ H _ _ v us Q I rx rv ⟨a, ws, z, rfl, rfl, hu, by rw [hr.length]; exact hl, k _ _ _ _ _ h (Ex.refl F) (r.write e ⟨_, rfl, hr.append (VRs.one rz)⟩) .non⟩
def asR (m : Sto) : DV → Option (List DV)
  | .klst _ => none
  | d => asL m d
theorem rd_lst {F H : Hp} {m : Sto} {v : V} {d : DV} {xs : List DV} (r : Rel G F m H) (rv : VR G.K F v d) (h : asR m d = some xs) : ∃ a vs, v = .ref a ∧ Rd H a (.lst vs) ∧ VRs G.K F vs xs := by
  cases rv with
  | @lst a vs ds hs hr =>
    cases h
    exact ⟨a, vs, rfl, r.ex.rd hs, hr⟩
  | ref a =>
    simp only [asR, asL] at h
    cases e : m a with
    | none => rw [e] at h; cases h
    | some o =>
      rw [e] at h
      cases o with
      | lst ys =>
        cases h
        obtain ⟨_, u, hu, vs, rfl, hr⟩ := r.mo a _ e
        exact ⟨a, vs, rfl, .inl hu, hr⟩
      | _ => cases h
  | _ => cases h
/-- l.extend(b): b a list -/
theorem mt_extendR : MtR X "list.extend" (fun x vs H Q => ∃ l b xs zs, x = .ref l ∧ vs = [.ref b] ∧ H l = some (.lst xs) ∧ Rd H b (.lst zs) ∧ xs.length + zs.length ≤ sizeLine ∧ Q .non (upd H l (.lst (xs ++ zs)))) := by
  intro pins s σ H x vs v us Q I rx rv h
  obtain ⟨l, b, xs, zs, rfl, rfl, hH, hB, hz, q⟩ := h
  cases rx
  obtain ⟨u, rfl, ru⟩ := rv.one
  cases ru
  obtain ⟨z, its, n, r, hl, e⟩ := I.lstM hH
  obtain ⟨z2, its2, n2, r2, e2⟩ := hB.ok I.hok
  have hl2 := r2.length
  have hsz : its.toArray.size + its2.toArray.size ≤ sizeLine := by rw [List.size_toArray, List.size_toArray]; omega
  have hlong : ¬ (!its.toArray.isEmpty && Builtin.List.listTooLong (its.toArray.size + its2.toArray.size)) = true := by
    rw [notLongL hsz, Bool.and_false]
    exact Bool.false_ne_true
  refine call_meets F.slot_list_extend ⟨_, e, rfl⟩ F.entry_list_extend (F.args_list_extend_2 _ _)
    (AutoSeq1.list_extend_list_list_0 l its.toArray n b its2.toArray n2 hlong (by rw [List.size_toArray]; omega) (by omega)) ⟨e, e2, ?_⟩
  refine ⟨.non, _, I.lset (its' := its ++ its2) hH e (by simp) (r.append r2) ?_, rfl, q⟩
  rw [List.length_append]
  omega
def mExtend : DM := fun d ds m Q => match ds with
  | [y] => ownL m d fun p xs => match asR m y with
    | some ys => xs.length + ys.length ≤ sizeLine ∧ Q .non (put m p (.lst (xs ++ ys)))
    | none => False
  | _ => False
theorem md_extend : MtR X "list.extend" (LM G mExtend) := by
  intro pins s σ H x vs v us Q I rx rv h
  obtain ⟨F, m, d, ds, Q0, r, r1, r2, h, k⟩ := h
  match ds, h with
  | [y], h =>
    obtain ⟨z, rfl, rz⟩ := r2.one_inv
    obtain ⟨a, xs, ws, rfl, e, hu, hr, h⟩ := ownL_ok r r1 h
    cases ey : asR m y with
    | none => rw [ey] at h; exact False.elim h
    | some ys =>
      rw [ey] at h
      obtain ⟨b, zs, rfl, hb, hrb⟩ := rd_lst r rz ey
      exact mt_extendR pins s σ H _ _ v us Q I rx rv ⟨a, b, ws, zs, rfl, rfl, hu, hb, by rw [hr.length, hrb.length]; exact h.1, k _ _ _ _ _ h.2 (Ex.refl F) (r.write e ⟨_, rfl, hr.append hrb⟩) .non⟩
def mPop : DM := fun d ds m Q => match ds with
  | [] => ownL m d fun p xs => match xs[xs.length - 1]? with
    | some y => Q y (put m p (.lst xs.dropLast))
    | none => False
  | [.int i] => ownL m d fun p xs => -(2 ^ 63) ≤ i ∧ i < 2 ^ 63 ∧ match ixN xs.length i with
    | some j => match xs[j]? with
      | some y => Q y (put m p (.lst (xs.eraseIdx j)))
      | none => False
    | none => False
  | _ => False
theorem VRs.dropLast {K : PySem.W.Frag} {F : Hp} : ∀ {vs : List V} {ds : List DV}, VRs K F vs ds → VRs K F vs.dropLast ds.dropLast
  | _, _, .nil => .nil
  | _, _, .cons h .nil => .nil
  | _, _, .cons h (.cons h2 t) => .cons h (VRs.dropLast (.cons h2 t))
theorem VRs.eraseIdx {K : PySem.W.Frag} {F : Hp} : ∀ {vs : List V} {ds : List DV} (i : Nat), VRs K F vs ds → VRs K F (vs.eraseIdx i) (ds.eraseIdx i)
  | _, _, _, .nil => .nil
  | _, _, 0, .cons h t => t
  | _, _, i + 1, .cons h t => .cons h (VRs.eraseIdx i t)
theorem md_pop : MtR X "list.pop" (LM G mPop) := by
  intro pins s σ H x vs v us Q I rx rv h
  obtain ⟨F, m, d, ds, Q0, r, r1, r2, h, k⟩ := h
  unfold mPop at h
  split at h
  · cases r2
    obtain ⟨a, xs, ws, rfl, e, hu, hr, h⟩ := ownL_ok r r1 h
    cases ey : xs[xs.length - 1]? with
    | none => rw [ey] at h; exact False.elim h
    | some y =>
      rw [ey] at h
      obtain ⟨u, hu', ru⟩ := hr.get ey
      exact mt_pop pins s σ H _ _ v us Q I rx rv ⟨a, ws, u, rfl, rfl, hu, by rw [hr.length]; exact hu', k _ _ _ _ _ h (Ex.refl F) (r.write e ⟨_, rfl, hr.dropLast⟩) ru⟩
  · obtain ⟨z, rfl, rz⟩ := r2.one_inv
    cases rz
    rename_i i
    obtain ⟨a, xs, ws, rfl, e, hu, hr, h1, h2, h⟩ := ownL_ok r r1 h
    cases ej : ixN xs.length i with
    | none => rw [ej] at h; exact False.elim h
    | some j =>
      rw [ej] at h
      dsimp only at h
      cases ey : xs[j]? with
      | none => rw [ey] at h; exact False.elim h
      | some y =>
        rw [ey] at h
        obtain ⟨u, hu', ru⟩ := hr.get ey
        exact mt_popAt pins s σ H _ _ v us Q I rx rv ⟨a, ws, i, j, u, rfl, rfl, hu, h1, h2, by rw [hr.length]; exact (ixN_seq ej).1, hu', k _ _ _ _ _ h (Ex.refl F) (r.write e ⟨_, rfl, hr.eraseIdx j⟩) ru⟩
  · exact False.elim h
end
def wipeD (δ : Slots) : List Nat → Slots
  | [] => δ
  | v :: vs => (wipeD δ vs).set v none
theorem SR.wipe {K : PySem.W.Frag} {F : Hp} {σ : L2.St} {δ : Slots} (h : SR K F σ δ) : ∀ vs : List Nat, SR K F (L2.wipe σ vs) (wipeD δ vs)
  | [] => h
  | v :: vs => by
    have ih := SR.wipe h vs
    refine ⟨by simp [L2.wipe, wipeD, ih.len], fun i d q => ?_⟩
    by_cases e : v = i
    · subst e
      unfold wipeD at q
      by_cases hl : v < (wipeD δ vs).length
      · rw [List.getElem?_set_self hl] at q; cases q
      · rw [List.getElem?_eq_none (by simp; omega)] at q; cases q
    · unfold wipeD at q
      rw [List.getElem?_set_ne e] at q
      obtain ⟨w, a, b⟩ := ih.at_ i d q
      exact ⟨w, by unfold L2.wipe; rw [List.getElem?_set_ne e]; exact a, b⟩
theorem wipe_in {σ : L2.St} {i : Nat} : ∀ {vs : List Nat}, i ∈ vs → (L2.wipe σ vs)[i]? = if i < σ.length then some none else none
  | v :: vs, h => by
    unfold L2.wipe
    by_cases e : v = i
    · subst e
      by_cases hl : v < σ.length
      · rw [if_pos hl, List.getElem?_set_self (by rw [wipe_length]; exact hl)]
      · rw [if_neg hl, List.getElem?_eq_none (by rw [List.length_set, wipe_length]; omega)]
    · rw [List.getElem?_set_ne e]
      exact wipe_in ((List.mem_cons.mp h).resolve_left fun z => e z.symm)
theorem wipe_chg {σ σ' : L2.St} {gv vs : List Nat} (hg : ∀ i ∈ gv, i ∈ vs) (c : ChgIn gv (L2.wipe σ vs) σ') : L2.wipe σ' vs = L2.wipe σ vs := by
  apply List.ext_getElem?
  intro i
  by_cases hi : i ∈ vs
  · rw [wipe_in hi, wipe_in hi, c.1, wipe_length]
  · rw [wipe_out hi, c.2 i fun z => hi (hg i z)]
/-- the tests of a comprehension -/
def wYes : DT := fun _ m Q => Q true m
theorem qts_nil {X : Cx} {G : Gam} : PTs X [] (LT G wYes) := by
  refine ⟨fun pins s σ H Q I h => pts_nil.run pins s σ H Q I ?_⟩
  obtain ⟨F, m, δ, Q0, r, s', h, k⟩ := h
  exact k _ _ _ _ h (Ex.refl F) r
theorem qts_one {X : Cx} {G : Gam} {c : Expr} {w : DT} (h : PT X c (LT G w)) : PTs X [c] (LT G w) := pts_one h
def lcGo (it : DIt) (g : DG) (tt : DT) (te : DE) (δ : Slots) (D : Addr) (fin : List DV → Sto → Prop) : List DV → List DV → Sto → Prop
  | [], acc, m => it.st m ∧ m D = some (.lst acc) ∧ it.fin m (fin acc)
  | x :: r, acc, m => it.st m ∧ g x δ m fun δ2 m2 => tt δ2 m2 fun b m3 =>
    if b = true then te δ2 m3 fun y m4 => m4 D = some (.lst acc) ∧ acc.length < sizeLine ∧ lcGo it g tt te δ D fin r (acc ++ [y]) (put m4 D (.lst (acc ++ [y])))
    else lcGo it g tt te δ D fin r acc m3
def lcFin (mu : Bool) (D : Addr) (Q : DK) : List DV → Sto → Prop := fun acc m => if mu = true then Q (.ref D) m else Q (.lst acc) (rmv m D)
def wLc (mu : Bool) (wi : DI) (g : DG) (tt : DT) (te : DE) (vs : List Nat) : DE := fun δ m Q => wi δ m fun it m1 => ∀ D, m1 D = none → lcGo it g tt te (wipeD δ vs) D (lcFin mu D Q) it.items [] (put m1 D (.lst []))
theorem le_lc {X : Cx} {G : Gam} {mu : Bool} {wi : DI} {g : DG} {tt : DT} {te : DE} {gv vs : List Nat} {σ : L2.St} {H : Hp} {Q : VK} (hg : ∀ i ∈ gv, i ∈ vs) (h : LE G (wLc mu wi g tt te vs) σ H Q) : tLc (LI X G wi) (LG G gv g) (LT G tt) (LE G te) vs σ H (UnlV X Q) := by
  obtain ⟨F, m, δ, Q0, r, s, h, k⟩ := h
  refine ⟨F, m, δ, _, r, s, h, fun it m1 F1 H1 J q e1 r1 ok hn D hD => ?_⟩
  have q0 := q D (r1.freeM hD)
  have r2 : Rel G F1 (put m1 D (.lst [])) (upd H1 D (.lst [])) := r1.newM hD ⟨[], rfl, .nil⟩
  refine ⟨fun i n H' => n = it.items.length - i ∧ i ≤ it.items.length ∧ ∃ F' m' acc, Ex F1 F' ∧ Rel G F' m' H' ∧ lcGo it g tt te (wipeD δ vs) D (lcFin mu D Q0) (it.items.drop i) acc m', ⟨_, rfl, Nat.zero_le _, F1, _, [], Ex.refl F1, r2, q0⟩, ?_⟩
  rintro i n H' ⟨rfl, hle, F', m', acc, e', r', w'⟩
  cases ed : it.items.drop i with
  | nil =>
    rw [ed] at w'
    obtain ⟨w1, w2, w3⟩ := w'
    refine .inl ⟨(ok i F' m' H' e' r' w1).2 (getElem_drop_nil ed), ?_⟩
    have hpD : ∀ pk, it.lk = some pk → pk.1 ≠ D := fun pk hpk z => by
      obtain ⟨p, o, kv, kvs⟩ := pk
      have w3' := w3
      unfold DIt.fin at w3'
      rw [hpk] at w3'
      have := w3'.1
      simp only at z
      rw [z, w2] at this
      cases this
    unfold DIt.fin at w3
    have body : ∀ m2 H2, m2 D = some (.lst acc) → Rel G F' m2 H2 → lcFin mu D Q0 acc m2 → Q (.ref D) H2 := fun m2 H2 hm rr hq => by
      unfold lcFin at hq
      cases mu with
      | true => exact k _ _ _ _ _ hq (e1.trans e') rr (.ref D)
      | false =>
        obtain ⟨hF, u, hu, us, rfl, hr⟩ := rr.mo D _ hm
        exact k _ _ _ _ _ hq ((e1.trans e').trans (Ex.new hF)) (rr.freeze hm hu) (.lst (.inl upd_same) (hr.mono (Ex.new hF)))
    cases hlk : it.lk with
    | none =>
      rw [hlk] at w3
      exact .inl (body _ _ w2 r' w3)
    | some pk =>
      rw [hlk] at w3
      obtain ⟨p, o, kv, kvs⟩ := pk
      obtain ⟨e5, w3⟩ := w3
      obtain ⟨_, u, hu, rfl, hr⟩ := r'.mo p _ e5
      have hne : D ≠ p := fun z => hpD _ hlk z.symm
      exact .inr ⟨p, o, .dK kv, hu, hn _ hlk, body _ _ (by rw [put_ne hne]; exact w2) (r'.write (o := .dct kvs) e5 ⟨kv, rfl, hr⟩) w3⟩
  | cons x rest =>
    rw [ed] at w'
    obtain ⟨hx, hd⟩ := getElem_drop_cons ed
    obtain ⟨w1, w2⟩ := w'
    obtain ⟨go, yl⟩ := (ok i F' m' H' e' r' w1).1 x hx
    have hlt : i < it.items.length := by
      obtain ⟨z, _⟩ := List.getElem?_eq_some_iff.mp hx
      exact z
    refine .inr ⟨go, fun H2 => ∃ F2 m2 acc, Ex F1 F2 ∧ Rel G F2 m2 H2 ∧ lcGo it g tt te (wipeD δ vs) D (lcFin mu D Q0) rest acc m2, fun H2 q2 => ⟨_, (by omega : it.items.length - (i + 1) < it.items.length - i), rfl, hlt, by rw [hd]; exact q2⟩, fun y H2 hy => ?_⟩
    obtain ⟨F2, e2, r2', v2⟩ := yl y H2 hy
    refine ⟨F2, m', wipeD δ vs, x, _, r2', (s.mono ((e1.trans e').trans e2)).wipe vs, v2, w2, fun δ3 m3 σ3 F3 H3 h3 e3 r3 s3 c3 => ⟨wipe_chg hg c3, F3, m3, δ3, _, r3, s3, h3, fun b m4 F4 H4 h4 e4 r4 => ?_⟩⟩
    have e14 : Ex F1 F4 := ((e'.trans e2).trans e3).trans e4
    cases b with
    | false => exact ⟨F4, m4, acc, e14, r4, h4⟩
    | true =>
      refine ⟨F4, m4, δ3, _, r4, s3.mono e4, h4, fun d m5 z F5 H5 h5 e5 r5 v5 => ?_⟩
      obtain ⟨h6, h7, h8⟩ := h5
      obtain ⟨_, u, hu, us, rfl, hr⟩ := r5.mo D _ h6
      exact ⟨us, hu, by rw [hr.length]; exact h7, F5, _, _, e14.trans e5, r5.write (o := .lst (acc ++ [d])) h6 ⟨_, rfl, hr.append (VRs.one v5)⟩, h8⟩
section
variable {X : Cx} {G : Gam} {k : Nat} {elt tg iter : Expr} {ifs : List Expr} {scope : Scope} {own : List (Str × Nat)} {pos : Pos} {wi : DI} {g : DG} {tt : DT} {te tk tv : DE} {gv : List Nat}
theorem qe_lc (dx : DX X G k) (mu : Bool) (hi : PI X tg iter (LI X G wi)) (ok : BlkOk X.N X.env.scope scope own) (hgv : ∀ i ∈ gv, i ∈ own.map (·.2))
    (hg : ∀ (s : Shared) (H : Hp) (C : Addr) (cl : List (Str × Addr)) (fp : List Addr), PG (X.blk s H scope (compEnvC scope cl C X.env) fp) tg (LG G gv g)) (ht : ∀ (s : Shared) (H : Hp) (C : Addr) (cl : List (Str × Addr)) (fp : List Addr), PTs (X.blk s H scope (compEnvC scope cl C X.env) fp) ifs (LT G tt))
    (he : ∀ (s : Shared) (H : Hp) (C : Addr) (cl : List (Str × Addr)) (fp : List Addr), PE (X.blk s H scope (compEnvC scope cl C X.env) fp) elt (LE G te)) (hs : ∀ x, foldedSetIterable iter X.env x = pure x := by intro _; rfl) :
    PE X (.ListComp elt [⟨tg, iter, ifs, 0⟩] scope pos) (LE G (wLc mu wi g tt te (own.map (·.2)))) :=
  PE.imp (PE.unl (pe_lc dx.calm dx.nd hi ok hg ht he hs)) fun _ _ _ h => le_lc hgv h
/-- x = [..] on one line -/
theorem qs_lc {i : Nat} {y : Str} {py spos : Pos} (dx : DX X G k) (mu : Bool) (hy : X.N[i]? = some y) (hyl : X.env.scope.names.lookup y = some .local) (hsw : swapsWith (.ListComp elt [⟨tg, iter, ifs, 0⟩] scope pos) (some (.Name y py)) spos.line X.env = pure true)
    (hi : PI X tg iter (LI X G wi)) (ok : BlkOk X.N X.env.scope scope own) (hgv : ∀ i ∈ gv, i ∈ own.map (·.2))
    (hg : ∀ (s : Shared) (H : Hp) (C : Addr) (cl : List (Str × Addr)) (fp : List Addr), PG (X.blk s H scope (compEnvC scope cl C X.env) fp) tg (LG G gv g)) (ht : ∀ (s : Shared) (H : Hp) (C : Addr) (cl : List (Str × Addr)) (fp : List Addr), PTs (X.blk s H scope (compEnvC scope cl C X.env) fp) ifs (LT G tt))
    (he : ∀ (s : Shared) (H : Hp) (C : Addr) (cl : List (Str × Addr)) (fp : List Addr), PE (X.blk s H scope (compEnvC scope cl C X.env) fp) elt (LE G te)) (hs : ∀ x, foldedSetIterable iter X.env x = pure x := by intro _; rfl) :
    PS X (.Assign [.Name y py] (.ListComp elt [⟨tg, iter, ifs, 0⟩] scope pos) spos) (LS G (wAsg (wLc mu wi g tt te (own.map (·.2))) (gN i))) :=
  PS.imp (PS.unl (ps_setLc dx.calm dx.nd hy hyl hsw hi ok hg ht he hs)) fun D σ H h => by
    obtain ⟨F, m, δ, D0, r, s, h, k⟩ := h
    have h' : LE G (wLc mu wi g tt te (own.map (·.2))) σ H fun v H' => D.nx (σ.set i (some v)) H' := ⟨F, m, δ, _, r, s, h, fun d m1 v F1 H1 h1 e1 r1 v1 => k.nx _ _ _ _ _ h1 e1 r1 ((s.mono e1).set i v1)⟩
    have h2 := le_lc (X := X) hgv h'
    exact h2
/-- a dict by a comprehension -/
def dcGo (it : DIt) (g : DG) (tt : DT) (tk tv : DE) (δ : Slots) (D : Addr) (fin : Sto → Prop) : List DV → List (Key × DV) → Sto → Prop
  | [], acc, m => it.st m ∧ m D = some (.dct acc) ∧ it.fin m fin
  | x :: r, acc, m => it.st m ∧ g x δ m fun δ2 m2 => tt δ2 m2 fun b m3 =>
    if b = true then tk δ2 m3 fun y m4 => tv δ2 m4 fun z m5 => match dK? y with
      | some key => m5 D = some (.dct acc) ∧ acc.length < sizeLine ∧ dcGo it g tt tk tv δ D fin r (putD acc key z) (put m5 D (.dct (putD acc key z)))
      | none => False
    else dcGo it g tt tk tv δ D fin r acc m3
end
end DL
namespace DL
open PySem PySem.Spec PyProof.Rows L2
theorem law_callG {P : Program} {w : World} {K : PySem.W.Frag} {mg mb : Str → Option Value} {CX : CXT} {k : Nat} {fa a : Addr} {fd : FuncData} {x : Str} {sp : Sp} {s₁ : Shared} {vs : List Value} {ns : List Int}
    (KX : K.In s₁.heap) (hns : s₁.heap.Ns mainGlobals mg) (hb : s₁.heap.Ns builtinsNs mb) (hbb : ∀ x : Str, x ≠ "__name__" → mb x = bootBuiltins x) (hlim : s₁.heap.NoLimit) (hg : s₁.gens = #[])
    (ha : s₁.heap.get? a = some { cls := .type "list", data := .seq vs.toArray }) (hi : IntsAre vs ns) (hl : ns.length ≤ sizeLine) (hr : Room k callerA)
    (F : ∀ base : Heap, K.In base → base.Ns mainGlobals mg → FnG P w K mg base CX k fa fd [x] sp) (hbind : ∀ (s : Shared) (u : Value), BindsTo s fd ⟨[u], []⟩ [(x, u)])
    (hsp : ∀ H : Hp, Only H → SqL K H a (ns.map V.int) → sp [.ref a] H (fun v _ => v = .bl true) fun _ _ _ => False)
    (hCX : ∀ H e s', CX [] H s₁ (fun _ _ _ => False) e s' → False) :
    codeAny (model P w) callerA (.call (.ref fa) ⟨[.ref a], []⟩) (fun r s' => r = .ok (.ret (.bool true)) ∧ OldK s₁.heap s'.heap ∧ s'.os = s₁.os ∧ AllBare s'.gens) s₁ := by
  have rv := vals_ints hi
  have lenV := hi.length
  -- from an abstract heap in which nothing but the script may be tracked
  have core : ∀ H : Hp, Only H → SqL K H a (ns.map V.int) → HOk P w H s₁.heap → (∀ b, H b ≠ none → b = a) → (H a ≠ none → K.lookup a = none) →
      codeAny (model P w) callerA (.call (.ref fa) ⟨[.ref a], []⟩) (fun r s' => r = .ok (.ret (.bool true)) ∧ OldK s₁.heap s'.heap ∧ s'.os = s₁.os ∧ AllBare s'.gens) s₁ := by
    intro H hO hS hok hA hK
    have base_of : ∀ {b : Addr} {o : Obj}, s₁.heap.get? b = some o → H b = none → (hidT s₁.heap H).get? b = some o := fun e n => hidT_get e n
    have noA : ∀ {b : Addr} {o : Obj} {es : Array DictEntry} {ep : Nat}, s₁.heap.get? b = some o → o.data = .dict es ep → H b = none := fun {b o es ep} e d => by
      cases q : H b with
      | none => rfl
      | some u =>
        have e' : b = a := hA b (by rw [q]; simp)
        subst e'
        rw [ha] at e; cases e
        have d' : Data.seq vs.toArray _ = Data.dict es ep := d
        cases d'
    have nsK : ∀ {b : Addr} {m : Str → Option Value}, s₁.heap.Ns b m → (hidT s₁.heap H).Ns b m := fun {b m} ⟨o, es, ep, e, d, r⟩ => ⟨o, es, ep, base_of e (noA e d), d, r⟩
    have hKb : K.In (hidT s₁.heap H) := fun b o e => base_of (KX b o e) (by
      cases q : H b with
      | none => rfl
      | some u =>
        have e' : b = a := hA b (by rw [q]; simp)
        subst e'
        rw [hK (by rw [q]; simp)] at e; cases e)
    have hM : Mod K mg (hidT s₁.heap H) := ⟨hKb, nsK hns, ⟨mb, nsK hb, hbb⟩, let ⟨mc, h1, h2⟩ := hlim; ⟨mc, nsK h1, h2⟩⟩
    have e0 : Env0 P w K mg (hidT s₁.heap H) callerA [] s₁ H := ⟨rfl, hM, fun b o e => of_hidT e, Nat.le_of_eq (hidT_size _ _), trivial, fun b hb => absurd (show b ∈ ([] : List Addr) from hb) (by simp), hok, .of_eq hg⟩
    refine codeAny_mono ((F _ hKb (nsK hns)).run callerA [] s₁ H ⟨[.ref a], []⟩ [.ref a] [.ref a] _ _ hr rfl e0 (hbind s₁ (.ref a)) (.cons rfl .nil) (hsp H hO hS)) fun r s' h => ?_
    cases r with
    | error e => exact (hCX H e s' h).elim
    | ok fl =>
      cases fl with
      | next => exact False.elim h
      | brk => exact False.elim h
      | cont => exact False.elim h
      | ret u =>
        obtain ⟨v, H', os, bare, un, hok', r', q⟩ := h
        have q' : v = .bl true := q
        subst q'
        obtain rfl : u = Value.bool true := r'
        refine ⟨rfl, OldK.of_keep fun b o e => ?_, os, bare⟩
        cases q : H b with
        | none => exact un.keep b o e q (by intro z; exact absurd (show b ∈ ([] : List Addr) from z) (by simp)) (by simp)
        | some u =>
          rcases hO b with z | ⟨ob, xs, z⟩
          · rw [q] at z; cases z
          · have z2 := un.frzs b ob _ z
            obtain ⟨e1, _⟩ := hok b _ z
            obtain ⟨e2, _⟩ := hok' b _ z2
            rw [e] at e1; cases e1
            exact e2
  cases hk : K.lookup a with
  | some o =>
    -- the script is one of the module's own objects
    have e := KX a o hk
    rw [ha] at e
    cases e
    refine core (fun _ => none) (fun _ => .inl rfl) (.inr ⟨_, vs.toArray, _, hk, rfl, rfl, rfl, by rw [List.size_toArray, lenV]; exact hl, by simpa using rv⟩) (fun b u z => by have z' : (none : Option HO) = some u := z; cases z') (fun b z => absurd rfl z) fun z => absurd rfl z
  | none =>
    refine core (fun b => if b = a then some (.frz { cls := .type "list", data := .seq vs.toArray } (.lst (ns.map V.int))) else none) (fun b => ?_) (.inl (.inr ⟨{ cls := .type "list", data := .seq vs.toArray }, if_pos rfl⟩)) (fun b u z => ?_) (fun b z => ?_) fun _ => hk
    · by_cases hb : b = a
      · exact .inr ⟨_, _, if_pos hb⟩
      · exact .inl (if_neg hb)
    · by_cases hb : b = a
      · have z' := (if_pos hb).symm.trans z
        cases z'
        subst hb
        exact ⟨ha, by rw [List.length_map]; exact hl, vs, _, rv, ha⟩
      · have z' := (if_neg hb).symm.trans z
        cases z'
    · by_cases hb : b = a
      · exact hb
      · exact absurd (if_neg hb) z
theorem walk_ofG {l : PySem.W.OpenLaw} {n k : Nat} {q : Program} {loose : List Str} {XP : (Str → Option Value) → Heap → Prop} {YP : World → Heap → Prop} {d : DefRec} {CX : CXT} {x : Str}
    (hn : l.most = some n) (hn2 : n ≤ sizeLine) (hdf : d.params.defaults = []) (hr : Room k callerA)
    (F : ∀ (w : World) (mg : Str → Option Value) (fa : Addr) (h : Heap), YP w h → h.Ns mainGlobals mg → mg d.name = some (.ref fa) →
      ∃ (K : PySem.W.Frag) (fd : FuncData) (sp : Sp), K.In h ∧ (∀ (s : Shared) (u : Value), BindsTo s fd ⟨[u], []⟩ [(x, u)]) ∧
        (∀ (H : Hp) (a : Addr) (ns : List Int), ns.length ≤ n → (∀ z ∈ ns, Builtin.Int.intBits z ≤ 1048576) → Only H → SqL K H a (ns.map V.int) → sp [.ref a] H (fun v _ => v = .bl true) fun _ _ _ => False) ∧
        ∀ base : Heap, K.In base → base.Ns mainGlobals mg → FnG l.prog w K mg base CX k fa fd [x] sp)
    (hCX : ∀ (H : Hp) (s : Shared) (e : Value) (s' : Shared), CX [] H s (fun _ _ _ => False) e s' → False) :
    PySem.W.WalkO q loose XP YP l.row.toRowW d [] (fun f vs => PySem.call f vs) := by
  refine Att.attach_callB hn hdf fun w s₀ s₁ mg mb fa o pm cd doc a vs ns G Y ho hd hcd hmg hobj hints hlen hbits hg => ?_
  obtain ⟨K, fd, sp, KX, hb, hsp, hF⟩ := F w mg fa _ Y G.T.g hmg
  exact law_callG KX G.T.g G.T.b G.T.builtins G.T.nolimit hg hobj hints (Nat.le_trans hlen hn2) hr hF hb (fun H hO hS => hsp H a ns hlen hbits hO hS) fun H e s' => hCX H s₁ e s'
section
variable {P : Program} {w : World} {K : PySem.W.Frag} {mg : Str → Option Value} {base : Heap} {G : Gam} {x qual : Str} {params : Arguments} {body : List Stmt} {scope : Scope} {dvs : List V} {kws : List (Str × V)} {f : Addr} {fd : FuncData} {N ps : List Str} {k : Nat}
theorem dx_cx (hK : K = G.K) {A : Around} {outer : List Env} {s : Shared} {H : Hp} {E : XK} {cdv : Value} (hnd : N.Nodup) (hr : Room k (A.deeper (envOfC qual scope s.heap.objs.size f cdv))) (hg : A.guards = some []) : DX (cxOf CX0 P w K mg base N qual scope f cdv A outer s H E).nox G k where
  K := hK
  room := hr
  gd := hg
  calm := rfl
  pas := PassesOwn.never
  nd := hnd
theorem DX.blk {X : Cx} {k : Nat} (d : DX X G k) (s : Shared) (H : Hp) (sc : Scope) (ce : Env) (fp : List Addr) : DX (X.blk s H sc ce fp) G k where
  K := d.K
  room := d.room
  gd := d.gd
  calm := d.calm
  pas := PassesOwn.never
  nd := d.nd
theorem okD {W : DS} (F : FunD K x qual params body scope dvs kws f fd) (S : FnScope N ps scope)
    (hbody : ∀ (cdv : Value) (A : Around) (outer : List Env) (s : Shared) (H : Hp) (E : XK), Room k (A.deeper (envOfC qual scope s.heap.objs.size f cdv)) → A.guards = some [] →
      PSs (cxOf CX0 P w K mg base N qual scope f cdv A outer s H E).nox body (LS G W)) : FnG P w K mg base CX0 (k + 1) f fd ps (spL G (arD ps.length (runD N.length W))) := by
  obtain ⟨oc, od, dV, kV, doc, pm, an, cdv, ct, osl, rfl, lk, hcd, _, _⟩ := F.ex
  exact fn_ofG lk hcd S (fun vs H Q E h => spL_len h) fun A outer s H vs Q E hr hG hsp => ⟨_, (hbody cdv A outer s H E hr hG).nox, runD_ok hsp⟩
/-- a def as its callers know it -/
structure FD (P : Program) (w : World) (K : PySem.W.Frag) (mg : Str → Option Value) (base : Heap) (G : Gam) (k : Nat) (f : Addr) (fd : FuncData) (ps : List Str) (S : DSp) : Prop where
  ok : FnG P w K mg base CX0 k f fd ps (spL G S)
  kp : PySem.W.keepIn K (.ref f) = true
  bd : Binds K fd ps []
theorem FD.mk' {W : DS} (F : FunD K x qual params body scope [] [] f fd) (S : FnScope N ps scope)
    (hb : ∀ (kV doc pm : Value) (an : Option Addr) (cdv ct : Value) (us : List Value), us.length = ps.length → bindArgs (PySem.W.fnOf x qual params body scope .none kV doc pm an cdv ct) ⟨us, []⟩ = pure (ps.zip us))
    (hbody : ∀ (cdv : Value) (A : Around) (outer : List Env) (s : Shared) (H : Hp) (E : XK), Room k (A.deeper (envOfC qual scope s.heap.objs.size f cdv)) → A.guards = some [] →
      PSs (cxOf CX0 P w K mg base N qual scope f cdv A outer s H E).nox body (LS G W)) : FD P w K mg base G (k + 1) f fd ps (arD ps.length (runD N.length W)) :=
  ⟨okD F S hbody, F.kp, F.bindsN hb⟩
theorem FD.zero (F : FunD K x qual params body scope [] [] f fd)
    (hb : ∀ (kV doc pm : Value) (an : Option Addr) (cdv ct : Value) (us : List Value), us.length = ps.length → bindArgs (PySem.W.fnOf x qual params body scope .none kV doc pm an cdv ct) ⟨us, []⟩ = pure (ps.zip us)) : FD P w K mg base G k f fd ps (fun _ _ _ => False) :=
  ⟨⟨fun vs H Q E h => by obtain ⟨_, _, _, _, _, _, h, _⟩ := h; exact False.elim h, fun A outer s H args us vs Q E _ _ _ _ _ h => by obtain ⟨_, _, _, _, _, _, h, _⟩ := h; exact False.elim h⟩, F.kp, F.bindsN hb⟩
end
section
variable {X : Cx} {G : Gam} {j k : Nat} {f C : Addr} {c : Nat} {fd : FuncData} {ps ks : List Str} {S : DSp} {x m : Str} {p pos apos : Pos} {e o : Expr} {es : List Expr} {w : DE} {wa : DA}
theorem qf_call (F : FD X.prog X.w X.K X.mg X.base G k f fd ps S) (dx : DX X G j) (hj : k ≤ j) (hg : Gl X x) (hm : X.mg x = some (.ref f)) (ha : PA X (e :: es) (LA G wa)) (hdb : (x == ("__debug__" : Str)) = false := by decide)
    (he : starEach (e :: es) X.env = (false, eval e X.env) :: starEach es X.env := by rfl) (hpl : (backTo pos (starEach es X.env)).any (·.1) = false := by rfl) : PE X (.Call (.Name x p) (e :: es) [] pos) (LE G (wCall S [] wa)) :=
  qe_call F.ok dx hj hg hm F.kp F.bd .nil (fun _ => .nil) ha hdb he hpl
theorem qf_call0 (F : FD X.prog X.w X.K X.mg X.base G k f fd ps S) (dx : DX X G j) (hj : k ≤ j) (hg : Gl X x) (hm : X.mg x = some (.ref f)) (hdb : (x == ("__debug__" : Str)) = false := by decide) : PE X (.Call (.Name x p) [] [] pos) (LE G (wCall S [] wNil)) :=
  qe_call0 F.ok dx hj hg hm F.kp F.bd .nil (fun _ => .nil) hdb
theorem qf_meth {pl : Sem Bool} (F : FD X.prog X.w X.K X.mg X.base G k f fd ps S) (dx : DX X G j) (hj : k ≤ j) (he : PE X o (LE G w)) (cl : Cls X.K C) (hC : G.cls c = C) (hn : ∀ i, G.fld i ≠ m) (hm : Meth X.K C m f)
    (ha : PA X (e :: es) (LA G wa)) (hst : starEach (e :: es) X.env = (false, eval e X.env) :: starEach es X.env := by rfl) (hpl : (backTo pos (starEach es X.env)).any (·.1) = false := by rfl)
    (ht : eval (.Call (.Attribute o m apos) (e :: es) [] pos) X.env = (do
      let ov ← eval o X.env
      standAt apos.atName
      let (f, first) ← holding [ov] (getMethod ov m pl)
      callWith pos f first (backTo pos (starEach (e :: es) X.env)) (backToKw pos (keywordEach [] X.env))) := by rfl) : PE X (.Call (.Attribute o m apos) (e :: es) [] pos) (LE G (wMeth c S [] w wa)) :=
  qe_meth (pl := pl) he cl hC hn hm F.ok dx hj F.bd .nil (fun _ => .nil) ha hst hpl ht
theorem qf_meth0 {pl : Sem Bool} (F : FD X.prog X.w X.K X.mg X.base G k f fd ps S) (dx : DX X G j) (hj : k ≤ j) (he : PE X o (LE G w)) (cl : Cls X.K C) (hC : G.cls c = C) (hn : ∀ i, G.fld i ≠ m) (hm : Meth X.K C m f)
    (ht : eval (.Call (.Attribute o m apos) [] [] pos) X.env = (do
      let ov ← eval o X.env
      standAt apos.atName
      let (f, first) ← holding [ov] (getMethod ov m pl)
      callWith pos f first (backTo pos (starEach [] X.env)) (backToKw pos (keywordEach [] X.env))) := by rfl) : PE X (.Call (.Attribute o m apos) [] [] pos) (LE G (wMeth c S [] w wNil)) :=
  qe_meth0 (pl := pl) he cl hC hn hm F.ok dx hj F.bd .nil (fun _ => .nil) ht
theorem qf_make (F : FD X.prog X.w X.K X.mg X.base G k f fd ps S) (M : Mk X.K C f) (dx : DX X G j) (hj : k + 1 ≤ j) (hC : G.cls c = C) (hg : Gl X x) (hm : X.mg x = some (.ref C)) (ha : PA X (e :: es) (LA G wa)) (hdb : (x == ("__debug__" : Str)) = false := by decide)
    (he : starEach (e :: es) X.env = (false, eval e X.env) :: starEach es X.env := by rfl) (hpl : (backTo pos (starEach es X.env)).any (·.1) = false := by rfl) : PE X (.Call (.Name x p) (e :: es) [] pos) (LE G (wMake c S [] wa)) :=
  qe_make M hC F.ok dx hj hg hm F.bd .nil (fun _ => .nil) ha hdb he hpl
theorem qf_make0 (F : FD X.prog X.w X.K X.mg X.base G k f fd ps S) (M : Mk X.K C f) (dx : DX X G j) (hj : k + 1 ≤ j) (hC : G.cls c = C) (hg : Gl X x) (hm : X.mg x = some (.ref C)) (hdb : (x == ("__debug__" : Str)) = false := by decide) : PE X (.Call (.Name x p) [] [] pos) (LE G (wMake c S [] wNil)) :=
  qe_make0 M hC F.ok dx hj hg hm F.bd .nil (fun _ => .nil) hdb
end
def fldOf (names : List Str) (i : Nat) : Str := match names[i]? with
  | some x => x
  | none => ⟨#[0, i]⟩
def okNames (names : List Str) : Bool := decide names.Nodup && names.all fun x => x.cps[0]? != some 0
theorem fldOf_inj {names : List Str} (h : okNames names = true) : ∀ i j, fldOf names i = fldOf names j → i = j := by
  unfold okNames at h
  rw [Bool.and_eq_true] at h
  obtain ⟨h1, h2⟩ := h
  have h1 := of_decide_eq_true h1
  have h2 : ∀ x ∈ names, x.cps[0]? ≠ some 0 := fun x hx => by
    have := List.all_eq_true.mp h2 x hx
    simpa using this
  intro i j e
  unfold fldOf at e
  cases ei : names[i]? with
  | none =>
    cases ej : names[j]? with
    | none =>
      rw [ei, ej] at e
      injection e with e
      simpa using e
    | some y =>
      rw [ei, ej] at e
      have hy := List.mem_of_getElem? ej
      have e : (⟨#[0, i]⟩ : Str) = y := e
      exact absurd (by rw [← e]; rfl) (h2 y hy)
  | some x =>
    cases ej : names[j]? with
    | none =>
      rw [ei, ej] at e
      have hx := List.mem_of_getElem? ei
      have e : x = (⟨#[0, j]⟩ : Str) := e
      exact absurd (by rw [e]; rfl) (h2 x hx)
    | some y =>
      rw [ei, ej] at e
      have e : x = y := e
      subst e
      have li := (List.getElem?_eq_some_iff.mp ei)
      obtain ⟨hi, ei⟩ := li
      obtain ⟨hj, ej⟩ := List.getElem?_eq_some_iff.mp ej
      have key := List.pairwise_iff_getElem.mp h1
      rcases Nat.lt_trichotomy i j with h | h | h
      · exact absurd (ei.trans ej.symm) (key i j hi hj h)
      · exact h
      · exact absurd (ej.trans ei.symm) (key j i hj hi h)
theorem fldOf_ne {names : List Str} {m : Str} (h : (!names.contains m && m.cps[0]? != some 0) = true) : ∀ i, fldOf names i ≠ m := by
  rw [Bool.and_eq_true] at h
  obtain ⟨h1, h2⟩ := h
  intro i e
  unfold fldOf at e
  cases ei : names[i]? with
  | none =>
    rw [ei] at e
    dsimp only at e
    subst e
    simp at h2
  | some x =>
    rw [ei] at e
    have e : x = m := e
    subst e
    have := List.mem_of_getElem? ei
    simp at h1
    exact h1 this
end DL
namespace DL
open PySem PySem.Spec PyProof.Rows L2
def blkB (N : List Str) (sc scope : Scope) (own : List (Str × Nat)) : Bool :=
  decide (scope.kind = .function) && (scope.names.all (fun y => decide (scope.names.lookup y.1 = some y.2)) && (own.all (fun p => decide (N[p.2]? = some p.1)) &&
    (scope.names.all (fun y => decide (y.2 ≠ .free) || (decide (sc.names.lookup y.1 = some .cell) || decide (sc.names.lookup y.1 = some .free))) &&
      scope.names.all (fun y => !(decide (y.2 = .local) || decide (y.2 = .cell)) || (decide (y.1 ∈ own.map (·.1)) || decide (y.1 ∉ N))))))
theorem blk_of {N : List Str} {sc scope : Scope} {own : List (Str × Nat)} (h : blkB N sc scope own = true) : BlkOk N sc scope own := by
  unfold blkB at h
  simp only [Bool.and_eq_true] at h
  obtain ⟨h1, h2, h3, h4, h5⟩ := h
  refine ⟨of_decide_eq_true h1, fun y hy => of_decide_eq_true (List.all_eq_true.mp h2 y hy), fun p hp => of_decide_eq_true (List.all_eq_true.mp h3 p hp), fun y hy e => ?_, fun y hy e => ?_⟩
  · have := List.all_eq_true.mp h4 y hy
    simp only [Bool.or_eq_true, decide_eq_true_eq] at this
    rcases this with z | z
    · exact absurd e z
    · exact z
  · have := List.all_eq_true.mp h5 y hy
    simp only [Bool.or_eq_true, Bool.not_eq_true', decide_eq_true_eq] at this
    rcases this with z | z
    · rcases e with e | e <;> simp [e] at z
    · exact z
/-- the values of a call put in the parameters' order -/
def pick (idx : List Nat) {α : Type} (us ws : List α) : List α := idx.filterMap fun i => (us ++ ws)[i]?
theorem pick_vals {idx : List Nat} {vs zs : List V} {us ws : List Value} (h : Vals vs us) (g : Vals zs ws) : Vals (pick idx vs zs) (pick idx us ws) := by
  have r := h.append g
  unfold pick
  induction idx with
  | nil => exact .nil
  | cons i is ih =>
    rw [List.filterMap_cons, List.filterMap_cons]
    cases e : (vs ++ zs)[i]? with
    | none => rw [Vals.none_of r e]; exact ih
    | some x =>
      obtain ⟨u, hu, ru⟩ := r.get e
      rw [hu]; exact .cons ru ih
theorem pick_vrs {idx : List Nat} (K : PySem.W.Frag) (F : Hp) {vs zs : List V} {ds es : List DV} (h : VRs K F vs ds) (g : VRs K F zs es) : VRs K F (pick idx vs zs) (pick idx ds es) := by
  have r := h.append g
  unfold pick
  induction idx with
  | nil => exact .nil
  | cons i is ih =>
    rw [List.filterMap_cons, List.filterMap_cons]
    cases e : (ds ++ es)[i]? with
    | none =>
      have : (vs ++ zs)[i]? = none := List.getElem?_eq_none (by rw [r.length]; exact List.getElem?_eq_none_iff.mp e)
      rw [this]; exact ih
    | some x =>
      obtain ⟨u, hu, ru⟩ := r.get e
      rw [hu]; exact .cons ru ih
section
variable {X : Cx} {G : Gam} {k j : Nat} {e e2 : Expr} {es : List Expr} {kws : List Keyword} {x : Str} {p pos p2 pos2 : Pos} {w w2 : DE} {wl wk : DA}
def wDict0 : DE := fun _ m Q => ∀ p, m p = none → Q (.ref p) (put m p (.dct []))
theorem qe_dict0 : PE X (.Dict [] [] pos) (LE G wDict0) :=
  PE.imp pe_dnewK fun σ H Q h => by
    obtain ⟨F, m, δ, Q0, r, s, h, k⟩ := h
    exact fun p hp => k _ _ _ _ _ (h p (r.freeM hp)) (Ex.refl F) (r.newM hp ⟨[], rfl, .nil⟩) (.ref p)
def wDc (wi : DI) (g : DG) (tt : DT) (tk tv : DE) (vs : List Nat) : DE := fun δ m Q => wi δ m fun it m1 => ∀ D, m1 D = none → dcGo it g tt tk tv (wipeD δ vs) D (fun m' => Q (.ref D) m') it.items [] (put m1 D (.dct []))
variable {elt tg iter kx vx : Expr} {ifs : List Expr} {scope : Scope} {own : List (Str × Nat)} {wi : DI} {g : DG} {tt : DT} {tk tv : DE} {gv : List Nat}
theorem putD_keys {κ : Type} [DecidableEq κ] (kvs : List (κ × DV)) (key : κ) (d : DV) : (putD kvs key d).map (·.1) = if key ∈ kvs.map (·.1) then kvs.map (·.1) else kvs.map (·.1) ++ [key] := by
  induction kvs with
  | nil => simp [putD]
  | cons q r ih =>
    obtain ⟨i, e⟩ := q
    by_cases z : i = key
    · subst z; simp [putD]
    · simp only [putD, if_neg z, List.map_cons, ih, List.mem_cons]
      have z' : ¬ key = i := fun w => z w.symm
      by_cases y : key ∈ r.map (·.1)
      · rw [if_pos y, if_pos (.inr y)]
      · rw [if_neg y, if_neg (by rintro (w | w); exact z' w; exact y w)]
        rfl
theorem putD_nodup {κ : Type} [DecidableEq κ] {kvs : List (κ × DV)} {key : κ} {d : DV} (h : (kvs.map (·.1)).Nodup) : ((putD kvs key d).map (·.1)).Nodup := by
  rw [putD_keys]
  split
  · exact h
  · rename_i hn
    rw [List.nodup_append]
    refine ⟨h, List.nodup_cons.mpr ⟨List.not_mem_nil, .nil⟩, fun a ha b hb => ?_⟩
    rw [List.mem_singleton] at hb
    subst hb
    exact fun z => hn (z ▸ ha)
theorem le_dc {vs : List Nat} {σ : L2.St} {H : Hp} {Q : VK} (hg : ∀ i ∈ gv, i ∈ vs) (h : LE G (wDc wi g tt tk tv vs) σ H Q) : tDc (LI X G wi) (LG G gv g) (LT G tt) (LE G tk) (LE G tv) vs σ H (UnlV X Q) := by
  obtain ⟨F, m, δ, Q0, r, s, h, k⟩ := h
  refine ⟨F, m, δ, _, r, s, h, fun it m1 F1 H1 J q e1 r1 ok hn D hD => ?_⟩
  have q0 := q D (r1.freeM hD)
  have r2 : Rel G F1 (put m1 D (.dct [])) (upd H1 D (.dK [])) := r1.newM hD ⟨[], rfl, .nil⟩
  refine ⟨fun i n H' => n = it.items.length - i ∧ i ≤ it.items.length ∧ ∃ F' m' acc, Ex F1 F' ∧ Rel G F' m' H' ∧ (acc.map (·.1)).Nodup ∧ dcGo it g tt tk tv (wipeD δ vs) D (fun m' => Q0 (.ref D) m') (it.items.drop i) acc m', ⟨_, rfl, Nat.zero_le _, F1, _, [], Ex.refl F1, r2, .nil, q0⟩, ?_⟩
  rintro i n H' ⟨rfl, hle, F', m', acc, e', r', hkv, w'⟩
  cases ed : it.items.drop i with
  | nil =>
    rw [ed] at w'
    obtain ⟨w1, w2, w3⟩ := w'
    refine .inl ⟨(ok i F' m' H' e' r' w1).2 (getElem_drop_nil ed), ?_⟩
    exact fin_ok (N := fun H => Q (.ref D) H) r' hn w3 fun m2 H2 h2 rr => k _ _ _ _ _ h2 (e1.trans e') rr (.ref D)
  | cons x rest =>
    rw [ed] at w'
    obtain ⟨hx, hd⟩ := getElem_drop_cons ed
    obtain ⟨w1, w2⟩ := w'
    obtain ⟨go, yl⟩ := (ok i F' m' H' e' r' w1).1 x hx
    have hlt : i < it.items.length := by
      obtain ⟨z, _⟩ := List.getElem?_eq_some_iff.mp hx
      exact z
    refine .inr ⟨go, fun H2 => ∃ F2 m2 acc, Ex F1 F2 ∧ Rel G F2 m2 H2 ∧ (acc.map (·.1)).Nodup ∧ dcGo it g tt tk tv (wipeD δ vs) D (fun m' => Q0 (.ref D) m') rest acc m2, fun H2 q2 => ⟨_, (by omega : it.items.length - (i + 1) < it.items.length - i), rfl, hlt, by rw [hd]; exact q2⟩, fun y H2 hy => ?_⟩
    obtain ⟨F2, e2, r2', v2⟩ := yl y H2 hy
    refine ⟨F2, m', wipeD δ vs, x, _, r2', (s.mono ((e1.trans e').trans e2)).wipe vs, v2, w2, fun δ3 m3 σ3 F3 H3 h3 e3 r3 s3 c3 => ⟨wipe_chg hg c3, F3, m3, δ3, _, r3, s3, h3, fun b m4 F4 H4 h4 e4 r4 => ?_⟩⟩
    have e14 : Ex F1 F4 := ((e'.trans e2).trans e3).trans e4
    cases b with
    | false => exact ⟨F4, m4, acc, e14, r4, hkv, h4⟩
    | true =>
      refine ⟨F4, m4, δ3, _, r4, s3.mono e4, h4, fun dk m5 zk F5 H5 h5 e5 r5 v5 => ⟨F5, m5, δ3, _, r5, (s3.mono e4).mono e5, h5, fun d m6 z F6 H6 h6 e6 r6 v6 => ?_⟩⟩
      cases ek : dK? dk with
      | none => rw [ek] at h6; exact False.elim h6
      | some key =>
        rw [ek] at h6
        obtain ⟨h7, h8, h9⟩ := h6
        obtain ⟨_, u, hu, kv, rfl, hr⟩ := r6.mo D _ h7
        have hnd : (kv.map (·.1)).Nodup := by rw [KR.keys hr]; exact hkv
        exact ⟨kv, key, vr_key v5 ek, hu, by rw [KR.length hr]; exact h8, F6, _, _, (e14.trans e5).trans e6, r6.write (o := .dct (putD acc key d)) h7 ⟨_, rfl, KR.put hr hnd key v6⟩, putD_nodup hkv, h9⟩
theorem qe_dc (dx : DX X G k) (hi : PI X tg iter (LI X G wi)) (ok : BlkOk X.N X.env.scope scope own) (hgv : ∀ i ∈ gv, i ∈ own.map (·.2))
    (hg : ∀ (s : Shared) (H : Hp) (C : Addr) (cl : List (Str × Addr)) (fp : List Addr), PG (X.blk s H scope (compEnvC scope cl C X.env) fp) tg (LG G gv g)) (ht : ∀ (s : Shared) (H : Hp) (C : Addr) (cl : List (Str × Addr)) (fp : List Addr), PTs (X.blk s H scope (compEnvC scope cl C X.env) fp) ifs (LT G tt))
    (hk : ∀ (s : Shared) (H : Hp) (C : Addr) (cl : List (Str × Addr)) (fp : List Addr), PE (X.blk s H scope (compEnvC scope cl C X.env) fp) kx (LE G tk)) (he : ∀ (s : Shared) (H : Hp) (C : Addr) (cl : List (Str × Addr)) (fp : List Addr), PE (X.blk s H scope (compEnvC scope cl C X.env) fp) vx (LE G tv))
    (hs : ∀ x, foldedSetIterable iter X.env x = pure x := by intro _; rfl) : PE X (.DictComp kx vx [⟨tg, iter, ifs, 0⟩] scope pos) (LE G (wDc wi g tt tk tv (own.map (·.2)))) :=
  PE.imp (PE.unl (pe_dc dx.calm dx.nd hi ok hg ht hk he hs)) fun _ _ _ h => le_dc hgv h
def rgl (mu : Bool) (i j : Int) (m : Sto) (Q : DK) : Prop := RgOk i j ∧ newL mu (rgD i (j - i).toNat) m Q
theorem vrs_rg {K : PySem.W.Frag} {F : Hp} (i j : Int) : VRs K F (rgV i j) (rgD i (j - i).toNat) := by
  unfold rgV rgD
  generalize List.range (j - i).toNat = l
  induction l with
  | nil => exact .nil
  | cons a r ih => exact .cons (.int _) ih
def wLRg1 (mu : Bool) (t : DA) : DE := fun δ m Q => t δ m fun ds m1 => match ds with
  | [.int j] => rgl mu 0 j m1 Q
  | _ => False
def wLRg2 (mu : Bool) (t : DA) : DE := fun δ m Q => t δ m fun ds m1 => match ds with
  | [.int i, .int j] => rgl mu i j m1 Q
  | _ => False
theorem qe_lrg1 (hc : X.calm = true) (mu : Bool) (hg : Gl X "list") (hm : X.mg "list" = none) (hg2 : Gl X "range") (hm2 : X.mg "range" = none) (he : PE X e (LE G w)) (na : starEach [e] X.env = (false, eval e X.env) :: starEach [] X.env := by rfl)
    (na2 : starEach [.Call (.Name "range" p2) [e] [] pos2] X.env = (false, eval (.Call (.Name "range" p2) [e] [] pos2) X.env) :: starEach [] X.env := by rfl) : PE X (.Call (.Name "list" p) [.Call (.Name "range" p2) [e] [] pos2] [] pos) (LE G (wLRg1 mu (wCons w wNil))) :=
  PE.imp (pe_listRg hc hg hm (prg_1 hg2 hm2 he na) na2) fun σ H Q h => by
    obtain ⟨F, m, δ, Q0, r, s, h, k⟩ := h
    refine ⟨F, m, δ, _, r, s, h, fun d m1 v F1 H1 h1 e1 r1 v1 => ?_⟩
    cases v1 <;> first | exact False.elim h1 | skip
    exact ⟨_, rfl, h1.1, newL_ok r1 h1.2 (k.mono e1) (vrs_rg _ _)⟩
theorem qe_lrg2 (hc : X.calm = true) (mu : Bool) (hg : Gl X "list") (hm : X.mg "list" = none) (hg2 : Gl X "range") (hm2 : X.mg "range" = none) (he : PE X e (LE G w)) (he2 : PE X e2 (LE G w2)) (na : starEach [e, e2] X.env = (false, eval e X.env) :: starEach [e2] X.env := by rfl) (nb : starEach [e2] X.env = (false, eval e2 X.env) :: starEach [] X.env := by rfl)
    (hp : (backTo pos2 (starEach [e2] X.env)).any (·.1) = false := by rfl)
    (na2 : starEach [.Call (.Name "range" p2) [e, e2] [] pos2] X.env = (false, eval (.Call (.Name "range" p2) [e, e2] [] pos2) X.env) :: starEach [] X.env := by rfl) : PE X (.Call (.Name "list" p) [.Call (.Name "range" p2) [e, e2] [] pos2] [] pos) (LE G (wLRg2 mu (wCons w (wCons w2 wNil)))) :=
  PE.imp (pe_listRg hc hg hm (prg_2 hg2 hm2 he he2 na nb hp) na2) fun σ H Q h => by
    obtain ⟨F, m, δ, Q0, r, s, h, k⟩ := h
    refine ⟨F, m, δ, _, r, s, h, fun d m1 v F1 H1 h1 e1 r1 v1 => ⟨F1, m1, δ, _, r1, s.mono e1, h1, fun d2 m2 v2 F2 H2 h2 e2 r2 q2 => ?_⟩⟩
    cases v1 <;> cases q2 <;> first | exact ⟨_, _, rfl, rfl, h2.1, newL_ok r2 h2.2 (k.mono (e1.trans e2)) (vrs_rg _ _)⟩ | exact False.elim h2
variable {K : PySem.W.Frag} {qual : Str} {params : Arguments} {body : List Stmt} {f : Addr} {fd : FuncData} {ps ks : List Str} {n : Nat} {S : DSp} {scp : Scope}
theorem kbn (F : FunD K x qual params body scp [] [] f fd) (g : {α : Type} → List α → List α → List α) (hrel : ∀ {vs zs : List V} {us ws : List Value}, Vals vs us → Vals zs ws → Vals (g vs zs) (g us ws))
    (h : ∀ (kV doc pm : Value) (an : Option Addr) (cdv ct : Value) (us ws : List Value), us.length = n → ws.length = ks.length → bindArgs (PySem.W.fnOf x qual params body scp .none kV doc pm an cdv ct) ⟨us, ks.zip ws⟩ = pure (ps.zip (g us ws))) :
    KBn K fd ps n ks (fun us ws => g us ws) (fun vs zs => g vs zs) := by
  obtain ⟨oc, od, dV, kV, doc, pm, an, cdv, ct, osl, rfl, lk, hcd, hD, hK⟩ := F.ex
  rcases hD with ⟨_, rfl⟩ | ⟨e, _⟩
  · exact ⟨fun s us ws _ h1 h2 => .of_eq (h kV doc pm an cdv ct us ws h1 h2), hrel⟩
  · exact absurd rfl e
theorem run_fnN {fx : Addr} {kk : Nat} {pins : List (Addr × Obj)} {σ : L2.St} {H : Hp} {s : Shared} {Q : VK} {us ws : List Value} {vs zs : List V} {sp : Sp} {gg : List Value → List Value → List Value} {gV : List V → List V → List V} (F : FnG X.prog X.w X.K X.mg X.base CX0 kk fx fd ps sp) (hr : Room kk X.A) (hG : X.A.guards = some []) (hb : KBn X.K fd ps n ks gg gV)
    (I : Inv X pins σ H s) (r : Vals vs us) (rz : Vals zs ws) (hn : vs.length = n) (hz : zs.length = ks.length) (h : sp (gV vs zs) H Q E0) : wpAny (model X.prog X.w) X.A (call (.ref fx) us (ks.zip ws)) (EP X pins σ Q) X.xe s := by
  have r2 := hb.rel r rz
  refine wpAny_call (codeAny_mono (F.run X.A X.stack s H ⟨us, ks.zip ws⟩ (gg us ws) (gV vs zs) Q E0 hr hG I.env0 (hb.to s us ws I.kIn (by rw [← r.length]; exact hn) (by rw [← rz.length]; exact hz)) r2 h) fun r s' hq => ?_)
  cases r with
  | error e => exact False.elim hq
  | ok fl =>
    cases fl with
    | ret u => exact I.after hq
    | next => exact False.elim hq
    | brk => exact False.elim hq
    | cont => exact False.elim hq
def wCallN (n m : Nat) (S : DSp) (gD : List DV → List DV → List DV) (t tk : DA) : DE := fun δ mm Q => t δ mm fun ds m1 => tk δ m1 fun es m2 => ds.length = n ∧ es.length = m ∧ S (gD ds es) m2 Q
theorem qf_callK {gg : {α : Type} → List α → List α → List α} (F : FD X.prog X.w X.K X.mg X.base G k f fd ps S) (hb : KBn X.K fd ps n ks (fun us ws => gg us ws) (fun vs zs => gg vs zs)) (hgd : ∀ F vs ds ws es, VRs G.K F vs ds → VRs G.K F ws es → VRs G.K F (gg vs ws) (gg ds es)) (dx : DX X G j) (hj : k ≤ j) (hg : Gl X x) (hm : X.mg x = some (.ref f))
    (ha : PA X (e :: es) (LA G wl)) (hkw : PK X kws (LA G wk)) (hall : (backToKw pos (keywordEach kws X.env)).all (·.1.isSome) = true := by rfl) (hks : (backToKw pos (keywordEach kws X.env)).filterMap (·.1) = ks := by rfl)
    (hdb : (x == ("__debug__" : Str)) = false := by decide) (he : starEach (e :: es) X.env = (false, eval e X.env) :: starEach es X.env := by rfl)
    (hpl : ((backTo pos (starEach (e :: es) X.env)).any (·.1) || (backToKw pos (keywordEach kws X.env)).any (·.1.isNone)) = false := by rfl) :
    PE X (.Call (.Name x p) (e :: es) kws pos) (LE G (wCallN n ks.length S (fun ds es => gg ds es) wl wk)) := by
  refine ⟨fun pins s σ H Q I h => ?_⟩
  obtain ⟨F0, m, δ, Q0, r, sr, h, kk⟩ := h
  refine wpAny_Call_Name_kw (ld_glob I hg hm ?_ hdb)
  refine PySem.W.callWith_KW (h₀ := X.base) I.ok.mod.kin F.kp hall (thn (ha.run pos pins s σ H (fun vs H1 => ∃ F1 m1 ds, Ex F0 F1 ∧ Rel G F1 m1 H1 ∧ VRs G.K F1 vs ds ∧ wk δ m1 fun es m2 => ds.length = n ∧ es.length = ks.length ∧ S (gg ds es) m2 Q0) I ⟨F0, m, δ, _, r, sr, h, fun ds m1 vs F1 H1 h1 e1 r1 v1 => ⟨F1, m1, ds, e1, r1, v1, h1⟩⟩) fun us s1 ⟨vs, H1, I1, rr, F1, m1, ds, e1, r1, v1, q⟩ => ?_) hpl he
  refine thn (hkw.run pos pins s1 σ H1 (fun zs H2 => ∃ F2 m2 es, Ex F1 F2 ∧ Rel G F2 m2 H2 ∧ VRs G.K F2 zs es ∧ ds.length = n ∧ es.length = ks.length ∧ S (gg ds es) m2 Q0) I1 ⟨F1, m1, δ, _, r1, sr.mono e1, q, fun es m2 zs F2 H2 h2 e2 r2 v2 => ⟨F2, m2, es, e2, r2, v2, h2⟩⟩) fun ws s2 ⟨zs, H2, I2, rz, F2, m2, es', e2, r2, v2, h3, h4, h5⟩ => ⟨I2.kIn, ?_⟩
  rw [hks]
  exact run_fnN F.ok (dx.room.mono hj) dx.gd hb I2 rr rz (by rw [v1.length]; exact h3) (by rw [v2.length]; exact h4) ⟨F2, m2, _, Q0, r2, hgd _ _ _ _ _ (v1.mono e2) v2, h5, kk.mono (e1.trans e2)⟩
theorem qf_callK0 {gg : {α : Type} → List α → List α → List α} (F : FD X.prog X.w X.K X.mg X.base G k f fd ps S) (hb : KBn X.K fd ps 0 ks (fun us ws => gg us ws) (fun vs zs => gg vs zs)) (hgd : ∀ F vs ds ws es, VRs G.K F vs ds → VRs G.K F ws es → VRs G.K F (gg vs ws) (gg ds es)) (dx : DX X G j) (hj : k ≤ j) (hg : Gl X x) (hm : X.mg x = some (.ref f))
    (hkw : PK X kws (LA G wk)) (hall : (backToKw pos (keywordEach kws X.env)).all (·.1.isSome) = true := by rfl) (hks : (backToKw pos (keywordEach kws X.env)).filterMap (·.1) = ks := by rfl)
    (hdb : (x == ("__debug__" : Str)) = false := by decide)
    (hpl : ((backTo pos (starEach [] X.env)).any (·.1) || (backToKw pos (keywordEach kws X.env)).any (·.1.isNone)) = false := by rfl) :
    PE X (.Call (.Name x p) [] kws pos) (LE G (wCallN 0 ks.length S (fun ds es => gg ds es) wNil wk)) := by
  refine ⟨fun pins s σ H Q I h => ?_⟩
  obtain ⟨F0, m, δ, Q0, r, sr, h, kk⟩ := h
  refine wpAny_Call_Name_kw (ld_glob I hg hm ?_ hdb)
  refine PySem.W.callWith_KW0 (h₀ := X.base) I.ok.mod.kin F.kp hall ?_ hpl
  refine thn (hkw.run pos pins s σ H (fun zs H2 => ∃ F2 m2 es, Ex F0 F2 ∧ Rel G F2 m2 H2 ∧ VRs G.K F2 zs es ∧ ([] : List DV).length = 0 ∧ es.length = ks.length ∧ S (gg [] es) m2 Q0) I ⟨F0, m, δ, _, r, sr, h, fun es m2 zs F2 H2 h2 e2 r2 v2 => ⟨F2, m2, es, e2, r2, v2, h2⟩⟩) fun ws s2 ⟨zs, H2, I2, rz, F2, m2, es', e2, r2, v2, h3, h4, h5⟩ => ⟨I2.kIn, ?_⟩
  rw [hks]
  exact run_fnN (us := []) (vs := []) F.ok (dx.room.mono hj) dx.gd hb I2 .nil rz rfl (by rw [v2.length]; exact h4) ⟨F2, m2, _, Q0, r2, hgd _ _ _ _ _ .nil v2, h5, kk.mono e2⟩
end
end DL
namespace DL
open PySem PySem.Spec PyProof.Rows L2
abbrev Sub (m m' : Sto) : Prop := ∀ a o, m a = some o → m' a = some o
theorem Sub.refl (m : Sto) : Sub m m := fun _ _ h => h
theorem Sub.trans {a b c : Sto} (h : Sub a b) (g : Sub b c) : Sub a c := fun x o e => g x o (h x o e)
theorem Sub.put {m : Sto} {p : Addr} {o : MO} (h : m p = none) : Sub m (put m p o) := fun a u e => by
  rw [put_ne fun z => by rw [z, h] at e; cases e]
  exact e
theorem Sub.put2 {m m' : Sto} {p : Addr} {o : MO} (h : m p = none) (s : Sub m m') : Sub m (DL.put m' p o) := fun a u e => by
  rw [put_ne fun z => by rw [z, h] at e; cases e]
  exact s a u e
theorem Sub.rmv {m m' : Sto} {p : Addr} (h : m p = none) (s : Sub m m') : Sub m (DL.rmv m' p) := fun a u e => by
  rw [rmv_ne fun z => by rw [z, h] at e; cases e]
  exact s a u e
/-- w gives v; the store may grow meanwhile -/
def PuE (w : DE) (δ : Slots) (m : Sto) (v : DV) : Prop := ∀ m' (Q : DK), Sub m m' → (∀ m2, Sub m' m2 → Q v m2) → w δ m' Q
def PuT (t : DT) (δ : Slots) (m : Sto) (b : Bool) : Prop := ∀ m' (Q : Bool → Sto → Prop), Sub m m' → (∀ m2, Sub m' m2 → Q b m2) → t δ m' Q
def PuA (t : DA) (δ : Slots) (m : Sto) (ds : List DV) : Prop := ∀ m' (Q : List DV → Sto → Prop), Sub m m' → (∀ m2, Sub m' m2 → Q ds m2) → t δ m' Q
def PuS (S : DSp) (ds : List DV) (m : Sto) (v : DV) : Prop := ∀ m' (Q : DK), Sub m m' → (∀ m2, Sub m' m2 → Q v m2) → S ds m' Q
def Pu2 (R : D2) (x y : DV) (m : Sto) (v : DV) : Prop := ∀ m' (Q : DK), Sub m m' → (∀ m2, Sub m' m2 → Q v m2) → R x y m' Q
/-- goes on with a state of N, or gives back a value of R -/
def PuX (w : DS) (δ : Slots) (m : Sto) (N : Slots → Prop) (R : DV → Prop) : Prop := ∀ (D : DEnds) m', Sub m m' → (∀ δ' m2, Sub m' m2 → N δ' → D.nx δ' m2) → (∀ v m2, Sub m' m2 → R v → D.rt v m2) → w D δ m'
section
variable {w wa wb : DE} {t u : DT} {ta : DA} {S : DSp} {R2 : D2} {δ : Slots} {m m' : Sto} {v x y : DV} {b c : Bool} {ds dds : List DV} {N M : Slots → Prop} {R : DV → Prop} {s s' : DS}
theorem PuE.mono (h : PuE w δ m v) (g : Sub m m') : PuE w δ m' v := fun m1 Q h1 q => h m1 Q (g.trans h1) q
theorem PuT.mono (h : PuT t δ m b) (g : Sub m m') : PuT t δ m' b := fun m1 Q h1 q => h m1 Q (g.trans h1) q
theorem PuS.mono (h : PuS S ds m v) (g : Sub m m') : PuS S ds m' v := fun m1 Q h1 q => h m1 Q (g.trans h1) q
theorem pu_var {i : Nat} (h : δ[i]? = some (some v)) : PuE (wVar i) δ m v := fun m' Q _ q => by unfold wVar; rw [h]; exact q m' (.refl _)
theorem pu_c : PuE (wC v) δ m v := fun m' Q _ q => q m' (.refl _)
theorem pu_op (ha : PuE wa δ m x) (hb : PuE wb δ m y) (h : Pu2 R2 x y m v) : PuE (wOp R2 wa wb) δ m v := fun m' Q s q => ha m' _ s fun m1 s1 => hb m1 _ (s.trans s1) fun m2 s2 => h m2 Q ((s.trans s1).trans s2) fun m3 s3 => q m3 ((s1.trans s2).trans s3)
theorem pu_if (ht : PuT t δ m b) (ha : b = true → PuE wa δ m v) (hb : b = false → PuE wb δ m v) : PuE (wIf t wa wb) δ m v := fun m' Q s q => ht m' _ s fun m1 s1 => by
  cases b with
  | true => exact ha rfl m1 Q (s.trans s1) fun m2 s2 => q m2 (s1.trans s2)
  | false => exact hb rfl m1 Q (s.trans s1) fun m2 s2 => q m2 (s1.trans s2)
theorem pa_nil : PuA wNil δ m [] := fun m' Q _ q => q m' (.refl _)
theorem pa_cons (ha : PuE wa δ m x) (hr : PuA ta δ m ds) : PuA (wCons wa ta) δ m (x :: ds) := fun m' Q s q => ha m' _ s fun m1 s1 => hr m1 _ (s.trans s1) fun m2 s2 => q m2 (s1.trans s2)
theorem pu_tup (h : PuA ta δ m ds) (hl : ds.length ≤ sizeLine) : PuE (wTup ta) δ m (.tup ds) := fun m' Q s q => h m' _ s fun m1 s1 => ⟨hl, q m1 s1⟩
theorem pu_lst (h : PuA ta δ m ds) (hl : ds.length ≤ sizeLine) : PuE (wLst false ta) δ m (.lst ds) := fun m' Q s q => h m' _ s fun m1 s1 => ⟨hl, q m1 s1⟩
theorem pu_call (h : PuA ta δ m ds) (hs : PuS S (ds ++ dds) m v) : PuE (wCall S dds ta) δ m v := fun m' Q s q => h m' _ s fun m1 s1 => hs m1 Q (s.trans s1) fun m2 s2 => q m2 (s1.trans s2)
theorem pu_b {R0 : DSp} (h : PuA ta δ m ds) (hs : PuS R0 ds m v) : PuE (wB R0 ta) δ m v := fun m' Q s q => h m' _ s fun m1 s1 => hs m1 Q (s.trans s1) fun m2 s2 => q m2 (s1.trans s2)
theorem pu_meth {k : Nat} {p : Addr} {fs : List (Nat × DV)} (hw : PuE w δ m (.ref p)) (hp : m p = some (.ins k fs)) (h : PuA ta δ m ds) (hs : PuS S (.ref p :: (ds ++ dds)) m v) : PuE (wMeth k S dds w ta) δ m v := fun m' Q s q =>
  hw m' _ s fun m1 s1 => ⟨by unfold hasF; simp only [(s.trans s1) p _ hp], h m1 _ (s.trans s1) fun m2 s2 => hs m2 Q ((s.trans s1).trans s2) fun m3 s3 => q m3 ((s1.trans s2).trans s3)⟩
theorem pu_fld {k i : Nat} {p : Addr} {fs : List (Nat × DV)} (hw : PuE w δ m (.ref p)) (hp : m p = some (.ins k fs)) (hl : lookN fs i = some v) : PuE (wFld k i w) δ m v := fun m' Q s q =>
  hw m' _ s fun m1 s1 => by unfold fldD; simp only [(s.trans s1) p _ hp, hl]; exact ⟨trivial, q m1 s1⟩
theorem pt_bl (h : PuE w δ m (.bl b)) : PuT (wBl w) δ m b := fun m' Q s q => h m' _ s q
theorem pt_tru (h : PuE w δ m (.bl b)) : PuT (wTru w) δ m b := fun m' Q s q => h m' _ s q
theorem pt_not (h : PuT t δ m b) : PuT (wNotT t) δ m (!b) := fun m' Q s q => h m' _ s q
theorem pt_and (h : PuT t δ m b) (g : b = true → PuT u δ m c) : PuT (wAndT t u) δ m (b && c) := fun m' Q s q => h m' _ s fun m1 s1 => by
  cases b with
  | true => exact g rfl m1 Q (s.trans s1) fun m2 s2 => q m2 (s1.trans s2)
  | false => exact q m1 s1
theorem pt_or (h : PuT t δ m b) (g : b = false → PuT u δ m c) : PuT (wOrT t u) δ m (b || c) := fun m' Q s q => h m' _ s fun m1 s1 => by
  cases b with
  | true => exact q m1 s1
  | false => exact g rfl m1 Q (s.trans s1) fun m2 s2 => q m2 (s1.trans s2)
theorem pt_yes : PuT wYes δ m true := fun m' Q s q => q m' (.refl _)
theorem pu_not (h : PuE w δ m (.bl b)) : PuE (wNot w) δ m (.bl (!b)) := fun m' Q s q => h m' _ s q
theorem pu_and (h : PuE wa δ m (.bl b)) (g : b = true → PuE wb δ m (.bl c)) : PuE (wAnd wa wb) δ m (.bl (b && c)) := fun m' Q s q => h m' _ s fun m1 s1 => by
  show (if b = true then wb δ m1 Q else Q (.bl b) m1)
  cases b with
  | true => exact g rfl m1 Q (s.trans s1) fun m2 s2 => q m2 (s1.trans s2)
  | false => exact q m1 s1
theorem pu_or (h : PuE wa δ m (.bl b)) (g : b = false → PuE wb δ m (.bl c)) : PuE (wOr wa wb) δ m (.bl (b || c)) := fun m' Q s q => h m' _ s fun m1 s1 => by
  show (if b = true then Q (.bl b) m1 else wb δ m1 Q)
  cases b with
  | true => exact q m1 s1
  | false => exact g rfl m1 Q (s.trans s1) fun m2 s2 => q m2 (s1.trans s2)
theorem PuX.mono (h : PuX s δ m N R) (g : Sub m m') : PuX s δ m' N R := fun D m1 h1 => h D m1 (g.trans h1)
theorem px_next (h : N δ) : PuX wNext δ m N R := fun D m' s hn hr => hn δ m' (.refl _) h
theorem px_seq (h : PuX s δ m M R) (g : ∀ δ', M δ' → PuX s' δ' m N R) : PuX (wSeq s s') δ m N R := fun D m' sb hn hr => h _ m' sb (fun δ' m1 s1 hm => g δ' hm D m1 (sb.trans s1) (fun δ2 m2 s2 => hn δ2 m2 (s1.trans s2)) fun v m2 s2 => hr v m2 (s1.trans s2)) hr
theorem px_ret (h : PuE w δ m v) (hr : R v) : PuX (wRet w) δ m N R := fun D m' s hn hR => h m' _ s fun m1 s1 => hR v m1 s1 hr
theorem px_if (h : PuT t δ m b) (ha : b = true → PuX s δ m N R) (hb : b = false → PuX s' δ m N R) : PuX (wIfS t s s') δ m N R := fun D m' sb hn hr => h m' _ sb fun m1 s1 => by
  cases b with
  | true => exact ha rfl D m1 (sb.trans s1) (fun δ2 m2 s2 => hn δ2 m2 (s1.trans s2)) fun v m2 s2 => hr v m2 (s1.trans s2)
  | false => exact hb rfl D m1 (sb.trans s1) (fun δ2 m2 s2 => hn δ2 m2 (s1.trans s2)) fun v m2 s2 => hr v m2 (s1.trans s2)
theorem px_set {i : Nat} (h : PuE w δ m v) (hn : N (δ.set i (some v))) : PuX (wAsg w (gN i)) δ m N R := fun D m' s hN hR => h m' _ s fun m1 s1 => hN _ m1 s1 hn
theorem px_par {i j : Nat} (h : PuA ta δ m [x, y]) (hn : N ((δ.set i (some x)).set j (some y))) : PuX (wPar i j ta) δ m N R := fun D m' s hN hR => h m' _ s fun m1 s1 => hN _ m1 s1 hn
/-- a loop that only reads: W tells what is left -/
theorem px_while (W : Nat → Slots → Prop) {n : Nat} (h0 : W n δ)
    (hs : ∀ n δ, W n δ → ∃ b, PuT t δ m b ∧ (b = true → PuX s δ m (fun δ' => ∃ n', n' < n ∧ W n' δ') R) ∧ (b = false → N δ)) : PuX (wWhile t s) δ m N R := fun D m' sb hn hr => by
  refine ⟨fun k δ' m1 => Sub m' m1 ∧ W k δ', ⟨n, .refl _, h0⟩, ?_⟩
  rintro k δ' m1 ⟨s1, hw⟩
  obtain ⟨b, ht, htr, hfa⟩ := hs k δ' hw
  refine ht _ _ (sb.trans s1) fun m2 s2 => ?_
  cases b with
  | true =>
    rw [if_pos rfl]
    exact htr rfl _ _ ((sb.trans s1).trans s2) (fun δ3 m3 s3 ⟨n', hn', w3⟩ => ⟨n', hn', (s1.trans s2).trans s3, w3⟩) fun v m3 s3 => hr v m3 ((s1.trans s2).trans s3)
  | false =>
    rw [if_neg Bool.false_ne_true]
    exact hn _ m2 (s1.trans s2) (hfa rfl)
/-- a walk over what stays as it is -/
def PuI (wi : DI) (δ : Slots) (m : Sto) (xs : List DV) : Prop := ∀ m' (K : DIt → Sto → Prop), Sub m m' → (∀ (it : DIt) m1, Sub m' m1 → it.items = xs → it.lk = none → (∀ m2, Sub m m2 → it.st m2) → K it m1) → wi δ m' K
theorem asQ_sub {d : DV} {xs : List DV} (h : asQ m d = some xs) (s : Sub m m') : asQ m' d = some xs := by
  cases d with
  | ref p =>
    unfold asQ asL at h ⊢
    dsimp only at h ⊢
    cases e : m p with
    | none => rw [e] at h; cases h
    | some o => rw [e] at h; rw [s p o e]; exact h
  | _ => exact h
theorem pi_any (h : PuE w δ m x) {xs : List DV} (hx : asQ m x = some xs) : PuI (iAny w) δ m xs := fun m' K s k => h m' _ s fun m1 s1 => by
  unfold itOf
  rw [asQ_sub hx (s.trans s1)]
  exact k _ m1 s1 rfl rfl fun m2 s2 => asQ_sub hx s2
theorem px_for {wi : DI} {g : DG} {xs : List DV} (hi : PuI wi δ m xs) (I : Nat → Slots → Prop) (h0 : I 0 δ)
    (hs : ∀ i y δ, xs[i]? = some y → I i δ → ∃ δ1, (∀ m' Q, Q δ1 m' → g y δ m' Q) ∧ PuX s δ1 m (I (i + 1)) R) (he : ∀ δ, I xs.length δ → N δ) : PuX (wFor wi g s) δ m N R := fun D m' sb hn hr =>
  hi m' _ sb fun it m1 s1 hit hlk hst => by
    have hfin : ∀ (m2 : Sto) (k : Sto → Prop), k m2 → it.fin m2 k := fun m2 k hk => by unfold DIt.fin; rw [hlk]; exact hk
    have key : ∀ (ys : List DV) (i : Nat) (δ : Slots) (m2 : Sto), Sub m1 m2 → xs.drop i = ys → i ≤ xs.length → I i δ → forGo it g s D ys δ m2 := fun ys => by
      induction ys with
      | nil =>
        intro i δ m2 s2 hd hle hI
        have : i = xs.length := by
          have := List.drop_eq_nil_iff.mp hd
          omega
        subst this
        exact ⟨hst m2 ((sb.trans s1).trans s2), hfin _ _ (hn _ m2 (s1.trans s2) (he δ hI))⟩
      | cons y r ih =>
        intro i δ m2 s2 hd hle hI
        obtain ⟨h1, h2⟩ := getElem_drop_cons hd
        have hlt : i < xs.length := (List.getElem?_eq_some_iff.mp h1).1
        obtain ⟨δ1, hg, hb⟩ := hs i y δ h1 hI
        exact ⟨hst m2 ((sb.trans s1).trans s2), hg _ _ (hb _ m2 ((sb.trans s1).trans s2) (fun δ' m3 s3 hI' => ih (i + 1) δ' m3 (s2.trans s3) h2 hlt hI') fun v m3 s3 hv => hfin _ _ (hr v m3 ((s1.trans s2).trans s3) hv))⟩
    rw [hit]
    exact key xs 0 δ m1 (.refl _) rfl (Nat.zero_le _) h0
/-- a def that only reads -/
theorem ps_run {n k : Nat} (hl : ds.length = n) (h : PuX s (startD k ds) m (fun _ => False) (fun z => z = v)) : PuS (arD n (runD k s)) ds m v := fun m' Q sb q =>
  ⟨hl, h _ m' sb (fun _ _ _ z => False.elim z) fun z m2 s2 hz => by subst hz; exact q m2 s2⟩
def lcF (p : DV → Bool) (f : DV → DV) : List DV → List DV
  | [] => []
  | x :: r => if p x = true then f x :: lcF p f r else lcF p f r
theorem lcF_map (p : DV → Bool) (f : DV → DV) (xs : List DV) : lcF p f xs = (xs.filter p).map f := by
  induction xs with
  | nil => rfl
  | cons x r ih =>
    unfold lcF
    rw [ih, List.filter_cons]
    split <;> rfl
theorem lcF_length (p : DV → Bool) (f : DV → DV) (xs : List DV) : (lcF p f xs).length ≤ xs.length := by
  rw [lcF_map, List.length_map]
  exact List.length_filter_le _ _
theorem lc_go {it : DIt} {g : DG} {tt : DT} {te : DE} {δv : Slots} {D : Addr} {fin : List DV → Sto → Prop} {mb : Sto} {p : DV → Bool} {f : DV → DV} (hD : mb D = none) (hlk : it.lk = none) (hst : ∀ m2, Sub mb m2 → it.st m2)
    (h : ∀ y, y ∈ it.items → ∃ δ1, (∀ m' Q, Q δ1 m' → g y δv m' Q) ∧ PuT tt δ1 mb (p y) ∧ (p y = true → PuE te δ1 mb (f y))) :
    ∀ (ys : List DV) (acc : List DV) (m1 : Sto), (∀ y ∈ ys, y ∈ it.items) → acc.length + ys.length ≤ sizeLine → Sub mb m1 → m1 D = some (.lst acc) → (∀ m2, Sub mb m2 → m2 D = some (.lst (acc ++ lcF p f ys)) → fin (acc ++ lcF p f ys) m2) →
      lcGo it g tt te δv D fin ys acc m1
  | [], acc, m1, _, _, sb, e1, hf => by
    rw [show lcF p f [] = [] from rfl, List.append_nil] at hf
    refine ⟨hst _ sb, e1, ?_⟩
    unfold DIt.fin
    rw [hlk]; exact hf m1 sb e1
  | y :: r, acc, m1, hm, hl, sb, e1, hf => by
    obtain ⟨δ1, hg, ht, he⟩ := h y (hm y List.mem_cons_self)
    rw [List.length_cons] at hl
    refine ⟨hst _ sb, hg _ _ (ht _ _ sb fun m2 s2 => ?_)⟩
    by_cases hp : p y = true
    · rw [if_pos hp]
      refine he hp _ _ (sb.trans s2) fun m3 s3 => ⟨s3 _ _ (s2 _ _ e1), by omega, ?_⟩
      refine lc_go hD hlk hst h r (acc ++ [f y]) _ (fun z hz => hm z (List.mem_cons_of_mem _ hz)) (by simp only [List.length_append, List.length_singleton]; omega) (Sub.put2 hD ((sb.trans s2).trans s3)) put_same ?_
      have e : lcF p f (y :: r) = f y :: lcF p f r := if_pos hp
      rw [e] at hf
      rw [List.append_assoc]; exact hf
    · rw [if_neg hp]
      have e : lcF p f (y :: r) = lcF p f r := if_neg hp
      rw [e] at hf
      exact lc_go hD hlk hst h r acc m2 (fun z hz => hm z (List.mem_cons_of_mem _ hz)) (by omega) (sb.trans s2) (s2 _ _ e1) hf
theorem pu_lc {wi : DI} {g : DG} {tt : DT} {te : DE} {vs : List Nat} {xs : List DV} (p : DV → Bool) (f : DV → DV) (hi : PuI wi δ m xs) (hl : xs.length ≤ sizeLine)
    (h : ∀ y ∈ xs, ∃ δ1, (∀ m' Q, Q δ1 m' → g y (wipeD δ vs) m' Q) ∧ PuT tt δ1 m (p y) ∧ (p y = true → PuE te δ1 m (f y))) : PuE (wLc false wi g tt te vs) δ m (.lst (lcF p f xs)) := fun m' Q sb q =>
  hi m' _ sb fun it m1 s1 hit hlk hst D hD => by
    rw [hit]
    refine lc_go (mb := m1) (p := p) (f := f) hD hlk (fun m2 s2 => hst m2 ((sb.trans s1).trans s2)) (by
      rw [hit]
      intro y hy
      obtain ⟨δ1, h1, h2, h3⟩ := h y hy
      exact ⟨δ1, h1, h2.mono (sb.trans s1), fun z => (h3 z).mono (sb.trans s1)⟩) xs [] _ (fun y hy => by rw [hit]; exact hy) (by simpa using hl) (Sub.put hD) put_same fun m2 s2 e2 => ?_
    rw [List.nil_append]
    unfold lcFin
    rw [if_neg Bool.false_ne_true]
    exact q _ (s1.trans (Sub.rmv hD s2))
/-- .. over ints -/
theorem filter_int (p : Int → Bool) (f : Int → DV) (ns : List Int) : lcF (fun d => match d with | .int y => p y | _ => false) (fun d => match d with | .int y => f y | _ => .non) (ns.map DV.int) = (ns.filter p).map f := by
  induction ns with
  | nil => rfl
  | cons a r ih =>
    rw [List.map_cons, List.filter_cons]
    unfold lcF
    dsimp only
    rw [ih]
    split <;> rfl
theorem pu_lcI {wi : DI} {i : Nat} {tt : DT} {te : DE} {ns : List Int} (p : Int → Bool) (f : Int → DV) (hi : PuI wi δ m (ns.map DV.int)) (hl : ns.length ≤ sizeLine)
    (h : ∀ y ∈ ns, PuT tt ((wipeD δ [i]).set i (some (.int y))) m (p y) ∧ (p y = true → PuE te ((wipeD δ [i]).set i (some (.int y))) m (f y))) : PuE (wLc false wi (gN i) tt te [i]) δ m (.lst ((ns.filter p).map f)) := by
  rw [← filter_int]
  refine pu_lc _ _ hi (by rw [List.length_map]; exact hl) fun y hy => ?_
  obtain ⟨z, hz, rfl⟩ := List.mem_map.mp hy
  exact ⟨_, fun m' Q q => q, (h z hz).1, (h z hz).2⟩
/-- a new list of a comprehension that stays an object -/
theorem lc_own {wi : DI} {i : Nat} {tt : DT} {te : DE} {ns : List Int} (p : Int → Bool) (f : Int → DV) (hi : PuI wi δ m (ns.map DV.int)) (hl : ns.length ≤ sizeLine)
    (h : ∀ y ∈ ns, PuT tt ((wipeD δ [i]).set i (some (.int y))) m (p y) ∧ (p y = true → PuE te ((wipeD δ [i]).set i (some (.int y))) m (f y))) {m' : Sto} {Q : DK} (sb : Sub m m') (q : ∀ D m2, Sub m' m2 → m' D = none → m2 D = some (.lst ((ns.filter p).map f)) → Q (.ref D) m2) : wLc true wi (gN i) tt te [i] δ m' Q :=
  hi m' _ sb fun it m1 s1 hit hlk hst D hD => by
    have hD0 : m' D = none := by
      cases e : m' D with
      | none => rfl
      | some o => rw [s1 D o e] at hD; cases hD
    rw [hit]
    refine lc_go (mb := m1) (p := fun d => match d with | .int y => p y | _ => false) (f := fun d => match d with | .int y => f y | _ => .non) hD hlk (fun m2 s2 => hst m2 ((sb.trans s1).trans s2)) (by
      rw [hit]
      intro y hy
      obtain ⟨z, hz, rfl⟩ := List.mem_map.mp hy
      exact ⟨_, fun m' Q q => q, (h z hz).1.mono (sb.trans s1), fun e => ((h z hz).2 e).mono (sb.trans s1)⟩) (ns.map DV.int) [] _ (fun y hy => by rw [hit]; exact hy) (by simpa using hl) (Sub.put hD) put_same fun m2 s2 e2 => ?_
    rw [List.nil_append, filter_int] at e2 ⊢
    unfold lcFin
    rw [if_pos rfl]
    exact q D m2 (s1.trans s2) hD0 e2
theorem asQ_data {d : DV} {xs : List DV} (h : asQ (fun _ => none) d = some xs) : asQ m d = some xs := asQ_sub h fun a o e => by cases e
theorem fr_for {wi : DI} {g : DG} {tb : DS} {xs : List DV} {D : DEnds} (hi : PuI wi δ m xs) (sb : Sub m m') (I : Nat → Slots → Sto → Prop) (h0 : ∀ m1, Sub m' m1 → I 0 δ m1) (hI : ∀ i δ m1, I i δ m1 → Sub m m1)
    (hs : ∀ i y δ m1, xs[i]? = some y → I i δ m1 → ∃ δ1, (∀ m Q, Q δ1 m → g y δ m Q) ∧ ∀ D' : DEnds, (∀ δ m, I (i + 1) δ m → D'.nx δ m) → (∀ v m, D.rt v m → D'.rt v m) → (∀ δ m, D.nx δ m → D'.bk δ m) → (∀ δ m, I (i + 1) δ m → D'.ct δ m) → tb D' δ1 m1)
    (he : ∀ δ m1, I xs.length δ m1 → D.nx δ m1) : wFor wi g tb D δ m' :=
  hi m' _ sb fun it m1 s1 hit hlk hst => by
    have hfin : ∀ (m2 : Sto) (k : Sto → Prop), k m2 → it.fin m2 k := fun m2 k hk => by unfold DIt.fin; rw [hlk]; exact hk
    have key : ∀ (ys : List DV) (i : Nat) (δ : Slots) (m2 : Sto), xs.drop i = ys → i ≤ xs.length → I i δ m2 → forGo it g tb D ys δ m2 := fun ys => by
      induction ys with
      | nil =>
        intro i δ m2 hd hle hII
        have : i = xs.length := by
          have := List.drop_eq_nil_iff.mp hd
          omega
        subst this
        exact ⟨hst m2 (hI _ _ _ hII), hfin _ _ (he δ m2 hII)⟩
      | cons y r ih =>
        intro i δ m2 hd hle hII
        obtain ⟨h1, h2⟩ := getElem_drop_cons hd
        have hlt : i < xs.length := (List.getElem?_eq_some_iff.mp h1).1
        obtain ⟨δ1, hg, hb⟩ := hs i y δ m2 h1 hII
        exact ⟨hst m2 (hI _ _ _ hII), hg _ _ (hb _ (fun δ' m3 h3 => ih (i + 1) δ' m3 h2 hlt h3) (fun v m3 h3 => hfin _ _ h3) (fun δ' m3 h3 => hfin _ _ h3) fun δ' m3 h3 => ih (i + 1) δ' m3 h2 hlt h3)⟩
    rw [hit]
    exact key xs 0 δ m1 rfl (Nat.zero_le _) (h0 m1 s1)
section
variable {D : DEnds} {Q : DK} {QA : List DV → Sto → Prop} {QT : Bool → Sto → Prop} {g : DG} {mu : Bool} {i j : Nat} {d : DV} {R1 : DM} {ty : Ty0}
theorem go_seq (h : s { D with nx := s' D } δ m) : wSeq s s' D δ m := h
theorem go_asg (h : w δ m fun d m1 => g d δ m1 D.nx) : wAsg w g D δ m := h
theorem go_set (h : w δ m fun d m1 => D.nx (δ.set i (some d)) m1) : wAsg w (gN i) D δ m := h
theorem go_par (h : ta δ m fun ds m1 => match ds with
  | [a, b] => D.nx ((δ.set i (some a)).set j (some b)) m1
  | _ => False) : wPar i j ta D δ m := h
theorem go_drop (h : w δ m fun _ m1 => D.nx δ m1) : wDrop w D δ m := h
theorem go_ret (h : w δ m D.rt) : wRet w D δ m := h
theorem go_next (h : D.nx δ m) : wNext D δ m := h
theorem go_if (h : t δ m fun b m1 => if b = true then s D δ m1 else s' D δ m1) : wIfS t s s' D δ m := h
theorem go_nil (h : QA [] m) : wNil δ m QA := h
theorem go_cons (h : wa δ m fun d m1 => ta δ m1 fun ds m2 => QA (d :: ds) m2) : wCons wa ta δ m QA := h
theorem go_var (hd : δ[i]? = some (some d)) (h : Q d m) : wVar i δ m Q := by unfold wVar; rw [hd]; exact h
theorem go_c (h : Q d m) : wC d δ m Q := h
theorem go_lst (h : ta δ m fun ds m1 => ds.length ≤ sizeLine ∧ newL mu ds m1 Q) : wLst mu ta δ m Q := h
theorem go_tup (h : ta δ m fun ds m1 => ds.length ≤ sizeLine ∧ Q (.tup ds) m1) : wTup ta δ m Q := h
theorem go_m (h : w δ m fun d m1 => ofTy m1 ty d ∧ ta δ m1 fun ds m2 => R1 d ds m2 Q) : wM ty R1 w ta δ m Q := h
theorem go_op (h : wa δ m fun x m1 => wb δ m1 fun y m2 => R2 x y m2 Q) : wOp R2 wa wb δ m Q := h
theorem go_call (h : ta δ m fun ds m1 => S (ds ++ dds) m1 Q) : wCall S dds ta δ m Q := h
theorem go_b {R0 : DSp} (h : ta δ m fun ds m1 => R0 ds m1 Q) : wB R0 ta δ m Q := h
theorem go_bl (h : w δ m fun d m1 => match d with
  | .bl b => QT b m1
  | _ => False) : wBl w δ m QT := h
theorem go_and (h : t δ m fun b m1 => if b = true then u δ m1 QT else QT false m1) : wAndT t u δ m QT := h
theorem go_while (W : Nat → Slots → Sto → Prop) {n : Nat} (h0 : W n δ m) (hs : ∀ n δ m, W n δ m → t δ m fun b m1 => if b = true then s { nx := fun δ' m' => ∃ n', n' < n ∧ W n' δ' m', rt := D.rt, bk := D.nx, ct := fun δ' m' => ∃ n', n' < n ∧ W n' δ' m' } δ m1 else D.nx δ m1) : wWhile t s D δ m := ⟨W, ⟨n, h0⟩, hs⟩
theorem go_varZ {p : Addr} {xs : List DV} (hd : δ[i]? = some (some (.ref p))) (hp : m p = some (.lst xs)) (h : Q (.lst xs) (DL.rmv m p)) : wVarZ i δ m Q := by
  unfold wVarZ
  rw [hd]
  show frzL (.ref p) m Q
  unfold frzL
  simp only [hp]
  exact h
theorem go_new (h : ∀ p, m p = none → Q (.ref p) (DL.put m p (.lst ds))) : newL true ds m Q := h
end
end
end DL
namespace DL
open PySem PySem.Spec PyProof.Rows L2
def dRepr : DSp := fun ds m Q => match ds with
  | [d] => ∃ p, asPy m d = some p ∧ SeqAt.shaped p = true ∧ p.showable = true ∧ p.shown.length ≤ sizeLine ∧ Q (.str p.shown) m
  | _ => False
theorem cd_repr {X : Cx} {G : Gam} (hK : X.K = G.K) (hg : X.A.guards = some []) (hu : X.A.units + 65 < cLine) : CallR X (.builtin "repr") (LC G dRepr) := by
  intro pins s σ H vs us Q I rr h
  obtain ⟨F, m, ds, Q0, r, rv, h, k⟩ := h
  unfold dRepr at h
  split at h
  · obtain ⟨v, rfl, rd⟩ := rv.one_inv
    obtain ⟨p, h1, h2, h3, h4, q⟩ := h
    have pa := asPy_ok r rd h1
    obtain ⟨u, rfl, ru⟩ := vals1 rr
    obtain ⟨as, r1⟩ := Dp.reads I p v u (by rw [hK]; exact pa) ru
    have fin := k _ _ _ _ _ q (Ex.refl F) r (.str p.shown)
    have hd := SeqAt.depth_of_shaped h2
    have hnd := PyData.hasDict_of_canLay p (SeqAt.canLay_of_shaped h2)
    clear rd pa ru
    cases r1 with
    | none => exact PySem.P.repr_of_none ⟨.str _, H, I.tok _, ⟨_, rfl⟩, by simpa only [PyData.shown] using fin⟩
    | bool b => exact PySem.P.repr_of_bool ⟨.str _, H, I.tok _, ⟨_, rfl⟩, by simpa only [PyData.shown] using fin⟩
    | int i t => exact PySem.P.repr_of_int (by simpa [PyData.showable] using h3) ⟨.str _, H, I.tok _, ⟨_, rfl⟩, by simpa only [PyData.shown] using fin⟩
    | str x t => exact PySem.P.repr_of_str ⟨.str _, H, I.tok _, ⟨_, rfl⟩, by simpa only [PyData.shown] using fin⟩ (by simpa only [PyData.shown] using h4)
    | list g1 g2 g3 g4 => exact repr_of_reads' (.list g1 g2 g3 g4) h3 (fun z => by rw [hnd] at z; cases z) hg (by omega) (fun _ _ e => e) (fun h' u tk hk => ⟨.str _, H, I.kept hk, ⟨_, rfl⟩, fin⟩) h4
    | tuple g1 g2 g3 g4 => exact repr_of_reads' (.tuple g1 g2 g3 g4) h3 (fun z => by rw [hnd] at z; cases z) hg (by omega) (fun _ _ e => e) (fun h' u tk hk => ⟨.str _, H, I.kept hk, ⟨_, rfl⟩, fin⟩) h4
    | dict g1 g2 g3 g4 g5 => simp [PyData.hasDict] at hnd
  · exact False.elim h
theorem funD_fd {K : PySem.W.Frag} {x qual : Str} {params : Arguments} {body : List Stmt} {scope : Scope} {dvs : List V} {kws : List (Str × V)} {f : Addr} {fd fd2 : FuncData} (F : FunD K x qual params body scope dvs kws f fd) (F2 : FunD K x qual params body scope dvs kws f fd2) : fd = fd2 := by
  obtain ⟨_, _, _, _, _, _, _, _, _, _, _, h, _⟩ := F.ex
  obtain ⟨_, _, _, _, _, _, _, _, _, _, _, h2, _⟩ := F2.ex
  rw [h] at h2
  cases h2
  rfl
end DL
namespace DL
open PySem PySem.Spec PyProof.Rows L2
/-- x in y: y a list, both data of any depth -/
def dInX (neg : Bool) : D2 := fun x y m Q => ∃ d ds, asPy m x = some d ∧ asPy m y = some (.list ds) ∧ SeqAt.shaped d = true ∧ SeqAt.shaped (.list ds) = true ∧ Q (.bl (xor neg (ds.any fun z => PyData.eqv z d))) m
theorem od_inX {X : Cx} {G : Gam} (hK : X.K = G.K) (hu : X.A.units + 65 < cLine) (neg : Bool) {op : CmpOp} (ho : op = if neg = true then .NotIn else .In) : OpR X (compareOp op) (LR2 G (dInX neg)) := by
  intro pins s σ H x y v u Q I rx ry h
  obtain ⟨F, m, d1, d2, Q0, r, v1, v2, h, k⟩ := h
  obtain ⟨a, b, ha, hb, sa, sb, q⟩ := h
  have pa := asPy_ok r v1 ha
  have pb := asPy_ok r v2 hb
  cases neg with
  | true =>
    subst ho
    have q' : Q0 (.bl (!(b.any fun z => PyData.eqv z a))) m := by cases z : b.any (fun z => PyData.eqv z a) <;> (rw [z] at q; exact q)
    exact op_notInD hu pins s σ H x y v u Q I rx ry ⟨a, b, by rw [hK]; exact pa, by rw [hK]; exact pb, sa, sb, k _ _ _ _ _ q' (Ex.refl F) r (.bl _)⟩
  | false =>
    subst ho
    have q' : Q0 (.bl (b.any fun z => PyData.eqv z a)) m := by cases z : b.any (fun z => PyData.eqv z a) <;> (rw [z] at q; exact q)
    exact op_inD hu pins s σ H x y v u Q I rx ry ⟨a, b, by rw [hK]; exact pa, by rw [hK]; exact pb, sa, sb, k _ _ _ _ _ q' (Ex.refl F) r (.bl _)⟩
/-- str of an int, of a text, of a list or tuple of data -/
def dStrOf : DSp := fun ds m Q => match ds with
  | [.int i] => i.natAbs.log2 < 1920 ∧ Q (.str (toString i)) m
  | [.str x] => Q (.str x) m
  | [d] => ∃ p, asPy m d = some p ∧ (∃ ps, p = .list ps ∨ p = .tuple ps) ∧ p.canLay0 = true ∧ p.depth ≤ 60 ∧ p.showable = true ∧ p.shown.length ≤ sizeLine ∧ Q (.str p.shown) m
  | _ => False
theorem cd_str {X : Cx} {G : Gam} (hK : X.K = G.K) (hg : X.A.guards = some []) (hu : X.A.units + 65 < cLine) : CallR X (.type "str") (LC G dStrOf) := by
  intro pins s σ H vs us Q I rr h
  obtain ⟨F, m, ds, Q0, r, rv, h, k⟩ := h
  unfold dStrOf at h
  split at h
  · obtain ⟨v, rfl, rd⟩ := rv.one_inv
    obtain ⟨hb, q⟩ := h
    cases rd
    exact call_str_int pins s σ H _ us Q I rr ⟨_, rfl, hb, k _ _ _ _ _ q (Ex.refl F) r (.str _)⟩
  · obtain ⟨v, rfl, rd⟩ := rv.one_inv
    cases rd
    exact SkE.call_str_str pins s σ H _ us Q I rr ⟨_, rfl, k _ _ _ _ _ h (Ex.refl F) r (.str _)⟩
  · obtain ⟨v, rfl, rd⟩ := rv.one_inv
    obtain ⟨p, h1, hp, h2, hd, h3, h4, q⟩ := h
    have pa := asPy_ok r rd h1
    obtain ⟨u, rfl, ru⟩ := vals1 rr
    obtain ⟨as, r1⟩ := Dp.reads I p v u (by rw [hK]; exact pa) ru
    have fin := k _ _ _ _ _ q (Ex.refl F) r (.str p.shown)
    have hnd := PyData.hasDict_of_canLay p h2
    clear rd pa ru
    obtain ⟨ps, rfl | rfl⟩ := hp
    · cases r1 with
      | list g1 g2 g3 g4 => exact str_of_reads (.list g1 g2 g3 g4) h3 (fun z => by rw [hnd] at z; cases z) hg (by omega) (fun _ _ e => e) (fun h' u tk hk => ⟨.str _, H, I.kept hk, ⟨_, rfl⟩, fin⟩) h4
    · cases r1 with
      | tuple g1 g2 g3 g4 => exact str_of_reads (.tuple g1 g2 g3 g4) h3 (fun z => by rw [hnd] at z; cases z) hg (by omega) (fun _ _ e => e) (fun h' u tk hk => ⟨.str _, H, I.kept hk, ⟨_, rfl⟩, fin⟩) h4
  · exact False.elim h
section
variable {X : Cx} {G : Gam} {mu : Bool} {w wk : DE} {e st : Expr} {pos p2 : Pos} {te : TE} {tk : TO}
theorem pe_rev (he : PE X e te) (hk : PO X (some st) tk) (ht : ∀ (v r : Value), letTemporaryGo e v r = pure () := by intros; with_unfolding_all rfl) : PE X (.Subscript e (.Slice none none (some st) p2) pos) (fun σ H Q => te σ H fun x H1 => tk σ H1 fun o H2 => o = some (-1) ∧ ∃ a xs, x = .ref a ∧ SqL X.K H2 a xs ∧ ∀ p, H2 p = none → Q (.ref p) (upd H2 p (.lst xs.reverse))) := by
  refine ⟨fun pins s σ H Q I h => ?_⟩
  refine Subscript_ (thn (he.run pins s σ H _ I h) fun v s1 ⟨x, H1, I1, r1, q1⟩ => ?_)
  refine wpAny_Slice ?_
  rw [evalPart_none]
  refine wpAny_pure ?_
  refine wpAny_pure ?_
  refine thn (hk.run pins s1 σ H1 _ I1 q1) fun vk s3 ⟨o, H3, I3, pk, q3⟩ => ?_
  obtain ⟨rfl, a, xs, rfl, hx, q⟩ := q3
  cases r1
  have I4 : Inv X pins σ H3 { s3 with heap := s3.heap.push { cls := .type "slice", data := .fields #[.none, .none, vk] } } := I3.kept (t' := s3.toks) fun b ob q => Heap.get?_push_of_some _ q
  obtain ⟨its, rv, hl, hz⟩ := I4.list hx
  have hlen := rv.length
  show wpAny (model X.prog X.w) X.A (subscriptTail e (.Slice none none (some st) p2) (.ref a) (.ref s3.heap.objs.size)) (EP X pins σ Q) X.xe { s3 with heap := s3.heap.push { cls := .type "slice", data := .fields #[.none, .none, vk] } }
  refine subscriptTail_ops (ops := [.ref a, .ref s3.heap.objs.size]) hl.isList.typeIs slot_list_getitem.lookup ?_ rfl (ht _)
  refine wpAny_getItem_list_slice hl.isList (Heap.IsSliceOf.new ..) .none .none pk (by decide) ?_ (by rw [List.size_toArray] <;> omega)
  rw [PySem.W.krv_pick]
  refine ⟨.ref _, _, I4.laid (t' := s3.toks) (o := .lst xs.reverse) (fun b ob q => Heap.get?_push_of_some _ q) (Nat.le_refl _) ?_, rfl, q _ (I4.hok.fresh (Nat.le_refl _))⟩
  exact ⟨by rw [List.length_reverse]; exact hz, _, 0, rv.reverse, Heap.get?_push_size _ rfl⟩
theorem VRs.rev {K : PySem.W.Frag} {F : Hp} : ∀ {vs : List V} {ds : List DV}, VRs K F vs ds → VRs K F vs.reverse ds.reverse
  | _, _, .nil => .nil
  | _, _, .cons r t => by rw [List.reverse_cons, List.reverse_cons]; exact (VRs.rev t).append (.cons r .nil)
def wRev (mu : Bool) (w wk : DE) : DE := fun δ m Q => w δ m fun d m1 => wPart (some wk) δ m1 fun o m2 => o = some (-1) ∧ ∃ xs, asL m2 d = some xs ∧ newL mu xs.reverse m2 Q
theorem qe_rev (hK : X.K = G.K) (mu : Bool) (he : PE X e (LE G w)) (hk : PO X (some st) (LO G (some wk))) (ht : ∀ (v r : Value), letTemporaryGo e v r = pure () := by intros; with_unfolding_all rfl) : PE X (.Subscript e (.Slice none none (some st) p2) pos) (LE G (wRev mu w wk)) := by
  refine PE.imp (pe_rev he hk ht) fun σ H Q h => ?_
  obtain ⟨F, m, δ, Q0, r, s, h, k⟩ := h
  refine ⟨F, m, δ, _, r, s, h, fun d1 m1 x F1 H1 h1 e1 r1 v1 => ⟨F1, m1, δ, fun o m2 => o = some (-1) ∧ ∃ xs, asL m2 d1 = some xs ∧ newL mu xs.reverse m2 Q0, r1, s.mono e1, h1, fun o m2 F2 H2 h2 e2 r2 => ?_⟩⟩
  · obtain ⟨h3, xs, h4, h5⟩ := h2
    obtain ⟨a, vs, rfl, ha, ra⟩ := asL_ok r2 (v1.mono e2) h4
    exact ⟨h3, a, vs, rfl, by rw [hK]; exact ha, newL_ok r2 h5 (k.mono (e1.trans e2)) ra.rev⟩
end
end DL
namespace SrtH
open PySem PySem.Spec PyProof.Rows L2 SrtO
def IsHead (h : Heap) (v : Value) (x : Int) : Prop := ∃ a o t its n, v = .ref a ∧ h.get? a = some o ∧ o.cls = .type "tuple" ∧ o.data = .seq (List.toArray (Value.int x t :: its)) n
theorem IsHead.keeps {h h' : Heap} {v : Value} {x : Int} (p : IsHead h v x) (k : ∀ b o, h.get? b = some o → o.cls = .type "tuple" → h'.get? b = some o) : IsHead h' v x := by
  obtain ⟨a, o, t, its, n, e, ho, hc, hd⟩ := p
  exact ⟨a, o, t, its, n, e, k _ _ ho hc, hc, hd⟩
section
variable {prog : Program} {w : World} {A : Around} {s : Shared} {E : Value → Shared → Prop}
theorem swo_int (k : Value → Int) : Swo fun v u => decide (k v < k u) := by
  refine ⟨fun x y h => decide_eq_false ?_, fun x y z h1 h2 => decide_eq_false ?_⟩
  · have := of_decide_eq_true h
    omega
  · have := of_decide_eq_false h1
    have := of_decide_eq_false h2
    omega
theorem lex_same {b : Bool} {Q : Bool → Shared → Prop} (h : Q false s) : ∀ (l : List Value) (i : Nat), PySem.W.KatLex prog w A b false Q (l.zip l) i s
  | [], i => PySem.W.kat_nil h
  | v :: l, i => PySem.W.kat_cons (SeqAt.EqAt.same v prog w _ _ (PySem.W.kat_yes (lex_same h l (i + 1))))
theorem head_cmp {vs : List Value} {k : Value → Int} (hp : ∀ v ∈ vs, IsHead s.heap v (k v)) (inj : ∀ v ∈ vs, ∀ u ∈ vs, k v = k u → v = u) : Cmp prog w A s (tuples' true) (fun p => p.1 ∈ vs) (lt2 fun v u => decide (k v < k u)) := by
  intro p q hm hm'
  show wpAny (model prog w) A (keyLt' (tuples' true) p.1 q.1) (fun r s' => s' = s ∧ r = decide (k p.1 < k q.1)) (fun _ _ => False) s
  by_cases e : k p.1 = k q.1
  · have same := inj _ hm _ hm' e
    obtain ⟨a, o, t, its, n, ev, ho, hc, hd⟩ := hp _ hm
    rw [← same, ev]
    refine PySem.W.kat_lt ho hd ho hd ?_
    have e2 : decide ((List.toArray (Value.int (k p.1) t :: its)).size < (List.toArray (Value.int (k p.1) t :: its)).size) = false := decide_eq_false (Nat.lt_irrefl _)
    rw [e2]
    refine lex_same ⟨rfl, ?_⟩ _ 0
    rw [← ev]
    exact (decide_eq_false (Int.lt_irrefl _)).symm
  · obtain ⟨a, o, t, its, n, ev, ho, hc, hd⟩ := hp _ hm
    obtain ⟨a', o', t', its', n', ev', ho', hc', hd'⟩ := hp _ hm'
    generalize k p.1 = x at e hd ⊢
    generalize k q.1 = x' at e hd' ⊢
    rw [ev, ev']
    refine PySem.W.kat_lt ho hd ho' hd' ?_
    show PySem.W.KatLex prog w A true _ _ ((.int x t, .int x' t') :: (its.zip its')) 0 s
    refine PySem.W.kat_cons (SeqAt.EqAt.int_int x t x' t' prog w _ _ ?_)
    have e3 : (x == x') = false := by simpa using e
    rw [e3]
    exact PySem.W.kat_no (oneLt_int ⟨rfl, rfl⟩)
theorem firsts {h : Heap} {k : Value → Int} : ∀ {vs : List Value}, (∀ v ∈ vs, IsHead h v (k v)) → ∃ fs : List Value, PySem.W.KatTups h vs fs ∧ fs.length = vs.length ∧ ∀ f ∈ fs, ∃ x t, f = Value.int x t
  | [], _ => ⟨[], PySem.W.KatTups.nil, rfl, fun _ hm => by simp at hm⟩
  | v :: vs, hp => by
    obtain ⟨fs, h1, h2, h3⟩ := firsts (vs := vs) fun v' hm => hp v' (List.mem_cons_of_mem _ hm)
    obtain ⟨a, o, t, its, n, e, ho, hc, hd⟩ := hp v List.mem_cons_self
    refine ⟨.int (k v) t :: fs, ⟨⟨a, o, _, n, e, ho, hc, hd, rfl⟩, h1⟩, by rw [List.length_cons, List.length_cons, h2], fun f hf => ?_⟩
    rcases List.mem_cons.mp hf with rfl | hf
    · exact ⟨_, _, rfl⟩
    · exact h3 f hf
theorem heads_sortable {a : Addr} {vs : List Value} {k : Value → Int} (h0 : 0 < vs.length) (hp : ∀ v ∈ vs, IsHead s.heap v (k v)) (inj : ∀ v ∈ vs, ∀ u ∈ vs, k v = k u → v = u) (ha : ∀ o, s.heap.get? a = some o → o.cls ≠ .type "tuple") : SortableO prog w A s a vs fun v u => decide (k v < k u) := by
  intro h' keep
  have hp' : ∀ v ∈ vs, IsHead h' v (k v) := fun v hm => (hp v hm).keeps fun b o e c => keep b o (fun z => by subst z; exact ha o e c) e
  obtain ⟨fs, h1, h2, h3⟩ := firsts hp'
  refine ⟨tuples' true, fun Q E hq => ?_, head_cmp hp' inj⟩
  refine PySem.W.kat_kind (T := .type "int") h1 (by omega) (fun f hm => ?_) (by rfl) ?_
  · obtain ⟨x, t, rfl⟩ := h3 f hm
    exact PySem.W.Looks.now
  · have e : (Value.type "int" != Value.type "tuple") = true := by first | decide +kernel | rfl | decide
    rw [e]
    exact hq
theorem sorted_heads {l : Addr} {vs : List Value} {k : Value → Int} {Q : Value → Shared → Prop} (hl : s.heap.IsList l vs.toArray) (hz : vs.length ≤ sizeLine) (hp : ∀ v ∈ vs, IsHead s.heap v (k v)) (inj : ∀ v ∈ vs, ∀ u ∈ vs, k v = k u → v = u)
    (h : ∀ (h' : Heap) (d : Addr) (out : List Value), Srtd (fun v u => decide (k v < k u)) out → Stb (fun v u => decide (k v < k u)) out vs → (∀ b o, s.heap.get? b = some o → h'.get? b = some o) → s.heap.objs.size ≤ d → (∃ n, h'.get? d = some (seqObj "list" out.toArray n)) → Q (.ref d) { s with heap := h' }) :
    wpAny (model prog w) A (call (.builtin "sorted") [.ref l]) Q E s := by
  refine sorted_ord (swo_int k) hl hz (fun h2 h₁ a ha kk => ?_) fun out hs hb => ?_
  · refine heads_sortable (s := { s with heap := h₁ }) (by omega) (fun v hm => (hp v hm).keeps fun b o e _ => (kk b o e).2) inj fun o e => ?_
    have e' : some o = some (seqObj "list" vs.toArray 0) := e.symm.trans ha
    cases e'
    intro c
    exact absurd (Value.type.inj c) (by decide)
  · exact h _ _ out hs hb (fun b o e => sortedAll_old e) (Nat.le_succ _) (sortedAll_at s.heap vs out.toArray)
end
def rSortedH (K : PySem.W.Frag) : List V → Hp → VK → Prop := fun vs H Q => ∃ (a : Addr) (xs : List V) (k : V → Int), vs = [V.ref a] ∧ SqL K H a xs ∧ (∀ x ∈ xs, ∃ t rest, x = V.ref t ∧ H t = some (.tup (.int (k x) :: rest))) ∧ (∀ x ∈ xs, ∀ y ∈ xs, k x = k y → x = y) ∧
  ∀ ys p, ys.Perm xs → ys.Pairwise (fun x y => k x ≤ k y) → H p = none → Q (.ref p) (upd H p (.lst ys))
theorem cr_sortedH {X : Cx} : CallR X (.builtin "sorted") (rSortedH X.K) := by
  intro pins s σ H vs us Q I r h
  obtain ⟨a, xs, k, rfl, hs, hx, inj, q⟩ := h
  obtain ⟨its, rv, hl, hz⟩ := I.list hs
  obtain ⟨u, rfl, ru⟩ := vals1 r
  obtain rfl : u = Value.ref a := ru
  obtain ⟨e1, e2⟩ := refs_back rv fun x m => by
    obtain ⟨t, _, e, _⟩ := hx x m
    exact ⟨t, e⟩
  refine sorted_heads (k := fun u => k (backV u)) hl.isList (by rw [← rv.length]; exact hz) (fun v hv => ?_) (fun v hv u hu he => ?_) fun h' d out h1 h2 kp hd hn => ?_
  · obtain ⟨t, rfl⟩ := e2 v hv
    have hm : V.ref t ∈ xs := by rw [e1]; exact List.mem_map.mpr ⟨_, hv, rfl⟩
    obtain ⟨t', rest, e, ht⟩ := hx _ hm
    cases e
    obtain ⟨_, its2, r2, o, ho, hc, n, hd⟩ := I.hok _ _ ht
    cases r2 with
    | cons ri rr =>
      obtain ⟨t1, rfl⟩ := ri
      exact ⟨t, o, t1, _, n, rfl, ho, hc, hd⟩
  · obtain ⟨t, rfl⟩ := e2 v hv
    obtain ⟨t', rfl⟩ := e2 u hu
    have := inj (V.ref t) (by rw [e1]; exact List.mem_map.mpr ⟨_, hv, rfl⟩) (V.ref t') (by rw [e1]; exact List.mem_map.mpr ⟨_, hu, rfl⟩) he
    cases this
    rfl
  · have h3 : ∀ u ∈ out, ∃ a, u = Value.ref a := fun u hu => e2 u (h2.perm.mem_iff.mp hu)
    obtain ⟨n, hn⟩ := hn
    have hb : (out.map backV).Perm xs := by
      rw [e1]
      exact h2.perm.map backV
    refine ⟨.ref d, upd H d (.lst (out.map backV)), I.laid (t' := s.toks) kp hd ⟨?_, out, n, vals_back h3, hn⟩, rfl, q _ d hb ?_ (I.hok.fresh hd)⟩
    · rw [hb.length_eq]
      exact hz
    · rw [List.pairwise_map]
      refine List.Pairwise.imp (fun {x y} z => ?_) h1
      have := of_decide_eq_false z
      omega
end SrtH
namespace DL
open PySem PySem.Spec PyProof.Rows L2
def headK : DV → Int
  | .tup (.int n :: _) => n
  | _ => 0
def isHead : DV → Bool
  | .tup (.int _ :: _) => true
  | _ => false
/-- sorted: the new list is told -/
def dSortH (mu : Bool) : DSp := fun ds m Q => match ds with
  | [d] => ∃ xs ys, asL m d = some xs ∧ xs.all isHead = true ∧ ys.Perm xs ∧ (ys.map headK).Pairwise (· < ·) ∧ newL mu ys m Q
  | _ => False
theorem perm_key_eq : ∀ {as bs : List DV}, as.Perm bs → (as.map headK).Pairwise (· < ·) → (bs.map headK).Pairwise (· < ·) → as = bs
  | [], bs, h, _, _ => (List.Perm.eq_nil h.symm).symm
  | a :: as, [], h, _, _ => absurd h.length_eq (by simp)
  | a :: as, b :: bs, h, ha, hb => by
    rw [List.map_cons, List.pairwise_cons] at ha hb
    have e : a = b := by
      have h1 : a ∈ b :: bs := h.mem_iff.mp List.mem_cons_self
      have h2 : b ∈ a :: as := h.mem_iff.mpr List.mem_cons_self
      rcases List.mem_cons.mp h1 with e | h1
      · exact e
      · rcases List.mem_cons.mp h2 with e | h2
        · exact e.symm
        · have := hb.1 _ (List.mem_map.mpr ⟨a, h1, rfl⟩)
          have := ha.1 _ (List.mem_map.mpr ⟨b, h2, rfl⟩)
          omega
    subst e
    rw [perm_key_eq h.cons_inv ha.2 hb.2]
theorem vrs_perm {K : PySem.W.Frag} {F : Hp} {vs ws : List V} (p : ws.Perm vs) : ∀ {xs : List DV}, VRs K F vs xs → ∃ ys, VRs K F ws ys ∧ ys.Perm xs := by
  induction p with
  | nil => intro xs h; exact ⟨xs, h, .refl _⟩
  | cons v p ih =>
    intro xs h
    cases h with
    | cons r t =>
      obtain ⟨ys, h1, h2⟩ := ih t
      exact ⟨_, .cons r h1, h2.cons _⟩
  | swap a b l =>
    intro xs h
    cases h with
    | cons r t => cases t with
      | cons r2 t2 => exact ⟨_, .cons r2 (.cons r t2), .swap _ _ _⟩
  | trans p1 p2 ih1 ih2 =>
    intro xs h
    obtain ⟨ys, h1, h2⟩ := ih2 h
    obtain ⟨zs, h3, h4⟩ := ih1 h1
    exact ⟨zs, h3, h4.trans h2⟩
def kF (F : Hp) : V → Int
  | .ref a => match F a with
    | some (.tup (.int n :: _)) => n
    | _ => 0
  | _ => 0
theorem head_vr {K : PySem.W.Frag} {F : Hp} {v : V} {d : DV} (h : VR K F v d) (hd : isHead d = true) : kF F v = headK d ∧ ∃ t rest, v = V.ref t ∧ F t = some (.tup (.int (kF F v) :: rest)) := by
  cases h with
  | @tup a vs ds hf hr =>
    cases hr with
    | nil => cases hd
    | cons r t =>
      cases r with
      | int i =>
        have e : kF F (.ref a) = i := by unfold kF; dsimp only; rw [hf]
        exact ⟨e, a, _, rfl, by rw [e]; exact hf⟩
      | _ => cases hd
  | _ => cases hd
theorem vrs_keys {K : PySem.W.Frag} {F : Hp} : ∀ {vs : List V} {ds : List DV}, VRs K F vs ds → ds.all isHead = true → vs.map (kF F) = ds.map headK
  | _, _, .nil, _ => rfl
  | _, _, .cons r t, h => by
    rw [List.all_cons, Bool.and_eq_true] at h
    rw [List.map_cons, List.map_cons, (head_vr r h.1).1, vrs_keys t h.2]
theorem key_inj {α : Type} {k : α → Int} : ∀ {xs : List α}, (xs.map k).Nodup → ∀ x ∈ xs, ∀ y ∈ xs, k x = k y → x = y
  | [], _, x, hx, _, _, _ => by cases hx
  | a :: xs, h, x, hx, y, hy, e => by
    rw [List.map_cons, List.nodup_cons] at h
    rcases List.mem_cons.mp hx with e1 | h1 <;> rcases List.mem_cons.mp hy with e2 | h2
    · rw [e1, e2]
    · exact absurd (List.mem_map.mpr ⟨y, h2, (e1 ▸ e).symm⟩) h.1
    · exact absurd (List.mem_map.mpr ⟨x, h1, (e2 ▸ e)⟩) h.1
    · exact key_inj h.2 x h1 y h2 e
theorem cd_sortH {X : Cx} {G : Gam} (hK : X.K = G.K) (mu : Bool) : CallR X (.builtin "sorted") (LC G (dSortH mu)) := by
  intro pins s σ H vs us Q I rr h
  obtain ⟨F, m, ds, Q0, r, rv, h, k⟩ := h
  unfold dSortH at h
  split at h
  · obtain ⟨v, rfl, rd⟩ := rv.one_inv
    obtain ⟨xs, ys, hx, hh, hp, hs, q⟩ := h
    obtain ⟨a, ws, rfl, ha, ra⟩ := asL_ok r rd hx
    have ks := vrs_keys ra hh
    have nd : (ws.map (kF F)).Nodup := by
      rw [ks]
      have : (ys.map headK).Nodup := hs.imp fun {a b} h => by omega
      exact (hp.map headK).nodup_iff.mp this
    refine SrtH.cr_sortedH pins s σ H _ us Q I rr ⟨a, ws, kF F, rfl, by rw [hK]; exact ha, fun x hxm => ?_, key_inj nd, fun zs p hz hsz hpn => ?_⟩
    · obtain ⟨i, hi⟩ := List.getElem?_of_mem hxm
      obtain ⟨d, h1, h2⟩ := ra.getV hi
      obtain ⟨_, t, rest, e1, e2⟩ := head_vr h2 (List.all_eq_true.mp hh d (List.mem_of_getElem? h1))
      exact ⟨t, rest, e1, r.ex _ _ e2⟩
    · obtain ⟨ys2, v2, p2⟩ := vrs_perm hz ra
      have hh2 : ys2.all isHead = true := List.all_eq_true.mpr fun d hd => List.all_eq_true.mp hh d (p2.mem_iff.mp hd)
      have k2 := vrs_keys v2 hh2
      have nd2 : (zs.map (kF F)).Nodup := (hz.map _).nodup_iff.mpr nd
      have lt2 : (ys2.map headK).Pairwise (· < ·) := by
        rw [← k2]
        have h1 : (zs.map (kF F)).Pairwise (· ≤ ·) := List.pairwise_map.mpr hsz
        exact (List.pairwise_and_iff.mpr ⟨h1, nd2⟩).imp fun {a b} h => by have := h.1; have := h.2; omega
      have e : ys2 = ys := perm_key_eq (p2.trans hp.symm) lt2 hs
      subst e
      exact newL_ok r q k v2 p hpn
  · exact False.elim h
end DL
namespace DL
open PySem PySem.Spec PySem.W PyProof.Rows L2
/-- the signs of a text with the items of a tuple of n -/
def ItzS (K : PySem.W.Frag) (x : Str) (b : Addr) (n : Nat) : It where
  go i H := i < x.cps.size ∧ i < n ∧ ∃ ys, SqT K H b ys ∧ ys.length = n
  yld i H v H' := ∃ T c y, v = V.ref T ∧ H T = none ∧ H' = upd H T (.tup [.str ⟨#[c]⟩, y]) ∧ x.cps[i]? = some c ∧ ∀ ys, SqT K H b ys → ys[i]? = some y
  stop i H := (x.cps.size ≤ i ∨ n ≤ i) ∧ ∃ ys, SqT K H b ys ∧ ys.length = n
structure ZsSep (z TI TO i1 i2 b : Addr) : Prop where
  sep : ZipSep2 z TI TO i1 i2 [i1] [i2, b]
  bi : b ≠ i2
theorem turn_zipS {P : Program} {w : World} {K : PySem.W.Frag} {elts : List Expr} {kk : Nat} {tpos : Pos} {z TI TO i1 i2 b : Addr} {x : Str} {t : Tok} {n : Nat} (hs : ZsSep z TI TO i1 i2 b) :
    Turn P w K (.Tuple elts kk tpos) (ItzS K x b n) [z, TI, TO, i1, i2] z fun i h => IsZip h z TI TO Value.none ∧ IsTupOf2 h TI (.ref i1) (.ref i2) ∧ (∃ a1 a2, IsTupOf2 h TO a1 a2) ∧ h.IsStrIter i1 (strIterType x) x t i ∧ h.IsTupleIter i2 b i ∧ i ≤ x.cps.size ∧ i ≤ n where
  mem := List.mem_cons_self
  obj := fun i h ⟨h1, h2, ⟨a1, a2, h3⟩, ⟨o4, g4, _, d4⟩, ⟨o5, g5, _, d5⟩, _⟩ c hc => by
    simp only [List.mem_cons, List.not_mem_nil, or_false] at hc
    rcases hc with rfl | rfl | rfl | rfl | rfl
    · exact ⟨_, h1, nofun⟩
    · exact ⟨_, h2, nofun⟩
    · exact ⟨_, h3, nofun⟩
    · exact ⟨_, g4, fun v => by rw [d4]; nofun⟩
    · exact ⟨_, g5, fun v => by rw [d5]; nofun⟩
  keep := fun i h h' ⟨h1, h2, ⟨a1, a2, h3⟩, ⟨o4, g4, c4, d4⟩, ⟨o5, g5, c5, d5⟩, h6⟩ k => by
    refine ⟨k _ (by simp) _ h1, k _ (by simp) _ h2, ⟨a1, a2, k _ (by simp) _ h3⟩, ⟨o4, k _ (by simp) _ g4, c4, d4⟩, ⟨o5, k _ (by simp) _ g5, c5, d5⟩, h6⟩
  item := fun X hP hw hK hc i pins s σ H E I fp tn go => by
    subst hP hw hK
    obtain ⟨h1, h2, h3, h4, h5, h6, h7⟩ := tn
    obtain ⟨g1, g2, ys, hy, hl⟩ := go
    obtain ⟨its, rv, ht, hz⟩ := I.tuple hy
    have hd := I.ok.hd hc
    have hlen : its.length = n := by rw [← rv.length, hl]
    have W := WalksT.zipD2 (prog := X.prog) (w := X.w) (A := X.A) hs.sep (Draws.text (by exact hd) i1 x t) (Draws.tuple (by exact hd) i2 b hs.bi its.toArray)
    refine W.item i s _ E (Nat.lt_min.mpr ⟨g1, by have e : its.toArray.size = its.length := List.size_toArray; omega⟩) ⟨h1, h2, h3, h4, h5, ht⟩ fun T vals h' tk hp hle hT hM hk => ⟨_, rfl, ?_⟩
    refine W.go elts kk tpos i T _ _ E hM fun h'' hS hk2 => ?_
    obtain ⟨x1, x2, ⟨c, u, hx, rfl⟩, hy2, rfl⟩ := hp
    have hTw := W.apart i T h' hM
    have hy3 : its[i]? = some x2 := by simpa using hy2
    obtain ⟨v2, hv2, r2⟩ : ∃ v2, ys[i]? = some v2 ∧ L2.RelV v2 x2 := by
      have hi : i < ys.length := by omega
      obtain ⟨u2, e1, e2⟩ := rv.get (List.getElem?_eq_getElem hi)
      rw [hy3] at e1
      cases e1
      exact ⟨_, List.getElem?_eq_getElem hi, e2⟩
    have keep : ∀ (b' : Addr) (o : Obj), ¬b' ∈ [z, TO, i1, i2] → s.heap.get? b' = some o → h''.get? b' = some o := fun b' o hb e => hk2 _ _ hb (hk _ _ hb e)
    have fpw : ∀ b' ∈ [z, TO, i1, i2], FpOk X pins H b' := fun b' hb => fp b' (by
      simp only [List.mem_cons, List.not_mem_nil, or_false] at hb ⊢
      rcases hb with h | h | h | h <;> simp [h])
    have hTn : H T = none := I.hok.fresh hle
    have hTup : IsTup h'' T #[Value.str ⟨#[c]⟩ u, x2] := by
      obtain ⟨o, e, e2⟩ := hT
      exact ⟨o, hk2 _ _ hTw e, e2⟩
    have I2 := I.turnedNew (T := T) (ob := .tup [.str ⟨#[c]⟩, v2]) (t' := tk) keep fpw hle ⟨by have := sizeLine_eq; simp; omega, [Value.str ⟨#[c]⟩ u, x2], .cons ⟨u, rfl⟩ (.cons r2 .nil), hTup⟩
    obtain ⟨k1, k2, k3, k4, k5, k6⟩ := hS
    refine ⟨.ref T, _, I2, rfl, ⟨T, c, v2, rfl, hTn, rfl, hx, fun ys2 hy4 => by rw [I.tuple_inj hy4 hy]; exact hv2⟩, ⟨k1, k2, k3, k4, k5, by omega, by omega⟩, fun b' hb' => ?_⟩
    have hbT : b' ≠ T := fun e => by
      subst e
      have : ∃ o, s.heap.get? b' = some o := by
        obtain ⟨o4, g4, _⟩ := h4
        obtain ⟨o5, g5, _⟩ := h5
        obtain ⟨a1, a2, g3⟩ := h3
        simp only [List.mem_cons, List.not_mem_nil, or_false] at hb'
        rcases hb' with rfl | rfl | rfl | rfl | rfl
        · exact ⟨_, h1⟩
        · exact ⟨_, h2⟩
        · exact ⟨_, g3⟩
        · exact ⟨_, g4⟩
        · exact ⟨_, g5⟩
      obtain ⟨o, e⟩ := this
      exact absurd (Heap.lt_size e) (Nat.not_lt.mpr hle)
    rw [upd_ne hbT]
    exact (fp b' hb').1
  done := fun X hP hw hK hc i pins s σ H E I fp tn go => by
    subst hP hw hK
    obtain ⟨h1, h2, h3, h4, h5, h6, h7⟩ := tn
    obtain ⟨g1, ys, hy, hl⟩ := go
    obtain ⟨its, rv, ht, hz⟩ := I.tuple hy
    have hd := I.ok.hd hc
    have hlen : its.length = n := by rw [← rv.length, hl]
    have W := WalksT.zipD2 (prog := X.prog) (w := X.w) (A := X.A) hs.sep (Draws.text (by exact hd) i1 x t) (Draws.tuple (by exact hd) i2 b hs.bi its.toArray)
    have e : its.toArray.size = its.length := List.size_toArray
    have hi : i = min x.cps.size its.toArray.size := by omega
    refine W.done s _ E (by rw [← hi]; exact ⟨h1, h2, h3, h4, h5, ht⟩) fun h' tk hk => ⟨rfl, ?_⟩
    exact I.turnedL (ch := [z, TO, i1, i2]) hk fun b' hb => fp b' (by
      simp only [List.mem_cons, List.not_mem_nil, or_false] at hb ⊢
      rcases hb with h | h | h | h <;> simp [h])
  self := fun A i s Q E tn q => wpAny_pyIter_zip tn.1 q
def iZipS (K : PySem.W.Frag) (ta : TA) : TI := fun σ H R => ta σ H fun vs H1 => ∃ x b ys, vs = [V.str x, V.ref b] ∧ SqT K H1 b ys ∧ R (ItzS K x b ys.length) H1
theorem pi_zipS {X : Cx} {e e2 : Expr} {ta : TA} {p pos tpos : Pos} {elts : List Expr} {kk : Nat} (hg : Gl X "zip") (hm : X.mg "zip" = none) (ha : PA X [e, e2] ta)
    (hs : starEach [e, e2] X.env = (false, eval e X.env) :: starEach [e2] X.env := by rfl) (hpl : (backTo pos (starEach [e2] X.env)).any (·.1) = false := by rfl) :
    PI X (.Tuple elts kk tpos) (.Call (.Name "zip" p) [e, e2] [] pos) (iZipS X.K ta) := by
  refine ⟨fun pins s σ H R I h => ?_⟩
  refine wpAny_Call_Name_kw (ld_blt (u := .type "zip") I hg hm (by rfl) ?_)
  refine PyProof.Rows.callWith_type1 (thn (ha.run pos pins s σ H _ I h) fun us s1 ⟨vs, H1, I1, rv, x, b, ys, e1, hy, q⟩ => ?_) hs hpl
  subst e1
  cases rv with
  | cons r1 rv => cases rv with
    | cons r2 rv => cases rv with
      | nil =>
        obtain ⟨t, rfl⟩ := r1
        cases r2
        obtain ⟨its, rv, ht, hz⟩ := I1.tuple hy
        have hbl : b < s1.heap.objs.size := by
          obtain ⟨o, e, _⟩ := ht
          exact Heap.lt_size e
        refine zip_begins2 (begins_text x t) (begins_tuple b its.toArray) trivial ht fun h' k1 k2 k3 k4 k5 k6 k7 => ?_
        refine wpAny_pyIter_zip k1 ?_
        have sep : ZsSep (s1.heap.objs.size + 4) (s1.heap.objs.size + 2) (s1.heap.objs.size + 3) s1.heap.objs.size (s1.heap.objs.size + 1) b := by
          have z1 : ∀ k : Nat, b ≠ s1.heap.objs.size + k := fun k e => by rw [e] at hbl; exact absurd hbl (Nat.not_lt.mpr (Nat.le_add_right _ _))
          have z0 : b ≠ s1.heap.objs.size := z1 0
          have a1 : ∀ i j : Nat, i ≠ j → s1.heap.objs.size + i ≠ s1.heap.objs.size + j := fun i j h e => h (Nat.add_left_cancel e)
          have a0 : ∀ j : Nat, 0 ≠ j → s1.heap.objs.size ≠ s1.heap.objs.size + j := fun j h e => h (Nat.add_left_cancel (show s1.heap.objs.size + 0 = s1.heap.objs.size + j from e))
          refine ⟨⟨a1 _ _ (by decide), a1 _ _ (by decide), a1 _ _ (by decide), (a0 2 (by decide)).symm, by simp, ?_, ?_, a1 _ _ (by decide), by simp, ?_, ?_, ?_, ?_⟩, z1 1⟩
          all_goals simp only [List.mem_cons, List.not_mem_nil, or_false, not_or]
          · exact (a0 4 (by decide)).symm
          · exact (a0 3 (by decide)).symm
          · exact ⟨a1 _ _ (by decide), (z1 4).symm⟩
          · exact ⟨a1 _ _ (by decide), (z1 3).symm⟩
          · exact ⟨a0 1 (by decide), z0.symm⟩
          · exact (a0 1 (by decide)).symm
        refine ⟨_, [s1.heap.objs.size + 4, s1.heap.objs.size + 2, s1.heap.objs.size + 3, s1.heap.objs.size, s1.heap.objs.size + 1], _, _, H1, rfl, I1.kept (t' := s1.toks) k7, turn_zipS (t := t) (n := ys.length) sep, ⟨k1, k2, ⟨_, _, k3⟩, ⟨_, k4, rfl, rfl⟩, ⟨_, k5, rfl, rfl⟩, Nat.zero_le _, Nat.zero_le _⟩, fun b' hb => ?_, q⟩
        have hle : s1.heap.objs.size ≤ b' := by
          simp only [List.mem_cons, List.not_mem_nil, or_false] at hb
          rcases hb with rfl | rfl | rfl | rfl | rfl
          · exact Nat.le_add_right _ _
          · exact Nat.le_add_right _ _
          · exact Nat.le_add_right _ _
          · exact Nat.le_refl _
          · exact Nat.le_add_right _ _
        exact I1.fpOk hle (I1.hok.fresh hle)
def sgD (x : Str) : List DV := x.cps.toList.map fun c => .str ⟨#[c]⟩
def iZipSD (t : DA) : DI := fun δ m R => t δ m fun ds m1 => match ds with
  | [.str x, d] => match asT d with
    | some ys => R ⟨zipD (sgD x) ys, fun _ => True, none⟩ m1
    | none => False
  | _ => False
theorem qi_zipS {X : Cx} {G : Gam} {e e2 : Expr} {wl : DA} {p pos tpos : Pos} {elts : List Expr} {kk : Nat} (hK : X.K = G.K) (hg : Gl X "zip") (hm : X.mg "zip" = none) (ha : PA X [e, e2] (LA G wl))
    (hs : starEach [e, e2] X.env = (false, eval e X.env) :: starEach [e2] X.env := by rfl) (hpl : (backTo pos (starEach [e2] X.env)).any (·.1) = false := by rfl) :
    PI X (.Tuple elts kk tpos) (.Call (.Name "zip" p) [e, e2] [] pos) (LI X G (iZipSD wl)) := by
  have base := pi_zipS (tpos := tpos) (elts := elts) (kk := kk) (p := p) hg hm ha hs hpl
  refine ⟨fun pins s σ H R I h => base.run pins s σ H R I ?_⟩
  obtain ⟨F, m, δ, R0, r, sr, h, k⟩ := h
  refine ⟨F, m, δ, _, r, sr, h, fun ds m1 vs F1 H1 q e1 r1 v1 => ?_⟩
  match ds, q with
  | [.str x, d], q =>
    obtain ⟨v, w, rfl, rv, rw'⟩ := v1.two_inv
    dsimp only at q
    rw [hK]
    cases ed : asT d with
    | none => rw [ed] at q; exact False.elim q
    | some ys =>
      rw [ed] at q
      cases rv
      obtain ⟨b, ws, rfl, hl2, hr2⟩ := asT_ok r1 rw' ed
      refine ⟨x, b, ws, rfl, hl2, k _ _ _ _ _ q e1 r1 ?_ fun pk e => by cases e⟩
      intro i F' m' H' e r s
      obtain ⟨ws2, g3, g4⟩ := asT_stay rw' e r ed
      have hl3 : ws2.length = ws.length := by rw [g4.length, hr2.length]
      refine ⟨fun z hz => ?_, fun hz => ?_⟩
      · dsimp only at hz
        rw [zipD_get] at hz
        unfold sgD at hz
        rw [List.getElem?_map] at hz
        cases ec : x.cps.toList[i]? with
        | none => rw [ec] at hz; cases hz
        | some c =>
          cases ey : ys[i]? with
          | none => rw [ec, ey] at hz; cases hz
          | some y =>
            rw [ec, ey] at hz
            cases hz
            have hc : x.cps[i]? = some c := by rw [← ec, Array.getElem?_toList]
            obtain ⟨u, hu, ru⟩ := g4.get ey
            refine ⟨⟨(Array.getElem?_eq_some_iff.mp hc).1, ?_, ws2, g3, hl3⟩, fun v H2 hv => ?_⟩
            · have := (List.getElem?_eq_some_iff.mp hu).1
              omega
            · obtain ⟨T, c2, y2, rfl, hT, rfl, hc2, hy2⟩ := hv
              rw [hc] at hc2; cases hc2
              have := hy2 ws2 g3
              rw [hu] at this; cases this
              have eF := Ex.new (o := .tup [.str ⟨#[c]⟩, u]) (r.freeF hT)
              exact ⟨_, eF, r.data hT, .tup upd_same (.cons (.str _) (.cons (ru.mono eF) .nil))⟩
      · dsimp only at hz
        rw [zipD_get] at hz
        unfold sgD at hz
        rw [List.getElem?_map] at hz
        refine ⟨?_, ws2, g3, hl3⟩
        cases ec : x.cps.toList[i]? with
        | none =>
          left
          have := List.getElem?_eq_none_iff.mp ec
          rwa [Array.length_toList] at this
        | some c =>
          cases ey : ys[i]? with
          | none =>
            right
            have := List.getElem?_eq_none_iff.mp ey
            rw [hr2.length]; exact this
          | some y => rw [ec, ey] at hz; cases hz
end DL
namespace DL
open PySem PySem.Spec PySem.W PyProof.Rows L2
def mergeD (kvs more : List (Key × DV)) : List (Key × DV) := more.foldl (fun acc kv => putD acc kv.1 kv.2) kvs
theorem KR.merge {K : PySem.W.Frag} {F : Hp} : ∀ {more : List (Key × V)} {ms : List (Key × DV)} {kvs : List (Key × V)} {ds : List (Key × DV)}, KR K F more ms → KR K F kvs ds → (kvs.map (·.1)).Nodup → KR K F (mergeK kvs more) (mergeD ds ms)
  | [], [], _, _, _, h, _ => h
  | (k, v) :: more, (k2, d) :: ms, kvs, ds, .cons ⟨e, r⟩ t, h, hn => by
    have e : k = k2 := e
    subst e
    have hk := KR.put h hn k (v := v) (d := d) r
    have hn2 : ((putK kvs k v).map (·.1)).Nodup := by
      rw [KR.keys hk]
      refine putD_nodup ?_
      rw [← KR.keys h]; exact hn
    exact KR.merge (more := more) (ms := ms) (kvs := putK kvs k v) (ds := putD ds k d) t hk hn2
theorem kvv_keys : ∀ {a : List (Key × V)} {b : List (Key × Value)}, KV a b → a.map (·.1) = b.map (·.1)
  | [], [], _ => rfl
  | x :: a, y :: b, .cons e t => by rw [List.map_cons, List.map_cons, e.1, kvv_keys (a := a) (b := b) t]
def mUpd : DM := fun d ds m Q => ∃ p q kvs more, d = .ref p ∧ ds = [.ref q] ∧ p ≠ q ∧ m p = some (.dct kvs) ∧ m q = some (.dct more) ∧ kvs.length + more.length ≤ sizeLine ∧ Q .non (put m p (.dct (mergeD kvs more)))
section
variable {X : Cx} {G : Gam}
theorem md_update : MtR X "dict.update" (LM G mUpd) := by
  intro pins s σ H x vs v us Q I rx rv h
  obtain ⟨F, m, d, ds, Q0, r, r1, r2, h, k⟩ := h
  obtain ⟨p, q, kvs, more, rfl, rfl, hpq, hp, hq, hl, h⟩ := h
  cases r1
  obtain ⟨z, rfl, rz⟩ := r2.one_inv
  cases rz
  cases rx
  cases rv with
  | cons rq t =>
    cases t
    cases rq
    obtain ⟨_, u, hu, kv, rfl, hr⟩ := r.mo p _ hp
    obtain ⟨_, u2, hu2, kv2, rfl, hr2⟩ := r.mo q _ hq
    obtain ⟨l1, sy1, vs1, kv1, D1⟩ := I.hok p _ hu
    obtain ⟨l2, sy2, vs2, kv2', D2⟩ := I.hok q _ hu2
    have D1' := D1
    have D2' := D2
    obtain ⟨o1, es1, ep1, g1, x1, dt1, _, _, nd1⟩ := D1'
    have n1 : vs1.length = kv.length := (Paired.length kv1).symm
    have n2 : vs2.length = kv2.length := (Paired.length kv2').symm
    have n3 := KR.length hr
    have n4 := KR.length hr2
    refine call_meetsIn (T := "dict") PySem.F.slot_dict_update ⟨o1, g1, x1.1⟩ PySem.F.entry_dict_update (PySem.F.args_dict_update_2 _ _) (meets_dict_update (mixKind X.prog X.w) p q hpq sy2) ⟨vs1, vs2, D1, D2, by omega, fun h' d1 d2 sb => ?_⟩
    have hmer : KV (mergeK kv kv2) (merged vs1 vs2) := KV.merge kv2' kv1
    have hkn : (kv.map (·.1)).Nodup := by
      have : kv.map (·.1) = vs1.map (·.1) := kvv_keys kv1
      rw [this]; exact nd1
    have hm2 := KR.merge hr2 hr hkn
    have hlen : (mergeK kv kv2).length ≤ sizeLine := by
      have : ∀ (b : List (Key × V)) (a : List (Key × V)), (mergeK a b).length ≤ a.length + b.length := fun b => by
        induction b with
        | nil => intro a; exact Nat.le_refl _
        | cons y t ih =>
          intro a
          show (mergeK (putK a y.1 y.2) t).length ≤ _
          have h1 := ih (putK a y.1 y.2)
          have h2 : (putK a y.1 y.2).length ≤ a.length + 1 := by
            unfold putK; split
            · rw [List.length_map]; omega
            · rw [List.length_append, List.length_singleton]; omega
          rw [List.length_cons]; omega
      have := this kv2 kv
      omega
    have d1' := d1
    obtain ⟨o3, es3, ep3, g3, _⟩ := d1'
    refine ⟨.non, upd H p (.dK (mergeK kv kv2)), d_write (t' := s.toks) I (by rw [hu]; trivial) sb ⟨_, g3⟩ ⟨hlen, sy1, _, hmer, d1⟩, rfl, k _ _ _ _ _ h (Ex.refl F) (r.write hp ⟨_, rfl, hm2⟩) .non⟩
end
theorem tp_const {X : Cx} {G : Gam} : ∀ {kvs : List (Str × DV)} {F : Hp} {m : Sto} {H : Hp} {σ : L2.St} {δ : Slots} {P : List (V × V) → Hp → Prop}, Rel G F m H → SR G.K F σ δ →
    (∀ (vs : List (Str × V)) F' H', Ex F F' → Rel G F' m H' → Paired (fun (a : Str × V) (b : Str × DV) => a.1 = b.1 ∧ VR G.K F' a.2 b.2) vs kvs → P (vs.map fun a => (V.str a.1, a.2)) H') →
    tPairs (kvs.map fun a => (LE G (wC (.str a.1)), LE G (wC a.2))) σ H P
  | [], F, m, H, σ, δ, P, r, s, q => q [] F H (Ex.refl F) r .nil
  | a :: t, F, m, H, σ, δ, P, r, s, q => by
    show LE G (wC (.str a.1)) σ H fun k H1 => LE G (wC a.2) σ H1 fun v H2 => tPairs (t.map fun a => (LE G (wC (.str a.1)), LE G (wC a.2))) σ H2 fun ps H3 => P ((k, v) :: ps) H3
    refine ⟨F, m, δ, fun d m' => d = .str a.1 ∧ m' = m, r, s, ⟨rfl, rfl⟩, fun d m1 v F1 H1 hh x1 r1 v1 => ?_⟩
    obtain ⟨rfl, rfl⟩ := hh
    cases v1
    refine ⟨F1, m1, δ, fun d m' => d = a.2 ∧ m' = m1, r1, s.mono x1, ⟨rfl, rfl⟩, fun d m2 v F2 H2 hh x2 r2 v2 => ?_⟩
    obtain ⟨rfl, rfl⟩ := hh
    exact tp_const (X := X) (kvs := t) r2 (s.mono (x1.trans x2)) fun vs F' H' x r' pr => q ((a.1, v) :: vs) F' H' ((x1.trans x2).trans x) r' (.cons ⟨rfl, v2.mono x⟩ pr)
def kvD (kvs : List (Str × DV)) : List (Key × DV) := kvs.map fun a => (Sum.inr a.1, a.2)
def wDispC (kvs : List (Str × DV)) : DE := fun _ m Q => ∀ p, m p = none → Q (.ref p) (put m p (.dct (mergeD [] (kvD kvs))))
theorem qe_dispC {X : Cx} {G : Gam} {pos : Pos} {keys : List (Option Expr)} {values : List Expr} {kvs : List (Str × DV)} (hp : PPs X pos keys values (kvs.map fun a => (LE G (wC (.str a.1)), LE G (wC a.2))))
    (h1 : (keys.all fun x => x.isSome) = true) (h2 : keys.length = values.length) (h3 : keys ≠ []) (h4 : keys.length ≤ 15) (h5 : kvs.length ≤ 15) : PE X (.Dict keys values pos) (LE G (wDispC kvs)) :=
  PE.imp (pe_disp hp h1 h2 h3 h4) fun σ H Q h => by
    obtain ⟨F, m, δ, Q0, r, s, h, k⟩ := h
    intro p hH
    have r0 : Rel G F (put m p (.dct [])) (upd H p (.dK [])) := r.newM hH ⟨[], rfl, .nil⟩
    refine tp_const (X := X) r0 s fun vs F' H' x r' pr => ?_
    have hpd : (put m p (.dct [])) p = some (.dct []) := put_same
    obtain ⟨_, u, hu, kv, rfl, hr⟩ := r'.mo p _ hpd
    cases hr
    refine ⟨hu, vs.map fun a => (Sum.inr a.1, a.2), ?_, ?_, ?_⟩
    · rw [List.map_map]; rfl
    · rw [List.length_map, Paired.length pr]; exact h5
    · have hk : KR G.K F' (vs.map fun a => ((Sum.inr a.1 : Key), a.2)) (kvD kvs) := by
        clear hu r' r0 h hp h5
        unfold kvD KR
        induction pr with
        | nil => exact .nil
        | cons a t ih => exact .cons ⟨congrArg Sum.inr a.1, a.2⟩ ih
      have := r'.write hpd (o := .dct (mergeD [] (kvD kvs))) ⟨_, rfl, KR.merge (kvs := []) (ds := []) hk .nil .nil⟩
      rw [put_put] at this
      exact k _ _ _ _ _ (h p (r.freeM hH)) x this (.ref p)
theorem qe_negC {X : Cx} {G : Gam} {e : Expr} {i : Int} (h : PE X e (LE G (wNeg (wC (.int i))))) : PE X e (LE G (wC (.int (-i)))) := PE.imp h fun σ H Q h => h
def dIntS : DSp := fun ds m Q => match ds with
  | [.str a] => ∃ n, PySem.intText? a = some n ∧ a.length ≤ 640 ∧ Q (.int n) m
  | _ => False
theorem cd_intS {X : Cx} {G : Gam} : CallR X (.type "int") (LC G dIntS) := by
  intro pins s σ H vs us Q I rr h
  obtain ⟨F, m, ds, Q0, r, rv, h, k⟩ := h
  match ds, h with
  | [.str a], h =>
    obtain ⟨v, rfl, rd⟩ := rv.one_inv
    cases rd
    obtain ⟨n, h1, h2, h3⟩ := h
    exact call_int_str pins s σ H _ us Q I rr ⟨a, n, rfl, h1, h2, k _ _ _ _ _ h3 (Ex.refl F) r (.int _)⟩
def dMulS : D2 := fun x y m Q => match x, y with
  | .str x, .int n => MulOk x n ∧ Q (.str (Txt.mul x n)) m
  | _, _ => False
theorem od_mulS {X : Cx} {G : Gam} : OpR X (binaryOp .Mult) (LR2 G dMulS) := by
  intro pins s σ H x y v u Q I rx ry h
  obtain ⟨F, m, d1, d2, Q0, r, v1, v2, h, k⟩ := h
  cases v1 <;> cases v2 <;> first | exact False.elim h | skip
  obtain ⟨t, rfl⟩ := rx
  obtain ⟨t2, rfl⟩ := ry
  exact SB.mul h.1 fun t' k' => ⟨.str _, H, I.kept (t' := k') fun b u e => e, ⟨t', rfl⟩, k _ _ _ _ _ h.2 (Ex.refl F) r (.str _)⟩
def dIsB (neg : Bool) : D2 := fun x y m Q => match x, y with
  | .bl a, .bl b => Q (.bl (xor neg (decide (a = b)))) m
  | _, _ => False
theorem od_isB {X : Cx} {G : Gam} (neg : Bool) {op : CmpOp} (ho : op = if neg = true then .IsNot else .Is) : OpR X (compareOp op) (LR2 G (dIsB neg)) := by
  intro pins s σ H x y v u Q I rx ry h
  obtain ⟨F, m, d1, d2, Q0, r, v1, v2, h, k⟩ := h
  cases v1 <;> cases v2 <;> first | exact False.elim h | skip
  rename_i a b
  cases neg with
  | true =>
    subst ho
    exact op_isnot_bl pins s σ H _ _ v u Q I rx ry ⟨a, b, rfl, rfl, by
      have h : Q0 (.bl (xor true (decide (a = b)))) m := h
      rw [Bool.true_xor] at h
      exact k _ _ _ _ _ h (Ex.refl F) r (.bl _)⟩
  | false =>
    subst ho
    exact op_is_bl pins s σ H _ _ v u Q I rx ry ⟨a, b, rfl, rfl, by
      have h : Q0 (.bl (xor false (decide (a = b)))) m := h
      rw [Bool.false_xor] at h
      exact k _ _ _ _ _ h (Ex.refl F) r (.bl _)⟩
end DL
namespace DL
open PySem PySem.Spec PySem.W PyProof.Rows L2
abbrev Tb := List (Str × List Str)
def lkT : Tb → Str → Option (List Str)
  | [], _ => none
  | (k, ks) :: t, z => if k = z then some ks else lkT t z
structure TabK (K : PySem.W.Frag) (w : World) (a : Addr) (tab : Tb) : Prop where
  kd : ∃ es n, KDict K w a es n
  no : ∀ z, lkT tab z = none → nsIn K a z = some none
  yes : ∀ z ks, lkT tab z = some ks → ∃ p, nsIn K a z = some (some (.ref p)) ∧ SqT K (fun _ => none) p (ks.map V.str)
def strsB : List Value → List Str → Bool
  | [], [] => true
  | .str x _ :: vs, y :: ys => decide (x = y) && strsB vs ys
  | _, _ => false
def tupB (K : PySem.W.Frag) (p : Addr) (ks : List Str) : Bool := match K.lookup p with
  | some ⟨.type c, _, .seq its _, _⟩ => decide (c = "tuple") && (decide (its.size ≤ 1000) && strsB its.toList ks)
  | _ => false
def entB (K : PySem.W.Frag) : List DictEntry → Tb → Bool
  | [], [] => true
  | ⟨_, .str k _, .ref p⟩ :: es, (k', ks) :: t => decide (k = k') && (tupB K p ks && entB K es t)
  | _, _ => false
def tabB (K : PySem.W.Frag) (a : Addr) (tab : Tb) : Bool := match K.lookup a with
  | some ⟨_, _, .dict es _, _⟩ => entB K es.toList tab
  | _ => false
theorem strsB_ok : ∀ {vs : List Value} {ys : List Str}, strsB vs ys = true → Vals (ys.map V.str) vs
  | [], [], _ => .nil
  | .str x t :: vs, y :: ys, h => by
    unfold strsB at h
    rw [Bool.and_eq_true] at h
    have := of_decide_eq_true h.1
    subst this
    exact .cons ⟨t, rfl⟩ (strsB_ok h.2)
  | [], _ :: _, h => Bool.noConfusion h
  | v :: vs, [], h => by cases v <;> exact Bool.noConfusion h
theorem tupB_ok {K : PySem.W.Frag} {p : Addr} {ks : List Str} (h : tupB K p ks = true) : SqT K (fun _ => none) p (ks.map V.str) := by
  unfold tupB at h
  split at h
  · rename_i c d its n sl e
    rw [Bool.and_eq_true, Bool.and_eq_true] at h
    have hc := of_decide_eq_true h.1
    subst hc
    have hz := of_decide_eq_true h.2.1
    exact .inr ⟨_, its, n, e, rfl, rfl, by rw [sizeLine_eq]; omega, strsB_ok h.2.2⟩
  · cases h
theorem entB_ref {K : PySem.W.Frag} : ∀ {es : List DictEntry} {tab : Tb}, entB K es tab = true → (es.any fun e => e.refKey) = false
  | [], [], _ => rfl
  | ⟨_, .str k _, .ref p⟩ :: es, (k', ks) :: t, h => by
    unfold entB at h
    rw [Bool.and_eq_true, Bool.and_eq_true] at h
    rw [List.any_cons, entB_ref h.2.2]; rfl
  | [], _ :: _, h => Bool.noConfusion h
  | ⟨_, k, v⟩ :: es, [], h => by cases k <;> cases v <;> exact Bool.noConfusion h
theorem entB_no {K : PySem.W.Frag} {z : Str} : ∀ {es : List DictEntry} {tab : Tb}, entB K es tab = true → lkT tab z = none → es.find? (fun e => e.key.isStr z) = none
  | [], [], _, _ => rfl
  | ⟨_, .str k t', .ref p⟩ :: es, (k', ks) :: t, h, hl => by
    unfold entB at h
    rw [Bool.and_eq_true, Bool.and_eq_true] at h
    have hk := of_decide_eq_true h.1
    subst hk
    unfold lkT at hl
    split at hl
    · cases hl
    · rename_i hne
      show (match (k == z) with
        | true => some _
        | false => es.find? fun e => e.key.isStr z) = none
      rw [beq_eq_false_iff_ne.mpr hne]
      exact entB_no h.2.2 hl
  | [], _ :: _, h, _ => Bool.noConfusion h
  | ⟨_, k, v⟩ :: es, [], h, _ => by cases k <;> cases v <;> exact Bool.noConfusion h
theorem entB_yes {K : PySem.W.Frag} {z : Str} {ks : List Str} : ∀ {es : List DictEntry} {tab : Tb}, entB K es tab = true → lkT tab z = some ks → ∃ e p, es.find? (fun e => e.key.isStr z) = some e ∧ e.val = .ref p ∧ SqT K (fun _ => none) p (ks.map V.str)
  | [], [], _, h => by cases h
  | ⟨hh, .str k t', .ref p⟩ :: es, (k', ks') :: t, h, hl => by
    unfold entB at h
    rw [Bool.and_eq_true, Bool.and_eq_true] at h
    have hk := of_decide_eq_true h.1
    subst hk
    unfold lkT at hl
    split at hl
    · rename_i he
      cases hl
      refine ⟨⟨hh, .str k t', .ref p⟩, p, ?_, rfl, tupB_ok h.2.1⟩
      exact List.find?_cons_of_pos (show (k == z) = true from beq_iff_eq.mpr he)
    · rename_i hne
      obtain ⟨e, p2, h1, h2⟩ := entB_yes h.2.2 hl
      refine ⟨e, p2, ?_, h2⟩
      show (match (k == z) with
        | true => some _
        | false => es.find? fun e => e.key.isStr z) = some e
      rw [beq_eq_false_iff_ne.mpr hne]
      exact h1
  | [], _ :: _, h, _ => Bool.noConfusion h
  | ⟨_, k, v⟩ :: es, [], h, _ => by cases k <;> cases v <;> exact Bool.noConfusion h
theorem tabB_ok {K : PySem.W.Frag} {w : World} {a : Addr} {tab : Tb} (h : tabB K a tab = true) (kd : ∃ es n, KDict K w a es n) : TabK K w a tab := by
  refine ⟨kd, fun z hz => ?_, fun z ks hz => ?_⟩
  · unfold tabB at h
    split at h
    · rename_i c d es n sl e
      unfold nsIn
      simp only [e, entB_no h hz, entB_ref h]
      rfl
    · cases h
  · unfold tabB at h
    split at h
    · rename_i c d es n sl e
      obtain ⟨en, p, h1, h2, h3⟩ := entB_yes h hz
      refine ⟨p, ?_, h3⟩
      unfold nsIn
      simp only [e, h1, h2]
    · cases h
def wKin (neg : Bool) (tab : Tb) (w : DE) : DE := fun δ m Q => w δ m fun d m1 => match d with
  | .str z => Q (.bl (xor neg (lkT tab z).isSome)) m1
  | _ => False
def wKget (tab : Tb) (w : DE) : DE := fun δ m Q => w δ m fun d m1 => match d with
  | .str z => match lkT tab z with
    | some ks => Q (.ktup (ks.map .str)) m1
    | none => False
  | _ => False
section
variable {X : Cx} {G : Gam} {a : Addr} {tab : Tb} {e : Expr} {w : DE} {x : Str} {p pos : Pos}
theorem qe_ktup {ks : List Str} (hK : X.K = G.K) (h : SqT X.K (fun _ => none) a (ks.map V.str)) (hg : Gl X x) (hm : X.mg x = some (.ref a)) (hd : (x == ("__debug__" : Str)) = false := by decide) : PE X (.Name x pos) (LE G (wC (.ktup (ks.map .str)))) :=
  qe_glob (v := .ref a) hg hm rfl (fun F => .ktup (by rw [← hK]; exact h) (vrs_strs ks)) hd
theorem le_kin {neg : Bool} {r : R2} (T : TabK X.K X.w a tab) (hr : ∀ z o H Q, nsIn X.K a z = some o → Q (V.bl (xor neg o.isSome)) H → r (.str z) (.ref a) H Q) {σ : L2.St} {H : Hp} {Q : VK} (h : LE G (wKin neg tab w) σ H Q) : tOp r (LE G w) (tC (.ref a)) σ H Q := by
  obtain ⟨F, m, δ, Q0, rr, s, h, k⟩ := h
  refine ⟨F, m, δ, _, rr, s, h, fun d m1 v F1 H1 q e1 r1 v1 => ?_⟩
  cases v1 <;> first | exact False.elim q | skip
  rename_i z
  show r (.str z) (.ref a) H1 Q
  cases el : lkT tab z with
  | none =>
    have q : Q0 (.bl (xor neg (lkT tab z).isSome)) m1 := q
    rw [el] at q
    exact hr z none H1 Q (T.no z el) (k _ _ _ _ _ q e1 r1 (.bl _))
  | some ks =>
    have q : Q0 (.bl (xor neg (lkT tab z).isSome)) m1 := q
    rw [el] at q
    obtain ⟨pt, hp, _⟩ := T.yes z ks el
    exact hr z (some (.ref pt)) H1 Q hp (k _ _ _ _ _ q e1 r1 (.bl _))
theorem kin_op (neg : Bool) {op : CmpOp} (ho : op = if neg = true then .NotIn else .In) (T : TabK X.K X.w a tab) : ∃ r, OpR X (compareOp op) r ∧ ∀ z o H Q, nsIn X.K a z = some o → Q (V.bl (xor neg o.isSome)) H → r (.str z) (.ref a) H Q := by
  obtain ⟨es, n, kd⟩ := T.kd
  cases neg with
  | true =>
    subst ho
    exact ⟨_, op_notIn_kd kd, fun z o H Q h q => ⟨z, o, rfl, rfl, h, by rw [Bool.true_xor] at q; exact q⟩⟩
  | false =>
    subst ho
    exact ⟨_, op_in_kd kd, fun z o H Q h q => ⟨z, o, rfl, rfl, h, by rw [Bool.false_xor] at q; exact q⟩⟩
theorem qe_kin (neg : Bool) {op : CmpOp} (ho : op = if neg = true then .NotIn else .In) (T : TabK X.K X.w a tab) (he : PE X e (LE G w)) (hg : Gl X x) (hm : X.mg x = some (.ref a)) (hmk : behindInMarks op (.Name x p) = false := by rfl) (hd : (x == ("__debug__" : Str)) = false := by decide) :
    PE X (.Compare e [op] [.Name x p] pos) (LE G (wKin neg tab w)) := by
  obtain ⟨r, hop, hr⟩ := kin_op neg ho T
  exact PE.imp (pe_cmpR hop he (pe_glob (v := .ref a) hg hm rfl hd) hmk) fun σ H Q h => le_kin T hr h
theorem qt_kin (neg : Bool) {op : CmpOp} (ho : op = if neg = true then .NotIn else .In) (T : TabK X.K X.w a tab) (he : PE X e (LE G w)) (hg : Gl X x) (hm : X.mg x = some (.ref a)) (hmk : behindInMarks op (.Name x p) = false := by rfl) (hd : (x == ("__debug__" : Str)) = false := by decide) :
    PT X (.Compare e [op] [.Name x p] pos) (LT G (wBl (wKin neg tab w))) := by
  obtain ⟨r, hop, hr⟩ := kin_op neg ho T
  exact PT.imp (pt_cmpR hop he (pe_glob (v := .ref a) hg hm rfl hd) hmk) fun σ H Q h => by
    obtain ⟨F, m, δ, Q0, r, s, h, k⟩ := lt_bl h
    exact le_kin T hr ⟨F, m, δ, Q0, r, s, h, k⟩
theorem qe_kget (hK : X.K = G.K) (T : TabK X.K X.w a tab) (he : PE X e (LE G w)) (hg : Gl X x) (hm : X.mg x = some (.ref a)) (hs : ∀ lo hi st p, e ≠ .Slice lo hi st p) (hd : (x == ("__debug__" : Str)) = false := by decide) :
    PE X (.Subscript (.Name x p) e pos) (LE G (wKget tab w)) := by
  obtain ⟨es, n, kd⟩ := T.kd
  refine PE.imp (pe_ix ix_kdict (pe_glob (v := .ref a) hg hm rfl hd) he (plainIx_of hs)) fun σ H Q h => ?_
  obtain ⟨F, m, δ, Q0, rr, s, h, k⟩ := h
  show LE G w σ H fun y H2 => _
  refine ⟨F, m, δ, _, rr, s, h, fun d m1 v F1 H1 q e1 r1 v1 => ?_⟩
  cases v1 <;> first | exact False.elim q | skip
  rename_i z
  cases el : lkT tab z with
  | none =>
    dsimp only at q
    rw [el] at q
    exact False.elim q
  | some ks =>
    dsimp only at q
    rw [el] at q
    obtain ⟨pt, hp, hq⟩ := T.yes z ks el
    exact ⟨a, z, .ref pt, rfl, rfl, ⟨es, n, .ref pt, kd.at_, kd.lit, hp, rfl⟩, k _ _ _ _ _ q e1 r1 (.ktup (by rw [← hK]; exact hq) (vrs_strs ks))⟩
end
end DL
namespace DL
open PySem PySem.Spec PySem.W PyProof.Rows L2
def iStrD (w : DE) : DI := fun δ m R => w δ m fun d m1 => match d with
  | .str x => R ⟨sgD x, fun _ => True, none⟩ m1
  | _ => False
theorem qi_strD {X : Cx} {G : Gam} {tg e : Expr} {w : DE} (he : PE X e (LE G w)) : PI X tg e (LI X G (iStrD w)) := by
  have base : PI X tg e (iStr (LE G w)) := pi_str he
  refine ⟨fun pins s σ H R I h => base.run pins s σ H R I ?_⟩
  obtain ⟨F, m, δ, R0, r, sr, h, k⟩ := h
  refine ⟨F, m, δ, _, r, sr, h, fun d m1 v F1 H1 q e1 r1 v1 => ?_⟩
  cases v1 <;> first | exact False.elim q | skip
  rename_i x
  refine ⟨x, rfl, k _ _ _ _ _ q e1 r1 ?_ fun pk e => by cases e⟩
  intro i F' m' H' e r s
  refine ⟨fun z hz => ?_, fun hz => ?_⟩
  · dsimp only at hz
    unfold sgD at hz
    rw [List.getElem?_map] at hz
    cases ec : x.cps.toList[i]? with
    | none => rw [ec] at hz; cases hz
    | some c =>
      rw [ec] at hz
      cases hz
      have hc : x.cps[i]? = some c := by rw [← ec, Array.getElem?_toList]
      refine ⟨(Array.getElem?_eq_some_iff.mp hc).1, fun v H2 hv => ?_⟩
      obtain ⟨rfl, c2, hc2, rfl⟩ := hv
      rw [hc] at hc2; cases hc2
      exact ⟨F', Ex.refl F', r, .str _⟩
  · dsimp only at hz
    unfold sgD at hz
    rw [List.getElem?_map] at hz
    cases ec : x.cps.toList[i]? with
    | none =>
      have := List.getElem?_eq_none_iff.mp ec
      rwa [Array.length_toList] at this
    | some c => rw [ec] at hz; cases hz
def dAddT : D2 := fun x y m Q => match x, y with
  | .tup xs, .tup ys => xs.length + ys.length ≤ sizeLine ∧ Q (.tup (xs ++ ys)) m
  | _, _ => False
theorem od_addT {X : Cx} {G : Gam} (hK : X.K = G.K) : OpR X (binaryOp .Add) (LR2 G dAddT) := by
  intro pins s σ H x y v u Q I rx ry h
  obtain ⟨F, m, d1, d2, Q0, r, v1, v2, h, k⟩ := h
  cases v1 <;> cases v2 <;> first | exact False.elim h | skip
  rename_i a vs ds hs hr b ws es ht hw
  obtain ⟨hl, q⟩ := h
  refine op_catA pins s σ H _ _ v u Q I rx ry ⟨a, b, vs, ws, rfl, rfl, SqT.of (r.ex _ _ hs), SqT.of (r.ex _ _ ht), by rw [hr.length, hw.length]; exact hl, fun e => ?_, fun _ e => ?_, fun _ _ p hp => ?_⟩
  · subst e
    cases hr
    exact k _ _ _ _ _ q (Ex.refl F) r (.tup ht hw)
  · subst e
    cases hw
    rw [List.append_nil] at q
    exact k _ _ _ _ _ q (Ex.refl F) r (.tup hs hr)
  · have eF := Ex.new (o := .tup (vs ++ ws)) (r.freeF hp)
    exact k _ _ _ _ _ q eF (r.data hp) (.tup upd_same (VRs.mono eF (hr.append hw)))
end DL
namespace Law
open PySem PySem.Spec PyProof.Rows L2 DL
def top (i : Nat) : Stmt := (PySem.Challenge.pw_treethaw_k01_calls_or_not).main.body.getD i (.Pass ⟨0, 0, 0, 0⟩)
def names : List Str := ["zz"]
def gm (K : PySem.W.Frag) : Gam := ⟨K, fun i => match i with  | _ => 0, fldOf names⟩
theorem inj0 {K : PySem.W.Frag} : (gm K).Inj := fldOf_inj (by kernel_rfl)
abbrev st_is_number : Stmt := top 11
abbrev st_is_path_text : Stmt := top 12
abbrev st_is_argument : Stmt := top 13
abbrev st_is_right_call : Stmt := top 14
abbrev st_is_call : Stmt := top 16
abbrev st__law_stream : Stmt := top 18
abbrev st__law_draw : Stmt := top 19
abbrev st__law_folded : Stmt := top 20
abbrev st__law_pick : Stmt := top 21
abbrev st__law_same : Stmt := top 22
abbrev st__law_forms : Stmt := top 23
abbrev st__law_fits : Stmt := top 24
abbrev st__law_is_due : Stmt := top 25
abbrev st__law_part : Stmt := top 26
abbrev st__law_odd : Stmt := top 27
abbrev st__law_bent : Stmt := top 28
abbrev st__law_right : Stmt := top 29
abbrev st_law : Stmt := top 30
def tab_FORMS : Tb := [("fork", ["new"]), ("lead", []), ("adopt", []), ("join", ["number", "number"]), ("end", ["value"]), ("wait", ["number"]), ("send", ["kind", "number"]), ("sendall", ["kind", "number"]), ("about", ["number"]), ("get", ["number"]), ("set", ["number", "value"]), ("make", ["path", "text"]), ("remove", ["path"]), ("open", ["path"]), ("seek", ["number", "number"]), ("pipe", []), ("pair", []), ("area", []), ("copy", ["number", "number"]), ("close", ["number"]), ("handles", []), ("same", ["number", "number", "number"]), ("peek", ["number", "number"]), ("poke", ["number", "number", "value"]), ("read", ["number", "new"]), ("write", ["number", "line"]), ("pass", ["number", "number"]), ("take", ["number"])]
structure Cxt (w : World) (K : PySem.W.Frag) (mg : Str → Option Value) : Prop where
  F_is_number : ∃ fd, FunD K "is_number" "is_number" (defArgs st_is_number) (defBody st_is_number) (defScope st_is_number) [] [] (He.fAd K ("is_number", none)) fd
  F_is_path_text : ∃ fd, FunD K "is_path_text" "is_path_text" (defArgs st_is_path_text) (defBody st_is_path_text) (defScope st_is_path_text) [] [] (He.fAd K ("is_path_text", none)) fd
  F_is_argument : ∃ fd, FunD K "is_argument" "is_argument" (defArgs st_is_argument) (defBody st_is_argument) (defScope st_is_argument) [] [] (He.fAd K ("is_argument", none)) fd
  F_is_right_call : ∃ fd, FunD K "is_right_call" "is_right_call" (defArgs st_is_right_call) (defBody st_is_right_call) (defScope st_is_right_call) [] [] (He.fAd K ("is_right_call", none)) fd
  F_is_call : ∃ fd, FunD K "is_call" "is_call" (defArgs st_is_call) (defBody st_is_call) (defScope st_is_call) [] [] (He.fAd K ("is_call", none)) fd
  F__law_stream : ∃ fd, FunD K "_law_stream" "_law_stream" (defArgs st__law_stream) (defBody st__law_stream) (defScope st__law_stream) [] [] (He.fAd K ("_law_stream", none)) fd
  F__law_draw : ∃ fd, FunD K "_law_draw" "_law_draw" (defArgs st__law_draw) (defBody st__law_draw) (defScope st__law_draw) [] [] (He.fAd K ("_law_draw", none)) fd
  F__law_folded : ∃ fd, FunD K "_law_folded" "_law_folded" (defArgs st__law_folded) (defBody st__law_folded) (defScope st__law_folded) [] [] (He.fAd K ("_law_folded", none)) fd
  F__law_pick : ∃ fd, FunD K "_law_pick" "_law_pick" (defArgs st__law_pick) (defBody st__law_pick) (defScope st__law_pick) [] [] (He.fAd K ("_law_pick", none)) fd
  F__law_same : ∃ fd, FunD K "_law_same" "_law_same" (defArgs st__law_same) (defBody st__law_same) (defScope st__law_same) [] [] (He.fAd K ("_law_same", none)) fd
  F__law_forms : ∃ fd, FunD K "_law_forms" "_law_forms" (defArgs st__law_forms) (defBody st__law_forms) (defScope st__law_forms) [] [] (He.fAd K ("_law_forms", none)) fd
  F__law_fits : ∃ fd, FunD K "_law_fits" "_law_fits" (defArgs st__law_fits) (defBody st__law_fits) (defScope st__law_fits) [] [] (He.fAd K ("_law_fits", none)) fd
  F__law_is_due : ∃ fd, FunD K "_law_is_due" "_law_is_due" (defArgs st__law_is_due) (defBody st__law_is_due) (defScope st__law_is_due) [] [] (He.fAd K ("_law_is_due", none)) fd
  F__law_part : ∃ fd, FunD K "_law_part" "_law_part" (defArgs st__law_part) (defBody st__law_part) (defScope st__law_part) [] [] (He.fAd K ("_law_part", none)) fd
  F__law_odd : ∃ fd, FunD K "_law_odd" "_law_odd" (defArgs st__law_odd) (defBody st__law_odd) (defScope st__law_odd) [] [] (He.fAd K ("_law_odd", none)) fd
  F__law_bent : ∃ fd, FunD K "_law_bent" "_law_bent" (defArgs st__law_bent) (defBody st__law_bent) (defScope st__law_bent) [] [] (He.fAd K ("_law_bent", none)) fd
  F__law_right : ∃ fd, FunD K "_law_right" "_law_right" (defArgs st__law_right) (defBody st__law_right) (defScope st__law_right) [] [] (He.fAd K ("_law_right", none)) fd
  F_law : ∃ fd, FunD K "law" "law" (defArgs st_law) (defBody st_law) (defScope st_law) [] [] (He.fAd K ("law", none)) fd
  n_abs : mg "abs" = none
  n_all : mg "all" = none
  n_bool : mg "bool" = none
  n_enumerate : mg "enumerate" = none
  n_int : mg "int" = none
  n_isinstance : mg "isinstance" = none
  n_len : mg "len" = none
  n_list : mg "list" = none
  n_range : mg "range" = none
  n_repr : mg "repr" = none
  n_sorted : mg "sorted" = none
  n_str : mg "str" = none
  n_tuple : mg "tuple" = none
  n_zip : mg "zip" = none
  g_FORMS : mg "FORMS" = some (.ref (He.ga K "FORMS"))
  g_KINDS : mg "KINDS" = some (.ref (He.ga K "KINDS"))
  g__law_bent : mg "_law_bent" = some (.ref (He.fAd K ("_law_bent", none)))
  g__law_draw : mg "_law_draw" = some (.ref (He.fAd K ("_law_draw", none)))
  g__law_fits : mg "_law_fits" = some (.ref (He.fAd K ("_law_fits", none)))
  g__law_folded : mg "_law_folded" = some (.ref (He.fAd K ("_law_folded", none)))
  g__law_forms : mg "_law_forms" = some (.ref (He.fAd K ("_law_forms", none)))
  g__law_is_due : mg "_law_is_due" = some (.ref (He.fAd K ("_law_is_due", none)))
  g__law_odd : mg "_law_odd" = some (.ref (He.fAd K ("_law_odd", none)))
  g__law_part : mg "_law_part" = some (.ref (He.fAd K ("_law_part", none)))
  g__law_pick : mg "_law_pick" = some (.ref (He.fAd K ("_law_pick", none)))
  g__law_right : mg "_law_right" = some (.ref (He.fAd K ("_law_right", none)))
  g__law_same : mg "_law_same" = some (.ref (He.fAd K ("_law_same", none)))
  g__law_stream : mg "_law_stream" = some (.ref (He.fAd K ("_law_stream", none)))
  g_is_argument : mg "is_argument" = some (.ref (He.fAd K ("is_argument", none)))
  g_is_call : mg "is_call" = some (.ref (He.fAd K ("is_call", none)))
  g_is_number : mg "is_number" = some (.ref (He.fAd K ("is_number", none)))
  g_is_path_text : mg "is_path_text" = some (.ref (He.fAd K ("is_path_text", none)))
  g_is_right_call : mg "is_right_call" = some (.ref (He.fAd K ("is_right_call", none)))
  k_KINDS : SqT K (fun _ => none) (He.ga K "KINDS") ((["stop", "go", "end", "wake"] : List Str).map V.str)
  i_KIND : ∃ t, mg "KIND" = some (.str "kind" t)
  i_LETTERS_OF_PATHS : ∃ t, mg "LETTERS_OF_PATHS" = some (.str "abcdefghijklmnopqrstuvwxyz" t)
  i_NEW : ∃ t, mg "NEW" = some (.str "new" t)
  i_NUMBER : ∃ t, mg "NUMBER" = some (.str "number" t)
  i_PATH : ∃ t, mg "PATH" = some (.str "path" t)
  i_TEXT : ∃ t, mg "TEXT" = some (.str "text" t)
  i_VALUE : ∃ t, mg "VALUE" = some (.str "value" t)
  T_FORMS : TabK K w (He.ga K "FORMS") tab_FORMS
variable {P : Program} {w : World} {K : PySem.W.Frag} {mg : Str → Option Value} {base : Heap}
def w_is_number : DS := wRet (wAnd (wIsi [.int] (wVar 0)) (wNot (wIsi [.bl] (wVar 0))))
def S_is_number : DSp := arD 1 (runD 1 w_is_number)
theorem sc_is_number : FnScope ["thing"] ["thing"] (defScope st_is_number) := ⟨rfl, rfl, rfl, by decide +kernel, rfl, by decide +kernel, by decide +kernel⟩
theorem ok_is_number (cx : Cxt w K mg) : ∃ fd, FD P w K mg base (gm K) 1 (He.fAd K ("is_number", none)) fd ["thing"] S_is_number ∧ FunD K "is_number" "is_number" (defArgs st_is_number) (defBody st_is_number) (defScope st_is_number) [] [] (He.fAd K ("is_number", none)) fd := by
  obtain ⟨fd, F⟩ := cx.F_is_number
  refine ⟨fd, FD.mk' F sc_is_number (fun _ _ _ _ _ _ us hl => match us, hl with | [_], _ => rfl) fun cdv A outer s H E hr hg => ?_, F⟩
  have dx := dx_cx (P := P) (w := w) (K := K) (mg := mg) (base := base) (G := gm K) (outer := outer) (H := H) (E := E) rfl sc_is_number.nd hr hg
  exact (qss_one (qs_ret (qe_and dx.K (qe_isi (t := .int) dx.K (by decide) rfl cx.n_isinstance rfl cx.n_int boot_int (qe_var (i := 0) rfl (.inl rfl))) (qe_one (qe_not dx.K (qe_isi (t := .bl) dx.K (by decide) rfl cx.n_isinstance rfl cx.n_bool boot_bool (qe_var (i := 0) rfl (.inl rfl))))))))
def w_is_path_text : DS := wRet (wAnd (wIsi [.str] (wVar 0)) (wAnd (wOp (dRel fun i j => decide (j < i)) (wB dLen (wCons (wVar 0) (wNil))) (wC (.int 0))) (wB dAll (wCons (wLc false (iStrD (wVar 0)) (gN 1) (wYes) (wOp (dIn false) (wVar 1) (wC (.str "abcdefghijklmnopqrstuvwxyz"))) [1]) (wNil)))))
def S_is_path_text : DSp := arD 1 (runD 2 w_is_path_text)
theorem sc_is_path_text : FnScope ["thing", "sign"] ["thing"] (defScope st_is_path_text) := ⟨rfl, rfl, rfl, by decide +kernel, rfl, by decide +kernel, by decide +kernel⟩
theorem ok_is_path_text (cx : Cxt w K mg) : ∃ fd, FD P w K mg base (gm K) 1 (He.fAd K ("is_path_text", none)) fd ["thing"] S_is_path_text ∧ FunD K "is_path_text" "is_path_text" (defArgs st_is_path_text) (defBody st_is_path_text) (defScope st_is_path_text) [] [] (He.fAd K ("is_path_text", none)) fd := by
  obtain ⟨fd, F⟩ := cx.F_is_path_text
  obtain ⟨t_LETTERS_OF_PATHS, h_LETTERS_OF_PATHS⟩ := cx.i_LETTERS_OF_PATHS
  refine ⟨fd, FD.mk' F sc_is_path_text (fun _ _ _ _ _ _ us hl => match us, hl with | [_], _ => rfl) fun cdv A outer s H E hr hg => ?_, F⟩
  have dx := dx_cx (P := P) (w := w) (K := K) (mg := mg) (base := base) (G := gm K) (outer := outer) (H := H) (E := E) rfl sc_is_path_text.nd hr hg
  exact (qss_one (qs_ret (qe_and dx.K (qe_isi (t := .str) dx.K (by decide) rfl cx.n_isinstance rfl cx.n_str boot_str (qe_var (i := 0) rfl (.inl rfl))) (qe_and dx.K (pd_cmp (od_rel op_gt) (qe_callB (cd_len dx.K) rfl cx.n_len boot_len (qa_cons (qe_var (i := 0) rfl (.inl rfl)) qa_nil)) qe_int (nomark _)) (qe_one (qe_callB (cd_all dx.K dx.calm) rfl cx.n_all boot_all (qa_cons (qe_lc (own := [("sign", 1)]) dx false (qi_strD (qe_var (i := 0) rfl (.inl rfl))) (blk_of (by kernel_rfl)) (by decide) (fun _ _ _ _ _ => (qg_name (i := 1) (DX.blk dx _ _ _ _ _).nd rfl (.inl rfl) (.inr rfl))) (fun _ _ _ _ _ => qts_nil) (fun _ _ _ _ _ => (pd_cmp (od_in (DX.blk dx _ _ _ _ _).K (DX.blk dx _ _ _ _ _).u1 false rfl) (qe_var (i := 1) rfl (.inl rfl)) (qe_glob (v := .str "abcdefghijklmnopqrstuvwxyz") rfl h_LETTERS_OF_PATHS ⟨_, rfl⟩ fun _ => .str "abcdefghijklmnopqrstuvwxyz") (by rfl)))) qa_nil)))))))
def w_is_argument : DS := wSeq (wIfS (wBl (wOp (dEq false) (wVar 0) (wC (.str "value")))) (wRet (wCall S_is_number [] (wCons (wVar 1) (wNil)))) (wNext)) (wSeq (wIfS (wBl (wOp (dIn false) (wVar 0) (wTup (wCons (wC (.str "new")) (wCons (wC (.str "number")) (wNil)))))) (wRet (wAnd (wCall S_is_number [] (wCons (wVar 1) (wNil))) (wOp (dRel fun i j => decide (j ≤ i)) (wVar 1) (wB dInt (wCons (wOp (dEq false) (wVar 0) (wC (.str "new"))) (wNil)))))) (wNext)) (wSeq (wIfS (wBl (wOp (dEq false) (wVar 0) (wC (.str "path")))) (wRet (wCall S_is_path_text [] (wCons (wVar 1) (wNil)))) (wNext)) (wSeq (wIfS (wNotT (wTru (wIsi [.str] (wVar 1)))) (wRet (wC (.bl false))) (wNext)) (wSeq (wIfS (wBl (wOp (dEq false) (wVar 0) (wC (.str "kind")))) (wRet (wOp (dIn false) (wVar 1) (wC (.ktup ((["stop", "go", "end", "wake"] : List Str).map .str))))) (wNext)) (wRet (wOr (wOp (dEq false) (wVar 0) (wC (.str "text"))) (wOp (dRel fun i j => decide (j < i)) (wB dLen (wCons (wVar 1) (wNil))) (wC (.int 0)))))))))
def S_is_argument : DSp := arD 2 (runD 2 w_is_argument)
theorem sc_is_argument : FnScope ["kind", "thing"] ["kind", "thing"] (defScope st_is_argument) := ⟨rfl, rfl, rfl, by decide +kernel, rfl, by decide +kernel, by decide +kernel⟩
theorem ok_is_argument (cx : Cxt w K mg) : ∃ fd, FD P w K mg base (gm K) 2 (He.fAd K ("is_argument", none)) fd ["kind", "thing"] S_is_argument ∧ FunD K "is_argument" "is_argument" (defArgs st_is_argument) (defBody st_is_argument) (defScope st_is_argument) [] [] (He.fAd K ("is_argument", none)) fd := by
  obtain ⟨fd, F⟩ := cx.F_is_argument
  obtain ⟨fd_is_number, k_is_number, F_is_number⟩ := ok_is_number (P := P) (w := w) (base := base) cx
  obtain ⟨fd_is_path_text, k_is_path_text, F_is_path_text⟩ := ok_is_path_text (P := P) (w := w) (base := base) cx
  obtain ⟨t_KIND, h_KIND⟩ := cx.i_KIND
  obtain ⟨t_NEW, h_NEW⟩ := cx.i_NEW
  obtain ⟨t_NUMBER, h_NUMBER⟩ := cx.i_NUMBER
  obtain ⟨t_PATH, h_PATH⟩ := cx.i_PATH
  obtain ⟨t_TEXT, h_TEXT⟩ := cx.i_TEXT
  obtain ⟨t_VALUE, h_VALUE⟩ := cx.i_VALUE
  refine ⟨fd, FD.mk' F sc_is_argument (fun _ _ _ _ _ _ us hl => match us, hl with | [_, _], _ => rfl) fun cdv A outer s H E hr hg => ?_, F⟩
  have dx := dx_cx (P := P) (w := w) (K := K) (mg := mg) (base := base) (G := gm K) (outer := outer) (H := H) (E := E) rfl sc_is_argument.nd hr hg
  exact (qss_cons (qs_if (qt_cmp (od_eq dx.K dx.u65 false rfl) (qe_var (i := 0) rfl (.inl rfl)) (qe_glob (v := .str "value") rfl h_VALUE ⟨_, rfl⟩ fun _ => .str "value") (nomark _)) (qss_one (qs_ret (qf_call k_is_number dx (by decide) rfl cx.g_is_number (qa_cons (qe_var (i := 1) rfl (.inl rfl)) qa_nil)))) qss_nil) (qss_cons (qs_if (qt_cmp (od_in dx.K dx.u1 false rfl) (qe_var (i := 0) rfl (.inl rfl)) (qe_tup (qa_cons (qe_glob (v := .str "new") rfl h_NEW ⟨_, rfl⟩ fun _ => .str "new") (qa_cons (qe_glob (v := .str "number") rfl h_NUMBER ⟨_, rfl⟩ fun _ => .str "number") qa_nil))) (by rfl)) (qss_one (qs_ret (qe_and dx.K (qf_call k_is_number dx (by decide) rfl cx.g_is_number (qa_cons (qe_var (i := 1) rfl (.inl rfl)) qa_nil)) (qe_one (pd_cmp (od_rel op_ge) (qe_var (i := 1) rfl (.inl rfl)) (qe_callTy cd_int rfl cx.n_int boot_int (qa_cons (pd_cmp (od_eq dx.K dx.u65 false rfl) (qe_var (i := 0) rfl (.inl rfl)) (qe_glob (v := .str "new") rfl h_NEW ⟨_, rfl⟩ fun _ => .str "new") (nomark _)) qa_nil)) (nomark _)))))) qss_nil) (qss_cons (qs_if (qt_cmp (od_eq dx.K dx.u65 false rfl) (qe_var (i := 0) rfl (.inl rfl)) (qe_glob (v := .str "path") rfl h_PATH ⟨_, rfl⟩ fun _ => .str "path") (nomark _)) (qss_one (qs_ret (qf_call k_is_path_text dx (by decide) rfl cx.g_is_path_text (qa_cons (qe_var (i := 1) rfl (.inl rfl)) qa_nil)))) qss_nil) (qss_cons (qs_if (qt_not (qt_truth dx.K (qe_isi (t := .str) dx.K (by decide) rfl cx.n_isinstance rfl cx.n_str boot_str (qe_var (i := 1) rfl (.inl rfl))))) (qss_one (qs_ret qe_bl)) qss_nil) (qss_cons (qs_if (qt_cmp (od_eq dx.K dx.u65 false rfl) (qe_var (i := 0) rfl (.inl rfl)) (qe_glob (v := .str "kind") rfl h_KIND ⟨_, rfl⟩ fun _ => .str "kind") (nomark _)) (qss_one (qs_ret (pd_cmp (od_in dx.K dx.u1 false rfl) (qe_var (i := 1) rfl (.inl rfl)) (qe_ktup (ks := (["stop", "go", "end", "wake"] : List Str)) dx.K cx.k_KINDS rfl cx.g_KINDS) (by rfl)))) qss_nil) (qss_one (qs_ret (qe_or dx.K (pd_cmp (od_eq dx.K dx.u65 false rfl) (qe_var (i := 0) rfl (.inl rfl)) (qe_glob (v := .str "text") rfl h_TEXT ⟨_, rfl⟩ fun _ => .str "text") (nomark _)) (qe_one (pd_cmp (od_rel op_gt) (qe_callB (cd_len dx.K) rfl cx.n_len boot_len (qa_cons (qe_var (i := 1) rfl (.inl rfl)) qa_nil)) qe_int (nomark _)))))))))))
def w_is_right_call : DS := wSeq (wIfS (wOrT (wNotT (wTru (wIsi [.tup] (wVar 0)))) (wOrT (wBl (wOp (dEq false) (wB dLen (wCons (wVar 0) (wNil))) (wC (.int 0)))) (wOrT (wNotT (wTru (wIsi [.str] (wOp dIx (wVar 0) (wC (.int 0)))))) (wBl (wKin true tab_FORMS (wOp dIx (wVar 0) (wC (.int 0)))))))) (wRet (wC (.bl false))) (wNext)) (wSeq (wAsg (wKget tab_FORMS (wOp dIx (wVar 0) (wC (.int 0)))) (gN 1)) (wSeq (wIfS (wBl (wOp (dEq true) (wB dLen (wCons (wVar 0) (wNil))) (wOp (dAdd false) (wC (.int 1)) (wB dLen (wCons (wVar 1) (wNil)))))) (wRet (wC (.bl false))) (wNext)) (wRet (wB dAll (wCons (wLc false (iZipD (wCons (wVar 1) (wCons (wSl false (wVar 0) (some (wC (.int 1))) none) (wNil)))) (gSeq 2 (gConsD (gN 2) (gConsD (gN 3) (gNilD)))) (wYes) (wCall S_is_argument [] (wCons (wVar 2) (wCons (wVar 3) (wNil)))) [2, 3]) (wNil))))))
def S_is_right_call : DSp := arD 1 (runD 4 w_is_right_call)
theorem sc_is_right_call : FnScope ["thing", "kinds", "kind", "part"] ["thing"] (defScope st_is_right_call) := ⟨rfl, rfl, rfl, by decide +kernel, rfl, by decide +kernel, by decide +kernel⟩
theorem ok_is_right_call (cx : Cxt w K mg) : ∃ fd, FD P w K mg base (gm K) 3 (He.fAd K ("is_right_call", none)) fd ["thing"] S_is_right_call ∧ FunD K "is_right_call" "is_right_call" (defArgs st_is_right_call) (defBody st_is_right_call) (defScope st_is_right_call) [] [] (He.fAd K ("is_right_call", none)) fd := by
  obtain ⟨fd, F⟩ := cx.F_is_right_call
  obtain ⟨fd_is_argument, k_is_argument, F_is_argument⟩ := ok_is_argument (P := P) (w := w) (base := base) cx
  refine ⟨fd, FD.mk' F sc_is_right_call (fun _ _ _ _ _ _ us hl => match us, hl with | [_], _ => rfl) fun cdv A outer s H E hr hg => ?_, F⟩
  have dx := dx_cx (P := P) (w := w) (K := K) (mg := mg) (base := base) (G := gm K) (outer := outer) (H := H) (E := E) rfl sc_is_right_call.nd hr hg
  exact (qss_cons (qs_if (PW.pt (qw_or (qt_not (qt_truth dx.K (qe_isi (t := .tup) dx.K (by decide) rfl cx.n_isinstance rfl cx.n_tuple boot_tuple (qe_var (i := 0) rfl (.inl rfl))))) (qw_or (qt_cmp (od_eq dx.K dx.u65 false rfl) (qe_callB (cd_len dx.K) rfl cx.n_len boot_len (qa_cons (qe_var (i := 0) rfl (.inl rfl)) qa_nil)) qe_int (nomark _)) (qw_or (qt_not (qt_truth dx.K (qe_isi (t := .str) dx.K (by decide) rfl cx.n_isinstance rfl cx.n_str boot_str (pd_ix dx.K dx.u1 (qe_var (i := 0) rfl (.inl rfl)) qe_int nofun)))) (qw_or1 (qt_kin true rfl cx.T_FORMS (pd_ix dx.K dx.u1 (qe_var (i := 0) rfl (.inl rfl)) qe_int nofun) rfl cx.g_FORMS)))))) (qss_one (qs_ret qe_bl)) qss_nil) (qss_cons (qs_set (i := 1) dx.nd rfl (.inl rfl) (qe_kget dx.K cx.T_FORMS (pd_ix dx.K dx.u1 (qe_var (i := 0) rfl (.inl rfl)) qe_int nofun) rfl cx.g_FORMS nofun) (by rfl) (.inl rfl)) (qss_cons (qs_if (qt_cmp (od_eq dx.K dx.u65 true rfl) (qe_callB (cd_len dx.K) rfl cx.n_len boot_len (qa_cons (qe_var (i := 0) rfl (.inl rfl)) qa_nil)) (pd_op (od_add dx.K false) qe_int (qe_callB (cd_len dx.K) rfl cx.n_len boot_len (qa_cons (qe_var (i := 1) rfl (.inl rfl)) qa_nil))) (nomark _)) (qss_one (qs_ret qe_bl)) qss_nil) (qss_one (qs_ret (qe_callB (cd_all dx.K dx.calm) rfl cx.n_all boot_all (qa_cons (qe_lc (own := [("kind", 2), ("part", 3)]) dx false (qi_zip dx.K rfl cx.n_zip (qa_cons (qe_var (i := 1) rfl (.inl rfl)) (qa_cons (pd_sl (mu := false) dx.K (qe_var (i := 0) rfl (.inl rfl)) (po_some' qe_int) po_none') qa_nil))) (blk_of (by kernel_rfl)) (by decide) (fun _ _ _ _ _ => (qg_tup (n := 2) (DX.blk dx _ _ _ _ _).K (DX.blk dx _ _ _ _ _).calm (qgs_cons (qg_name (i := 2) (DX.blk dx _ _ _ _ _).nd rfl (.inl rfl) (.inr rfl)) (qgs_cons (qg_name (i := 3) (DX.blk dx _ _ _ _ _).nd rfl (.inl rfl) (.inr rfl)) qgs_nil)))) (fun _ _ _ _ _ => qts_nil) (fun _ _ _ _ _ => (qf_call k_is_argument (DX.blk dx _ _ _ _ _) (by decide) rfl cx.g_is_argument (qa_cons (qe_var (i := 2) rfl (.inl rfl)) (qa_cons (qe_var (i := 3) rfl (.inl rfl)) qa_nil))))) qa_nil)))))))
def w_is_call : DS := wRet (wCall S_is_right_call [] (wCons (wVar 0) (wNil)))
def S_is_call : DSp := arD 1 (runD 1 w_is_call)
theorem sc_is_call : FnScope ["thing"] ["thing"] (defScope st_is_call) := ⟨rfl, rfl, rfl, by decide +kernel, rfl, by decide +kernel, by decide +kernel⟩
theorem ok_is_call (cx : Cxt w K mg) : ∃ fd, FD P w K mg base (gm K) 4 (He.fAd K ("is_call", none)) fd ["thing"] S_is_call ∧ FunD K "is_call" "is_call" (defArgs st_is_call) (defBody st_is_call) (defScope st_is_call) [] [] (He.fAd K ("is_call", none)) fd := by
  obtain ⟨fd, F⟩ := cx.F_is_call
  obtain ⟨fd_is_right_call, k_is_right_call, F_is_right_call⟩ := ok_is_right_call (P := P) (w := w) (base := base) cx
  refine ⟨fd, FD.mk' F sc_is_call (fun _ _ _ _ _ _ us hl => match us, hl with | [_], _ => rfl) fun cdv A outer s H E hr hg => ?_, F⟩
  have dx := dx_cx (P := P) (w := w) (K := K) (mg := mg) (base := base) (G := gm K) (outer := outer) (H := H) (E := E) rfl sc_is_call.nd hr hg
  exact (qss_one (qs_ret (qf_call k_is_right_call dx (by decide) rfl cx.g_is_right_call (qa_cons (qe_var (i := 0) rfl (.inl rfl)) qa_nil))))
def w__law_stream : DS := wSeq (wAsg (wC (.int 0)) (gN 2)) (wSeq (wIfS (wBl (wOp (dRel fun i j => decide (i < j)) (wVar 1) (wB dLen (wCons (wVar 0) (wNil))))) (wAsg (wOp dIx (wVar 0) (wVar 1)) (gN 2)) (wNext)) (wRet (wLst true (wCons (wOp (dMul false) (wB dAbs (wCons (wVar 2) (wNil))) (wB dInt (wCons (wOp (dRel fun i j => decide (j ≤ i)) (wB dAbs (wCons (wVar 2) (wNil))) (wOp (dPow) (wC (.int 10)) (wC (.int 18)))) (wNil)))) (wCons (wOp (dAdd false) (wOp (dAdd false) (wOp (dMod) (wVar 2) (wC (.int 2305843009213693951))) (wOp (dMul false) (wC (.int 39373)) (wVar 1))) (wC (.int 29))) (wCons (wC (.int 0)) (wNil)))))))
def S__law_stream : DSp := arD 2 (runD 3 w__law_stream)
theorem sc__law_stream : FnScope ["_law_script", "_law_k", "_law_cell"] ["_law_script", "_law_k"] (defScope st__law_stream) := ⟨rfl, rfl, rfl, by decide +kernel, rfl, by decide +kernel, by decide +kernel⟩
theorem ok__law_stream (cx : Cxt w K mg) : ∃ fd, FD P w K mg base (gm K) 1 (He.fAd K ("_law_stream", none)) fd ["_law_script", "_law_k"] S__law_stream ∧ FunD K "_law_stream" "_law_stream" (defArgs st__law_stream) (defBody st__law_stream) (defScope st__law_stream) [] [] (He.fAd K ("_law_stream", none)) fd := by
  obtain ⟨fd, F⟩ := cx.F__law_stream
  refine ⟨fd, FD.mk' F sc__law_stream (fun _ _ _ _ _ _ us hl => match us, hl with | [_, _], _ => rfl) fun cdv A outer s H E hr hg => ?_, F⟩
  have dx := dx_cx (P := P) (w := w) (K := K) (mg := mg) (base := base) (G := gm K) (outer := outer) (H := H) (E := E) rfl sc__law_stream.nd hr hg
  exact (qss_cons (qs_set (i := 2) dx.nd rfl (.inl rfl) qe_int (by rfl) (.inl rfl)) (qss_cons (qs_if (qt_cmp (od_rel op_lt) (qe_var (i := 1) rfl (.inl rfl)) (qe_callB (cd_len dx.K) rfl cx.n_len boot_len (qa_cons (qe_var (i := 0) rfl (.inl rfl)) qa_nil)) (nomark _)) (qss_one (qs_set (i := 2) dx.nd rfl (.inl rfl) (pd_ix dx.K dx.u1 (qe_var (i := 0) rfl (.inl rfl)) (qe_var (i := 1) rfl (.inl rfl)) nofun) (by rfl) (.inl rfl))) qss_nil) (qss_one (qs_ret (qe_lst true (qa_cons (pd_op (od_mul dx.K false) (qe_callB cd_abs rfl cx.n_abs boot_abs (qa_cons (qe_var (i := 2) rfl (.inl rfl)) qa_nil)) (qe_callTy cd_int rfl cx.n_int boot_int (qa_cons (pd_cmp (od_rel op_ge) (qe_callB cd_abs rfl cx.n_abs boot_abs (qa_cons (qe_var (i := 2) rfl (.inl rfl)) qa_nil)) (pd_op (od_pow) qe_int qe_int) (nomark _)) qa_nil))) (qa_cons (pd_op (od_add dx.K false) (pd_op (od_add dx.K false) (pd_op (od_mod) (qe_var (i := 2) rfl (.inl rfl)) qe_int) (pd_op (od_mul dx.K false) qe_int (qe_var (i := 1) rfl (.inl rfl)))) qe_int) (qa_cons qe_int qa_nil))))))))
def w__law_draw (S0 : DSp) : DS := wSeq (wIfS (wBl (wOp (dRel fun i j => decide (j < i)) (wOp dIx (wVar 0) (wC (.int 0))) (wC (.int 0)))) (wSeq (wAsg (wOp (dMod) (wOp dIx (wVar 0) (wC (.int 0))) (wVar 1)) (gN 2)) (wSeq (wAsg (wOp (dDiv) (wOp dIx (wVar 0) (wC (.int 0))) (wVar 1)) (gSubD (wVar 0) (wC (.int 0)))) (wRet (wVar 2)))) (wNext)) (wSeq (wIfS (wBl (wOp (dRel fun i j => decide (j < i)) (wVar 1) (wOp (dPow) (wC (.int 10)) (wC (.int 7))))) (wRet (wOp (dMod) (wOp (dAdd false) (wCall S0 [] (wCons (wVar 0) (wCons (wOp (dPow) (wC (.int 10)) (wC (.int 7))) (wNil)))) (wOp (dMul false) (wOp (dPow) (wC (.int 10)) (wC (.int 7))) (wCall S0 [] (wCons (wVar 0) (wCons (wOp (dAdd false) (wOp (dDiv) (wOp (dSub) (wVar 1) (wC (.int 1))) (wOp (dPow) (wC (.int 10)) (wC (.int 7)))) (wC (.int 1))) (wNil)))))) (wVar 1))) (wNext)) (wSeq (wAsg (wOp (dAdd false) (wOp dIx (wVar 0) (wC (.int 2))) (wC (.int 1))) (gSubD (wVar 0) (wC (.int 2)))) (wSeq (wAsg (wOp (dMod) (wOp (dMul false) (wOp (dAdd false) (wOp dIx (wVar 0) (wC (.int 1))) (wOp (dMul false) (wC (.int 48271)) (wOp dIx (wVar 0) (wC (.int 2))))) (wOp (dAdd false) (wC (.int 39373)) (wOp dIx (wVar 0) (wC (.int 2))))) (wC (.int 2147483647))) (gN 3)) (wSeq (wAsg (wOp (dMod) (wOp (dMul false) (wOp (dAdd false) (wOp (dAdd false) (wVar 3) (wOp dIx (wVar 0) (wC (.int 2)))) (wOp (dDiv) (wOp dIx (wVar 0) (wC (.int 1))) (wC (.int 1000003)))) (wOp (dAdd false) (wOp (dMod) (wVar 3) (wC (.int 40009))) (wC (.int 7)))) (wC (.int 2147483629))) (gN 4)) (wRet (wOp (dMod) (wOp (dDiv) (wOp (dMod) (wOp (dAdd false) (wOp (dMul false) (wVar 4) (wC (.int 48271))) (wVar 3)) (wC (.int 2147483587))) (wC (.int 64))) (wVar 1)))))))
def S__law_draw : Nat → DSp
  | 0 => fun _ _ _ => False
  | n + 1 => arD 2 (runD 5 (w__law_draw (S__law_draw n)))
theorem sc__law_draw : FnScope ["_law_source", "_law_bound", "_law_found", "_law_once", "_law_twice"] ["_law_source", "_law_bound"] (defScope st__law_draw) := ⟨rfl, rfl, rfl, by decide +kernel, rfl, by decide +kernel, by decide +kernel⟩
theorem ok__law_draw (cx : Cxt w K mg) : ∃ fd, (∀ n, FD P w K mg base (gm K) (0 + n) (He.fAd K ("_law_draw", none)) fd ["_law_source", "_law_bound"] (S__law_draw n)) ∧ FunD K "_law_draw" "_law_draw" (defArgs st__law_draw) (defBody st__law_draw) (defScope st__law_draw) [] [] (He.fAd K ("_law_draw", none)) fd := by
  obtain ⟨fd, F⟩ := cx.F__law_draw
  refine ⟨fd, fun n => ?_, F⟩
  induction n with
  | zero => exact FD.zero F (fun _ _ _ _ _ _ us hl => match us, hl with | [_, _], _ => rfl)
  | succ n k0 =>
    refine FD.mk' F sc__law_draw (fun _ _ _ _ _ _ us hl => match us, hl with | [_, _], _ => rfl) fun cdv A outer s H E hr hg => ?_
    have dx := dx_cx (P := P) (w := w) (K := K) (mg := mg) (base := base) (G := gm K) (outer := outer) (H := H) (E := E) rfl sc__law_draw.nd hr hg
    exact (qss_cons (qs_if (qt_cmp (od_rel op_gt) (pd_ix dx.K dx.u1 (qe_var (i := 0) rfl (.inl rfl)) qe_int nofun) qe_int (nomark _)) (qss_cons (qs_set (i := 2) dx.nd rfl (.inl rfl) (pd_op (od_mod) (pd_ix dx.K dx.u1 (qe_var (i := 0) rfl (.inl rfl)) qe_int nofun) (qe_var (i := 1) rfl (.inl rfl))) (by rfl) (.inl rfl)) (qss_cons (qs_asg (pd_op (od_div) (pd_ix dx.K dx.u1 (qe_var (i := 0) rfl (.inl rfl)) qe_int nofun) (qe_var (i := 1) rfl (.inl rfl))) (qg_sub (vs := []) dx (qe_var (i := 0) rfl (.inl rfl)) qe_int)) (qss_one (qs_ret (qe_var (i := 2) rfl (.inl rfl)))))) qss_nil) (qss_cons (qs_if (qt_cmp (od_rel op_gt) (qe_var (i := 1) rfl (.inl rfl)) (pd_op (od_pow) qe_int qe_int) (nomark _)) (qss_one (qs_ret (pd_op (od_mod) (pd_op (od_add dx.K false) (qf_call k0 dx (Nat.le_refl _) rfl cx.g__law_draw (qa_cons (qe_var (i := 0) rfl (.inl rfl)) (qa_cons (pd_op (od_pow) qe_int qe_int) qa_nil))) (pd_op (od_mul dx.K false) (pd_op (od_pow) qe_int qe_int) (qf_call k0 dx (Nat.le_refl _) rfl cx.g__law_draw (qa_cons (qe_var (i := 0) rfl (.inl rfl)) (qa_cons (pd_op (od_add dx.K false) (pd_op (od_div) (pd_op (od_sub) (qe_var (i := 1) rfl (.inl rfl)) qe_int) (pd_op (od_pow) qe_int qe_int)) qe_int) qa_nil))))) (qe_var (i := 1) rfl (.inl rfl))))) qss_nil) (qss_cons (qs_asg (pd_op (od_add dx.K false) (pd_ix dx.K dx.u1 (qe_var (i := 0) rfl (.inl rfl)) qe_int nofun) qe_int) (qg_sub (vs := []) dx (qe_var (i := 0) rfl (.inl rfl)) qe_int)) (qss_cons (qs_set (i := 3) dx.nd rfl (.inl rfl) (pd_op (od_mod) (pd_op (od_mul dx.K false) (pd_op (od_add dx.K false) (pd_ix dx.K dx.u1 (qe_var (i := 0) rfl (.inl rfl)) qe_int nofun) (pd_op (od_mul dx.K false) qe_int (pd_ix dx.K dx.u1 (qe_var (i := 0) rfl (.inl rfl)) qe_int nofun))) (pd_op (od_add dx.K false) qe_int (pd_ix dx.K dx.u1 (qe_var (i := 0) rfl (.inl rfl)) qe_int nofun))) qe_int) (by rfl) (.inl rfl)) (qss_cons (qs_set (i := 4) dx.nd rfl (.inl rfl) (pd_op (od_mod) (pd_op (od_mul dx.K false) (pd_op (od_add dx.K false) (pd_op (od_add dx.K false) (qe_var (i := 3) rfl (.inl rfl)) (pd_ix dx.K dx.u1 (qe_var (i := 0) rfl (.inl rfl)) qe_int nofun)) (pd_op (od_div) (pd_ix dx.K dx.u1 (qe_var (i := 0) rfl (.inl rfl)) qe_int nofun) qe_int)) (pd_op (od_add dx.K false) (pd_op (od_mod) (qe_var (i := 3) rfl (.inl rfl)) qe_int) qe_int)) qe_int) (by rfl) (.inl rfl)) (qss_one (qs_ret (pd_op (od_mod) (pd_op (od_div) (pd_op (od_mod) (pd_op (od_add dx.K false) (pd_op (od_mul dx.K false) (qe_var (i := 4) rfl (.inl rfl)) qe_int) (qe_var (i := 3) rfl (.inl rfl))) qe_int) qe_int) (qe_var (i := 1) rfl (.inl rfl))))))))))
def w__law_folded : DS := wSeq (wAsg (wOr (wB (dListOf true) (wCons (wSl false (wVar 0) none (some (wVar 1))) (wNil))) (wLst true (wCons (wC (.int 0)) (wNil)))) (gN 2)) (wSeq (wFor (iEnumD (wCons (wSl false (wVar 0) (some (wVar 1)) (some (wC (.int 63)))) (wNil))) (gSeq 2 (gConsD (gN 3) (gConsD (gN 4) (gNilD)))) (wAsg (wOp (dAdd false) (wOp dIx (wVar 2) (wOp (dMod) (wVar 3) (wVar 1))) (wOp (dMul false) (wVar 4) (wOp (dAdd false) (wVar 3) (wC (.int 2))))) (gSubD (wVar 2) (wOp (dMod) (wVar 3) (wVar 1))))) (wRet (wVar 2)))
def S__law_folded : DSp := arD 2 (runD 5 w__law_folded)
theorem sc__law_folded : FnScope ["_law_script", "_law_most", "_law_cells", "_law_k", "_law_cell"] ["_law_script", "_law_most"] (defScope st__law_folded) := ⟨rfl, rfl, rfl, by decide +kernel, rfl, by decide +kernel, by decide +kernel⟩
theorem ok__law_folded (cx : Cxt w K mg) : ∃ fd, FD P w K mg base (gm K) 1 (He.fAd K ("_law_folded", none)) fd ["_law_script", "_law_most"] S__law_folded ∧ FunD K "_law_folded" "_law_folded" (defArgs st__law_folded) (defBody st__law_folded) (defScope st__law_folded) [] [] (He.fAd K ("_law_folded", none)) fd := by
  obtain ⟨fd, F⟩ := cx.F__law_folded
  refine ⟨fd, FD.mk' F sc__law_folded (fun _ _ _ _ _ _ us hl => match us, hl with | [_, _], _ => rfl) fun cdv A outer s H E hr hg => ?_, F⟩
  have dx := dx_cx (P := P) (w := w) (K := K) (mg := mg) (base := base) (G := gm K) (outer := outer) (H := H) (E := E) rfl sc__law_folded.nd hr hg
  exact (qss_cons (qs_set (i := 2) dx.nd rfl (.inl rfl) (qe_or dx.K (qe_callTy (cd_list dx.K dx.calm true) rfl cx.n_list boot_list (qa_cons (pd_sl (mu := false) dx.K (qe_var (i := 0) rfl (.inl rfl)) po_none' (po_some' (qe_var (i := 1) rfl (.inl rfl)))) qa_nil)) (qe_one (qe_lst true (qa_cons qe_int qa_nil)))) (by rfl) (.inl rfl)) (qss_cons (qs_for dx (qi_enum dx.K rfl cx.n_enumerate (qa_cons (pd_sl (mu := false) dx.K (qe_var (i := 0) rfl (.inl rfl)) (po_some' (qe_var (i := 1) rfl (.inl rfl))) (po_some' qe_int)) qa_nil)) (qg_tup (n := 2) dx.K dx.calm (qgs_cons (qg_name (i := 3) dx.nd rfl (.inl rfl) (.inl rfl)) (qgs_cons (qg_name (i := 4) dx.nd rfl (.inl rfl) (.inl rfl)) qgs_nil))) (qss_one (qs_asg (pd_op (od_add dx.K false) (pd_ix dx.K dx.u1 (qe_var (i := 2) rfl (.inl rfl)) (pd_op (od_mod) (qe_var (i := 3) rfl (.inl rfl)) (qe_var (i := 1) rfl (.inl rfl))) nofun) (pd_op (od_mul dx.K false) (qe_var (i := 4) rfl (.inl rfl)) (pd_op (od_add dx.K false) (qe_var (i := 3) rfl (.inl rfl)) qe_int))) (qg_sub (vs := []) dx (qe_var (i := 2) rfl (.inl rfl)) (pd_op (od_mod) (qe_var (i := 3) rfl (.inl rfl)) (qe_var (i := 1) rfl (.inl rfl))))))) (qss_one (qs_ret (qe_var (i := 2) rfl (.inl rfl))))))
def w__law_pick : DS := wRet (wOp dIx (wVar 1) (wCall (S__law_draw 3) [] (wCons (wVar 0) (wCons (wB dLen (wCons (wVar 1) (wNil))) (wNil)))))
def S__law_pick : DSp := arD 2 (runD 2 w__law_pick)
theorem sc__law_pick : FnScope ["_law_source", "_law_some"] ["_law_source", "_law_some"] (defScope st__law_pick) := ⟨rfl, rfl, rfl, by decide +kernel, rfl, by decide +kernel, by decide +kernel⟩
theorem ok__law_pick (cx : Cxt w K mg) : ∃ fd, FD P w K mg base (gm K) 4 (He.fAd K ("_law_pick", none)) fd ["_law_source", "_law_some"] S__law_pick ∧ FunD K "_law_pick" "_law_pick" (defArgs st__law_pick) (defBody st__law_pick) (defScope st__law_pick) [] [] (He.fAd K ("_law_pick", none)) fd := by
  obtain ⟨fd, F⟩ := cx.F__law_pick
  obtain ⟨fd__law_draw, kr__law_draw, F__law_draw⟩ := ok__law_draw (P := P) (w := w) (base := base) cx
  have k__law_draw := kr__law_draw 3
  refine ⟨fd, FD.mk' F sc__law_pick (fun _ _ _ _ _ _ us hl => match us, hl with | [_, _], _ => rfl) fun cdv A outer s H E hr hg => ?_, F⟩
  have dx := dx_cx (P := P) (w := w) (K := K) (mg := mg) (base := base) (G := gm K) (outer := outer) (H := H) (E := E) rfl sc__law_pick.nd hr hg
  exact (qss_one (qs_ret (pd_ix dx.K dx.u1 (qe_var (i := 1) rfl (.inl rfl)) (qf_call k__law_draw dx (by decide) rfl cx.g__law_draw (qa_cons (qe_var (i := 0) rfl (.inl rfl)) (qa_cons (qe_callB (cd_len dx.K) rfl cx.n_len boot_len (qa_cons (qe_var (i := 1) rfl (.inl rfl)) qa_nil)) qa_nil))) nofun)))
def w__law_same (S0 : DSp) : DS := wSeq (wIfS (wTru (wIsi [.lst, .tup] (wVar 1))) (wSeq (wIfS (wOrT (wBl (wOp (dEq true) (wIsi [.lst] (wVar 0)) (wIsi [.lst] (wVar 1)))) (wBl (wOp (dEq true) (wIsi [.tup] (wVar 0)) (wIsi [.tup] (wVar 1))))) (wRet (wC (.bl false))) (wNext)) (wRet (wAnd (wOp (dEq false) (wB dLen (wCons (wVar 0) (wNil))) (wB dLen (wCons (wVar 1) (wNil)))) (wB dAll (wCons (wLc false (iZipD (wCons (wVar 0) (wCons (wVar 1) (wNil)))) (gSeq 2 (gConsD (gN 2) (gConsD (gN 3) (gNilD)))) (wYes) (wCall S0 [] (wCons (wVar 2) (wCons (wVar 3) (wNil)))) [2, 3]) (wNil)))))) (wNext)) (wSeq (wIfS (wOrT (wBl (wOp (dIsN false) (wVar 1) (wC .non))) (wTru (wIsi [.bl, .str] (wVar 1)))) (wRet (wAnd (wOp (dEq false) (wVar 0) (wVar 1)) (wAnd (wOp (dEq false) (wIsi [.bl] (wVar 0)) (wIsi [.bl] (wVar 1))) (wOp (dEq false) (wOp (dIsN false) (wVar 0) (wC .non)) (wOp (dIsN false) (wVar 1) (wC .non)))))) (wNext)) (wRet (wAnd (wIsi [.int] (wVar 0)) (wAnd (wNot (wIsi [.bl] (wVar 0))) (wOp (dEq false) (wVar 0) (wVar 1))))))
def S__law_same : Nat → DSp
  | 0 => fun _ _ _ => False
  | n + 1 => arD 2 (runD 4 (w__law_same (S__law_same n)))
theorem sc__law_same : FnScope ["_law_found", "_law_due", "_law_mine", "_law_its"] ["_law_found", "_law_due"] (defScope st__law_same) := ⟨rfl, rfl, rfl, by decide +kernel, rfl, by decide +kernel, by decide +kernel⟩
theorem ok__law_same (cx : Cxt w K mg) : ∃ fd, (∀ n, FD P w K mg base (gm K) (0 + n) (He.fAd K ("_law_same", none)) fd ["_law_found", "_law_due"] (S__law_same n)) ∧ FunD K "_law_same" "_law_same" (defArgs st__law_same) (defBody st__law_same) (defScope st__law_same) [] [] (He.fAd K ("_law_same", none)) fd := by
  obtain ⟨fd, F⟩ := cx.F__law_same
  refine ⟨fd, fun n => ?_, F⟩
  induction n with
  | zero => exact FD.zero F (fun _ _ _ _ _ _ us hl => match us, hl with | [_, _], _ => rfl)
  | succ n k0 =>
    refine FD.mk' F sc__law_same (fun _ _ _ _ _ _ us hl => match us, hl with | [_, _], _ => rfl) fun cdv A outer s H E hr hg => ?_
    have dx := dx_cx (P := P) (w := w) (K := K) (mg := mg) (base := base) (G := gm K) (outer := outer) (H := H) (E := E) rfl sc__law_same.nd hr hg
    exact (qss_cons (qs_if (qt_truth dx.K (qe_isi2 (t := .lst) (t' := .tup) dx.K (by decide) (by decide) rfl cx.n_isinstance rfl cx.n_list boot_list rfl cx.n_tuple boot_tuple (qe_var (i := 1) rfl (.inl rfl)))) (qss_cons (qs_if (PW.pt (qw_or (qt_cmp (od_eq dx.K dx.u65 true rfl) (qe_isi (t := .lst) dx.K (by decide) rfl cx.n_isinstance rfl cx.n_list boot_list (qe_var (i := 0) rfl (.inl rfl))) (qe_isi (t := .lst) dx.K (by decide) rfl cx.n_isinstance rfl cx.n_list boot_list (qe_var (i := 1) rfl (.inl rfl))) (nomark _)) (qw_or1 (qt_cmp (od_eq dx.K dx.u65 true rfl) (qe_isi (t := .tup) dx.K (by decide) rfl cx.n_isinstance rfl cx.n_tuple boot_tuple (qe_var (i := 0) rfl (.inl rfl))) (qe_isi (t := .tup) dx.K (by decide) rfl cx.n_isinstance rfl cx.n_tuple boot_tuple (qe_var (i := 1) rfl (.inl rfl))) (nomark _))))) (qss_one (qs_ret qe_bl)) qss_nil) (qss_one (qs_ret (qe_and dx.K (pd_cmp (od_eq dx.K dx.u65 false rfl) (qe_callB (cd_len dx.K) rfl cx.n_len boot_len (qa_cons (qe_var (i := 0) rfl (.inl rfl)) qa_nil)) (qe_callB (cd_len dx.K) rfl cx.n_len boot_len (qa_cons (qe_var (i := 1) rfl (.inl rfl)) qa_nil)) (nomark _)) (qe_one (qe_callB (cd_all dx.K dx.calm) rfl cx.n_all boot_all (qa_cons (qe_lc (own := [("_law_mine", 2), ("_law_its", 3)]) dx false (qi_zip dx.K rfl cx.n_zip (qa_cons (qe_var (i := 0) rfl (.inl rfl)) (qa_cons (qe_var (i := 1) rfl (.inl rfl)) qa_nil))) (blk_of (by kernel_rfl)) (by decide) (fun _ _ _ _ _ => (qg_tup (n := 2) (DX.blk dx _ _ _ _ _).K (DX.blk dx _ _ _ _ _).calm (qgs_cons (qg_name (i := 2) (DX.blk dx _ _ _ _ _).nd rfl (.inl rfl) (.inr rfl)) (qgs_cons (qg_name (i := 3) (DX.blk dx _ _ _ _ _).nd rfl (.inl rfl) (.inr rfl)) qgs_nil)))) (fun _ _ _ _ _ => qts_nil) (fun _ _ _ _ _ => (qf_call k0 (DX.blk dx _ _ _ _ _) (Nat.le_refl _) rfl cx.g__law_same (qa_cons (qe_var (i := 2) rfl (.inl rfl)) (qa_cons (qe_var (i := 3) rfl (.inl rfl)) qa_nil))))) qa_nil))))))) qss_nil) (qss_cons (qs_if (PW.pt (qw_or (qt_cmp (od_isN false rfl) (qe_var (i := 1) rfl (.inl rfl)) qe_non (nomark _)) (qw_or1 (qt_truth dx.K (qe_isi2 (t := .bl) (t' := .str) dx.K (by decide) (by decide) rfl cx.n_isinstance rfl cx.n_bool boot_bool rfl cx.n_str boot_str (qe_var (i := 1) rfl (.inl rfl))))))) (qss_one (qs_ret (qe_and dx.K (pd_cmp (od_eq dx.K dx.u65 false rfl) (qe_var (i := 0) rfl (.inl rfl)) (qe_var (i := 1) rfl (.inl rfl)) (nomark _)) (qe_and dx.K (pd_cmp (od_eq dx.K dx.u65 false rfl) (qe_isi (t := .bl) dx.K (by decide) rfl cx.n_isinstance rfl cx.n_bool boot_bool (qe_var (i := 0) rfl (.inl rfl))) (qe_isi (t := .bl) dx.K (by decide) rfl cx.n_isinstance rfl cx.n_bool boot_bool (qe_var (i := 1) rfl (.inl rfl))) (nomark _)) (qe_one (pd_cmp (od_eq dx.K dx.u65 false rfl) (pd_cmp (od_isN false rfl) (qe_var (i := 0) rfl (.inl rfl)) qe_non (nomark _)) (pd_cmp (od_isN false rfl) (qe_var (i := 1) rfl (.inl rfl)) qe_non (nomark _)) (nomark _))))))) qss_nil) (qss_one (qs_ret (qe_and dx.K (qe_isi (t := .int) dx.K (by decide) rfl cx.n_isinstance rfl cx.n_int boot_int (qe_var (i := 0) rfl (.inl rfl))) (qe_and dx.K (qe_not dx.K (qe_isi (t := .bl) dx.K (by decide) rfl cx.n_isinstance rfl cx.n_bool boot_bool (qe_var (i := 0) rfl (.inl rfl)))) (qe_one (pd_cmp (od_eq dx.K dx.u65 false rfl) (qe_var (i := 0) rfl (.inl rfl)) (qe_var (i := 1) rfl (.inl rfl)) (nomark _)))))))))
def w__law_forms : DS := wSeq (wAsg (wDispC [("fork", .str "1"), ("lead", .str ""), ("adopt", .str ""), ("join", .str "00"), ("end", .str "n"), ("wait", .str "0"), ("send", .str "k0"), ("sendall", .str "k0")]) (gN 0)) (wSeq (wDrop (wM .dct mUpd (wVar 0) (wCons (wDispC [("about", .str "0"), ("get", .str "0"), ("set", .str "0n"), ("make", .str "pt"), ("remove", .str "p"), ("open", .str "p"), ("seek", .str "00")]) (wNil)))) (wSeq (wDrop (wM .dct mUpd (wVar 0) (wCons (wDispC [("pipe", .str ""), ("pair", .str ""), ("area", .str ""), ("copy", .str "00"), ("close", .str "0"), ("handles", .str ""), ("same", .str "000")]) (wNil)))) (wSeq (wDrop (wM .dct mUpd (wVar 0) (wCons (wDispC [("peek", .str "00"), ("poke", .str "00n"), ("read", .str "01"), ("write", .str "0l"), ("pass", .str "00"), ("take", .str "0")]) (wNil)))) (wRet (wVar 0)))))
def S__law_forms : DSp := arD 0 (runD 1 w__law_forms)
theorem sc__law_forms : FnScope ["_law_known"] [] (defScope st__law_forms) := ⟨rfl, rfl, rfl, by decide +kernel, rfl, by decide +kernel, by decide +kernel⟩
theorem ok__law_forms (cx : Cxt w K mg) : ∃ fd, FD P w K mg base (gm K) 1 (He.fAd K ("_law_forms", none)) fd [] S__law_forms ∧ FunD K "_law_forms" "_law_forms" (defArgs st__law_forms) (defBody st__law_forms) (defScope st__law_forms) [] [] (He.fAd K ("_law_forms", none)) fd := by
  obtain ⟨fd, F⟩ := cx.F__law_forms
  refine ⟨fd, FD.mk' F sc__law_forms (fun _ _ _ _ _ _ us hl => match us, hl with | [], _ => rfl) fun cdv A outer s H E hr hg => ?_, F⟩
  have dx := dx_cx (P := P) (w := w) (K := K) (mg := mg) (base := base) (G := gm K) (outer := outer) (H := H) (E := E) rfl sc__law_forms.nd hr hg
  exact (qss_cons (qs_set (i := 0) dx.nd rfl (.inl rfl) (qe_dispC (kvs := [("fork", .str "1"), ("lead", .str ""), ("adopt", .str ""), ("join", .str "00"), ("end", .str "n"), ("wait", .str "0"), ("send", .str "k0"), ("sendall", .str "k0")]) (pps_cons qe_str qe_str (pps_cons qe_str qe_str (pps_cons qe_str qe_str (pps_cons qe_str qe_str (pps_cons qe_str qe_str (pps_cons qe_str qe_str (pps_cons qe_str qe_str (pps_cons qe_str qe_str pps_nil)))))))) rfl rfl (fun z => by cases z) (by decide) (by decide)) (by rfl) (.inl rfl)) (qss_cons (qs_expr (qe_m (t := .dct) dx.K (.inr (.inl rfl)) PySem.F.plainAttrs_dict PySem.F.slot_dict_update PySem.F.type_dict_update md_update (qe_var (i := 0) rfl (.inl rfl)) (qa_cons (qe_dispC (kvs := [("about", .str "0"), ("get", .str "0"), ("set", .str "0n"), ("make", .str "pt"), ("remove", .str "p"), ("open", .str "p"), ("seek", .str "00")]) (pps_cons qe_str qe_str (pps_cons qe_str qe_str (pps_cons qe_str qe_str (pps_cons qe_str qe_str (pps_cons qe_str qe_str (pps_cons qe_str qe_str (pps_cons qe_str qe_str pps_nil))))))) rfl rfl (fun z => by cases z) (by decide) (by decide)) qa_nil))) (qss_cons (qs_expr (qe_m (t := .dct) dx.K (.inr (.inl rfl)) PySem.F.plainAttrs_dict PySem.F.slot_dict_update PySem.F.type_dict_update md_update (qe_var (i := 0) rfl (.inl rfl)) (qa_cons (qe_dispC (kvs := [("pipe", .str ""), ("pair", .str ""), ("area", .str ""), ("copy", .str "00"), ("close", .str "0"), ("handles", .str ""), ("same", .str "000")]) (pps_cons qe_str qe_str (pps_cons qe_str qe_str (pps_cons qe_str qe_str (pps_cons qe_str qe_str (pps_cons qe_str qe_str (pps_cons qe_str qe_str (pps_cons qe_str qe_str pps_nil))))))) rfl rfl (fun z => by cases z) (by decide) (by decide)) qa_nil))) (qss_cons (qs_expr (qe_m (t := .dct) dx.K (.inr (.inl rfl)) PySem.F.plainAttrs_dict PySem.F.slot_dict_update PySem.F.type_dict_update md_update (qe_var (i := 0) rfl (.inl rfl)) (qa_cons (qe_dispC (kvs := [("peek", .str "00"), ("poke", .str "00n"), ("read", .str "01"), ("write", .str "0l"), ("pass", .str "00"), ("take", .str "0")]) (pps_cons qe_str qe_str (pps_cons qe_str qe_str (pps_cons qe_str qe_str (pps_cons qe_str qe_str (pps_cons qe_str qe_str (pps_cons qe_str qe_str pps_nil)))))) rfl rfl (fun z => by cases z) (by decide) (by decide)) qa_nil))) (qss_one (qs_ret (qe_var (i := 0) rfl (.inl rfl))))))))
def w__law_fits : DS := wSeq (wIfS (wBl (wOp (dIn false) (wVar 0) (wC (.str "01n")))) (wSeq (wIfS (wOrT (wNotT (wTru (wIsi [.int] (wVar 1)))) (wTru (wIsi [.bl] (wVar 1)))) (wRet (wC (.bl false))) (wNext)) (wRet (wOr (wOp (dEq false) (wVar 0) (wC (.str "n"))) (wOp (dRel fun i j => decide (j ≤ i)) (wVar 1) (wB dIntS (wCons (wVar 0) (wNil))))))) (wNext)) (wSeq (wIfS (wNotT (wTru (wIsi [.str] (wVar 1)))) (wRet (wC (.bl false))) (wNext)) (wSeq (wIfS (wBl (wOp (dEq false) (wVar 0) (wC (.str "k")))) (wRet (wOp (dIn false) (wVar 1) (wTup (wCons (wC (.str "stop")) (wCons (wC (.str "go")) (wCons (wC (.str "end")) (wCons (wC (.str "wake")) (wNil)))))))) (wNext)) (wSeq (wIfS (wBl (wOp (dEq false) (wVar 0) (wC (.str "p")))) (wRet (wAnd (wOp (dEq true) (wVar 1) (wC (.str ""))) (wB dAll (wCons (wLc false (iStrD (wVar 1)) (gN 2) (wYes) (wOp (dIn false) (wVar 2) (wC (.str "abcdefghijklmnopqrstuvwxyz"))) [2]) (wNil))))) (wNext)) (wRet (wOr (wOp (dEq false) (wVar 0) (wC (.str "t"))) (wOp (dEq true) (wVar 1) (wC (.str ""))))))))
def S__law_fits : DSp := arD 2 (runD 3 w__law_fits)
theorem sc__law_fits : FnScope ["_law_sort", "_law_part_here", "_law_sign"] ["_law_sort", "_law_part_here"] (defScope st__law_fits) := ⟨rfl, rfl, rfl, by decide +kernel, rfl, by decide +kernel, by decide +kernel⟩
theorem ok__law_fits (cx : Cxt w K mg) : ∃ fd, FD P w K mg base (gm K) 1 (He.fAd K ("_law_fits", none)) fd ["_law_sort", "_law_part_here"] S__law_fits ∧ FunD K "_law_fits" "_law_fits" (defArgs st__law_fits) (defBody st__law_fits) (defScope st__law_fits) [] [] (He.fAd K ("_law_fits", none)) fd := by
  obtain ⟨fd, F⟩ := cx.F__law_fits
  refine ⟨fd, FD.mk' F sc__law_fits (fun _ _ _ _ _ _ us hl => match us, hl with | [_, _], _ => rfl) fun cdv A outer s H E hr hg => ?_, F⟩
  have dx := dx_cx (P := P) (w := w) (K := K) (mg := mg) (base := base) (G := gm K) (outer := outer) (H := H) (E := E) rfl sc__law_fits.nd hr hg
  exact (qss_cons (qs_if (qt_cmp (od_in dx.K dx.u1 false rfl) (qe_var (i := 0) rfl (.inl rfl)) qe_str (by rfl)) (qss_cons (qs_if (PW.pt (qw_or (qt_not (qt_truth dx.K (qe_isi (t := .int) dx.K (by decide) rfl cx.n_isinstance rfl cx.n_int boot_int (qe_var (i := 1) rfl (.inl rfl))))) (qw_or1 (qt_truth dx.K (qe_isi (t := .bl) dx.K (by decide) rfl cx.n_isinstance rfl cx.n_bool boot_bool (qe_var (i := 1) rfl (.inl rfl))))))) (qss_one (qs_ret qe_bl)) qss_nil) (qss_one (qs_ret (qe_or dx.K (pd_cmp (od_eq dx.K dx.u65 false rfl) (qe_var (i := 0) rfl (.inl rfl)) qe_str (nomark _)) (qe_one (pd_cmp (od_rel op_ge) (qe_var (i := 1) rfl (.inl rfl)) (qe_callTy cd_intS rfl cx.n_int boot_int (qa_cons (qe_var (i := 0) rfl (.inl rfl)) qa_nil)) (nomark _))))))) qss_nil) (qss_cons (qs_if (qt_not (qt_truth dx.K (qe_isi (t := .str) dx.K (by decide) rfl cx.n_isinstance rfl cx.n_str boot_str (qe_var (i := 1) rfl (.inl rfl))))) (qss_one (qs_ret qe_bl)) qss_nil) (qss_cons (qs_if (qt_cmp (od_eq dx.K dx.u65 false rfl) (qe_var (i := 0) rfl (.inl rfl)) qe_str (nomark _)) (qss_one (qs_ret (pd_cmp (od_in dx.K dx.u1 false rfl) (qe_var (i := 1) rfl (.inl rfl)) (qe_tup (qa_cons qe_str (qa_cons qe_str (qa_cons qe_str (qa_cons qe_str qa_nil))))) (by rfl)))) qss_nil) (qss_cons (qs_if (qt_cmp (od_eq dx.K dx.u65 false rfl) (qe_var (i := 0) rfl (.inl rfl)) qe_str (nomark _)) (qss_one (qs_ret (qe_and dx.K (pd_cmp (od_eq dx.K dx.u65 true rfl) (qe_var (i := 1) rfl (.inl rfl)) qe_str (nomark _)) (qe_one (qe_callB (cd_all dx.K dx.calm) rfl cx.n_all boot_all (qa_cons (qe_lc (own := [("_law_sign", 2)]) dx false (qi_strD (qe_var (i := 1) rfl (.inl rfl))) (blk_of (by kernel_rfl)) (by decide) (fun _ _ _ _ _ => (qg_name (i := 2) (DX.blk dx _ _ _ _ _).nd rfl (.inl rfl) (.inr rfl))) (fun _ _ _ _ _ => qts_nil) (fun _ _ _ _ _ => (pd_cmp (od_in (DX.blk dx _ _ _ _ _).K (DX.blk dx _ _ _ _ _).u1 false rfl) (qe_var (i := 2) rfl (.inl rfl)) qe_str (by rfl)))) qa_nil)))))) qss_nil) (qss_one (qs_ret (qe_or dx.K (pd_cmp (od_eq dx.K dx.u65 false rfl) (qe_var (i := 0) rfl (.inl rfl)) qe_str (nomark _)) (qe_one (pd_cmp (od_eq dx.K dx.u65 true rfl) (qe_var (i := 1) rfl (.inl rfl)) qe_str (nomark _))))))))))
def w__law_is_due : DS := wSeq (wAsg (wCall S__law_forms [] wNil) (gN 1)) (wSeq (wIfS (wOrT (wNotT (wTru (wIsi [.tup] (wVar 0)))) (wOrT (wBl (wOp (dEq false) (wB dLen (wCons (wVar 0) (wNil))) (wC (.int 0)))) (wNotT (wTru (wIsi [.str] (wOp dIx (wVar 0) (wC (.int 0)))))))) (wRet (wC (.bl false))) (wNext)) (wSeq (wIfS (wOrT (wBl (wOp (dIn true) (wOp dIx (wVar 0) (wC (.int 0))) (wVar 1))) (wBl (wOp (dEq true) (wB dLen (wCons (wVar 0) (wNil))) (wOp (dAdd false) (wB dLen (wCons (wOp dIx (wVar 1) (wOp dIx (wVar 0) (wC (.int 0)))) (wNil))) (wC (.int 1)))))) (wRet (wC (.bl false))) (wNext)) (wRet (wB dAll (wCons (wLc false (iZipSD (wCons (wOp dIx (wVar 1) (wOp dIx (wVar 0) (wC (.int 0)))) (wCons (wSl false (wVar 0) (some (wC (.int 1))) none) (wNil)))) (gSeq 2 (gConsD (gN 2) (gConsD (gN 3) (gNilD)))) (wYes) (wCall S__law_fits [] (wCons (wVar 2) (wCons (wVar 3) (wNil)))) [2, 3]) (wNil))))))
def S__law_is_due : DSp := arD 1 (runD 4 w__law_is_due)
theorem sc__law_is_due : FnScope ["_law_matter", "_law_known", "_law_sort", "_law_part_here"] ["_law_matter"] (defScope st__law_is_due) := ⟨rfl, rfl, rfl, by decide +kernel, rfl, by decide +kernel, by decide +kernel⟩
theorem ok__law_is_due (cx : Cxt w K mg) : ∃ fd, FD P w K mg base (gm K) 2 (He.fAd K ("_law_is_due", none)) fd ["_law_matter"] S__law_is_due ∧ FunD K "_law_is_due" "_law_is_due" (defArgs st__law_is_due) (defBody st__law_is_due) (defScope st__law_is_due) [] [] (He.fAd K ("_law_is_due", none)) fd := by
  obtain ⟨fd, F⟩ := cx.F__law_is_due
  obtain ⟨fd__law_fits, k__law_fits, F__law_fits⟩ := ok__law_fits (P := P) (w := w) (base := base) cx
  obtain ⟨fd__law_forms, k__law_forms, F__law_forms⟩ := ok__law_forms (P := P) (w := w) (base := base) cx
  refine ⟨fd, FD.mk' F sc__law_is_due (fun _ _ _ _ _ _ us hl => match us, hl with | [_], _ => rfl) fun cdv A outer s H E hr hg => ?_, F⟩
  have dx := dx_cx (P := P) (w := w) (K := K) (mg := mg) (base := base) (G := gm K) (outer := outer) (H := H) (E := E) rfl sc__law_is_due.nd hr hg
  exact (qss_cons (qs_set (i := 1) dx.nd rfl (.inl rfl) (qf_call0 k__law_forms dx (by decide) rfl cx.g__law_forms) (by rfl) (.inl rfl)) (qss_cons (qs_if (PW.pt (qw_or (qt_not (qt_truth dx.K (qe_isi (t := .tup) dx.K (by decide) rfl cx.n_isinstance rfl cx.n_tuple boot_tuple (qe_var (i := 0) rfl (.inl rfl))))) (qw_or (qt_cmp (od_eq dx.K dx.u65 false rfl) (qe_callB (cd_len dx.K) rfl cx.n_len boot_len (qa_cons (qe_var (i := 0) rfl (.inl rfl)) qa_nil)) qe_int (nomark _)) (qw_or1 (qt_not (qt_truth dx.K (qe_isi (t := .str) dx.K (by decide) rfl cx.n_isinstance rfl cx.n_str boot_str (pd_ix dx.K dx.u1 (qe_var (i := 0) rfl (.inl rfl)) qe_int nofun)))))))) (qss_one (qs_ret qe_bl)) qss_nil) (qss_cons (qs_if (PW.pt (qw_or (qt_cmp (od_in dx.K dx.u1 true rfl) (pd_ix dx.K dx.u1 (qe_var (i := 0) rfl (.inl rfl)) qe_int nofun) (qe_var (i := 1) rfl (.inl rfl)) (by rfl)) (qw_or1 (qt_cmp (od_eq dx.K dx.u65 true rfl) (qe_callB (cd_len dx.K) rfl cx.n_len boot_len (qa_cons (qe_var (i := 0) rfl (.inl rfl)) qa_nil)) (pd_op (od_add dx.K false) (qe_callB (cd_len dx.K) rfl cx.n_len boot_len (qa_cons (pd_ix dx.K dx.u1 (qe_var (i := 1) rfl (.inl rfl)) (pd_ix dx.K dx.u1 (qe_var (i := 0) rfl (.inl rfl)) qe_int nofun) nofun) qa_nil)) qe_int) (nomark _))))) (qss_one (qs_ret qe_bl)) qss_nil) (qss_one (qs_ret (qe_callB (cd_all dx.K dx.calm) rfl cx.n_all boot_all (qa_cons (qe_lc (own := [("_law_sort", 2), ("_law_part_here", 3)]) dx false (qi_zipS dx.K rfl cx.n_zip (qa_cons (pd_ix dx.K dx.u1 (qe_var (i := 1) rfl (.inl rfl)) (pd_ix dx.K dx.u1 (qe_var (i := 0) rfl (.inl rfl)) qe_int nofun) nofun) (qa_cons (pd_sl (mu := false) dx.K (qe_var (i := 0) rfl (.inl rfl)) (po_some' qe_int) po_none') qa_nil))) (blk_of (by kernel_rfl)) (by decide) (fun _ _ _ _ _ => (qg_tup (n := 2) (DX.blk dx _ _ _ _ _).K (DX.blk dx _ _ _ _ _).calm (qgs_cons (qg_name (i := 2) (DX.blk dx _ _ _ _ _).nd rfl (.inl rfl) (.inr rfl)) (qgs_cons (qg_name (i := 3) (DX.blk dx _ _ _ _ _).nd rfl (.inl rfl) (.inr rfl)) qgs_nil)))) (fun _ _ _ _ _ => qts_nil) (fun _ _ _ _ _ => (qf_call k__law_fits (DX.blk dx _ _ _ _ _) (by decide) rfl cx.g__law_fits (qa_cons (qe_var (i := 2) rfl (.inl rfl)) (qa_cons (qe_var (i := 3) rfl (.inl rfl)) qa_nil))))) qa_nil)))))))
def w__law_part : DS := wSeq (wIfS (wBl (wOp (dIn false) (wVar 1) (wC (.str "01n")))) (wSeq (wAsg (wOp dIx (wDispC [("0", .int 0), ("1", .int 1), ("n", .int (-9))]) (wVar 1)) (gN 2)) (wRet (wCall S__law_pick [] (wCons (wVar 0) (wCons (wLst false (wCons (wVar 2) (wCons (wOp (dAdd false) (wVar 2) (wC (.int 1))) (wCons (wOp (dAdd false) (wVar 2) (wCall (S__law_draw 3) [] (wCons (wVar 0) (wCons (wC (.int 99)) (wNil))))) (wCons (wOp (dPow) (wC (.int 10)) (wC (.int 30))) (wNil)))))) (wNil)))))) (wNext)) (wSeq (wIfS (wBl (wOp (dEq false) (wVar 1) (wC (.str "k")))) (wRet (wCall S__law_pick [] (wCons (wVar 0) (wCons (wLst false (wCons (wC (.str "stop")) (wCons (wC (.str "go")) (wCons (wC (.str "end")) (wCons (wC (.str "wake")) (wNil)))))) (wNil))))) (wNext)) (wSeq (wIfS (wBl (wOp (dEq false) (wVar 1) (wC (.str "p")))) (wRet (wCall S__law_pick [] (wCons (wVar 0) (wCons (wLst false (wCons (wC (.str "a")) (wCons (wC (.str "log")) (wCons (wC (.str "abcdefghij")) (wCons (wC (.str "zz")) (wNil)))))) (wNil))))) (wNext)) (wRet (wCall S__law_pick [] (wCons (wVar 0) (wCons (wLst false (wCons (wC (.str "a")) (wCons (wC (.str "~ ")) (wCons (wC (.str "A
")) (wCons (wOp dMulS (wC (.str "x")) (wC (.int 50))) (wCons (wIf (wBl (wOp (dEq false) (wVar 1) (wC (.str "t")))) (wC (.str "")) (wC (.str "0"))) (wNil))))))) (wNil)))))))
def S__law_part : DSp := arD 2 (runD 3 w__law_part)
theorem sc__law_part : FnScope ["_law_source", "_law_sort", "_law_low"] ["_law_source", "_law_sort"] (defScope st__law_part) := ⟨rfl, rfl, rfl, by decide +kernel, rfl, by decide +kernel, by decide +kernel⟩
theorem ok__law_part (cx : Cxt w K mg) : ∃ fd, FD P w K mg base (gm K) 5 (He.fAd K ("_law_part", none)) fd ["_law_source", "_law_sort"] S__law_part ∧ FunD K "_law_part" "_law_part" (defArgs st__law_part) (defBody st__law_part) (defScope st__law_part) [] [] (He.fAd K ("_law_part", none)) fd := by
  obtain ⟨fd, F⟩ := cx.F__law_part
  obtain ⟨fd__law_draw, kr__law_draw, F__law_draw⟩ := ok__law_draw (P := P) (w := w) (base := base) cx
  have k__law_draw := kr__law_draw 3
  obtain ⟨fd__law_pick, k__law_pick, F__law_pick⟩ := ok__law_pick (P := P) (w := w) (base := base) cx
  refine ⟨fd, FD.mk' F sc__law_part (fun _ _ _ _ _ _ us hl => match us, hl with | [_, _], _ => rfl) fun cdv A outer s H E hr hg => ?_, F⟩
  have dx := dx_cx (P := P) (w := w) (K := K) (mg := mg) (base := base) (G := gm K) (outer := outer) (H := H) (E := E) rfl sc__law_part.nd hr hg
  exact (qss_cons (qs_if (qt_cmp (od_in dx.K dx.u1 false rfl) (qe_var (i := 1) rfl (.inl rfl)) qe_str (by rfl)) (qss_cons (qs_set (i := 2) dx.nd rfl (.inl rfl) (pd_ix dx.K dx.u1 (qe_dispC (kvs := [("0", .int 0), ("1", .int 1), ("n", .int (-9))]) (pps_cons qe_str qe_int (pps_cons qe_str qe_int (pps_cons qe_str (qe_negC (qe_neg qe_int)) pps_nil))) rfl rfl (fun z => by cases z) (by decide) (by decide)) (qe_var (i := 1) rfl (.inl rfl)) nofun) (by rfl) (.inl rfl)) (qss_one (qs_ret (qf_call k__law_pick dx (by decide) rfl cx.g__law_pick (qa_cons (qe_var (i := 0) rfl (.inl rfl)) (qa_cons (qe_lst false (qa_cons (qe_var (i := 2) rfl (.inl rfl)) (qa_cons (pd_op (od_add dx.K false) (qe_var (i := 2) rfl (.inl rfl)) qe_int) (qa_cons (pd_op (od_add dx.K false) (qe_var (i := 2) rfl (.inl rfl)) (qf_call k__law_draw dx (by decide) rfl cx.g__law_draw (qa_cons (qe_var (i := 0) rfl (.inl rfl)) (qa_cons qe_int qa_nil)))) (qa_cons (pd_op (od_pow) qe_int qe_int) qa_nil))))) qa_nil)))))) qss_nil) (qss_cons (qs_if (qt_cmp (od_eq dx.K dx.u65 false rfl) (qe_var (i := 1) rfl (.inl rfl)) qe_str (nomark _)) (qss_one (qs_ret (qf_call k__law_pick dx (by decide) rfl cx.g__law_pick (qa_cons (qe_var (i := 0) rfl (.inl rfl)) (qa_cons (qe_lst false (qa_cons qe_str (qa_cons qe_str (qa_cons qe_str (qa_cons qe_str qa_nil))))) qa_nil))))) qss_nil) (qss_cons (qs_if (qt_cmp (od_eq dx.K dx.u65 false rfl) (qe_var (i := 1) rfl (.inl rfl)) qe_str (nomark _)) (qss_one (qs_ret (qf_call k__law_pick dx (by decide) rfl cx.g__law_pick (qa_cons (qe_var (i := 0) rfl (.inl rfl)) (qa_cons (qe_lst false (qa_cons qe_str (qa_cons qe_str (qa_cons qe_str (qa_cons qe_str qa_nil))))) qa_nil))))) qss_nil) (qss_one (qs_ret (qf_call k__law_pick dx (by decide) rfl cx.g__law_pick (qa_cons (qe_var (i := 0) rfl (.inl rfl)) (qa_cons (qe_lst false (qa_cons qe_str (qa_cons qe_str (qa_cons qe_str (qa_cons (pd_op od_mulS qe_str qe_int) (qa_cons (qe_if (qt_cmp (od_eq dx.K dx.u65 false rfl) (qe_var (i := 1) rfl (.inl rfl)) qe_str (nomark _)) qe_str qe_str) qa_nil)))))) qa_nil))))))))
def w__law_odd : DS := wSeq (wAsg (wLst false (wCons (wC .non) (wCons (wC (.bl true)) (wCons (wC (.bl false)) (wCons (wNeg (wC (.int 1))) (wCons (wC (.int 0)) (wCons (wC (.int 1)) (wCons (wC (.int 2)) (wCons (wC (.str "")) (wCons (wC (.str "a")) (wCons (wC (.str "A")) (wCons (wC (.str "a1")) (wCons (wC (.str "stop")) (wCons (wC (.str "fork")) (wCons (wC (.str "lead")) (wCons (wC (.str "go ")) (wCons (wTup (wNil)) (wCons (wLst false (wNil)) (wCons (wTup (wCons (wC (.int 0)) (wNil))) (wCons (wLst false (wCons (wC (.int 1)) (wNil))) (wCons (wTup (wCons (wTup (wNil)) (wNil))) (wNil)))))))))))))))))))))) (gN 1)) (wRet (wCall S__law_pick [] (wCons (wVar 0) (wCons (wOp (dAdd false) (wVar 1) (wLst false (wCons (wTup (wCons (wC (.str "lead")) (wNil))) (wCons (wLst false (wCons (wC (.str "lead")) (wNil))) (wCons (wOp (dPow) (wC (.int 10)) (wC (.int 40))) (wCons (wC (.str "stopp")) (wCons (wC (.str "handles")) (wCons (wTup (wCons (wC (.str "fork")) (wCons (wC (.int 2)) (wNil)))) (wCons (wC (.str "log.")) (wCons (wC (.str "wait")) (wNil))))))))))) (wNil)))))
def S__law_odd : DSp := arD 1 (runD 2 w__law_odd)
theorem sc__law_odd : FnScope ["_law_source", "_law_some"] ["_law_source"] (defScope st__law_odd) := ⟨rfl, rfl, rfl, by decide +kernel, rfl, by decide +kernel, by decide +kernel⟩
theorem ok__law_odd (cx : Cxt w K mg) : ∃ fd, FD P w K mg base (gm K) 5 (He.fAd K ("_law_odd", none)) fd ["_law_source"] S__law_odd ∧ FunD K "_law_odd" "_law_odd" (defArgs st__law_odd) (defBody st__law_odd) (defScope st__law_odd) [] [] (He.fAd K ("_law_odd", none)) fd := by
  obtain ⟨fd, F⟩ := cx.F__law_odd
  obtain ⟨fd__law_pick, k__law_pick, F__law_pick⟩ := ok__law_pick (P := P) (w := w) (base := base) cx
  refine ⟨fd, FD.mk' F sc__law_odd (fun _ _ _ _ _ _ us hl => match us, hl with | [_], _ => rfl) fun cdv A outer s H E hr hg => ?_, F⟩
  have dx := dx_cx (P := P) (w := w) (K := K) (mg := mg) (base := base) (G := gm K) (outer := outer) (H := H) (E := E) rfl sc__law_odd.nd hr hg
  exact (qss_cons (qs_set (i := 1) dx.nd rfl (.inl rfl) (qe_lst false (qa_cons qe_non (qa_cons qe_bl (qa_cons qe_bl (qa_cons (qe_neg qe_int) (qa_cons qe_int (qa_cons qe_int (qa_cons qe_int (qa_cons qe_str (qa_cons qe_str (qa_cons qe_str (qa_cons qe_str (qa_cons qe_str (qa_cons qe_str (qa_cons qe_str (qa_cons qe_str (qa_cons (qe_tup qa_nil) (qa_cons (qe_lst false qa_nil) (qa_cons (qe_tup (qa_cons qe_int qa_nil)) (qa_cons (qe_lst false (qa_cons qe_int qa_nil)) (qa_cons (qe_tup (qa_cons (qe_tup qa_nil) qa_nil)) qa_nil))))))))))))))))))))) (by rfl) (.inl rfl)) (qss_one (qs_ret (qf_call k__law_pick dx (by decide) rfl cx.g__law_pick (qa_cons (qe_var (i := 0) rfl (.inl rfl)) (qa_cons (pd_op (od_add dx.K false) (qe_var (i := 1) rfl (.inl rfl)) (qe_lst false (qa_cons (qe_tup (qa_cons qe_str qa_nil)) (qa_cons (qe_lst false (qa_cons qe_str qa_nil)) (qa_cons (pd_op (od_pow) qe_int qe_int) (qa_cons qe_str (qa_cons qe_str (qa_cons (qe_tup (qa_cons qe_str (qa_cons qe_int qa_nil))) (qa_cons qe_str (qa_cons qe_str qa_nil)))))))))) qa_nil))))))
def w__law_bent : DS := wSeq (wPar 2 3 (wCons (wCall (S__law_draw 3) [] (wCons (wVar 0) (wCons (wC (.int 9)) (wNil)))) (wCons (wB (dListOf true) (wCons (wVar 1) (wNil))) (wNil)))) (wSeq (wAsg (wCall (S__law_draw 3) [] (wCons (wVar 0) (wCons (wB dLen (wCons (wVar 1) (wNil))) (wNil)))) (gN 4)) (wSeq (wIfS (wBl (wOp (dEq false) (wVar 2) (wC (.int 0)))) (wRet (wVarZ 3)) (wNext)) (wSeq (wIfS (wBl (wOp (dEq false) (wVar 2) (wC (.int 1)))) (wRet (wOp (dAdd false) (wVar 1) (wTup (wCons (wCall S__law_odd [] (wCons (wVar 0) (wNil))) (wNil))))) (wNext)) (wSeq (wIfS (wBl (wOp (dEq false) (wVar 2) (wC (.int 2)))) (wRet (wOp dAddT (wSl false (wVar 1) none (some (wVar 4))) (wSl false (wVar 1) (some (wOp (dAdd false) (wVar 4) (wC (.int 1)))) none))) (wNext)) (wSeq (wIfS (wBl (wOp (dEq false) (wVar 2) (wC (.int 3)))) (wRet (wTup (wCons (wVar 1) (wNil)))) (wNext)) (wSeq (wIfS (wBl (wOp (dEq false) (wVar 2) (wC (.int 4)))) (wRet (wCall S__law_odd [] (wCons (wVar 0) (wNil)))) (wNext)) (wSeq (wIfS (wBl (wOp (dEq false) (wVar 2) (wC (.int 5)))) (wRet (wOp (dAdd false) (wTup (wCons (wCall S__law_pick [] (wCons (wVar 0) (wCons (wB (dSorted false) (wCons (wCall S__law_forms [] wNil) (wNil))) (wNil)))) (wNil))) (wSl false (wVar 1) (some (wC (.int 1))) none))) (wNext)) (wSeq (wAsg (wCall S__law_odd [] (wCons (wVar 0) (wNil))) (gSubD (wVar 3) (wVar 4))) (wRet (wB dTupOf (wCons (wVar 3) (wNil))))))))))))
def S__law_bent : DSp := arD 2 (runD 5 w__law_bent)
theorem sc__law_bent : FnScope ["_law_source", "_law_deed", "_law_way", "_law_some", "_law_at"] ["_law_source", "_law_deed"] (defScope st__law_bent) := ⟨rfl, rfl, rfl, by decide +kernel, rfl, by decide +kernel, by decide +kernel⟩
theorem ok__law_bent (cx : Cxt w K mg) : ∃ fd, FD P w K mg base (gm K) 6 (He.fAd K ("_law_bent", none)) fd ["_law_source", "_law_deed"] S__law_bent ∧ FunD K "_law_bent" "_law_bent" (defArgs st__law_bent) (defBody st__law_bent) (defScope st__law_bent) [] [] (He.fAd K ("_law_bent", none)) fd := by
  obtain ⟨fd, F⟩ := cx.F__law_bent
  obtain ⟨fd__law_draw, kr__law_draw, F__law_draw⟩ := ok__law_draw (P := P) (w := w) (base := base) cx
  have k__law_draw := kr__law_draw 3
  obtain ⟨fd__law_forms, k__law_forms, F__law_forms⟩ := ok__law_forms (P := P) (w := w) (base := base) cx
  obtain ⟨fd__law_odd, k__law_odd, F__law_odd⟩ := ok__law_odd (P := P) (w := w) (base := base) cx
  obtain ⟨fd__law_pick, k__law_pick, F__law_pick⟩ := ok__law_pick (P := P) (w := w) (base := base) cx
  refine ⟨fd, FD.mk' F sc__law_bent (fun _ _ _ _ _ _ us hl => match us, hl with | [_, _], _ => rfl) fun cdv A outer s H E hr hg => ?_, F⟩
  have dx := dx_cx (P := P) (w := w) (K := K) (mg := mg) (base := base) (G := gm K) (outer := outer) (H := H) (E := E) rfl sc__law_bent.nd hr hg
  exact (qss_cons (qs_par (i := 2) (j := 3) dx.calm dx.nd rfl rfl (by decide) rfl rfl (qa_cons (qf_call k__law_draw dx (by decide) rfl cx.g__law_draw (qa_cons (qe_var (i := 0) rfl (.inl rfl)) (qa_cons qe_int qa_nil))) (qa_cons (qe_callTy (cd_list dx.K dx.calm true) rfl cx.n_list boot_list (qa_cons (qe_var (i := 1) rfl (.inl rfl)) qa_nil)) qa_nil))) (qss_cons (qs_set (i := 4) dx.nd rfl (.inl rfl) (qf_call k__law_draw dx (by decide) rfl cx.g__law_draw (qa_cons (qe_var (i := 0) rfl (.inl rfl)) (qa_cons (qe_callB (cd_len dx.K) rfl cx.n_len boot_len (qa_cons (qe_var (i := 1) rfl (.inl rfl)) qa_nil)) qa_nil))) (by rfl) (.inl rfl)) (qss_cons (qs_if (qt_cmp (od_eq dx.K dx.u65 false rfl) (qe_var (i := 2) rfl (.inl rfl)) qe_int (nomark _)) (qss_one (qs_ret (qe_varZ (i := 3) rfl (.inl rfl)))) qss_nil) (qss_cons (qs_if (qt_cmp (od_eq dx.K dx.u65 false rfl) (qe_var (i := 2) rfl (.inl rfl)) qe_int (nomark _)) (qss_one (qs_ret (pd_op (od_add dx.K false) (qe_var (i := 1) rfl (.inl rfl)) (qe_tup (qa_cons (qf_call k__law_odd dx (by decide) rfl cx.g__law_odd (qa_cons (qe_var (i := 0) rfl (.inl rfl)) qa_nil)) qa_nil))))) qss_nil) (qss_cons (qs_if (qt_cmp (od_eq dx.K dx.u65 false rfl) (qe_var (i := 2) rfl (.inl rfl)) qe_int (nomark _)) (qss_one (qs_ret (pd_op (od_addT dx.K) (pd_sl (mu := false) dx.K (qe_var (i := 1) rfl (.inl rfl)) po_none' (po_some' (qe_var (i := 4) rfl (.inl rfl)))) (pd_sl (mu := false) dx.K (qe_var (i := 1) rfl (.inl rfl)) (po_some' (pd_op (od_add dx.K false) (qe_var (i := 4) rfl (.inl rfl)) qe_int)) po_none')))) qss_nil) (qss_cons (qs_if (qt_cmp (od_eq dx.K dx.u65 false rfl) (qe_var (i := 2) rfl (.inl rfl)) qe_int (nomark _)) (qss_one (qs_ret (qe_tup (qa_cons (qe_var (i := 1) rfl (.inl rfl)) qa_nil)))) qss_nil) (qss_cons (qs_if (qt_cmp (od_eq dx.K dx.u65 false rfl) (qe_var (i := 2) rfl (.inl rfl)) qe_int (nomark _)) (qss_one (qs_ret (qf_call k__law_odd dx (by decide) rfl cx.g__law_odd (qa_cons (qe_var (i := 0) rfl (.inl rfl)) qa_nil)))) qss_nil) (qss_cons (qs_if (qt_cmp (od_eq dx.K dx.u65 false rfl) (qe_var (i := 2) rfl (.inl rfl)) qe_int (nomark _)) (qss_one (qs_ret (pd_op (od_add dx.K false) (qe_tup (qa_cons (qf_call k__law_pick dx (by decide) rfl cx.g__law_pick (qa_cons (qe_var (i := 0) rfl (.inl rfl)) (qa_cons (qe_callB (cd_sorted dx.K dx.calm false) rfl cx.n_sorted boot_sorted (qa_cons (qf_call0 k__law_forms dx (by decide) rfl cx.g__law_forms) qa_nil)) qa_nil))) qa_nil)) (pd_sl (mu := false) dx.K (qe_var (i := 1) rfl (.inl rfl)) (po_some' qe_int) po_none')))) qss_nil) (qss_cons (qs_asg (qf_call k__law_odd dx (by decide) rfl cx.g__law_odd (qa_cons (qe_var (i := 0) rfl (.inl rfl)) qa_nil)) (qg_sub (vs := []) dx (qe_var (i := 3) rfl (.inl rfl)) (qe_var (i := 4) rfl (.inl rfl)))) (qss_one (qs_ret (qe_callTy (cd_tup dx.K) rfl cx.n_tuple boot_tuple (qa_cons (qe_var (i := 3) rfl (.inl rfl)) qa_nil)))))))))))))
def w__law_right : DS := wSeq (wFor (iAny (wB (dSorted false) (wCons (wCall S__law_forms [] wNil) (wNil)))) (gN 1) (wSeq (wAsg (wOp (dAdd false) (wTup (wCons (wVar 1) (wNil))) (wB dTupOf (wCons (wLc false (iStrD (wOp dIx (wCall S__law_forms [] wNil) (wVar 1))) (gN 9) (wYes) (wCall S__law_part [] (wCons (wVar 0) (wCons (wVar 9) (wNil)))) [9]) (wNil)))) (gN 2)) (wSeq (wPar 3 4 (wCons (wOp (dAdd false) (wLst false (wCons (wVar 2) (wNil))) (wLc false (iRngD (wCons (wC (.int 12)) (wNil))) (gN 10) (wYes) (wCall S__law_bent [] (wCons (wVar 0) (wCons (wVar 2) (wNil)))) [10])) (wCons (wCall S__law_bent [] (wCons (wVar 0) (wCons (wVar 2) (wNil)))) (wNil)))) (wSeq (wAsg (wIf (wAndT (wTru (wIsi [.tup] (wVar 4))) (wBl (wOp (dRel fun i j => decide (j < i)) (wB dLen (wCons (wVar 4) (wNil))) (wC (.int 0))))) (wCall S__law_bent [] (wCons (wVar 0) (wCons (wVar 4) (wNil)))) (wC .non)) (gN 5)) (wSeq (wFor (iAny (wOp (dAdd false) (wVar 3) (wLst false (wCons (wVar 5) (wNil))))) (gN 6) (wSeq (wPar 7 8 (wCons (wB dRepr (wCons (wVar 6) (wNil))) (wCons (wCall S__law_is_due [] (wCons (wVar 6) (wNil))) (wNil)))) (wIfS (wOrT (wNotT (wTru (wCall (S__law_same 6) [] (wCons (wLst false (wCons (wCall S_is_call [] (wCons (wVar 6) (wNil))) (wCons (wCallN 0 (["thing"] : List Str).length S_is_call (fun ds es => pick [0] ds es) (wNil) (wCons (wVar 6) (wNil))) (wNil)))) (wCons (wLst false (wCons (wVar 8) (wCons (wVar 8) (wNil)))) (wNil)))))) (wBl (wOp (dEq true) (wB dRepr (wCons (wVar 6) (wNil))) (wVar 7)))) (wRet (wC (.bl false))) (wNext)))) (wIfS (wBl (wOp (dIsB true) (wCall S_is_call [] (wCons (wVar 2) (wNil))) (wC (.bl true)))) (wRet (wC (.bl false))) (wNext))))))) (wRet (wC (.bl true)))
def S__law_right : DSp := arD 1 (runD 11 w__law_right)
theorem sc__law_right : FnScope ["_law_source", "_law_name", "_law_deed", "_law_matters", "_law_once", "_law_twice", "_law_matter", "_law_before", "_law_due", "_law_sort", "_law_turn"] ["_law_source"] (defScope st__law_right) := ⟨rfl, rfl, rfl, by decide +kernel, rfl, by decide +kernel, by decide +kernel⟩
theorem ok__law_right (cx : Cxt w K mg) : ∃ fd, FD P w K mg base (gm K) 7 (He.fAd K ("_law_right", none)) fd ["_law_source"] S__law_right ∧ FunD K "_law_right" "_law_right" (defArgs st__law_right) (defBody st__law_right) (defScope st__law_right) [] [] (He.fAd K ("_law_right", none)) fd := by
  obtain ⟨fd, F⟩ := cx.F__law_right
  obtain ⟨fd__law_bent, k__law_bent, F__law_bent⟩ := ok__law_bent (P := P) (w := w) (base := base) cx
  obtain ⟨fd__law_forms, k__law_forms, F__law_forms⟩ := ok__law_forms (P := P) (w := w) (base := base) cx
  obtain ⟨fd__law_is_due, k__law_is_due, F__law_is_due⟩ := ok__law_is_due (P := P) (w := w) (base := base) cx
  obtain ⟨fd__law_part, k__law_part, F__law_part⟩ := ok__law_part (P := P) (w := w) (base := base) cx
  obtain ⟨fd__law_same, kr__law_same, F__law_same⟩ := ok__law_same (P := P) (w := w) (base := base) cx
  have k__law_same := kr__law_same 6
  obtain ⟨fd_is_call, k_is_call, F_is_call⟩ := ok_is_call (P := P) (w := w) (base := base) cx
  refine ⟨fd, FD.mk' F sc__law_right (fun _ _ _ _ _ _ us hl => match us, hl with | [_], _ => rfl) fun cdv A outer s H E hr hg => ?_, F⟩
  have dx := dx_cx (P := P) (w := w) (K := K) (mg := mg) (base := base) (G := gm K) (outer := outer) (H := H) (E := E) rfl sc__law_right.nd hr hg
  exact (qss_cons (qs_for dx (qi_any dx.K (qe_callB (cd_sorted dx.K dx.calm false) rfl cx.n_sorted boot_sorted (qa_cons (qf_call0 k__law_forms dx (by decide) rfl cx.g__law_forms) qa_nil))) (qg_name (i := 1) dx.nd rfl (.inl rfl) (.inl rfl)) (qss_cons (qs_set (i := 2) dx.nd rfl (.inr rfl) (pd_op (od_add dx.K false) (qe_tup (qa_cons (qe_var (i := 1) rfl (.inl rfl)) qa_nil)) (qe_callTy (cd_tup dx.K) rfl cx.n_tuple boot_tuple (qa_cons (qe_lc (own := [("_law_sort", 9)]) dx false (qi_strD (pd_ix dx.K dx.u1 (qf_call0 k__law_forms dx (by decide) rfl cx.g__law_forms) (qe_var (i := 1) rfl (.inl rfl)) nofun)) (blk_of (by kernel_rfl)) (by decide) (fun _ _ _ _ _ => (qg_name (i := 9) (DX.blk dx _ _ _ _ _).nd rfl (.inl rfl) (.inr rfl))) (fun _ _ _ _ _ => qts_nil) (fun _ _ _ _ _ => (qf_call k__law_part (DX.blk dx _ _ _ _ _) (by decide) rfl cx.g__law_part (qa_cons (qe_var (i := 0) rfl (.inr (.inl rfl))) (qa_cons (qe_var (i := 9) rfl (.inl rfl)) qa_nil))))) qa_nil))) (by rfl) (.inl rfl)) (qss_cons (qs_par (i := 3) (j := 4) dx.calm dx.nd rfl rfl (by decide) rfl rfl (qa_cons (pd_op (od_add dx.K false) (qe_lst false (qa_cons (qe_var (i := 2) rfl (.inr (.inl rfl))) qa_nil)) (qe_lc (own := [("_law_turn", 10)]) dx false (qi_range1 rfl cx.n_range (qa_cons qe_int qa_nil)) (blk_of (by kernel_rfl)) (by decide) (fun _ _ _ _ _ => (qg_name (i := 10) (DX.blk dx _ _ _ _ _).nd rfl (.inl rfl) (.inr rfl))) (fun _ _ _ _ _ => qts_nil) (fun _ _ _ _ _ => (qf_call k__law_bent (DX.blk dx _ _ _ _ _) (by decide) rfl cx.g__law_bent (qa_cons (qe_var (i := 0) rfl (.inr (.inl rfl))) (qa_cons (qe_var (i := 2) rfl (.inr (.inl rfl))) qa_nil)))))) (qa_cons (qf_call k__law_bent dx (by decide) rfl cx.g__law_bent (qa_cons (qe_var (i := 0) rfl (.inr (.inl rfl))) (qa_cons (qe_var (i := 2) rfl (.inr (.inl rfl))) qa_nil))) qa_nil))) (qss_cons (qs_set (i := 5) dx.nd rfl (.inl rfl) (qe_if (PW.pt (qw_and (qt_truth dx.K (qe_isi (t := .tup) dx.K (by decide) rfl cx.n_isinstance rfl cx.n_tuple boot_tuple (qe_var (i := 4) rfl (.inl rfl)))) (qw_and1 (qt_cmp (od_rel op_gt) (qe_callB (cd_len dx.K) rfl cx.n_len boot_len (qa_cons (qe_var (i := 4) rfl (.inl rfl)) qa_nil)) qe_int (nomark _))))) (qf_call k__law_bent dx (by decide) rfl cx.g__law_bent (qa_cons (qe_var (i := 0) rfl (.inr (.inl rfl))) (qa_cons (qe_var (i := 4) rfl (.inl rfl)) qa_nil))) qe_non) (by rfl) (.inl rfl)) (qss_cons (qs_for dx (qi_any dx.K (pd_op (od_add dx.K false) (qe_var (i := 3) rfl (.inl rfl)) (qe_lst false (qa_cons (qe_var (i := 5) rfl (.inl rfl)) qa_nil)))) (qg_name (i := 6) dx.nd rfl (.inl rfl) (.inl rfl)) (qss_cons (qs_par (i := 7) (j := 8) dx.calm dx.nd rfl rfl (by decide) rfl rfl (qa_cons (qe_callB (cd_repr dx.K dx.gd dx.u65) rfl cx.n_repr boot_repr (qa_cons (qe_var (i := 6) rfl (.inl rfl)) qa_nil)) (qa_cons (qf_call k__law_is_due dx (by decide) rfl cx.g__law_is_due (qa_cons (qe_var (i := 6) rfl (.inl rfl)) qa_nil)) qa_nil))) (qss_one (qs_if (PW.pt (qw_or (qt_not (qt_truth dx.K (qf_call k__law_same dx (by decide) rfl cx.g__law_same (qa_cons (qe_lst false (qa_cons (qf_call k_is_call dx (by decide) rfl cx.g_is_call (qa_cons (qe_var (i := 6) rfl (.inl rfl)) qa_nil)) (qa_cons (qf_callK0 (gg := fun us ws => pick [0] us ws) k_is_call (kbn (n := 0) (ks := (["thing"] : List Str)) F_is_call (fun us ws => pick [0] us ws) pick_vals (fun _ _ _ _ _ _ us ws hu hw => match us, hu, ws, hw with | [], _, [_], _ => rfl)) (fun F _ _ _ _ h g => pick_vrs _ F h g) dx (by decide) rfl cx.g_is_call (qk_cons (qe_var (i := 6) rfl (.inl rfl)) qk_nil)) qa_nil))) (qa_cons (qe_lst false (qa_cons (qe_var (i := 8) rfl (.inl rfl)) (qa_cons (qe_var (i := 8) rfl (.inl rfl)) qa_nil))) qa_nil))))) (qw_or1 (qt_cmp (od_eq dx.K dx.u65 true rfl) (qe_callB (cd_repr dx.K dx.gd dx.u65) rfl cx.n_repr boot_repr (qa_cons (qe_var (i := 6) rfl (.inl rfl)) qa_nil)) (qe_var (i := 7) rfl (.inl rfl)) (nomark _))))) (qss_one (qs_ret qe_bl)) qss_nil)))) (qss_one (qs_if (qt_cmp (od_isB true rfl) (qf_call k_is_call dx (by decide) rfl cx.g_is_call (qa_cons (qe_var (i := 2) rfl (.inr (.inl rfl))) qa_nil)) qe_bl (nomark _)) (qss_one (qs_ret qe_bl)) qss_nil))))))) (qss_one (qs_ret qe_bl)))
def w_law : DS := wSeq (wAsg (wCall S__law_folded [] (wCons (wVar 0) (wCons (wC (.int 3)) (wNil)))) (gN 1)) (wRet (wB dAll (wCons (wLc false (iRngD (wCons (wB dLen (wCons (wVar 1) (wNil))) (wNil))) (gN 2) (wYes) (wCall S__law_right [] (wCons (wCall S__law_stream [] (wCons (wVar 1) (wCons (wVar 2) (wNil)))) (wNil))) [2]) (wNil))))
def S_law : DSp := arD 1 (runD 3 w_law)
theorem sc_law : FnScope ["_law_script", "_law_cells", "_law_k"] ["_law_script"] (defScope st_law) := ⟨rfl, rfl, rfl, by decide +kernel, rfl, by decide +kernel, by decide +kernel⟩
theorem ok_law (cx : Cxt w K mg) : ∃ fd, FD P w K mg base (gm K) 8 (He.fAd K ("law", none)) fd ["_law_script"] S_law ∧ FunD K "law" "law" (defArgs st_law) (defBody st_law) (defScope st_law) [] [] (He.fAd K ("law", none)) fd := by
  obtain ⟨fd, F⟩ := cx.F_law
  obtain ⟨fd__law_folded, k__law_folded, F__law_folded⟩ := ok__law_folded (P := P) (w := w) (base := base) cx
  obtain ⟨fd__law_right, k__law_right, F__law_right⟩ := ok__law_right (P := P) (w := w) (base := base) cx
  obtain ⟨fd__law_stream, k__law_stream, F__law_stream⟩ := ok__law_stream (P := P) (w := w) (base := base) cx
  refine ⟨fd, FD.mk' F sc_law (fun _ _ _ _ _ _ us hl => match us, hl with | [_], _ => rfl) fun cdv A outer s H E hr hg => ?_, F⟩
  have dx := dx_cx (P := P) (w := w) (K := K) (mg := mg) (base := base) (G := gm K) (outer := outer) (H := H) (E := E) rfl sc_law.nd hr hg
  exact (qss_cons (qs_set (i := 1) dx.nd rfl (.inr rfl) (qf_call k__law_folded dx (by decide) rfl cx.g__law_folded (qa_cons (qe_var (i := 0) rfl (.inl rfl)) (qa_cons qe_int qa_nil))) (by rfl) (.inl rfl)) (qss_one (qs_ret (qe_callB (cd_all dx.K dx.calm) rfl cx.n_all boot_all (qa_cons (qe_lc (own := [("_law_k", 2)]) dx false (qi_range1 rfl cx.n_range (qa_cons (qe_callB (cd_len dx.K) rfl cx.n_len boot_len (qa_cons (qe_var (i := 1) rfl (.inr (.inl rfl))) qa_nil)) qa_nil)) (blk_of (by kernel_rfl)) (by decide) (fun _ _ _ _ _ => (qg_name (i := 2) (DX.blk dx _ _ _ _ _).nd rfl (.inl rfl) (.inr rfl))) (fun _ _ _ _ _ => qts_nil) (fun _ _ _ _ _ => (qf_call k__law_right (DX.blk dx _ _ _ _ _) (by decide) rfl cx.g__law_right (qa_cons (qf_call k__law_stream (DX.blk dx _ _ _ _ _) (by decide) rfl cx.g__law_stream (qa_cons (qe_var (i := 1) rfl (.inr (.inl rfl))) (qa_cons (qe_var (i := 2) rfl (.inl rfl)) qa_nil))) qa_nil)))) qa_nil)))))
def d_is_number : He.DefD := ⟨("is_number", none), "is_number", "is_number", defArgs st_is_number, defBody st_is_number, defScope st_is_number, [], []⟩
def d_is_path_text : He.DefD := ⟨("is_path_text", none), "is_path_text", "is_path_text", defArgs st_is_path_text, defBody st_is_path_text, defScope st_is_path_text, [], []⟩
def d_is_argument : He.DefD := ⟨("is_argument", none), "is_argument", "is_argument", defArgs st_is_argument, defBody st_is_argument, defScope st_is_argument, [], []⟩
def d_is_right_call : He.DefD := ⟨("is_right_call", none), "is_right_call", "is_right_call", defArgs st_is_right_call, defBody st_is_right_call, defScope st_is_right_call, [], []⟩
def d_is_call : He.DefD := ⟨("is_call", none), "is_call", "is_call", defArgs st_is_call, defBody st_is_call, defScope st_is_call, [], []⟩
def d__law_stream : He.DefD := ⟨("_law_stream", none), "_law_stream", "_law_stream", defArgs st__law_stream, defBody st__law_stream, defScope st__law_stream, [], []⟩
def d__law_draw : He.DefD := ⟨("_law_draw", none), "_law_draw", "_law_draw", defArgs st__law_draw, defBody st__law_draw, defScope st__law_draw, [], []⟩
def d__law_folded : He.DefD := ⟨("_law_folded", none), "_law_folded", "_law_folded", defArgs st__law_folded, defBody st__law_folded, defScope st__law_folded, [], []⟩
def d__law_pick : He.DefD := ⟨("_law_pick", none), "_law_pick", "_law_pick", defArgs st__law_pick, defBody st__law_pick, defScope st__law_pick, [], []⟩
def d__law_same : He.DefD := ⟨("_law_same", none), "_law_same", "_law_same", defArgs st__law_same, defBody st__law_same, defScope st__law_same, [], []⟩
def d__law_forms : He.DefD := ⟨("_law_forms", none), "_law_forms", "_law_forms", defArgs st__law_forms, defBody st__law_forms, defScope st__law_forms, [], []⟩
def d__law_fits : He.DefD := ⟨("_law_fits", none), "_law_fits", "_law_fits", defArgs st__law_fits, defBody st__law_fits, defScope st__law_fits, [], []⟩
def d__law_is_due : He.DefD := ⟨("_law_is_due", none), "_law_is_due", "_law_is_due", defArgs st__law_is_due, defBody st__law_is_due, defScope st__law_is_due, [], []⟩
def d__law_part : He.DefD := ⟨("_law_part", none), "_law_part", "_law_part", defArgs st__law_part, defBody st__law_part, defScope st__law_part, [], []⟩
def d__law_odd : He.DefD := ⟨("_law_odd", none), "_law_odd", "_law_odd", defArgs st__law_odd, defBody st__law_odd, defScope st__law_odd, [], []⟩
def d__law_bent : He.DefD := ⟨("_law_bent", none), "_law_bent", "_law_bent", defArgs st__law_bent, defBody st__law_bent, defScope st__law_bent, [], []⟩
def d__law_right : He.DefD := ⟨("_law_right", none), "_law_right", "_law_right", defArgs st__law_right, defBody st__law_right, defScope st__law_right, [], []⟩
def d_law : He.DefD := ⟨("law", none), "law", "law", defArgs st_law, defBody st_law, defScope st_law, [], []⟩
def fnP0 : List He.DefD := [d_is_number, d_is_path_text, d_is_argument, d_is_right_call, d_is_call, d__law_stream, d__law_draw, d__law_folded, d__law_pick, d__law_same, d__law_forms, d__law_fits, d__law_is_due, d__law_part, d__law_odd, d__law_bent, d__law_right, d_law]
def fnP : List He.DefD := fnP0
def faP0 : List He.Fa := [.free "abs", .free "all", .free "bool", .free "enumerate", .free "int", .free "isinstance", .free "len", .free "list", .free "range", .free "repr", .free "sorted", .free "str", .free "tuple", .free "zip", .glo "FORMS", .glo "KINDS", .glo "_law_bent", .glo "_law_draw", .glo "_law_fits", .glo "_law_folded", .glo "_law_forms", .glo "_law_is_due", .glo "_law_odd", .glo "_law_part", .glo "_law_pick", .glo "_law_right", .glo "_law_same", .glo "_law_stream", .glo "is_argument", .glo "is_call"]
def faP1 : List He.Fa := [.glo "is_number", .glo "is_path_text", .glo "is_right_call", .str "KIND" "kind", .str "LETTERS_OF_PATHS" "abcdefghijklmnopqrstuvwxyz", .str "NEW" "new", .str "NUMBER" "number", .str "PATH" "path", .str "TEXT" "text", .str "VALUE" "value", .glo "law"]
def faP : List He.Fa := faP0 ++ faP1
abbrev R : PySem.W.OpenRow := PySem.W.OpenLaw.row PySem.Challenge.rw_treethaw_k01_calls_or_not
def exP (K : PySem.W.Frag) : Bool := (tabB K (He.ga K "FORMS") tab_FORMS) && (tupB K (He.ga K "KINDS") (["stop", "go", "end", "wake"] : List Str))
theorem ex_FORMS {K : PySem.W.Frag} (h : exP K = true) : tabB K (He.ga K "FORMS") tab_FORMS = true := by
  unfold exP at h
  simp only [Bool.and_eq_true] at h
  exact h.1
theorem ex_KINDS {K : PySem.W.Frag} (h : exP K = true) : tupB K (He.ga K "KINDS") (["stop", "go", "end", "wake"] : List Str) = true := by
  unfold exP at h
  simp only [Bool.and_eq_true] at h
  exact h.2
def tsP : List He.Tab := [(fun K => He.ga K "FORMS", ["fork", "lead", "adopt", "join", "end", "wait", "send", "sendall", "about", "get", "set", "make", "remove", "open", "seek", "pipe", "pair", "area", "copy", "close", "handles", "same", "peek", "poke", "read", "write", "pass", "take"])]
abbrev hk : PySem.W.Hook := He.hookX 6 faP fnP tsP [] exP
def ob (s : PySem.W.SharedT) : He.AlX := He.obsX 6 faP fnP tsP [] exP (HandSHeadRun.getT s)
theorem ob_eq (s : PySem.W.SharedT) : ob s = hk.obs s.abs := He.obsX_eq (HandSHeadRun.getT_eq s)
def looseP0 : List PySem.Str := ["KINDS", "LETTERS_OF_PATHS", "NEW", "NUMBER", "VALUE", "PATH", "TEXT", "LINE", "KIND", "FORMS", "is_number", "is_path_text", "is_argument", "is_right_call", "is_call", "_law_stream", "_law_draw", "_law_folded", "_law_pick", "_law_same", "_law_forms", "_law_fits", "_law_is_due", "_law_part", "_law_odd", "_law_bent", "_law_right"]
def looseP : List PySem.Str := looseP0
theorem run (w : World) : HandSHeadRun.RunEq R (PySem.W.view R.prog [30]) hk ob 20000 looseP w :=
  PySem.W.byRow2 "special-get-raises" (P := fun w => HandSHeadRun.RunEq R (PySem.W.view R.prog [30]) hk ob 20000 looseP w) (fun w => by intro os; kernel_rfl) (fun w => by intro os; kernel_rfl) w
theorem cxt_of {w : World} {K : PySem.W.Frag} {h : Heap} {mg : Str → Option Value} (X : K.In h) (G : h.Ns mainGlobals mg) (c : He.SaysX faP fnP tsP [] exP w h K) : Cxt w K mg where
  F_is_number := c.t.d.def_ 0 (d := d_is_number) rfl
  F_is_path_text := c.t.d.def_ 1 (d := d_is_path_text) rfl
  F_is_argument := c.t.d.def_ 2 (d := d_is_argument) rfl
  F_is_right_call := c.t.d.def_ 3 (d := d_is_right_call) rfl
  F_is_call := c.t.d.def_ 4 (d := d_is_call) rfl
  F__law_stream := c.t.d.def_ 5 (d := d__law_stream) rfl
  F__law_draw := c.t.d.def_ 6 (d := d__law_draw) rfl
  F__law_folded := c.t.d.def_ 7 (d := d__law_folded) rfl
  F__law_pick := c.t.d.def_ 8 (d := d__law_pick) rfl
  F__law_same := c.t.d.def_ 9 (d := d__law_same) rfl
  F__law_forms := c.t.d.def_ 10 (d := d__law_forms) rfl
  F__law_fits := c.t.d.def_ 11 (d := d__law_fits) rfl
  F__law_is_due := c.t.d.def_ 12 (d := d__law_is_due) rfl
  F__law_part := c.t.d.def_ 13 (d := d__law_part) rfl
  F__law_odd := c.t.d.def_ 14 (d := d__law_odd) rfl
  F__law_bent := c.t.d.def_ 15 (d := d__law_bent) rfl
  F__law_right := c.t.d.def_ 16 (d := d__law_right) rfl
  F_law := c.t.d.def_ 17 (d := d_law) rfl
  n_abs := He.free_ok X G (c.t.d.fact 0 (f := .free "abs") rfl)
  n_all := He.free_ok X G (c.t.d.fact 1 (f := .free "all") rfl)
  n_bool := He.free_ok X G (c.t.d.fact 2 (f := .free "bool") rfl)
  n_enumerate := He.free_ok X G (c.t.d.fact 3 (f := .free "enumerate") rfl)
  n_int := He.free_ok X G (c.t.d.fact 4 (f := .free "int") rfl)
  n_isinstance := He.free_ok X G (c.t.d.fact 5 (f := .free "isinstance") rfl)
  n_len := He.free_ok X G (c.t.d.fact 6 (f := .free "len") rfl)
  n_list := He.free_ok X G (c.t.d.fact 7 (f := .free "list") rfl)
  n_range := He.free_ok X G (c.t.d.fact 8 (f := .free "range") rfl)
  n_repr := He.free_ok X G (c.t.d.fact 9 (f := .free "repr") rfl)
  n_sorted := He.free_ok X G (c.t.d.fact 10 (f := .free "sorted") rfl)
  n_str := He.free_ok X G (c.t.d.fact 11 (f := .free "str") rfl)
  n_tuple := He.free_ok X G (c.t.d.fact 12 (f := .free "tuple") rfl)
  n_zip := He.free_ok X G (c.t.d.fact 13 (f := .free "zip") rfl)
  g_FORMS := He.glo_ok X G (c.t.d.fact 14 (f := .glo "FORMS") rfl)
  g_KINDS := He.glo_ok X G (c.t.d.fact 15 (f := .glo "KINDS") rfl)
  g__law_bent := He.glo_ok X G (c.t.d.fact 16 (f := .glo "_law_bent") rfl)
  g__law_draw := He.glo_ok X G (c.t.d.fact 17 (f := .glo "_law_draw") rfl)
  g__law_fits := He.glo_ok X G (c.t.d.fact 18 (f := .glo "_law_fits") rfl)
  g__law_folded := He.glo_ok X G (c.t.d.fact 19 (f := .glo "_law_folded") rfl)
  g__law_forms := He.glo_ok X G (c.t.d.fact 20 (f := .glo "_law_forms") rfl)
  g__law_is_due := He.glo_ok X G (c.t.d.fact 21 (f := .glo "_law_is_due") rfl)
  g__law_odd := He.glo_ok X G (c.t.d.fact 22 (f := .glo "_law_odd") rfl)
  g__law_part := He.glo_ok X G (c.t.d.fact 23 (f := .glo "_law_part") rfl)
  g__law_pick := He.glo_ok X G (c.t.d.fact 24 (f := .glo "_law_pick") rfl)
  g__law_right := He.glo_ok X G (c.t.d.fact 25 (f := .glo "_law_right") rfl)
  g__law_same := He.glo_ok X G (c.t.d.fact 26 (f := .glo "_law_same") rfl)
  g__law_stream := He.glo_ok X G (c.t.d.fact 27 (f := .glo "_law_stream") rfl)
  g_is_argument := He.glo_ok X G (c.t.d.fact 28 (f := .glo "is_argument") rfl)
  g_is_call := He.glo_ok X G (c.t.d.fact 29 (f := .glo "is_call") rfl)
  g_is_number := He.glo_ok X G (c.t.d.fact 30 (f := .glo "is_number") rfl)
  g_is_path_text := He.glo_ok X G (c.t.d.fact 31 (f := .glo "is_path_text") rfl)
  g_is_right_call := He.glo_ok X G (c.t.d.fact 32 (f := .glo "is_right_call") rfl)
  k_KINDS := tupB_ok (ex_KINDS c.more)
  i_KIND := He.str_ok X G (c.t.d.fact 33 (f := .str "KIND" "kind") rfl)
  i_LETTERS_OF_PATHS := He.str_ok X G (c.t.d.fact 34 (f := .str "LETTERS_OF_PATHS" "abcdefghijklmnopqrstuvwxyz") rfl)
  i_NEW := He.str_ok X G (c.t.d.fact 35 (f := .str "NEW" "new") rfl)
  i_NUMBER := He.str_ok X G (c.t.d.fact 36 (f := .str "NUMBER" "number") rfl)
  i_PATH := He.str_ok X G (c.t.d.fact 37 (f := .str "PATH" "path") rfl)
  i_TEXT := He.str_ok X G (c.t.d.fact 38 (f := .str "TEXT" "text") rfl)
  i_VALUE := He.str_ok X G (c.t.d.fact 39 (f := .str "VALUE" "value") rfl)
  T_FORMS := tabB_ok (ex_FORMS c.more) (c.t.tab 0 rfl)
end Law
namespace Law
open PySem PySem.Spec PyProof.Rows L2 DL
/-- from the plain law -/
theorem law_sp {K : PySem.W.Frag} (plain : ∀ (d : DV) (ns : List Int) (m : Sto) (Q : DK), asL m d = some (ns.map DV.int) → ns.length ≤ 63 → (∀ m', Q (.bl true) m') → S_law [d] m Q)
    (H : Hp) (a : Addr) (ns : List Int) (hl : ns.length ≤ 63) (hS : SqL K H a (ns.map V.int)) : spL (gm K) S_law [.ref a] H (fun v _ => v = .bl true) fun _ _ _ => False := by
  have r : Rel (gm K) H (fun _ => none) H := ⟨Ex.refl H, fun a o e => by cases e⟩
  have k : Kt (gm K) H (fun d _ => d = .bl true) (fun v _ => v = .bl true) := fun d m v F' H' e _ _ rv => by
    subst e
    cases rv
    rfl
  rcases hS with h | h
  · exact ⟨H, _, [.lst (ns.map DV.int)], _, r, .cons (.lst h (VRs.of_ints ns)) .nil, plain _ ns _ _ rfl hl fun _ => rfl, k⟩
  · exact ⟨H, _, [.klst (ns.map DV.int)], _, r, .cons (.klst (.inr h) (VRs.of_ints ns)) .nil, plain _ ns _ _ rfl hl fun _ => rfl, k⟩
end Law
namespace Law
open PySem PySem.Spec PyProof.Rows L2 DL
section
variable {m : Sto} {δ : Slots} {w wa wb : DE} {ns ms : List Int} {k n : Int} {b : Bool} {i j : Int}
theorem dEq_int {neg : Bool} {i j : Int} : Pu2 (dEq neg) (.int i) (.int j) m (.bl (xor neg (decide (i = j)))) := fun m' Q _ q => q _ (.refl _)
abbrev iL (ns : List Int) : DV := .lst (ns.map DV.int)
theorem line_eq : sizeLine = 16777216 := sizeLine_eq
theorem cat_L {xs ys : List DV} (h : xs.length + ys.length ≤ sizeLine) : Pu2 (dAdd false) (.lst xs) (.lst ys) m (.lst (xs ++ ys)) := fun m' Q _ q => ⟨xs, ys, rfl, rfl, h, q _ (.refl _)⟩
theorem cat_I (h : ns.length + ms.length ≤ sizeLine) : Pu2 (dAdd false) (iL ns) (iL ms) m (iL (ns ++ ms)) := by
  unfold iL
  rw [List.map_append]
  exact cat_L (by simpa using h)
theorem rep_one : Pu2 (dMul false) (iL [n]) (.int (if b then 1 else 0)) m (iL (if b then [n] else [])) := fun m' Q _ q => by
  refine ⟨[.int n], rfl, ?_, ?_, ?_, ?_⟩
  · split <;> decide
  · split <;> decide
  · have := line_eq
    split <;> simp <;> omega
  · cases b <;> exact q _ (.refl _)
theorem pu_sortI (h : PuE w δ m (iL ns)) : PuE (wB (dSorted false) (wCons w wNil)) δ m (iL (sortI ns)) := pu_b (pa_cons h pa_nil) fun m' Q _ q => by
  show match ints? (ns.map DV.int) with
    | some ns => newL false ((sortI ns).map DV.int) m' Q
    | none => _
  rw [DL.ints_of]
  exact q _ (.refl _)
theorem pu_lenL {xs : List DV} (h : PuE w δ m (.lst xs)) : PuE (wB dLen (wCons w wNil)) δ m (.int (xs.length : Int)) := pu_b (pa_cons h pa_nil) fun m' Q _ q => q _ (.refl _)
theorem pu_len (h : PuE w δ m (iL ns)) : PuE (wB dLen (wCons w wNil)) δ m (.int (ns.length : Int)) := by
  have := pu_lenL h
  rw [List.length_map] at this
  exact this
theorem ix_L {xs : List DV} {k : Nat} {d : DV} (h : xs[k]? = some d) : Pu2 dIx (.lst xs) (.int (k : Int)) m d := fun m' Q _ q => by
  have e : atI xs (k : Int) = some d := by
    unfold atI ixN
    have hk : k < xs.length := (List.getElem?_eq_some_iff.mp h).1
    rw [if_pos (by omega), if_pos (by omega)]
    exact h
  show match atI xs (k : Int) with
    | some d => Q d m'
    | none => False
  rw [e]
  exact q _ (.refl _)
theorem any_int : ((ns.map DV.int).any fun z => eqF z (.int n)) = ns.contains n := by
  induction ns with
  | nil => rfl
  | cons a r ih =>
    rw [List.map_cons, List.any_cons, ih, List.contains_cons]
    show (a == n || r.contains n) = (n == a || r.contains n)
    rw [Bool.beq_comm]
theorem flat_int : ((ns.map DV.int).all flatD) = true := by
  induction ns with
  | nil => rfl
  | cons a r ih => rw [List.map_cons, List.all_cons, ih]; rfl
theorem in_I {neg : Bool} : Pu2 (dIn neg) (.int n) (iL ns) m (.bl (xor neg (ns.contains n))) := fun m' Q _ q => by
  show (flatD (.int n) && (ns.map DV.int).all flatD) = true ∧ Q (.bl (xor neg ((ns.map DV.int).any fun z => eqF z (.int n)))) m'
  rw [any_int, flat_int]
  exact ⟨rfl, q _ (.refl _)⟩
theorem rel_I {p : Int → Int → Bool} : Pu2 (dRel p) (.int i) (.int j) m (.bl (p i j)) := fun m' Q _ q => q _ (.refl _)
theorem pt_eq {neg : Bool} (ha : PuE wa δ m (.int i)) (hb : PuE wb δ m (.int j)) : PuT (wBl (wOp (dEq neg) wa wb)) δ m (xor neg (decide (i = j))) := pt_bl (pu_op ha hb dEq_int)
theorem pt_e (ha : PuE wa δ m (.int i)) (hb : PuE wb δ m (.int j)) : PuT (wBl (wOp (dEq false) wa wb)) δ m (decide (i = j)) := by simpa using pt_eq (neg := false) ha hb
theorem pt_ne (ha : PuE wa δ m (.int i)) (hb : PuE wb δ m (.int j)) : PuT (wBl (wOp (dEq true) wa wb)) δ m (!decide (i = j)) := by simpa using pt_eq (neg := true) ha hb
theorem pu_e (ha : PuE wa δ m (.int i)) (hb : PuE wb δ m (.int j)) : PuE (wOp (dEq false) wa wb) δ m (.bl (decide (i = j))) := by simpa using pu_op ha hb (dEq_int (neg := false))
theorem pu_ne (ha : PuE wa δ m (.int i)) (hb : PuE wb δ m (.int j)) : PuE (wOp (dEq true) wa wb) δ m (.bl (!decide (i = j))) := by simpa using pu_op ha hb (dEq_int (neg := true))
theorem pt_gt (ha : PuE wa δ m (.int i)) (hb : PuE wb δ m (.int j)) : PuT (wBl (wOp (dRel fun i j => decide (j < i)) wa wb)) δ m (decide (j < i)) := pt_bl (pu_op ha hb rel_I)
theorem pi_I (h : PuE w δ m (iL ns)) : PuI (iAny w) δ m (ns.map DV.int) := pi_any h rfl
theorem nil_I : PuE (wLst false wNil) δ m (iL []) := pu_lst pa_nil (Nat.zero_le _)
theorem one_I (h : PuE w δ m (.int n)) : PuE (wLst false (wCons w wNil)) δ m (iL [n]) := pu_lst (pa_cons h pa_nil) (by have := line_eq; simp; omega)
theorem st_asL {m : Sto} {q : Addr} {xs : List DV} (h : m q = some (.lst xs)) : asL m (.ref q) = some xs := by unfold asL; simp only [h]
theorem st_asQ {m : Sto} {q : Addr} {xs : List DV} (h : m q = some (.lst xs)) : asQ m (.ref q) = some xs := st_asL h
theorem st_ty {m : Sto} {q : Addr} {xs : List DV} (h : m q = some (.lst xs)) : ofTy m .lst (.ref q) := ⟨by unfold tyD; simp only [h], by simp only [h]⟩
theorem st_app {m : Sto} {q : Addr} {xs : List DV} {d : DV} {Q : DK} (h : m q = some (.lst xs)) (hl : xs.length < sizeLine) (hq : Q .non (put m q (.lst (xs ++ [d])))) : mAppend (.ref q) [d] m Q := by
  show ownL m (.ref q) fun p xs => xs.length < sizeLine ∧ Q .non (put m p (.lst (xs ++ [d])))
  unfold ownL
  simp only [h]
  exact ⟨hl, hq⟩
theorem map_get {ns : List Int} {i : Nat} {y : DV} (h : (ns.map DV.int)[i]? = some y) : ∃ n, ns[i]? = some n ∧ y = .int n := by
  rw [List.getElem?_map] at h
  cases e : ns[i]? with
  | none => rw [e] at h; cases h
  | some n => rw [e] at h; cases h; exact ⟨n, rfl, rfl⟩
theorem call1 {S0 : DSp} {x v : DV} {wa : DE} (ha : PuE wa δ m x) (hs : PuS S0 [x] m v) : PuE (wCall S0 [] (wCons wa wNil)) δ m v := pu_call (ds := [x]) (dds := []) (pa_cons ha pa_nil) hs
theorem call2 {S0 : DSp} {x y v : DV} {wa wb : DE} (ha : PuE wa δ m x) (hb : PuE wb δ m y) (hs : PuS S0 [x, y] m v) : PuE (wCall S0 [] (wCons wa (wCons wb wNil))) δ m v := pu_call (ds := [x, y]) (dds := []) (pa_cons ha (pa_cons hb pa_nil)) hs
theorem tup2 {x y : DV} {wa wb : DE} (ha : PuE wa δ m x) (hb : PuE wb δ m y) : PuE (wTup (wCons wa (wCons wb wNil))) δ m (.tup [x, y]) := pu_tup (pa_cons ha (pa_cons hb pa_nil)) (by have := line_eq; simp; omega)
theorem tup3 {x y z : DV} {wa wb wc : DE} (ha : PuE wa δ m x) (hb : PuE wb δ m y) (hc : PuE wc δ m z) : PuE (wTup (wCons wa (wCons wb (wCons wc wNil)))) δ m (.tup [x, y, z]) := pu_tup (pa_cons ha (pa_cons hb (pa_cons hc pa_nil))) (by have := line_eq; simp; omega)
theorem pos_int {n : Nat} : decide ((0 : Int) < (n : Int)) = decide (0 < n) := by
  by_cases h : 0 < n
  · rw [decide_eq_true h, decide_eq_true (by omega)]
  · rw [decide_eq_false h, decide_eq_false (by omega)]
end
def SubX (p : Addr) (m m' : Sto) : Prop := ∀ a o, a ≠ p → m a = some o → m' a = some o
theorem SubX.refl {p : Addr} (m : Sto) : SubX p m m := fun _ _ _ h => h
theorem SubX.trans {p : Addr} {a b c : Sto} (h : SubX p a b) (g : SubX p b c) : SubX p a c := fun x o n e => g x o n (h x o n e)
theorem Sub.x {p : Addr} {m m' : Sto} (h : Sub m m') : SubX p m m' := fun a o _ e => h a o e
theorem SubX.put {p : Addr} {m : Sto} {o : MO} : SubX p m (DL.put m p o) := fun a u n e => by rw [put_ne n]; exact e
theorem ix_at {m : Sto} {p : Addr} {xs : List DV} {i : Int} {d : DV} {Q : DK} (h : m p = some (.lst xs)) (hi : atI xs i = some d) (q : Q d m) : dIx (.ref p) (.int i) m Q := by
  unfold dIx dictAt asQ asL
  simp only [h, hi]
  exact q
theorem set_at {m : Sto} {p : Addr} {xs : List DV} {i : Int} {j : Nat} {d : DV} {Q : Sto → Prop} (h : m p = some (.lst xs)) (hi : ixN xs.length i = some j) (q : Q (DL.put m p (.lst (xs.set j d)))) : setD (.ref p) (.int i) d m Q := by
  unfold setD
  simp only [h, hi]
  exact q
theorem go_asgS {D : DEnds} {δ : Slots} {m : Sto} {w wo wi : DE} (h : w δ m fun d m1 => wo δ m1 fun o m2 => wi δ m2 fun i m3 => setD o i d m3 fun m4 => D.nx δ m4) : wAsg w (gSubD wo wi) D δ m := h
section
variable {i j : Int} {m : Sto} {Q : DK} {mu : Bool}
theorem go_rel {p : Int → Int → Bool} (h : Q (.bl (p i j)) m) : dRel p (.int i) (.int j) m Q := h
theorem go_add (h : Q (.int (i + j)) m) : dAdd mu (.int i) (.int j) m Q := h
theorem go_mod (h0 : 0 < j) (h : Q (.int (i % j)) m) : dMod (.int i) (.int j) m Q := ⟨h0, h⟩
theorem go_div (h0 : 0 < j) (h1 : j.natAbs.log2 < 9000) (h : Q (.int (i / j)) m) : dDiv (.int i) (.int j) m Q := ⟨h0, h1, h⟩
theorem go_mul (h0 : (-(2 ^ 64) < i ∧ i < 2 ^ 64) ∨ (-(2 ^ 64) < j ∧ j < 2 ^ 64)) (h : Q (.int (i * j)) m) : dMul mu (.int i) (.int j) m Q := ⟨.inl h0, h⟩
theorem go_pow (h0 : 0 ≤ j) (h1 : j ≤ 1000000) (h2 : i.natAbs < 2 ^ 64) (h : Q (.int (i ^ j.toNat)) m) : dPow (.int i) (.int j) m Q := ⟨h0, h1, h2, h⟩
theorem go_int {b : Bool} (h : Q (.int (if b then 1 else 0)) m) : dInt [.bl b] m Q := h
theorem go_abs (h : Q (.int (if i < 0 then -i else i)) m) : dAbs [.int i] m Q := h
end
theorem go_sset {D : DEnds} {δ : Slots} {w : DE} {s : DS} {k : Nat} (h : w δ m fun d m1 => s D (δ.set k (some d)) m1) : wSeq (wAsg w (gN k)) s D δ m := h
theorem go_sasg {D : DEnds} {δ : Slots} {w wo wi : DE} {s : DS} (h : w δ m fun d m1 => wo δ m1 fun o m2 => wi δ m2 fun i m3 => setD o i d m3 fun m4 => s D δ m4) : wSeq (wAsg w (gSubD wo wi)) s D δ m := h
theorem go_sif {D : DEnds} {δ : Slots} {t : DT} {s s' : DS} (h : t δ m fun b m1 => if b = true then s { D with nx := s' D } δ m1 else s' D δ m1) : wSeq (wIfS t s wNext) s' D δ m := h
theorem go_sdrop {D : DEnds} {δ : Slots} {w : DE} {s : DS} (h : w δ m fun _ m1 => s D δ m1) : wSeq (wDrop w) s D δ m := h
theorem go_spar {D : DEnds} {δ : Slots} {ta : DA} {s : DS} {k l : Nat} (h : ta δ m fun ds m1 => match ds with
  | [a, b] => s D ((δ.set k (some a)).set l (some b)) m1
  | _ => False) : wSeq (wPar k l ta) s D δ m := h
theorem go_ifE {t : DT} {wa wb : DE} {δ : Slots} (h : t δ m fun b m1 => if b = true then wa δ m1 Q else wb δ m1 Q) : wIf t wa wb δ m Q := h
theorem go_blI {b : Bool} {QT : Bool → Sto → Prop} (h : QT b m) : (match DV.bl b with
  | .bl b => QT b m
  | _ => False) := h
theorem go_lenI {d : DV} {xs : List DV} (h : asQ m d = some xs) (q : Q (.int (xs.length : Int)) m) : dLen [d] m Q := by
  show lenD m d fun n => Q (.int n) m
  unfold lenD
  cases d <;> first | (simp only [h]; exact q) | (simp [asQ, asL] at h)
theorem ix_lst {xs : List DV} {r : Int} {m : Sto} {Q : DK} (h0 : 0 ≤ r) (h1 : r < xs.length) (q : ∀ d, d ∈ xs → xs[r.toNat]? = some d → Q d m) : dIx (.lst xs) (.int r) m Q := by
  have hlt : r.toNat < xs.length := by omega
  have hat : atI xs r = some xs[r.toNat] := by
    unfold atI ixN
    rw [if_pos (by omega), if_pos (by omega)]
    simp [hlt]
  unfold dIx
  have hn : dictAt m (.lst xs) (.int r) = none := rfl
  have hq : asQ m (.lst xs) = some xs := rfl
  simp only [hn, hq, hat]
  exact q _ (List.getElem_mem hlt) (List.getElem?_eq_getElem hlt)
def leafD : DV → Bool
  | .non | .bl _ | .int _ | .str _ => true
  | _ => false
def Same (m : Sto) : Nat → DV → DV → Prop
  | 0, _, _ => False
  | n + 1, x, y => (leafD x = true ∧ x = y) ∨ (∃ xs ys, asL m x = some xs ∧ asL m y = some ys ∧ xs.length ≤ sizeLine ∧ Paired (Same m n) xs ys) ∨ (∃ xs ys, x = .tup xs ∧ y = .tup ys ∧ xs.length ≤ sizeLine ∧ Paired (Same m n) xs ys)
theorem asL_sub {m m' : Sto} {d : DV} {xs : List DV} (h : asL m d = some xs) (s : Sub m m') : asL m' d = some xs := by
  cases d with
  | ref a =>
    have h : (match m a with
      | some (.lst xs) => some xs
      | _ => none) = some xs := h
    show (match m' a with
      | some (.lst xs) => some xs
      | _ => none) = some xs
    cases e : m a with
    | none => rw [e] at h; cases h
    | some o =>
      rw [e] at h
      rw [s _ _ e]; exact h
  | _ => exact h
theorem Same.mono {m m' : Sto} (s : Sub m m') : ∀ (n : Nat) {x y : DV}, Same m n x y → Same m' n x y
  | 0, _, _, h => h
  | n + 1, x, y, h => by
    rcases h with h | ⟨xs, ys, h1, h2, h3, h4⟩ | ⟨xs, ys, h1, h2, h3, h4⟩
    · exact .inl h
    · exact .inr (.inl ⟨xs, ys, asL_sub h1 s, asL_sub h2 s, h3, Paired.mapP h4 fun _ _ z => Same.mono s n z⟩)
    · exact .inr (.inr ⟨xs, ys, h1, h2, h3, Paired.mapP h4 fun _ _ z => Same.mono s n z⟩)
theorem asL_ty {m : Sto} {d : DV} {xs : List DV} (h : asL m d = some xs) : tyD m d = some .lst := by
  cases d with
  | ref a =>
    have h : (match m a with
      | some (.lst xs) => some xs
      | _ => none) = some xs := h
    show (match m a with
      | some (.lst _) => some Ty0.lst
      | some (.dct _) => some .dct
      | some (.dcT _) => some .dct
      | some (.lck _ _ _) => some .dct
      | _ => none) = some .lst
    cases e : m a with
    | none => rw [e] at h; cases h
    | some o =>
      rw [e] at h
      cases o <;> first | rfl | cases h
  | lst _ => rfl
  | klst _ => rfl
  | _ => cases h
theorem asL_Q {m : Sto} {d : DV} {xs : List DV} (h : asL m d = some xs) : asQ m d = some xs := by
  cases d <;> first | exact h | (simp [asL] at h)
section
variable {m : Sto} {δ : Slots}
theorem pu_isi {w : DE} {d : DV} {t : Ty0} {ts : List Ty0} (h : PuE w δ m d) (ht : ∀ m', Sub m m' → tyD m' d = some t) : PuE (wIsi ts w) δ m (.bl (ts.any (isA t))) := fun m' Q s q => h m' _ s fun m1 s1 => by
  show match tyD m1 d with
    | some t => Q (.bl (ts.any (isA t))) m1
    | none => False
  rw [ht m1 (s.trans s1)]
  exact q m1 s1
theorem eq_bl {neg b c : Bool} : Pu2 (dEq neg) (.bl b) (.bl c) m (.bl (xor neg (decide (b = c)))) := fun m' Q _ q => q _ (.refl _)
theorem len_Q {d : DV} {xs : List DV} {w : DE} (h : PuE w δ m d) (hx : ∀ m', Sub m m' → asQ m' d = some xs) : PuE (wB dLen (wCons w wNil)) δ m (.int xs.length) := pu_b (pa_cons h pa_nil) fun m' Q s q => go_lenI (hx m' s) (q _ (.refl _))
theorem zip_mem {R : DV → DV → Prop} {xs ys : List DV} (h : Paired R xs ys) : ∀ z ∈ zipD xs ys, ∃ x y, z = .tup [x, y] ∧ R x y := by
  induction h with
  | nil => intro z hz; cases hz
  | @cons a b as bs h t ih =>
    intro z hz
    rcases List.mem_cons.mp hz with rfl | hz
    · exact ⟨a, b, rfl, h⟩
    · exact ih z hz
theorem zip_len : ∀ (xs ys : List DV), (zipD xs ys).length ≤ xs.length
  | [], ys => by cases ys <;> exact Nat.le_refl _
  | x :: xs, [] => Nat.zero_le _
  | x :: xs, y :: ys => Nat.succ_le_succ (zip_len xs ys)
theorem all_true : ∀ {bs : List DV}, (∀ b ∈ bs, b = .bl true) → ∃ cs : List Bool, bls? bs = some cs ∧ cs.all id = true
  | [], _ => ⟨[], rfl, rfl⟩
  | b :: bs, h => by
    obtain ⟨cs, e, h2⟩ := all_true (bs := bs) fun b hb => h b (List.mem_cons_of_mem _ hb)
    refine ⟨true :: cs, ?_, by simpa using h2⟩
    rw [h b List.mem_cons_self]
    simp [bls?, e]
theorem pu_all {w : DE} {bs : List DV} (h : PuE w δ m (.lst bs)) (hb : ∀ b ∈ bs, b = .bl true) : PuE (wB dAll (wCons w wNil)) δ m (.bl true) := pu_b (pa_cons h pa_nil) fun m' Q s q => by
  obtain ⟨cs, e, h2⟩ := all_true hb
  have ea : asL m' (.lst bs) = some bs := rfl
  show dBls (fun bs => bs.all id) [.lst bs] m' Q
  unfold dBls
  simp only [ea, e, h2]
  exact q _ (.refl _)
theorem zip_I {wa wb : DE} {x y : DV} {xs ys : List DV} (ha : PuE wa δ m x) (hb : PuE wb δ m y) (h : (asL m x = some xs ∧ asL m y = some ys) ∨ (x = .tup xs ∧ y = .tup ys)) : PuI (iZipD (wCons wa (wCons wb wNil))) δ m (zipD xs ys) := fun m' K s k => by
  refine (pa_cons ha (pa_cons hb pa_nil)) m' _ s fun m1 s1 => ?_
  rcases h with ⟨h1, h2⟩ | ⟨rfl, rfl⟩
  · have g1 := asL_sub h1 (s.trans s1)
    have g2 := asL_sub h2 (s.trans s1)
    simp only [g1, g2]
    exact k _ m1 s1 rfl rfl fun m2 s2 => ⟨asL_sub h1 s2, asL_sub h2 s2⟩
  · exact k _ m1 s1 rfl rfl fun m2 s2 => trivial
theorem same_leaf {x : DV} (h : leafD x = true) : Pu2 (dEq false) x x m (.bl true) := fun m' Q s q => by
  cases x <;> first | cases h | skip
  all_goals (unfold dEq scEq; first | exact q _ (.refl _) | (simp only [decide_true]; exact q _ (.refl _)))
def isNb : DV → Bool
  | .non => true
  | _ => false
theorem isN_any {x : DV} : Pu2 (dIsN false) x .non m (.bl (isNb x)) := fun m' Q s q => by
  cases x <;> exact q _ (.refl _)
theorem tyb {x : DV} {t : Ty0} {ts : List Ty0} {i : Nat} (hd : δ[i]? = some (some x)) (ht : ∀ m' : Sto, tyD m' x = some t) : PuE (wIsi ts (wVar i)) δ m (.bl (ts.any (isA t))) := pu_isi (pu_var hd) fun m' _ => ht m'
theorem sp_same : ∀ (n : Nat) (x y : DV) (m : Sto), Same m n x y → PuS (S__law_same n) [x, y] m (.bl true)
  | 0, _, _, _, h => False.elim h
  | n + 1, x, y, m, h => by
    have body : (∃ t, (t = .lst ∨ t = .tup) ∧ (∀ m', Sub m m' → tyD m' x = some t) ∧ (∀ m', Sub m m' → tyD m' y = some t)) → (∃ xs ys, (∀ m', Sub m m' → asQ m' x = some xs) ∧ (∀ m', Sub m m' → asQ m' y = some ys) ∧ xs.length ≤ sizeLine ∧ Paired (Same m n) xs ys ∧ ((asL m x = some xs ∧ asL m y = some ys) ∨ (x = .tup xs ∧ y = .tup ys))) → PuS (S__law_same (n + 1)) [x, y] m (.bl true) := fun ⟨t, ht, hx, hy⟩ ⟨xs, ys, qx, qy, hl, hp, hz⟩ => by
      refine ps_run rfl ?_
      unfold w__law_same
      refine px_seq (M := fun _ => False) (px_if (pt_tru (pu_isi (pu_var (i := 1) rfl) hy)) (fun _ => ?_) fun z => ?_) fun δ' z => False.elim z
      · refine px_seq (M := fun δ' => δ' = startD 4 [x, y]) (px_if (pt_or (b := false) (c := false) (pt_bl ?_) fun _ => pt_bl ?_) (fun z => Bool.noConfusion z) fun _ => px_next rfl) ?_
        · have := pu_op (R2 := dEq true) (m := m) (δ := startD 4 [x, y]) (pu_isi (ts := [.lst]) (pu_var (i := 0) rfl) hx) (pu_isi (ts := [.lst]) (pu_var (i := 1) rfl) hy) eq_bl
          simpa using this
        · have := pu_op (R2 := dEq true) (m := m) (δ := startD 4 [x, y]) (pu_isi (ts := [.tup]) (pu_var (i := 0) rfl) hx) (pu_isi (ts := [.tup]) (pu_var (i := 1) rfl) hy) eq_bl
          simpa using this
        rintro _ rfl
        have hlen : xs.length = ys.length := Paired.length hp
        refine px_ret (v := .bl true) (pu_and (b := true) (c := true) ?_ fun _ => ?_) rfl
        · have := pu_op (R2 := dEq false) (m := m) (δ := startD 4 [x, y]) (len_Q (pu_var (i := 0) rfl) qx) (len_Q (pu_var (i := 1) rfl) qy) dEq_int
          simpa [hlen] using this
        · refine pu_all (pu_lc (fun _ => true) (fun _ => .bl true) (zip_I (pu_var rfl) (pu_var rfl) hz) (Nat.le_trans (zip_len xs ys) hl) fun z hz => ?_) fun b hb => ?_
          · obtain ⟨a, b, rfl, hab⟩ := zip_mem hp z hz
            exact ⟨[some x, some y, some a, some b], fun m' Q q => ⟨rfl, rfl, q⟩, pt_yes, fun _ => pu_call (ds := [a, b]) (dds := []) (pa_cons (pu_var rfl) (pa_cons (pu_var rfl) pa_nil)) (sp_same n a b m hab)⟩
          · rw [lcF_map] at hb
            obtain ⟨_, _, rfl⟩ := List.mem_map.mp hb
            rfl
      · rcases ht with rfl | rfl <;> cases z
    rcases h with ⟨hl, rfl⟩ | ⟨xs, ys, h1, h2, h3, h4⟩ | ⟨xs, ys, rfl, rfl, h3, h4⟩
    · refine ps_run rfl ?_
      unfold w__law_same
      have ty : ∃ t, (∀ m' : Sto, tyD m' x = some t) ∧ ([.lst, .tup] : List Ty0).any (isA t) = false ∧ ((isNb x || ([.bl, .str] : List Ty0).any (isA t)) = true ∨ (isNb x || ([.bl, .str] : List Ty0).any (isA t)) = false ∧ t = .int) := by
        cases x <;> first | cases hl | skip
        · exact ⟨.non, fun _ => rfl, by decide, .inl rfl⟩
        · exact ⟨.bl, fun _ => rfl, by decide, .inl rfl⟩
        · exact ⟨.int, fun _ => rfl, by decide, .inr ⟨rfl, rfl⟩⟩
        · exact ⟨.str, fun _ => rfl, by decide, .inl rfl⟩
      obtain ⟨t, ht, h1, h2⟩ := ty
      refine px_seq (M := fun δ' => δ' = startD 4 [x, x]) (px_if (pt_tru (tyb (i := 1) rfl ht)) (fun z => ?_) fun _ => px_next rfl) ?_
      · rw [h1] at z; cases z
      rintro _ rfl
      refine px_seq (M := fun δ' => δ' = startD 4 [x, x] ∧ t = .int) (px_if (pt_or (pt_bl (pu_op (pu_var (i := 1) rfl) pu_c isN_any)) fun _ => pt_tru (tyb (i := 1) rfl ht)) (fun _ => ?_) fun z => px_next ⟨rfl, ?_⟩) ?_
      · refine px_ret (v := .bl true) (pu_and (b := true) (c := true) (pu_op (pu_var rfl) (pu_var rfl) (same_leaf hl)) fun _ => pu_and (b := true) (c := true) ?_ fun _ => ?_) rfl
        · have := pu_op (R2 := dEq false) (m := m) (δ := startD 4 [x, x]) (tyb (ts := [.bl]) (i := 0) rfl ht) (tyb (ts := [.bl]) (i := 1) rfl ht) eq_bl
          simpa using this
        · have := pu_op (R2 := dEq false) (m := m) (δ := startD 4 [x, x]) (pu_op (pu_var (i := 0) rfl) pu_c isN_any) (pu_op (pu_var (i := 1) rfl) pu_c isN_any) eq_bl
          simpa using this
      · rcases h2 with h2 | h2
        · rw [h2] at z; cases z
        · exact h2.2
      rintro _ ⟨rfl, rfl⟩
      refine px_ret (v := .bl true) (pu_and (b := true) (c := true) (tyb (ts := [.int]) (i := 0) rfl ht) fun _ => pu_and (b := true) (c := true) ?_ fun _ => pu_op (pu_var rfl) (pu_var rfl) (same_leaf hl)) rfl
      exact pu_not (b := false) (tyb (ts := [.bl]) (i := 0) rfl ht)
    · exact body ⟨.lst, .inl rfl, fun m' s => asL_ty (asL_sub h1 s), fun m' s => asL_ty (asL_sub h2 s)⟩ ⟨xs, ys, fun m' s => asL_Q (asL_sub h1 s), fun m' s => asL_Q (asL_sub h2 s), h3, h4, .inl ⟨h1, h2⟩⟩
    · exact body ⟨.tup, .inr rfl, fun _ _ => rfl, fun _ _ => rfl⟩ ⟨xs, ys, fun _ _ => rfl, fun _ _ => rfl, h3, h4, .inr ⟨rfl, rfl⟩⟩
end
theorem fx_for {it : DIt} {g : DG} {tb : DS} {D : DEnds} {xs : List DV} {δ : Slots} {m : Sto} (hit : it.items = xs) (hlk : it.lk = none) (I : Nat → Slots → Sto → Prop) (hst : ∀ i δ m, I i δ m → it.st m) (h0 : I 0 δ m)
    (hs : ∀ i y δ m1, xs[i]? = some y → I i δ m1 → g y δ m1 fun δ1 m2 => ∀ D' : DEnds, (∀ δ m, I (i + 1) δ m → D'.nx δ m) → (∀ v m, D.rt v m → D'.rt v m) → (∀ δ m, D.nx δ m → D'.bk δ m) → (∀ δ m, I (i + 1) δ m → D'.ct δ m) → tb D' δ1 m2)
    (hg : ∀ y δ m (Q Q' : Slots → Sto → Prop), (∀ δ m, Q δ m → Q' δ m) → g y δ m Q → g y δ m Q')
    (he : ∀ δ m1, I xs.length δ m1 → D.nx δ m1) : forGo it g tb D it.items δ m := by
  have hfin : ∀ (m2 : Sto) (k : Sto → Prop), k m2 → it.fin m2 k := fun m2 k hk => by unfold DIt.fin; rw [hlk]; exact hk
  have key : ∀ (ys : List DV) (i : Nat) (δ : Slots) (m2 : Sto), xs.drop i = ys → i ≤ xs.length → I i δ m2 → forGo it g tb D ys δ m2 := fun ys => by
    induction ys with
    | nil =>
      intro i δ m2 hd hle hII
      have : i = xs.length := by
        have := List.drop_eq_nil_iff.mp hd
        omega
      subst this
      exact ⟨hst _ _ _ hII, hfin _ _ (he δ m2 hII)⟩
    | cons y r ih =>
      intro i δ m2 hd hle hII
      obtain ⟨h1, h2⟩ := getElem_drop_cons hd
      have hlt : i < xs.length := (List.getElem?_eq_some_iff.mp h1).1
      refine ⟨hst _ _ _ hII, hg _ _ _ _ _ (fun δ1 m3 hb => ?_) (hs i y δ m2 h1 hII)⟩
      exact hb _ (fun δ' m3 h3 => ih (i + 1) δ' m3 h2 hlt h3) (fun v m3 h3 => hfin _ _ h3) (fun δ' m3 h3 => hfin _ _ h3) fun δ' m3 h3 => ih (i + 1) δ' m3 h2 hlt h3
  rw [hit]
  exact key xs 0 δ m rfl (Nat.zero_le _) h0
theorem gN_mono {k : Nat} (y : DV) (δ : Slots) (m : Sto) (Q Q' : Slots → Sto → Prop) (h : ∀ δ m, Q δ m → Q' δ m) (q : gN k y δ m Q) : gN k y δ m Q' := h _ _ q
theorem go_range {t : DA} {g : DG} {tb : DS} {D : DEnds} {δ : Slots} {m : Sto} (h : t δ m fun ds m1 => match ds with
  | [.int j] => -(2 ^ 62) ≤ j ∧ j < 2 ^ 62 ∧ forGo ⟨rgD 0 j.toNat, fun _ => True, none⟩ g tb D (rgD 0 j.toNat) δ m1
  | _ => False) : wFor (iRngD t) g tb D δ m := h
theorem pop_at {p : Addr} {xs : List DV} {r : Int} {m : Sto} {Q : DK} (hp : m p = some (.lst xs)) (h0 : 0 ≤ r) (h1 : r < xs.length) (hl : xs.length < 2 ^ 60) (q : ∀ d, xs[r.toNat]? = some d → Q d (DL.put m p (.lst (xs.eraseIdx r.toNat)))) : mPop (.ref p) [.int r] m Q := by
  have hlt : r.toNat < xs.length := by omega
  have hix : ixN xs.length r = some r.toNat := by
    unfold ixN
    rw [if_pos (by omega), if_pos (by omega)]
  unfold mPop ownL
  simp only [hp, hix, List.getElem?_eq_getElem hlt]
  exact ⟨by omega, by omega, q _ (List.getElem?_eq_getElem hlt)⟩
theorem app_at {p : Addr} {xs : List DV} {y : DV} {m : Sto} {Q : DK} (hp : m p = some (.lst xs)) (hl : xs.length < sizeLine) (q : Q .non (DL.put m p (.lst (xs ++ [y])))) : mAppend (.ref p) [y] m Q := by
  unfold mAppend ownL
  simp only [hp]
  exact ⟨hl, q⟩
theorem ofTy_lst {p : Addr} {xs : List DV} {m : Sto} (hp : m p = some (.lst xs)) : ofTy m .lst (.ref p) := by
  refine ⟨asL_ty (show asL m (.ref p) = some xs by unfold asL; simp only [hp]), ?_⟩
  simp only [hp]
theorem asQ_ref {p : Addr} {xs : List DV} {m : Sto} (hp : m p = some (.lst xs)) : asQ m (.ref p) = some xs := by
  unfold asQ asL; simp only [hp]
theorem er_map {f : Int → DV} : ∀ (ls : List Int) (i : Nat), (ls.map f).eraseIdx i = (ls.eraseIdx i).map f
  | [], i => by cases i <;> rfl
  | a :: r, 0 => rfl
  | a :: r, i + 1 => by
    show f a :: (r.map f).eraseIdx i = f a :: (r.eraseIdx i).map f
    rw [er_map r i]
theorem er_perm : ∀ {ls : List Int} {i : Nat} {n : Int}, ls[i]? = some n → (n :: ls.eraseIdx i).Perm ls
  | [], i, n, h => by cases i <;> cases h
  | a :: r, 0, n, h => by cases h; exact .refl _
  | a :: r, i + 1, n, h => by
    have h : r[i]? = some n := h
    exact (List.Perm.swap a n _).trans ((er_perm h).cons a)
section
variable {m m1 m2 : Sto} {p k : Addr} {δ : Slots} {wa wb wc w : DE} {neg : Bool} {c : Nat}
def okN : Nat → DV → Prop
  | 0, _ => False
  | n + 1, .tup xs => xs.length ≤ 1000 ∧ ∀ x ∈ xs, okN n x
  | n + 1, .lst xs => xs.length ≤ 1000 ∧ ∀ x ∈ xs, okN n x
  | n + 1, d => leafD d = true
theorem go_gseq {d : DV} {xs : List DV} {gs : DGs} {n : Nat} {Q : Slots → Sto → Prop} (h : asQ m d = some xs) (hl : xs.length = n) (q : gs xs δ m Q) : gSeq n gs d δ m Q := by
  unfold gSeq
  rw [h]
  exact ⟨hl, q⟩
theorem eq_str {x y : Str} : Pu2 (dEq false) (.str x) (.str y) m (.bl (decide (x = y))) := fun m' Q _ q => by
  unfold dEq scEq
  simpa using q _ (.refl _)
theorem cat_T {xs ys : List DV} (h0 : xs ≠ []) (h : xs.length + ys.length ≤ sizeLine) : Pu2 (dAdd false) (.tup xs) (.tup ys) m (.tup (xs ++ ys)) := fun m' Q _ q => ⟨h0, h, q _ (.refl _)⟩
theorem pos_pu {x : DV} {Q : DK} (h : PuE w δ m x) (q : ∀ m2, Sub m m2 → Q x m2) : w δ m Q := h m Q (.refl _) q
theorem pos_puT {t : DT} {b : Bool} {QT : Bool → Sto → Prop} (h : PuT t δ m b) (q : ∀ m2, Sub m m2 → QT b m2) : t δ m QT := h m QT (.refl _) q
theorem bls_of : ∀ bs : List Bool, bls? (bs.map DV.bl) = some bs
  | [] => rfl
  | b :: bs => by simp [bls?, bls_of bs]
theorem pu_allB {bs : List Bool} (h : PuE w δ m (.lst (bs.map DV.bl))) : PuE (wB dAll (wCons w wNil)) δ m (.bl (bs.all id)) := pu_b (pa_cons h pa_nil) fun m' Q s q => by
  have ea : asL m' (.lst (bs.map DV.bl)) = some (bs.map DV.bl) := rfl
  show dBls (fun bs => bs.all id) [.lst (bs.map DV.bl)] m' Q
  unfold dBls
  simp only [ea, bls_of]
  exact q _ (.refl _)
theorem pt_lt {i j : Int} (ha : PuE wa δ m (.int i)) (hb : PuE wb δ m (.int j)) : PuT (wBl (wOp (dRel fun i j => decide (i < j)) wa wb)) δ m (decide (i < j)) := pt_bl (pu_op ha hb rel_I)
theorem add_I {i j : Int} : Pu2 (dAdd false) (.int i) (.int j) m (.int (i + j)) := fun m' Q _ q => q _ (.refl _)
theorem go_not {t : DT} {Q : Bool → Sto → Prop} (h : t δ m fun b m1 => Q (!b) m1) : wNotT t δ m Q := h
theorem go_tru {Q : Bool → Sto → Prop} (h : w δ m fun d m1 => truD m1 d fun b => Q b m1) : wTru w δ m Q := h
theorem go_same {x y : DV} {Q : DK} (h : Same m 6 x y) (q : ∀ m2, Sub m m2 → Q (.bl true) m2) : S__law_same 6 [x, y] m Q := sp_same 6 x y m h m Q (.refl _) q
theorem Same.up1 : ∀ (n : Nat) {x y : DV}, Same m n x y → Same m (n + 1) x y
  | 0, _, _, h => False.elim h
  | n + 1, x, y, h => by
    rcases h with h | ⟨xs, ys, h1, h2, h3, h4⟩ | ⟨xs, ys, h1, h2, h3, h4⟩
    · exact .inl h
    · exact .inr (.inl ⟨xs, ys, h1, h2, h3, Paired.mapP h4 fun _ _ z => Same.up1 n z⟩)
    · exact .inr (.inr ⟨xs, ys, h1, h2, h3, Paired.mapP h4 fun _ _ z => Same.up1 n z⟩)
theorem rg_get {n : Nat} {y : DV} (h : (rgD 0 n)[i]? = some y) : i < n ∧ y = .int (i : Int) := by
  unfold rgD at h
  rw [List.getElem?_map] at h
  cases e : (List.range n)[i]? with
  | none => rw [e] at h; cases h
  | some j =>
    rw [e] at h
    obtain ⟨h1, h2⟩ := List.getElem?_eq_some_iff.mp e
    rw [List.length_range] at h1
    rw [List.getElem_range] at h2
    subst h2
    cases h
    exact ⟨h1, by show DV.int (0 + (i : Int)) = _; rw [Int.zero_add]⟩
theorem same_okN : ∀ (n : Nat) {d : DV}, okN n d → Same m n d d
  | 0, d, h => False.elim h
  | n + 1, d, h => by
    have big := line_eq
    have pr : ∀ xs : List DV, (∀ x ∈ xs, okN n x) → Paired (Same m n) xs xs := fun xs => by
      induction xs with
      | nil => intro _; exact .nil
      | cons x t ih => intro hx; exact .cons (same_okN n (hx x List.mem_cons_self)) (ih fun y hy => hx y (List.mem_cons_of_mem _ hy))
    cases d with
    | lst xs =>
      have h : xs.length ≤ 1000 ∧ ∀ x ∈ xs, okN n x := h
      exact .inr (.inl ⟨xs, xs, rfl, rfl, by omega, pr xs h.2⟩)
    | tup xs =>
      have h : xs.length ≤ 1000 ∧ ∀ x ∈ xs, okN n x := h
      exact .inr (.inr ⟨xs, xs, rfl, rfl, by omega, pr xs h.2⟩)
    | non => exact .inl ⟨rfl, rfl⟩
    | bl b => exact .inl ⟨rfl, rfl⟩
    | int i => exact .inl ⟨rfl, rfl⟩
    | str x => exact .inl ⟨rfl, rfl⟩
    | ref a => exact Bool.noConfusion (show leafD (.ref a) = true from h)
    | ktup xs => exact Bool.noConfusion (show leafD (.ktup xs) = true from h)
    | klst xs => exact Bool.noConfusion (show leafD (.klst xs) = true from h)
theorem n60 {k : Nat} (h : Nat.ble k 60 = true) : k ≤ sizeLine := Nat.le_trans (Nat.le_of_ble_eq_true h) (by rw [line_eq]; decide)
theorem pu_neg {w : DE} {δ : Slots} {m : Sto} {i : Int} (h : PuE w δ m (.int i)) : PuE (wNeg w) δ m (.int (-i)) := fun m' Q s q => h m' _ s q
theorem go_ssetP {D : DEnds} {δ : Slots} {m : Sto} {w : DE} {s : DS} {k : Nat} {x : DV} (h : PuE w δ m x) (q : ∀ m2, Sub m m2 → s D (δ.set k (some x)) m2) : wSeq (wAsg w (gN k)) s D δ m := go_sset (h m _ (.refl _) q)
theorem go_sparP {D : DEnds} {δ : Slots} {m : Sto} {ta : DA} {s : DS} {k l : Nat} {x y : DV} (h : PuA ta δ m [x, y]) (q : ∀ m2, Sub m m2 → s D ((δ.set k (some x)).set l (some y)) m2) : wSeq (wPar k l ta) s D δ m := go_spar (h m _ (.refl _) q)
theorem go_sifP {D : DEnds} {δ : Slots} {m : Sto} {t : DT} {s s' : DS} (h : PuT t δ m false) (q : ∀ m2, Sub m m2 → s' D δ m2) : wSeq (wIfS t s wNext) s' D δ m := go_sif (h m _ (.refl _) q)
theorem go_retP {D : DEnds} {δ : Slots} {m : Sto} {w : DE} {x : DV} (h : PuE w δ m x) (q : ∀ m2, Sub m m2 → D.rt x m2) : wRet w D δ m := go_ret (h m _ (.refl _) q)
theorem ix_T {m : Sto} {xs : List DV} {i : Nat} {d : DV} (h : xs[i]? = some d) : Pu2 dIx (.tup xs) (.int (i : Int)) m d := fun m' Q _ q => by
  have hat : atI xs (i : Int) = some d := by
    have hlt : i < xs.length := (List.getElem?_eq_some_iff.mp h).1
    unfold atI ixN
    rw [if_pos (by omega), if_pos (by omega)]
    exact h
  show (match atI xs (i : Int) with
    | some d => Q d m'
    | none => False)
  rw [hat]
  exact q _ (.refl _)
end
end Law
namespace Law
open PySem PySem.Spec PyProof.Rows L2 DL
def lett : Str := "abcdefghijklmnopqrstuvwxyz"
def tyO : DV → Ty0
  | .non => .non | .bl _ => .bl | .int _ => .int | .str _ => .str | .lst _ => .lst | .klst _ => .lst | .tup _ => .tup | .ktup _ => .tup | .ref _ => .non
/-- data, not an address, of texts and rows of bounded length -/
def smB : Nat → DV → Bool
  | 0, _ => false
  | n + 1, .lst xs => decide (xs.length ≤ 8) && xs.all (smB n)
  | n + 1, .tup xs => decide (xs.length ≤ 8) && xs.all (smB n)
  | n + 1, .str x => PyData.strOk x && decide (x.cps.size ≤ 50)
  | n + 1, .int i => decide (i.natAbs < 10 ^ 41)
  | n + 1, .ref _ => false
  | n + 1, .ktup _ => false
  | n + 1, .klst _ => false
  | n + 1, _ => true
def numB (d : DV) : Bool := isA (tyO d) .int && !isA (tyO d) .bl
def signsB (x : Str) : Bool := x.cps.toList.all fun c => decide (c ∈ lett.cps.toList)
def pathB : DV → Bool
  | .str x => decide (0 < x.length) && signsB x
  | _ => false
def kindL : List Str := ["stop", "go", "end", "wake"]
def argB (k : Str) (d : DV) : Bool :=
  if k = "value" then numB d
  else if k = "new" ∨ k = "number" then numB d && (match d with
    | .int i => decide ((if k = "new" then 1 else 0) ≤ i)
    | _ => false)
  else if k = "path" then pathB d
  else match d with
    | .str x => if k = "kind" then kindL.any fun y => x == y else decide (k = "text") || decide (0 < x.length)
    | _ => false
def rowB (f : Str → DV → Bool) : List Str → List DV → Bool
  | [], [] => true
  | k :: ks, d :: ds => f k d && rowB f ks ds
  | _, _ => false
def callB : DV → Bool
  | .tup (.str z :: ds) => match lkT tab_FORMS z with
    | some ks => rowB argB ks ds
    | none => false
  | _ => false
section
variable {m : Sto} {δ : Slots} {w wa wb : DE} {n : Nat} {x d : DV} {t : DT} {s s2 : DS} {N : Slots → Prop} {R : DV → Prop}
theorem px_no (h : PuT t δ m false) (q : PuX s2 δ m N R) : PuX (wSeq (wIfS t s wNext) s2) δ m N R := fun D m' sb hn hr => h m' _ sb fun m1 s1 => q D m1 (sb.trans s1) (fun δ2 m2 s2 => hn δ2 m2 (s1.trans s2)) fun v m2 s2 => hr v m2 (s1.trans s2)
theorem px_yes (h : PuT t δ m true) (q : PuX s δ m (fun _ => False) R) : PuX (wSeq (wIfS t s wNext) s2) δ m N R := fun D m' sb hn hr => h m' _ sb fun m1 s1 => q _ m1 (sb.trans s1) (fun δ2 m2 _ z => False.elim z) fun v m2 s2 => hr v m2 (s1.trans s2)
theorem px_sset {i : Nat} {v : DV} (h : PuE w δ m v) (q : PuX s (δ.set i (some v)) m N R) : PuX (wSeq (wAsg w (gN i)) s) δ m N R := fun D m' sb hn hr => h m' _ sb fun m1 s1 => q D m1 (sb.trans s1) (fun δ2 m2 s2 => hn δ2 m2 (s1.trans s2)) fun v m2 s2 => hr v m2 (s1.trans s2)
theorem ty_of (h : smB n d = true) : ∀ m : Sto, tyD m d = some (tyO d) := fun m => by
  cases n with
  | zero => cases h
  | succ n => cases d <;> first | rfl | cases h
theorem isi_of {i : Nat} {ts : List Ty0} (h : smB n d = true) (hd : δ[i]? = some (some d)) : PuE (wIsi ts (wVar i)) δ m (.bl (ts.any (isA (tyO d)))) := pu_isi (pu_var hd) fun m' _ => ty_of h m'
theorem sp_num (h : smB n d = true) : PuS S_is_number [d] m (.bl (numB d)) := by
  refine ps_run rfl ?_
  unfold w_is_number
  refine px_ret ?_ rfl
  have a := isi_of (m := m) (δ := startD 1 [d]) (i := 0) (ts := [.int]) h rfl
  have b := isi_of (m := m) (δ := startD 1 [d]) (i := 0) (ts := [.bl]) h rfl
  have e1 : [Ty0.int].any (isA (tyO d)) = isA (tyO d) .int := by simp
  have e2 : [Ty0.bl].any (isA (tyO d)) = isA (tyO d) .bl := by simp
  rw [e1] at a
  rw [e2] at b
  exact pu_and a fun _ => pu_not b
theorem len_S {y : Str} (h : PuE w δ m (.str y)) (hl : y.cps.size ≤ 100) : PuE (wB dLen (wCons w wNil)) δ m (.int y.length) := pu_b (pa_cons h pa_nil) fun m' Q s q => by
  refine ⟨?_, q _ (.refl _)⟩
  show y.cps.size ≤ sizeLine
  have := line_eq
  omega
theorem pi_str {y : Str} (h : PuE w δ m (.str y)) : PuI (iStrD w) δ m (sgD y) := fun m' K s k => h m' _ s fun m1 s1 => k _ m1 s1 rfl rfl fun m2 s2 => trivial
theorem in_sign {c : Nat} {z : Str} : Pu2 (dIn false) (.str ⟨#[c]⟩) (.str z) m (.bl (decide (c ∈ z.cps.toList))) := fun m' Q _ q => by
  refine ⟨c, rfl, ?_⟩
  have := q m' (.refl _)
  cases e : decide (c ∈ z.cps.toList) <;> (rw [e] at this; exact this)
theorem len_pos {y : Str} : decide ((0 : Int) < (y.length : Int)) = decide (0 < y.length) := by
  apply decide_eq_decide.mpr
  omega
/-- all signs of a text are letters, as a comprehension finds -/
theorem signs_E {i j : Nat} {y : Str} (hy : δ[i]? = some (some (.str y))) (hj : j ≠ i) (hlen : j < δ.length) (hl : y.cps.size ≤ 100) : PuE (wB dAll (wCons (wLc false (iStrD (wVar i)) (gN j) (wYes) (wOp (dIn false) (wVar j) (wC (.str "abcdefghijklmnopqrstuvwxyz"))) [j]) (wNil))) δ m (.bl (signsB y)) := by
  have big := line_eq
  have hs : (sgD y).length = y.cps.size := by unfold sgD; rw [List.length_map, Array.length_toList]
  let f : DV → Bool := fun d => match d with
    | .str w => match w.cps.toList with
      | [c] => decide (c ∈ lett.cps.toList)
      | _ => false
    | _ => false
  have lc := pu_lc (m := m) (δ := δ) (g := gN j) (vs := [j]) (tt := wYes) (te := wOp (dIn false) (wVar j) (wC (.str "abcdefghijklmnopqrstuvwxyz"))) (fun _ => true) (fun d => .bl (f d)) (pi_str (pu_var hy)) (by omega) fun d hd => by
    obtain ⟨c, _, rfl⟩ := List.mem_map.mp hd
    refine ⟨_, fun m Q q => q, pt_yes, fun _ => ?_⟩
    have hsl : ((wipeD δ [j]).set j (some (.str ⟨#[c]⟩)))[j]? = some (some (.str ⟨#[c]⟩)) := by
      rw [List.getElem?_set_self]
      have : (wipeD δ [j]).length = δ.length := by unfold wipeD wipeD; simp
      omega
    exact pu_op (pu_var hsl) pu_c in_sign
  have e : lcF (fun _ => true) (fun d => DV.bl (f d)) (sgD y) = (y.cps.toList.map fun c => decide (c ∈ lett.cps.toList)).map DV.bl := by
    rw [lcF_map, List.filter_eq_self.mpr fun _ _ => rfl]
    unfold sgD
    rw [List.map_map, List.map_map]
    rfl
  rw [e] at lc
  have := pu_allB lc
  unfold signsB
  rw [List.all_map] at this
  exact this
theorem sp_path (h : smB n d = true) : PuS S_is_path_text [d] m (.bl (pathB d)) := by
  refine ps_run rfl ?_
  unfold w_is_path_text
  have a := isi_of (m := m) (δ := startD 2 [d]) (i := 0) (ts := [.str]) h rfl
  cases n with
  | zero => cases h
  | succ n =>
    cases d with
    | str y =>
      have h : (PyData.strOk y && decide (y.cps.size ≤ 50)) = true := h
      rw [Bool.and_eq_true] at h
      have hl : y.cps.size ≤ 100 := Nat.le_trans (of_decide_eq_true h.2) (by decide)
      refine px_ret (v := .bl (true && (decide (0 < y.length) && signsB y))) (pu_and a fun _ => pu_and ?_ fun _ => signs_E (i := 0) (j := 1) rfl (by decide) (Nat.lt_succ_self 1) hl) rfl
      rw [← len_pos]
      exact pu_op (len_S (pu_var rfl) hl) pu_c rel_I
    | _ => first | exact px_ret (v := .bl (false && false)) (pu_and a fun z => Bool.noConfusion z) rfl | exact Bool.noConfusion h
theorem eqF_str {x y : Str} : eqF (.str x) (.str y) = (x == y) := rfl
theorem in_T {xs : List DV} (hf : (flatD x && xs.all flatD) = true) : Pu2 (dIn false) x (.tup xs) m (.bl (xs.any fun z => eqF z x)) := fun m' Q _ q => by
  refine ⟨hf, ?_⟩
  have := q m' (.refl _)
  cases e : xs.any fun z => eqF z x <;> (rw [e] at this; exact this)
theorem in_KT {xs : List DV} (hf : (flatD x && xs.all flatD) = true) : Pu2 (dIn false) x (.ktup xs) m (.bl (xs.any fun z => eqF z x)) := fun m' Q _ q => by
  refine ⟨hf, ?_⟩
  have := q m' (.refl _)
  cases e : xs.any fun z => eqF z x <;> (rw [e] at this; exact this)
theorem bI {b : Bool} : Pu2 (fun _ _ _ _ => False) x x m (.bl b) → True := fun _ => trivial
theorem pu_intB {b : Bool} (h : PuE w δ m (.bl b)) : PuE (wB dInt (wCons w wNil)) δ m (.int (if b = true then 1 else 0)) := pu_b (pa_cons h pa_nil) fun m' Q s q => q _ (.refl _)
theorem eq_s {k z : Str} {i : Nat} (hk : δ[i]? = some (some (.str k))) : PuT (wBl (wOp (dEq false) (wVar i) (wC (.str z)))) δ m (decide (k = z)) := pt_bl (pu_op (pu_var hk) pu_c eq_str)
theorem eq_sT {k z : Str} {i : Nat} (hk : δ[i]? = some (some (.str k))) (e : k = z) : PuT (wBl (wOp (dEq false) (wVar i) (wC (.str z)))) δ m true := by
  have := eq_s (m := m) (z := z) hk
  rwa [decide_eq_true e] at this
theorem eq_sF {k z : Str} {i : Nat} (hk : δ[i]? = some (some (.str k))) (e : ¬ k = z) : PuT (wBl (wOp (dEq false) (wVar i) (wC (.str z)))) δ m false := by
  have := eq_s (m := m) (z := z) hk
  rwa [decide_eq_false e] at this
theorem sp_arg {k : Str} (h : smB n d = true) : PuS S_is_argument [.str k, d] m (.bl (argB k d)) := by
  refine ps_run rfl ?_
  unfold w_is_argument
  have big := line_eq
  show PuX _ [some (.str k), some d] m _ _
  unfold argB
  by_cases e1 : k = "value"
  · rw [if_pos e1]
    exact px_yes (eq_sT rfl e1) (px_ret (call1 (pu_var rfl) (sp_num h)) rfl)
  rw [if_neg e1]
  refine px_no (eq_sF rfl e1) ?_
  have t2 : PuT (wBl (wOp (dIn false) (wVar 0) (wTup (wCons (wC (.str "new")) (wCons (wC (.str "number")) (wNil)))))) [some (.str k), some d] m (decide (k = "new" ∨ k = "number")) := by
    have := pt_bl (pu_op (pu_var (δ := [some (.str k), some d]) (m := m) (i := 0) rfl) (pu_tup (pa_cons pu_c (pa_cons pu_c pa_nil)) (by simp; omega)) (in_T (x := .str k) (xs := [.str "new", .str "number"]) rfl))
    have e : ([DV.str "new", DV.str "number"].any fun z => eqF z (.str k)) = decide (k = "new" ∨ k = "number") := by
      rw [List.any_cons, List.any_cons, List.any_nil, Bool.or_false, eqF_str, eqF_str]
      by_cases a : k = "new"
      · subst a; rfl
      · by_cases b : k = "number"
        · subst b; rfl
        · rw [beq_eq_false_iff_ne.mpr fun z => a z.symm, beq_eq_false_iff_ne.mpr fun z => b z.symm]
          exact (decide_eq_false fun z => z.elim a b).symm
    rw [e] at this
    exact this
  by_cases e2 : k = "new" ∨ k = "number"
  · rw [if_pos e2]
    rw [decide_eq_true e2] at t2
    refine px_yes t2 ?_
    cases hn : numB d with
    | false =>
      have := sp_num (m := m) h
      rw [hn] at this
      exact px_ret (v := .bl (false && false)) (pu_and (call1 (pu_var rfl) this) fun z => Bool.noConfusion z) rfl
    | true =>
      have := sp_num (m := m) h
      rw [hn] at this
      cases d with
      | int i =>
        refine px_ret (v := .bl (true && decide ((if k = "new" then 1 else 0) ≤ i))) (pu_and (call1 (pu_var rfl) this) fun _ => ?_) rfl
        have o := pu_op (R2 := dRel fun i j => decide (j ≤ i)) (pu_var (δ := [some (.str k), some (.int i)]) (m := m) (i := 1) rfl) (pu_intB (pu_op (pu_var (i := 0) rfl) (pu_c (v := .str "new")) (eq_str (x := k)))) rel_I
        by_cases a : k = "new"
        · rw [if_pos a]
          rw [decide_eq_true a] at o
          exact o
        · rw [if_neg a]
          rw [decide_eq_false a] at o
          exact o
      | _ => first | exact Bool.noConfusion hn | (cases n <;> cases h)
  rw [if_neg e2]
  rw [decide_eq_false e2] at t2
  refine px_no t2 ?_
  by_cases e3 : k = "path"
  · rw [if_pos e3]
    exact px_yes (eq_sT rfl e3) (px_ret (call1 (pu_var rfl) (sp_path h)) rfl)
  rw [if_neg e3]
  refine px_no (eq_sF rfl e3) ?_
  have a := isi_of (m := m) (δ := [some (.str k), some d]) (i := 1) (ts := [.str]) h rfl
  cases n with
  | zero => cases h
  | succ n =>
    cases d with
    | str y =>
      have h : (PyData.strOk y && decide (y.cps.size ≤ 50)) = true := h
      rw [Bool.and_eq_true] at h
      have hl : y.cps.size ≤ 100 := Nat.le_trans (of_decide_eq_true h.2) (by decide)
      refine px_no (pt_not (b := true) (pt_tru a)) ?_
      dsimp only
      by_cases e4 : k = "kind"
      · rw [if_pos e4]
        refine px_yes (eq_sT rfl e4) (px_ret ?_ rfl)
        have := pu_op (pu_var (δ := [some (.str k), some (.str y)]) (m := m) (i := 1) rfl) (pu_c (v := .ktup (kindL.map .str))) (in_KT (x := .str y) (xs := kindL.map .str) rfl)
        have e : ((kindL.map DV.str).any fun z => eqF z (.str y)) = kindL.any fun z => y == z := by
          rw [List.any_map]
          congr 1
          funext z
          show (z == y) = (y == z)
          rw [Bool.eq_iff_iff, beq_iff_eq, beq_iff_eq]
          exact eq_comm
        rw [e] at this
        exact this
      · rw [if_neg e4]
        refine px_no (eq_sF rfl e4) (px_ret (pu_or (pu_op (pu_var (i := 0) rfl) pu_c eq_str) fun _ => ?_) rfl)
        rw [← len_pos]
        exact pu_op (len_S (pu_var rfl) hl) pu_c rel_I
    | _ => first | exact px_yes (pt_not (b := false) (pt_tru a)) (px_ret pu_c rfl) | exact Bool.noConfusion h
end
end Law
namespace Law
open PySem PySem.Spec PyProof.Rows L2 DL
section
variable {m : Sto} {δ : Slots} {w wa wb : DE} {n : Nat} {x d : DV} {i j : Int}
theorem sl_T {a : DV} {r : List DV} (h : PuE w δ m (.tup (a :: r))) : PuE (wSl false w (some (wC (.int 1))) none) δ m (.tup r) := fun m' Q s q => h m' _ s fun m1 s1 => by
  show Q (.tup (DL.cutD (a :: r) (some 1) none)) m1
  have e : DL.cutD (a :: r) (some 1) none = r := by
    unfold DL.cutD
    have e1 : HT.sIx (a :: r).length 0 (some 1) = 1 := by
      show (if (1 : Int) < 0 then ((1 : Int) + ((a :: r).length : Int)).toNat else min (1 : Int).toNat (a :: r).length) = 1
      rw [if_neg (by decide), List.length_cons]
      show min 1 (r.length + 1) = 1
      omega
    rw [e1]
    show (r.take ((a :: r).length - 1)) = r
    rw [List.length_cons, Nat.add_sub_cancel, List.take_length]
  rw [e]
  exact q _ s1
theorem pu_lenT {xs : List DV} (h : PuE w δ m (.tup xs)) : PuE (wB dLen (wCons w wNil)) δ m (.int xs.length) := len_Q h fun m' s => rfl
def prB (F : Str → DV → Bool) : DV → Bool
  | .tup [.str k, d] => F k d
  | _ => false
theorem zip_vals {F : Str → DV → Bool} : ∀ (ks : List Str) (ds : List DV), ((zipD (ks.map DV.str) ds).map fun y => DV.bl (prB F y)) = (List.zipWith F ks ds).map DV.bl
  | [], ds => by cases ds <;> rfl
  | k :: ks, [] => rfl
  | k :: ks, d :: ds => by
    show DV.bl (F k d) :: ((zipD (ks.map DV.str) ds).map fun y => DV.bl (prB F y)) = DV.bl (F k d) :: (List.zipWith F ks ds).map DV.bl
    rw [zip_vals ks ds]
theorem row_zip {F : Str → DV → Bool} : ∀ {ks : List Str} {ds : List DV}, ks.length = ds.length → (List.zipWith F ks ds).all id = rowB F ks ds
  | [], [], _ => rfl
  | k :: ks, d :: ds, h => by
    show (F k d && (List.zipWith F ks ds).all id) = (F k d && rowB F ks ds)
    rw [row_zip (Nat.succ.inj h)]
  | [], _ :: _, h => by cases h
  | _ :: _, [], h => by cases h
theorem row_len {F : Str → DV → Bool} : ∀ {ks : List Str} {ds : List DV}, ks.length ≠ ds.length → rowB F ks ds = false
  | [], [], h => absurd rfl h
  | k :: ks, d :: ds, h => by
    show (F k d && rowB F ks ds) = false
    rw [row_len fun e => h (congrArg Nat.succ e), Bool.and_false]
  | [], _ :: _, _ => rfl
  | _ :: _, [], _ => rfl
theorem zip_at : ∀ {ks : List Str} {ds : List DV} {y : DV}, y ∈ zipD (ks.map DV.str) ds → ∃ k ∈ ks, ∃ d ∈ ds, y = .tup [.str k, d]
  | [], ds, y, h => by cases ds <;> cases h
  | k :: ks, [], y, h => by cases h
  | k :: ks, d :: ds, y, h => by
    rcases List.mem_cons.mp h with rfl | h
    · exact ⟨k, List.mem_cons_self, d, List.mem_cons_self, rfl⟩
    · obtain ⟨k2, h1, d2, h2, e⟩ := zip_at h
      exact ⟨k2, List.mem_cons_of_mem _ h1, d2, List.mem_cons_of_mem _ h2, e⟩
theorem all_zip {F : Str → DV → Bool} {wi : DI} {te : DE} {ks : List Str} {ds : List DV} (hi : PuI wi δ m (zipD (ks.map DV.str) ds)) (hl : ks.length ≤ 100)
    (h : ∀ k ∈ ks, ∀ d ∈ ds, PuE te (((wipeD δ [2, 3]).set 2 (some (.str k))).set 3 (some d)) m (.bl (F k d))) :
    PuE (wB dAll (wCons (wLc false wi (gSeq 2 (gConsD (gN 2) (gConsD (gN 3) (gNilD)))) (wYes) te [2, 3]) (wNil))) δ m (.bl ((List.zipWith F ks ds).all id)) := by
  have big := line_eq
  have lc := pu_lc (m := m) (δ := δ) (g := gSeq 2 (gConsD (gN 2) (gConsD (gN 3) (gNilD)))) (vs := [2, 3]) (tt := wYes) (te := te) (fun _ => true) (fun y => .bl (prB F y)) hi (by have := zip_len (ks.map DV.str) ds; rw [List.length_map] at this; omega) fun y hy => by
    obtain ⟨k, hk, d, hd, rfl⟩ := zip_at hy
    exact ⟨_, fun m Q q => ⟨rfl, rfl, q⟩, pt_yes, fun _ => h k hk d hd⟩
  rw [lcF_map, List.filter_eq_self.mpr fun _ _ => rfl, zip_vals] at lc
  exact pu_allB lc
theorem zipK_I {x y : DV} {xs ys : List DV} (ha : PuE wa δ m x) (hb : PuE wb δ m y) (hx : asT x = some xs) (hy : asT y = some ys) (nx : ∀ m, asL m x = none) : PuI (iZipD (wCons wa (wCons wb wNil))) δ m (zipD xs ys) := fun m' K s k => by
  refine (pa_cons ha (pa_cons hb pa_nil)) m' _ s fun m1 s1 => ?_
  simp only [nx m1, hx, hy]
  exact k _ m1 s1 rfl rfl fun m2 s2 => trivial
theorem zipS_I {x : Str} {y : DV} {ys : List DV} (ha : PuE wa δ m (.str x)) (hb : PuE wb δ m y) (hy : asT y = some ys) : PuI (iZipSD (wCons wa (wCons wb wNil))) δ m (zipD (sgD x) ys) := fun m' K s k => by
  refine (pa_cons ha (pa_cons hb pa_nil)) m' _ s fun m1 s1 => ?_
  show (match asT y with
    | some ys => K ⟨zipD (sgD x) ys, fun _ => True, none⟩ m1
    | none => False)
  rw [hy]
  exact k _ m1 s1 rfl rfl fun m2 s2 => trivial
theorem kin_E {tab : Tb} {neg : Bool} {z : Str} (h : PuE w δ m (.str z)) : PuE (wKin neg tab w) δ m (.bl (xor neg (lkT tab z).isSome)) := fun m' Q s q => h m' _ s fun m1 s1 => q m1 s1
theorem kget_E {tab : Tb} {z : Str} {ks : List Str} (h : PuE w δ m (.str z)) (e : lkT tab z = some ks) : PuE (wKget tab w) δ m (.ktup (ks.map .str)) := fun m' Q s q => h m' _ s fun m1 s1 => by
  show (match lkT tab z with
    | some ks => Q (.ktup (ks.map .str)) m1
    | none => False)
  rw [e]
  exact q m1 s1
theorem lenK_E {xs : List DV} (h : PuE w δ m (.ktup xs)) : PuE (wB dLen (wCons w wNil)) δ m (.int xs.length) := len_Q h fun m' s => rfl
theorem tab_len {z : Str} {ks : List Str} (e : lkT tab_FORMS z = some ks) : ks.length ≤ 3 := by
  have : ∀ (t : Tb), t.all (fun p => decide (p.2.length ≤ 3)) = true → lkT t z = some ks → ks.length ≤ 3 := fun t => by
    induction t with
    | nil => intro _ h; cases h
    | cons p t ih =>
      intro ha h
      rw [List.all_cons, Bool.and_eq_true] at ha
      unfold lkT at h
      split at h
      · cases h; exact of_decide_eq_true ha.1
      · exact ih ha.2 h
  exact this _ (by decide +kernel) e
theorem sm_tup {xs : List DV} (h : smB (n + 1) (.tup xs) = true) : xs.length ≤ 100 ∧ ∀ x ∈ xs, smB n x = true := by
  have h : (decide (xs.length ≤ 8) && xs.all (smB n)) = true := h
  rw [Bool.and_eq_true] at h
  exact ⟨Nat.le_trans (of_decide_eq_true h.1) (by decide), fun x hx => List.all_eq_true.mp h.2 x hx⟩
theorem sp_right (h : smB n d = true) : PuS S_is_right_call [d] m (.bl (callB d)) := by
  refine ps_run rfl ?_
  unfold w_is_right_call
  have big := line_eq
  show PuX _ [some d, none, none, none] m _ _
  have a := isi_of (m := m) (δ := [some d, none, none, none]) (i := 0) (ts := [.tup]) h rfl
  cases n with
  | zero => cases h
  | succ n =>
    cases d with
    | tup xs =>
      obtain ⟨hl, hx⟩ := sm_tup h
      have l0 : PuE (wB dLen (wCons (wVar 0) (wNil))) [some (.tup xs), none, none, none] m (.int xs.length) := pu_lenT (pu_var rfl)
      cases xs with
      | nil => exact px_yes (pt_or (b := false) (c := true) (pt_not (b := true) (pt_tru a)) fun _ => pt_or (b := true) (c := false) (pt_e l0 pu_c) fun z => Bool.noConfusion z) (px_ret pu_c rfl)
      | cons y ds =>
        have i0 : PuE (wOp dIx (wVar 0) (wC (.int 0))) [some (.tup (y :: ds)), none, none, none] m y := pu_op (pu_var rfl) pu_c (ix_T (i := 0) rfl)
        have hy := hx y List.mem_cons_self
        have ty : PuE (wIsi [.str] (wOp dIx (wVar 0) (wC (.int 0)))) [some (.tup (y :: ds)), none, none, none] m (.bl ([Ty0.str].any (isA (tyO y)))) := pu_isi i0 fun m' _ => ty_of hy m'
        have e0 : decide (((y :: ds).length : Int) = 0) = false := decide_eq_false (by rw [List.length_cons]; omega)
        have l1 := pt_e l0 (pu_c (v := .int 0))
        rw [e0] at l1
        cases y with
        | str z =>
          cases el : lkT tab_FORMS z with
          | none =>
            have k1 := kin_E (tab := tab_FORMS) (neg := true) i0
            rw [el] at k1
            refine px_yes (pt_or (b := false) (c := true) (pt_not (b := true) (pt_tru a)) fun _ => pt_or (b := false) (c := true) l1 fun _ => pt_or (b := false) (c := true) (pt_not (b := true) (pt_tru ty)) fun _ => pt_bl k1) (px_ret pu_c ?_)
            show DV.bl false = .bl (match lkT tab_FORMS z with
              | some ks => rowB argB ks ds
              | none => false)
            rw [el]
          | some ks =>
            have k1 := kin_E (tab := tab_FORMS) (neg := true) i0
            rw [el] at k1
            have hk := tab_len el
            have hc : callB (.tup (.str z :: ds)) = rowB argB ks ds := by
              show (match lkT tab_FORMS z with
                | some ks => rowB argB ks ds
                | none => false) = _
              rw [el]
            rw [hc]
            refine px_no (pt_or (b := false) (c := false) (pt_not (b := true) (pt_tru a)) fun _ => pt_or (b := false) (c := false) l1 fun _ => pt_or (b := false) (c := false) (pt_not (b := true) (pt_tru ty)) fun _ => pt_bl k1) ?_
            refine px_sset (kget_E i0 el) ?_
            show PuX _ [some (.tup (.str z :: ds)), some (.ktup (ks.map .str)), none, none] m _ _
            have l2 : PuT (wBl (wOp (dEq true) (wB dLen (wCons (wVar 0) (wNil))) (wOp (dAdd false) (wC (.int 1)) (wB dLen (wCons (wVar 1) (wNil)))))) [some (.tup (.str z :: ds)), some (.ktup (ks.map .str)), none, none] m (!decide (((DV.str z :: ds).length : Int) = 1 + ((ks.map DV.str).length : Int))) := pt_ne (pu_lenT (pu_var rfl)) (pu_op pu_c (lenK_E (pu_var rfl)) add_I)
            by_cases hkl : ks.length = ds.length
            · rw [decide_eq_true (by rw [List.length_cons, List.length_map]; omega)] at l2
              refine px_no l2 (px_ret ?_ rfl)
              rw [← row_zip hkl]
              refine all_zip (zipK_I (pu_var rfl) (sl_T (pu_var rfl)) rfl rfl fun _ => rfl) (by omega) fun k hk d hd => ?_
              exact call2 (pu_var rfl) (pu_var rfl) (sp_arg (hx d (List.mem_cons_of_mem _ hd)))
            · rw [decide_eq_false (by rw [List.length_cons, List.length_map]; omega)] at l2
              rw [row_len hkl]
              exact px_yes l2 (px_ret pu_c rfl)
        | _ => first | exact px_yes (pt_or (b := false) (c := true) (pt_not (b := true) (pt_tru a)) fun _ => pt_or (b := false) (c := true) l1 fun _ => pt_or (b := true) (c := false) (pt_not (b := false) (pt_tru ty)) fun z => Bool.noConfusion z) (px_ret pu_c rfl) | (cases n <;> exact Bool.noConfusion hy)
    | _ => first | exact px_yes (pt_or (b := true) (c := false) (pt_not (b := false) (pt_tru a)) fun z => Bool.noConfusion z) (px_ret pu_c rfl) | exact Bool.noConfusion h
theorem sp_iscall (h : smB n d = true) : PuS S_is_call [d] m (.bl (callB d)) := by
  refine ps_run rfl ?_
  unfold w_is_call
  exact px_ret (call1 (pu_var rfl) (sp_right h)) rfl
end
end Law
namespace Law
open PySem PySem.Spec PyProof.Rows L2 DL
def sortT : List (Str × Str) := [("fork", "1"), ("lead", ""), ("adopt", ""), ("join", "00"), ("end", "n"), ("wait", "0"), ("send", "k0"), ("sendall", "k0"),
  ("about", "0"), ("get", "0"), ("set", "0n"), ("make", "pt"), ("remove", "p"), ("open", "p"), ("seek", "00"),
  ("pipe", ""), ("pair", ""), ("area", ""), ("copy", "00"), ("close", "0"), ("handles", ""), ("same", "000"),
  ("peek", "00"), ("poke", "00n"), ("read", "01"), ("write", "0l"), ("pass", "00"), ("take", "0")]
def formsT : List (Str × DV) := sortT.map fun p => (p.1, .str p.2)
def kindC (c : Nat) : Str := if c = 48 then "number" else if c = 49 then "new" else if c = 110 then "value" else if c = 107 then "kind" else if c = 112 then "path" else if c = 116 then "text" else "line"
def sgS (x : Str) : List Str := x.cps.toList.map fun c => ⟨#[c]⟩
theorem tab_is : tab_FORMS = sortT.map fun p => (p.1, p.2.cps.toList.map kindC) := by decide +kernel
def okC (c : Nat) : Bool := c == 48 || c == 49 || c == 110 || c == 107 || c == 112 || c == 116 || c == 108
theorem sort_ok : sortT.all (fun p => p.2.cps.toList.all okC && decide (p.2.cps.size ≤ 3)) = true := by decide +kernel
theorem look_kv : ∀ (t : List (Str × Str)) (z : Str), match lkT (t.map fun p => (p.1, p.2.cps.toList.map kindC)) z with
    | none => lookD (kvD (t.map fun p => (p.1, DV.str p.2))) (Sum.inr z) = none
    | some ks => ∃ s, (∃ n, (n, s) ∈ t) ∧ lookD (kvD (t.map fun p => (p.1, DV.str p.2))) (Sum.inr z) = some (.str s) ∧ ks = s.cps.toList.map kindC
  | [], z => rfl
  | p :: t, z => by
    have ih := look_kv t z
    have e1 : lkT ((p :: t).map fun p => (p.1, p.2.cps.toList.map kindC)) z = if p.1 = z then some (p.2.cps.toList.map kindC) else lkT (t.map fun p => (p.1, p.2.cps.toList.map kindC)) z := rfl
    have e2 : lookD (kvD ((p :: t).map fun p => (p.1, DV.str p.2))) (Sum.inr z) = if (Sum.inr p.1 : Key) = Sum.inr z then some (DV.str p.2) else lookD (kvD (t.map fun p => (p.1, DV.str p.2))) (Sum.inr z) := rfl
    rw [e1, e2]
    by_cases e : p.1 = z
    · rw [if_pos e, if_pos (congrArg Sum.inr e)]
      exact ⟨p.2, ⟨p.1, List.mem_cons_self⟩, rfl, rfl⟩
    · rw [if_neg e, if_neg fun h => e (Sum.inr.inj h)]
      cases el : lkT (t.map fun p => (p.1, p.2.cps.toList.map kindC)) z with
      | none => rw [el] at ih; exact ih
      | some ks =>
        rw [el] at ih
        obtain ⟨s, ⟨n, hn⟩, h2⟩ := ih
        exact ⟨s, ⟨n, List.mem_cons_of_mem _ hn⟩, h2⟩
theorem look_no {z : Str} (h : lkT tab_FORMS z = none) : lookD (kvD formsT) (Sum.inr z) = none := by
  have := look_kv sortT z
  rw [← tab_is, h] at this
  exact this
theorem look_yes {z : Str} {ks : List Str} (h : lkT tab_FORMS z = some ks) : ∃ s, s.cps.toList.all okC = true ∧ s.cps.size ≤ 3 ∧ lookD (kvD formsT) (Sum.inr z) = some (.str s) ∧ ks = s.cps.toList.map kindC := by
  have := look_kv sortT z
  rw [← tab_is, h] at this
  obtain ⟨s, ⟨n, hn⟩, h1, h2⟩ := this
  have hs := List.all_eq_true.mp sort_ok _ hn
  rw [Bool.and_eq_true] at hs
  exact ⟨s, hs.1, of_decide_eq_true hs.2, h1, h2⟩
theorem merge_is : mergeD (mergeD (mergeD (mergeD [] (kvD [("fork", .str "1"), ("lead", .str ""), ("adopt", .str ""), ("join", .str "00"), ("end", .str "n"), ("wait", .str "0"), ("send", .str "k0"), ("sendall", .str "k0")])) (mergeD [] (kvD [("about", .str "0"), ("get", .str "0"), ("set", .str "0n"), ("make", .str "pt"), ("remove", .str "p"), ("open", .str "p"), ("seek", .str "00")]))) (mergeD [] (kvD [("pipe", .str ""), ("pair", .str ""), ("area", .str ""), ("copy", .str "00"), ("close", .str "0"), ("handles", .str ""), ("same", .str "000")]))) (mergeD [] (kvD [("peek", .str "00"), ("poke", .str "00n"), ("read", .str "01"), ("write", .str "0l"), ("pass", .str "00"), ("take", .str "0")])) = kvD formsT := by kernel_rfl
section
variable {m : Sto} {δ : Slots} {w wa wb : DE} {n : Nat} {x d : DV} {p q : Addr} {kvs more : List (Key × DV)}
theorem st_dct (h : m p = some (.dct kvs)) : ofTy m .dct (.ref p) := ⟨by unfold tyD; simp only [h], by simp only [h]⟩
theorem len_merge : ∀ (more kvs : List (Key × DV)), (mergeD kvs more).length ≤ kvs.length + more.length
  | [], kvs => Nat.le_refl _
  | y :: t, kvs => by
    show (mergeD (putD kvs y.1 y.2) t).length ≤ _
    have h1 := len_merge t (putD kvs y.1 y.2)
    have h2 : ∀ (kvs : List (Key × DV)), (putD kvs y.1 y.2).length ≤ kvs.length + 1 := fun kvs => by
      induction kvs with
      | nil => exact Nat.le_refl _
      | cons a r ih =>
        unfold putD
        split
        · simp
        · rw [List.length_cons, List.length_cons]; omega
    have := h2 kvs
    rw [List.length_cons]; omega
theorem up_at {s : DS} {D : DEnds} {B : List (Str × DV)} {i : Nat} (hd : δ[i]? = some (some (.ref p))) (hp : m p = some (.dct kvs)) (hl : kvs.length + B.length ≤ 1000) (k : ∀ q, m q = none → s D δ (put (put m q (.dct (mergeD [] (kvD B)))) p (.dct (mergeD kvs (mergeD [] (kvD B)))))) : wSeq (wDrop (wM .dct mUpd (wVar i) (wCons (wDispC B) (wNil)))) s D δ m := by
  have big := line_eq
  refine go_sdrop (go_m (go_var hd ⟨st_dct hp, go_cons fun q hq => go_nil ?_⟩))
  have hqp : p ≠ q := fun z => by rw [z, hq] at hp; cases hp
  have l2 := len_merge (kvD B) []
  have l3 : (kvD B).length = B.length := by unfold kvD; rw [List.length_map]
  exact ⟨p, q, kvs, _, rfl, rfl, hqp, by rw [put_ne hqp]; exact hp, put_same, by rw [List.length_nil] at l2; omega, k q hq⟩
theorem sp_forms {Q : DK} (k : ∀ p m2, Sub m m2 → m p = none → m2 p = some (.dct (kvD formsT)) → Q (.ref p) m2) : S__law_forms [] m Q := by
  refine ⟨rfl, ?_⟩
  show w__law_forms { nx := fun _ m' => Q .non m', rt := Q } [none] m
  unfold w__law_forms
  refine go_sset fun p hp => ?_
  show wSeq _ _ _ [some (.ref p)] _
  have s0 : Sub m (DL.put m p (.dct (mergeD [] (kvD [("fork", .str "1"), ("lead", .str ""), ("adopt", .str ""), ("join", .str "00"), ("end", .str "n"), ("wait", .str "0"), ("send", .str "k0"), ("sendall", .str "k0")])))) := Sub.put hp
  have grow : ∀ {m1 : Sto} {q : Addr} {o u : MO}, Sub m m1 → m1 q = none → Sub m (DL.put (DL.put m1 q o) p u) := fun s hq => Sub.put2 hp (s.trans (Sub.put hq))
  refine up_at (i := 0) rfl put_same (by decide) fun q1 h1 => ?_
  have s1 := grow (o := .dct (mergeD [] (kvD [("about", .str "0"), ("get", .str "0"), ("set", .str "0n"), ("make", .str "pt"), ("remove", .str "p"), ("open", .str "p"), ("seek", .str "00")]))) (u := .dct (mergeD (mergeD [] (kvD [("fork", .str "1"), ("lead", .str ""), ("adopt", .str ""), ("join", .str "00"), ("end", .str "n"), ("wait", .str "0"), ("send", .str "k0"), ("sendall", .str "k0")])) (mergeD [] (kvD [("about", .str "0"), ("get", .str "0"), ("set", .str "0n"), ("make", .str "pt"), ("remove", .str "p"), ("open", .str "p"), ("seek", .str "00")])))) s0 h1
  refine up_at (i := 0) rfl put_same (by decide +kernel) fun q2 h2 => ?_
  refine up_at (i := 0) rfl put_same (by decide +kernel) fun q3 h3 => ?_
  refine go_ret (go_var rfl (k p _ (grow (grow s1 h2) h3) hp ?_))
  rw [put_same, merge_is]
end
end Law
namespace Law
open PySem PySem.Spec PyProof.Rows L2 DL
section
variable {m : Sto} {δ : Slots} {w wa wb : DE} {n : Nat} {x d : DV} {p q : Addr} {kvs more : List (Key × DV)}
theorem it0 : PySem.intText? ⟨#[48]⟩ = some 0 := by decide +kernel
theorem it1 : PySem.intText? ⟨#[49]⟩ = some 1 := by decide +kernel
theorem intS_E {a : Str} {i : Int} (h : PuE w δ m (.str a)) (e : PySem.intText? a = some i) (hl : a.length ≤ 640) : PuE (wB dIntS (wCons w wNil)) δ m (.int i) := pu_b (pa_cons h pa_nil) fun m' Q s q => ⟨i, e, hl, q _ (.refl _)⟩
theorem ne_str {x y : Str} : Pu2 (dEq true) (.str x) (.str y) m (.bl (!decide (x = y))) := fun m' Q _ q => by
  have := q m' (.refl _)
  unfold dEq scEq
  dsimp only
  cases e : decide (x = y) <;> (rw [e] at this; exact this)
theorem empty_ne {y : Str} : (!decide (y = "")) = decide (0 < y.length) := by
  by_cases e : y = ""
  · subst e; decide +kernel
  · rw [decide_eq_false e]
    symm
    apply decide_eq_true
    apply Nat.pos_of_ne_zero
    intro h
    apply e
    have h : y.cps.size = 0 := h
    have : y.cps = #[] := Array.eq_empty_of_size_eq_zero h
    cases y with
    | mk c => cases this; decide +kernel
theorem sg_in (c : Nat) (b : Bool) (h : decide (c ∈ ("01n" : Str).cps.toList) = b) (δ : Slots) (hd : δ[0]? = some (some (.str ⟨#[c]⟩))) : PuT (wBl (wOp (dIn false) (wVar 0) (wC (.str "01n")))) δ m b := by
  rw [← h]
  exact pt_bl (pu_op (pu_var hd) pu_c in_sign)
/-- signs for whole numbers -/
theorem fits_num {c : Nat} {kd : Str} {lo : Int} (h : smB n d = true) (hc : decide (c ∈ ("01n" : Str).cps.toList) = true) (hk : kindC c = kd)
    (hn : decide ((⟨#[c]⟩ : Str) = "n") = decide (kd = "value")) (hkd : kd = "value" ∨ ((kd = "new" ∨ kd = "number") ∧ ¬ kd = "value" ∧ PySem.intText? ⟨#[c]⟩ = some (if kd = "new" then 1 else 0))) :
    PuS S__law_fits [.str ⟨#[c]⟩, d] m (.bl (argB (kindC c) d)) := by
  rw [hk]
  refine ps_run rfl ?_
  unfold w__law_fits
  show PuX _ [some (.str ⟨#[c]⟩), some d, none] m _ _
  refine px_yes (sg_in c true hc _ rfl) ?_
  have a := isi_of (m := m) (δ := [some (.str ⟨#[c]⟩), some d, none]) (i := 1) (ts := [.int]) h rfl
  have b := isi_of (m := m) (δ := [some (.str ⟨#[c]⟩), some d, none]) (i := 1) (ts := [.bl]) h rfl
  have e1 : [Ty0.int].any (isA (tyO d)) = isA (tyO d) .int := by simp
  have e2 : [Ty0.bl].any (isA (tyO d)) = isA (tyO d) .bl := by simp
  rw [e1] at a
  rw [e2] at b
  have num : argB kd d = (numB d && (decide (kd = "value") || (match d with
      | .int i => decide ((if kd = "new" then 1 else 0) ≤ i)
      | _ => false))) := by
    unfold argB
    rcases hkd with e | ⟨e, e', _⟩
    · rw [if_pos e, decide_eq_true e, Bool.true_or, Bool.and_true]
    · rw [if_neg e', if_pos e, decide_eq_false e', Bool.false_or]
      cases d <;> rfl
  rw [num]
  cases hi : isA (tyO d) .int with
  | false =>
    rw [hi] at a
    have : numB d = false := by unfold numB; rw [hi]; rfl
    rw [this]
    exact px_yes (pt_or (b := true) (c := false) (pt_not (b := false) (pt_tru a)) fun z => Bool.noConfusion z) (px_ret pu_c rfl)
  | true =>
    rw [hi] at a
    cases hb : isA (tyO d) .bl with
    | true =>
      rw [hb] at b
      have : numB d = false := by unfold numB; rw [hb, Bool.not_true, Bool.and_false]
      rw [this]
      exact px_yes (pt_or (b := false) (c := true) (pt_not (b := true) (pt_tru a)) fun _ => pt_tru b) (px_ret pu_c rfl)
    | false =>
      rw [hb] at b
      have hnm : numB d = true := by unfold numB; rw [hi, hb]; rfl
      rw [hnm, Bool.true_and]
      refine px_no (pt_or (b := false) (c := false) (pt_not (b := true) (pt_tru a)) fun _ => pt_tru b) ?_
      have v0 : PuE (wOp (dEq false) (wVar 0) (wC (.str "n"))) [some (.str ⟨#[c]⟩), some d, none] m (.bl (decide (kd = "value"))) := by
        rw [← hn]
        exact pu_op (pu_var rfl) pu_c eq_str
      cases d with
      | int i =>
        refine px_ret (pu_or v0 fun z => ?_) rfl
        rcases hkd with e | ⟨_, _, e⟩
        · rw [decide_eq_true e] at z; cases z
        · exact pu_op (R2 := dRel fun i j => decide (j ≤ i)) (pu_var rfl) (intS_E (pu_var rfl) e (by show 1 ≤ 640; omega)) rel_I
      | _ => first | exact Bool.noConfusion hi | exact Bool.noConfusion hb | (cases n <;> exact Bool.noConfusion h)
theorem fits_txt {c : Nat} (h : smB n d = true) (hc : decide (c ∈ ("01n" : Str).cps.toList) = false) (h1 : ¬ kindC c = "value") (h2 : ¬ (kindC c = "new" ∨ kindC c = "number"))
    (hk : decide ((⟨#[c]⟩ : Str) = "k") = decide (kindC c = "kind")) (hp : decide ((⟨#[c]⟩ : Str) = "p") = decide (kindC c = "path")) (ht : decide ((⟨#[c]⟩ : Str) = "t") = decide (kindC c = "text")) :
    PuS S__law_fits [.str ⟨#[c]⟩, d] m (.bl (argB (kindC c) d)) := by
  have big := line_eq
  refine ps_run rfl ?_
  unfold w__law_fits
  show PuX _ [some (.str ⟨#[c]⟩), some d, none] m _ _
  refine px_no (sg_in c false hc _ rfl) ?_
  have a := isi_of (m := m) (δ := [some (.str ⟨#[c]⟩), some d, none]) (i := 1) (ts := [.str]) h rfl
  unfold argB
  rw [if_neg h1, if_neg h2]
  cases n with
  | zero => cases h
  | succ n =>
    cases d with
    | str y =>
      have h : (PyData.strOk y && decide (y.cps.size ≤ 50)) = true := h
      rw [Bool.and_eq_true] at h
      have hl : y.cps.size ≤ 100 := Nat.le_trans (of_decide_eq_true h.2) (by decide)
      refine px_no (pt_not (b := true) (pt_tru a)) ?_
      have k1 : PuT (wBl (wOp (dEq false) (wVar 0) (wC (.str "k")))) [some (.str ⟨#[c]⟩), some (.str y), none] m (decide (kindC c = "kind")) := by rw [← hk]; exact eq_s rfl
      have p1 : PuT (wBl (wOp (dEq false) (wVar 0) (wC (.str "p")))) [some (.str ⟨#[c]⟩), some (.str y), none] m (decide (kindC c = "path")) := by rw [← hp]; exact eq_s rfl
      by_cases e3 : kindC c = "path"
      · rw [if_pos e3]
        have e4 : ¬ kindC c = "kind" := by rw [e3]; decide +kernel
        rw [decide_eq_false e4] at k1
        rw [decide_eq_true e3] at p1
        refine px_no k1 (px_yes p1 (px_ret (v := .bl (decide (0 < y.length) && signsB y)) (pu_and ?_ fun _ => signs_E (i := 1) (j := 2) rfl (by decide) (Nat.lt_succ_self 2) hl) rfl))
        rw [← empty_ne]
        exact pu_op (pu_var rfl) pu_c ne_str
      · rw [if_neg e3]
        dsimp only
        rw [decide_eq_false e3] at p1
        by_cases e4 : kindC c = "kind"
        · rw [if_pos e4]
          rw [decide_eq_true e4] at k1
          refine px_yes k1 (px_ret ?_ rfl)
          have := pu_op (pu_var (δ := [some (.str ⟨#[c]⟩), some (.str y), none]) (m := m) (i := 1) rfl) (pu_tup (pa_cons (pu_c (v := .str "stop")) (pa_cons (pu_c (v := .str "go")) (pa_cons (pu_c (v := .str "end")) (pa_cons (pu_c (v := .str "wake")) pa_nil)))) (by simp; omega)) (in_T (x := .str y) (xs := kindL.map .str) rfl)
          have e : ((kindL.map DV.str).any fun z => eqF z (.str y)) = kindL.any fun z => y == z := by
            rw [List.any_map]
            congr 1
            funext z
            show (z == y) = (y == z)
            rw [Bool.eq_iff_iff, beq_iff_eq, beq_iff_eq]
            exact eq_comm
          rw [e] at this
          exact this
        · rw [if_neg e4]
          rw [decide_eq_false e4] at k1
          refine px_no k1 (px_no p1 (px_ret (v := .bl (decide (kindC c = "text") || decide (0 < y.length))) (pu_or ?_ fun _ => ?_) rfl))
          · rw [← ht]
            exact pu_op (pu_var rfl) pu_c eq_str
          · rw [← empty_ne]
            exact pu_op (pu_var rfl) pu_c ne_str
    | _ => first | (refine px_yes (pt_not (b := false) (pt_tru a)) (px_ret pu_c ?_); by_cases e3 : kindC c = "path" <;> simp [e3, pathB]; done) | exact Bool.noConfusion h
theorem sp_fits {c : Nat} (h : smB n d = true) (hc : okC c = true) : PuS S__law_fits [.str ⟨#[c]⟩, d] m (.bl (argB (kindC c) d)) := by
  unfold okC at hc
  simp only [Bool.or_eq_true, beq_iff_eq] at hc
  rcases hc with (((((rfl | rfl) | rfl) | rfl) | rfl) | rfl) | rfl
  · exact fits_num (kd := "number") (lo := 0) h (by decide +kernel) (by decide +kernel) (by decide +kernel) (.inr ⟨.inr rfl, by decide +kernel, by rw [it0]; decide +kernel⟩)
  · exact fits_num (kd := "new") (lo := 0) h (by decide +kernel) (by decide +kernel) (by decide +kernel) (.inr ⟨.inl rfl, by decide +kernel, by rw [it1]; decide +kernel⟩)
  · exact fits_num (kd := "value") (lo := 0) h (by decide +kernel) (by decide +kernel) (by decide +kernel) (.inl rfl)
  · exact fits_txt h (by decide +kernel) (by decide +kernel) (by decide +kernel) (by decide +kernel) (by decide +kernel) (by decide +kernel)
  · exact fits_txt h (by decide +kernel) (by decide +kernel) (by decide +kernel) (by decide +kernel) (by decide +kernel) (by decide +kernel)
  · exact fits_txt h (by decide +kernel) (by decide +kernel) (by decide +kernel) (by decide +kernel) (by decide +kernel) (by decide +kernel)
  · exact fits_txt h (by decide +kernel) (by decide +kernel) (by decide +kernel) (by decide +kernel) (by decide +kernel) (by decide +kernel)
end
end Law
namespace Law
open PySem PySem.Spec PyProof.Rows L2 DL
section
variable {m : Sto} {δ : Slots} {w wa wb : DE} {n : Nat} {x d : DV} {p q : Addr} {kvs more : List (Key × DV)}
theorem in_D {z : Str} (h : m p = some (.dct kvs)) : Pu2 (dIn true) (.str z) (.ref p) m (.bl (!(lookD kvs (Sum.inr z)).isSome)) := fun m' Q s q => by
  have e : dictAt m' (.ref p) (.str z) = some (lookD kvs (Sum.inr z)) := by
    show (match m' p with
      | some (.dct kvs) => (dK? (.str z)).map fun k => lookD kvs k
      | some (.lck _ _ kvs) => (dK? (.str z)).map fun k => lookD kvs k
      | some (.dcT kvs) => _
      | _ => none) = _
    rw [s _ _ h]; rfl
  unfold dIn
  rw [e]
  show Q (.bl (xor true (lookD kvs (Sum.inr z)).isSome)) m'
  rw [Bool.true_xor]
  exact q m' (.refl _)
theorem ix_D {z : Str} {v : DV} (h : m p = some (.dct kvs)) (hv : lookD kvs (Sum.inr z) = some v) : Pu2 dIx (.ref p) (.str z) m v := fun m' Q s q => by
  have e : dictAt m' (.ref p) (.str z) = some (lookD kvs (Sum.inr z)) := by
    show (match m' p with
      | some (.dct kvs) => (dK? (.str z)).map fun k => lookD kvs k
      | some (.lck _ _ kvs) => (dK? (.str z)).map fun k => lookD kvs k
      | some (.dcT kvs) => _
      | _ => none) = _
    rw [s _ _ h]; rfl
  unfold dIx
  rw [e, hv]
  exact q _ (.refl _)
theorem sgD_map (x : Str) : sgD x = (sgS x).map DV.str := by
  unfold sgD sgS; rw [List.map_map]; rfl
theorem row_kind : ∀ (cs : List Nat) (ds : List DV), rowB argB (cs.map kindC) ds = rowB (fun s d => match s.cps.toList with
    | [c] => argB (kindC c) d
    | _ => false) (cs.map fun c => ⟨#[c]⟩) ds
  | [], [] => rfl
  | [], _ :: _ => rfl
  | _ :: _, [] => rfl
  | c :: cs, d :: ds => by
    show (argB (kindC c) d && rowB argB (cs.map kindC) ds) = (argB (kindC c) d && _)
    rw [row_kind cs ds]
theorem sp_due (h : smB n d = true) : PuS S__law_is_due [d] m (.bl (callB d)) := fun m' Q sb hq => by
  have big := line_eq
  refine ⟨rfl, ?_⟩
  show w__law_is_due { nx := fun _ m' => Q .non m', rt := Q } [some d, none, none, none] m'
  unfold w__law_is_due
  refine go_sset (go_call (go_nil (sp_forms fun p m2 s2 hp e2 => ?_)))
  have body : PuX (wSeq (wIfS (wOrT (wNotT (wTru (wIsi [.tup] (wVar 0)))) (wOrT (wBl (wOp (dEq false) (wB dLen (wCons (wVar 0) (wNil))) (wC (.int 0)))) (wNotT (wTru (wIsi [.str] (wOp dIx (wVar 0) (wC (.int 0)))))))) (wRet (wC (.bl false))) (wNext)) (wSeq (wIfS (wOrT (wBl (wOp (dIn true) (wOp dIx (wVar 0) (wC (.int 0))) (wVar 1))) (wBl (wOp (dEq true) (wB dLen (wCons (wVar 0) (wNil))) (wOp (dAdd false) (wB dLen (wCons (wOp dIx (wVar 1) (wOp dIx (wVar 0) (wC (.int 0)))) (wNil))) (wC (.int 1)))))) (wRet (wC (.bl false))) (wNext)) (wRet (wB dAll (wCons (wLc false (iZipSD (wCons (wOp dIx (wVar 1) (wOp dIx (wVar 0) (wC (.int 0)))) (wCons (wSl false (wVar 0) (some (wC (.int 1))) none) (wNil)))) (gSeq 2 (gConsD (gN 2) (gConsD (gN 3) (gNilD)))) (wYes) (wCall S__law_fits [] (wCons (wVar 2) (wCons (wVar 3) (wNil)))) [2, 3]) (wNil)))))) [some d, some (.ref p), none, none] m2 (fun _ => False) (fun z => z = .bl (callB d)) := by
    have a := isi_of (m := m2) (δ := [some d, some (.ref p), none, none]) (i := 0) (ts := [.tup]) h rfl
    cases n with
    | zero => cases h
    | succ n =>
      cases d with
      | tup xs =>
        obtain ⟨hl, hx⟩ := sm_tup h
        have l0 : PuE (wB dLen (wCons (wVar 0) (wNil))) [some (.tup xs), some (.ref p), none, none] m2 (.int xs.length) := pu_lenT (pu_var rfl)
        cases xs with
        | nil => exact px_yes (pt_or (b := false) (c := true) (pt_not (b := true) (pt_tru a)) fun _ => pt_or (b := true) (c := false) (pt_e l0 pu_c) fun z => Bool.noConfusion z) (px_ret pu_c rfl)
        | cons y ds =>
          have i0 : PuE (wOp dIx (wVar 0) (wC (.int 0))) [some (.tup (y :: ds)), some (.ref p), none, none] m2 y := pu_op (pu_var rfl) pu_c (ix_T (i := 0) rfl)
          have hy := hx y List.mem_cons_self
          have ty : PuE (wIsi [.str] (wOp dIx (wVar 0) (wC (.int 0)))) [some (.tup (y :: ds)), some (.ref p), none, none] m2 (.bl ([Ty0.str].any (isA (tyO y)))) := pu_isi i0 fun m' _ => ty_of hy m'
          have e0 : decide (((y :: ds).length : Int) = 0) = false := decide_eq_false (by rw [List.length_cons]; omega)
          have l1 := pt_e l0 (pu_c (v := .int 0))
          rw [e0] at l1
          cases y with
          | str z =>
            refine px_no (pt_or (b := false) (c := false) (pt_not (b := true) (pt_tru a)) fun _ => pt_or (b := false) (c := false) l1 fun _ => pt_not (b := true) (pt_tru ty)) ?_
            have i1 := pu_op i0 (pu_var (i := 1) rfl) (in_D (z := z) e2)
            cases el : lkT tab_FORMS z with
            | none =>
              rw [look_no el] at i1
              refine px_yes (pt_or (b := true) (c := false) (pt_bl i1) fun z => Bool.noConfusion z) (px_ret pu_c ?_)
              show DV.bl false = .bl (match lkT tab_FORMS z with
                | some ks => rowB argB ks ds
                | none => false)
              rw [el]
            | some ks =>
              obtain ⟨s, hok, hs3, hls, rfl⟩ := look_yes el
              rw [hls] at i1
              have hc : callB (.tup (.str z :: ds)) = rowB argB (s.cps.toList.map kindC) ds := by
                show (match lkT tab_FORMS z with
                  | some ks => rowB argB ks ds
                  | none => false) = _
                rw [el]
              rw [hc]
              have g1 : PuE (wOp dIx (wVar 1) (wOp dIx (wVar 0) (wC (.int 0)))) [some (.tup (.str z :: ds)), some (.ref p), none, none] m2 (.str s) := pu_op (pu_var rfl) i0 (ix_D e2 hls)
              have l2 := pt_ne l0 (pu_op (len_S g1 (by omega)) (pu_c (v := .int 1)) add_I)
              have hsl : s.cps.toList.length = s.cps.size := Array.length_toList
              by_cases hkl : s.cps.size = ds.length
              · rw [decide_eq_true (by rw [List.length_cons]; show ((ds.length + 1 : Nat) : Int) = (s.cps.size : Int) + 1; omega)] at l2
                refine px_no (pt_or (b := false) (c := false) (pt_bl i1) fun _ => l2) (px_ret ?_ rfl)
                rw [row_kind, ← row_zip (by rw [List.length_map]; omega)]
                have hz := zipS_I g1 (sl_T (pu_var (δ := [some (.tup (.str z :: ds)), some (.ref p), none, none]) (m := m2) (i := 0) rfl)) rfl
                rw [sgD_map] at hz
                refine all_zip (ks := sgS s) hz (by unfold sgS; rw [List.length_map]; omega) fun k hk d hd => ?_
                obtain ⟨c, hc, rfl⟩ := List.mem_map.mp hk
                exact call2 (pu_var rfl) (pu_var rfl) (sp_fits (hx d (List.mem_cons_of_mem _ hd)) (List.all_eq_true.mp hok c hc))
              · rw [decide_eq_false (by rw [List.length_cons]; show ¬ ((ds.length + 1 : Nat) : Int) = (s.cps.size : Int) + 1; omega)] at l2
                rw [row_len (by rw [List.length_map]; omega)]
                exact px_yes (pt_or (b := false) (c := true) (pt_bl i1) fun _ => l2) (px_ret pu_c rfl)
          | _ => first | exact px_yes (pt_or (b := false) (c := true) (pt_not (b := true) (pt_tru a)) fun _ => pt_or (b := false) (c := true) l1 fun _ => pt_not (b := false) (pt_tru ty)) (px_ret pu_c rfl) | (cases n <;> exact Bool.noConfusion hy)
      | _ => first | exact px_yes (pt_or (b := true) (c := false) (pt_not (b := false) (pt_tru a)) fun z => Bool.noConfusion z) (px_ret pu_c rfl) | exact Bool.noConfusion h
  exact body _ m2 (.refl _) (fun _ _ _ z => False.elim z) fun v m3 s3 e => by subst e; exact hq m3 (s2.trans s3)
end
end Law
namespace Law
open PySem PySem.Spec PyProof.Rows L2 DL
structure Bs (m : Sto) (p : Addr) (c : Nat) : Prop where
  ex : ∃ (x y : Int) (e : Nat), m p = some (.lst [.int x, .int y, .int e]) ∧ 0 ≤ x ∧ 0 ≤ y ∧ y < 2 ^ 62 ∧ e ≤ c
theorem Bs.sub {m m' : Sto} {p : Addr} {c : Nat} (h : Bs m p c) (s : Sub m m') : Bs m' p c := by
  obtain ⟨x, y, e, h1, h2⟩ := h.ex
  exact ⟨x, y, e, s _ _ h1, h2⟩
theorem Bs.le {m : Sto} {p : Addr} {c d : Nat} (h : Bs m p c) (l : c ≤ d) : Bs m p d := by
  obtain ⟨x, y, e, h1, h2, h3, h4, h5⟩ := h.ex
  exact ⟨x, y, e, h1, h2, h3, h4, by omega⟩
section
variable {m : Sto} {δ : Slots} {w wa wb : DE} {n : Nat} {x d : DV} {p q a : Addr} {c : Nat}
theorem sp_stream {cs : List Int} {k : Nat} (ha : m a = some (.lst (cs.map DV.int))) (hk : k < cs.length) (hl : cs.length ≤ 63) {Q : DK} (q : ∀ p x y, m p = none → 0 ≤ x → 0 ≤ y → y < 2 ^ 62 → Q (.ref p) (DL.put m p (.lst [.int x, .int y, .int 0]))) : S__law_stream [.ref a, .int k] m Q := by
  refine ⟨rfl, ?_⟩
  show w__law_stream { nx := fun _ m' => Q .non m', rt := Q } [some (.ref a), some (.int k), none] m
  unfold w__law_stream
  have p62 : (2 : Int) ^ 62 = 4611686018427387904 := by decide
  refine go_sset (go_c ?_)
  show wSeq _ _ _ [some (.ref a), some (.int k), some (.int 0)] m
  refine go_sif (go_bl (go_op (go_var rfl (go_b (go_cons (go_var rfl (go_nil (go_lenI (st_asQ ha) (go_rel ?_)))))))))
  rw [List.length_map]
  dsimp only
  rw [if_pos (decide_eq_true (by omega))]
  refine go_set (go_op (go_var rfl (go_var rfl (ix_at (d := .int cs[k]) ha ?_ ?_))))
  · unfold atI ixN
    rw [if_pos (by omega), if_pos (by rw [List.length_map]; omega)]
    simp
  generalize cs[k] = z
  dsimp only
  show wRet _ _ [some (.ref a), some (.int k), some (.int z)] m
  refine go_ret (go_lst (go_cons (go_op (go_b (go_cons (go_var rfl (go_nil ?_)))))))
  refine go_b (go_cons (go_op (go_b (go_cons (go_var rfl (go_nil ?_))))))
  refine go_op (go_c (go_c (go_pow (by decide) (by decide) (by decide) (go_rel (go_nil ?_)))))
  refine go_int (go_mul (.inr ?_) ?_)
  · exact (fun b => by cases b <;> decide : ∀ b : Bool, (-(2 ^ 64) < (if b = true then (1 : Int) else 0)) ∧ (if b = true then (1 : Int) else 0) < 2 ^ 64) _
  refine go_cons (go_op (go_op (go_op (go_var rfl (go_c (go_mod (by decide) ?_))))))
  refine go_op (go_c (go_var rfl (go_mul (.inl (by decide)) (go_add (go_c (go_add ?_))))))
  refine go_cons (go_c (go_nil ⟨by have := line_eq; simp; omega, ?_⟩))
  refine go_new fun p hp => ?_
  refine q p _ _ hp ?_ ?_ ?_
  · refine Int.mul_nonneg ?_ ?_
    · split <;> omega
    · exact (fun b => by cases b <;> decide : ∀ b : Bool, (0 : Int) ≤ if b = true then 1 else 0) _
  · have := Int.emod_nonneg z (b := 2305843009213693951) (by decide)
    omega
  · have := Int.emod_lt_of_pos z (b := 2305843009213693951) (by decide)
    omega
theorem sp_draw {b : Int} (hb : Bs m p c) (hc : c < 1000000) (h0 : 0 < b) (h1 : b ≤ 1000) {Q : DK} (q : ∀ r o, 0 ≤ r → r < b → Bs (DL.put m p o) p (c + 1) → Q (.int r) (DL.put m p o)) : S__law_draw 3 [.ref p, .int b] m Q := by
  obtain ⟨x, y, e, hm, hx, hy, hy2, he⟩ := hb.ex
  refine ⟨rfl, ?_⟩
  show w__law_draw (S__law_draw 2) { nx := fun _ m' => Q .non m', rt := Q } [some (.ref p), some (.int b), none, none, none] m
  unfold w__law_draw
  have p64 : (2 : Int) ^ 64 = 18446744073709551616 := by decide
  have p62 : (2 : Int) ^ 62 = 4611686018427387904 := by decide
  refine go_sif ((go_bl (go_op (go_op (go_var rfl (go_c (ix_at hm (d := .int x) rfl (go_c (go_rel ?_)))))))))
  dsimp only
  split
  case isTrue h =>
    have h : 0 < x := of_decide_eq_true h
    refine go_sset ( (go_op (go_op (go_var rfl (go_c (ix_at hm (d := .int x) rfl (go_var rfl (go_mod h0 ?_))))))))
    refine go_sasg ( (go_op (go_op (go_var rfl (go_c (ix_at hm (d := .int x) rfl (go_var rfl (go_div h0 ?_ ?_))))))))
    · have : b.natAbs < 2 ^ 60 := by omega
      have : b.natAbs.log2 < 60 := (Nat.log2_lt (by omega)).mpr this
      omega
    refine go_var rfl (go_c (set_at hm (j := 0) rfl ?_))
    refine go_ret (go_var rfl ?_)
    refine q _ _ (Int.emod_nonneg _ (by omega)) (Int.emod_lt_of_pos _ h0) ⟨x / b, y, e, put_same, Int.ediv_nonneg hx (by omega), hy, hy2, by omega⟩
  case isFalse h =>
    refine go_sif (go_bl (go_op (go_var rfl (go_op (go_c (go_c (go_pow (by decide) (by decide) (by decide) (go_rel ?_))))))))
    have e7 : (10 : Int) ^ Int.toNat 7 = 10000000 := by decide
    rw [e7]
    dsimp only
    rw [if_neg (by rw [decide_eq_false (by omega)]; exact Bool.false_ne_true)]
    refine go_sasg ( (go_op (go_op (go_var rfl (go_c (ix_at hm (d := .int e) rfl (go_c (go_add ?_))))))))
    refine go_var rfl (go_c (set_at hm (j := 2) rfl ?_))
    let e1 : Int := (e : Int) + 1
    have he1 : e1 = (e : Int) + 1 := rfl
    have hm2 : (DL.put m p (.lst [.int x, .int y, .int e1])) p = some (.lst [.int x, .int y, .int e1]) := put_same
    refine go_sset ( (go_op (go_op (go_op (go_op (go_var rfl (go_c (ix_at hm2 (d := .int y) rfl ?_))))))))
    refine go_op (go_c (go_op (go_var rfl (go_c (ix_at hm2 (d := .int e1) rfl (go_mul (.inl (by decide)) (go_add ?_)))))))
    refine go_op (go_c (go_op (go_var rfl (go_c (ix_at hm2 (d := .int e1) rfl (go_add (go_mul (.inr ⟨by omega, by omega⟩) ?_)))))))
    refine go_c (go_mod (by decide) ?_)
    generalize hz : (y + 48271 * e1) * (39373 + e1) % 2147483647 = z
    refine go_sset ?_
    refine go_op (go_op (go_op (go_op (go_var rfl ?_))))
    refine go_op (go_var rfl (go_c (ix_at hm2 (d := .int e1) rfl (go_add ?_))))
    refine go_op (go_op (go_var rfl (go_c (ix_at hm2 (d := .int y) rfl (go_c (go_div (by decide) (by decide) (go_add ?_)))))))
    refine go_op (go_op (go_var rfl (go_c (go_mod (by decide) (go_c (go_add ?_))))))
    have hz1 := Int.emod_nonneg z (b := 40009) (by decide)
    have hz2 := Int.emod_lt_of_pos z (b := 40009) (by decide)
    refine go_mul (.inr ⟨by omega, by omega⟩) ?_
    refine go_c (go_mod (by decide) ?_)
    generalize (z + e1 + y / 1000003) * (z % 40009 + 7) % 2147483629 = u
    refine go_ret (go_op (go_op (go_op (go_op (go_op (go_var rfl (go_c (go_mul (.inr (by decide)) ?_)))))))) 
    refine go_var rfl (go_add (go_c (go_mod (by decide) (go_c (go_div (by decide) (by decide) (go_var rfl (go_mod h0 ?_)))))))
    exact q _ _ (Int.emod_nonneg _ (by omega)) (Int.emod_lt_of_pos _ h0) ⟨x, y, e + 1, put_same, hx, hy, hy2, by omega⟩
theorem sp_pick {xs : List DV} (hb : Bs m p c) (hc : c < 1000000) (h0 : xs ≠ []) (h1 : xs.length ≤ 1000) {Q : DK} (q : ∀ d o, d ∈ xs → Bs (DL.put m p o) p (c + 1) → Q d (DL.put m p o)) : S__law_pick [.ref p, .lst xs] m Q := by
  refine ⟨rfl, ?_⟩
  show w__law_pick { nx := fun _ m' => Q .non m', rt := Q } [some (.ref p), some (.lst xs)] m
  unfold w__law_pick
  have hpos : 0 < xs.length := List.length_pos_iff.mpr h0
  refine go_ret (go_op (go_var rfl (go_call (go_cons (go_var rfl (go_cons (go_b (go_cons (go_var rfl (go_nil (go_lenI (xs := xs) rfl (go_nil ?_))))))))))))
  refine sp_draw hb hc (by omega) (by omega) fun r o hr hr2 hbx => ?_
  exact ix_lst hr (by omega) fun d hd _ => q d o hd hbx
end
end Law
namespace Law
open PySem PySem.Spec PyProof.Rows L2 DL
section
variable {m : Sto} {δ : Slots} {w wa wb : DE} {n : Nat} {x d : DV} {p q a : Addr} {c k : Nat}
theorem ix_D0 {z : Str} {v : DV} {kvs : List (Key × DV)} {Q : DK} (h : m p = some (.dct kvs)) (hv : lookD kvs (Sum.inr z) = some v) (q : Q v m) : dIx (.ref p) (.str z) m Q := by
  have e : dictAt m (.ref p) (.str z) = some (lookD kvs (Sum.inr z)) := by
    show (match m p with
      | some (.dct kvs) => (dK? (.str z)).map fun k => lookD kvs k
      | some (.lck _ _ kvs) => (dK? (.str z)).map fun k => lookD kvs k
      | some (.dcT kvs) => _
      | _ => none) = _
    rw [h]; rfl
  unfold dIx
  rw [e, hv]
  exact q
abbrev lowD : List (Key × DV) := mergeD [] (kvD [("0", .int 0), ("1", .int 1), ("n", .int (-9))])
theorem mul_ok : MulOk "x" 50 := by
  unfold MulOk
  refine ⟨by decide +kernel, fun _ _ => by decide +kernel, fun _ _ => by decide +kernel⟩
theorem mul_is : Txt.mul "x" 50 = "xxxxxxxxxxxxxxxxxxxxxxxxxxxxxxxxxxxxxxxxxxxxxxxxxx" := by decide +kernel
theorem sm_int {i : Int} (h1 : -100 ≤ i) (h2 : i ≤ 10 ^ 40) : smB 1 (.int i) = true := by
  show decide (i.natAbs < 10 ^ 41) = true
  have e1 : (10 : Int) ^ 40 = 10000000000000000000000000000000000000000 := by decide
  have e2 : (10 : Nat) ^ 41 = 100000000000000000000000000000000000000000 := by decide
  exact decide_eq_true (by omega)
theorem arg_num {kd : Str} {i lo : Int} (h : kd = "value" ∨ (¬ kd = "value" ∧ (kd = "new" ∨ kd = "number") ∧ (if kd = "new" then 1 else 0) ≤ i)) : argB kd (.int i) = true := by
  unfold argB
  rcases h with e | ⟨e, e2, e3⟩
  · rw [if_pos e]; rfl
  · rw [if_neg e, if_pos e2]
    show (numB (.int i) && decide ((if kd = "new" then 1 else 0) ≤ i)) = true
    rw [decide_eq_true e3]; rfl
theorem part_num {lo : Int} {kd : Str} (hb : Bs m p k) (hk : k < 900000) (hc : decide (c ∈ ("01n" : Str).cps.toList) = true) (hkd : kindC c = kd) (hlo : -9 ≤ lo) (hlo2 : lo ≤ 1) (hlook : lookD lowD (Sum.inr ⟨#[c]⟩) = some (.int lo))
    (hok : ∀ i, lo ≤ i → argB kd (.int i) = true) {Q : DK} (q : ∀ d m2, smB 1 d = true → argB (kindC c) d = true → Bs m2 p (k + 2) → SubX p m m2 → Q d m2) : S__law_part [.ref p, .str ⟨#[c]⟩] m Q := by
  have big := line_eq
  refine ⟨rfl, ?_⟩
  show w__law_part { nx := fun _ m' => Q .non m', rt := Q } [some (.ref p), some (.str ⟨#[c]⟩), none] m
  unfold w__law_part
  have t1 : PuT (wBl (wOp (dIn false) (wVar 1) (wC (.str "01n")))) [some (.ref p), some (.str ⟨#[c]⟩), none] m true := by
    have := pt_bl (pu_op (pu_var (δ := [some (.ref p), some (.str ⟨#[c]⟩), none]) (m := m) (i := 1) rfl) pu_c (in_sign (z := "01n")))
    rw [hc] at this
    exact this
  refine go_sif (pos_puT t1 fun m1 s1 => ?_)
  rw [if_pos rfl]
  refine go_sset (go_op fun p1 h1 => go_var rfl (ix_D0 (v := .int lo) put_same hlook ?_))
  show wRet _ _ [some (.ref p), some (.str ⟨#[c]⟩), some (.int lo)] _
  have s2 := s1.trans (Sub.put (o := .dct lowD) h1)
  refine go_ret (go_call (go_cons (go_var rfl (go_cons (go_lst (go_cons (go_var rfl (go_cons (go_op (go_var rfl (go_c (go_add ?_))))))))))))
  refine go_cons (go_op (go_var rfl (go_call (go_cons (go_var rfl (go_cons (go_c (go_nil ?_))))))))
  refine sp_draw (hb.sub s2) (by omega) (by decide) (by decide) fun r o hr hr2 hbx => go_add ?_
  refine go_cons (go_op (go_c (go_c (go_pow (by decide) (by decide) (by decide) ?_))))
  refine go_nil ⟨by simp; omega, ?_⟩
  rw [newL_data]
  refine go_nil ?_
  refine sp_pick hbx (by omega) (by simp) (by simp) fun d o2 hd hb2 => ?_
  have e30 : (10 : Int) ^ Int.toNat 30 = 1000000000000000000000000000000 := by decide
  have e40 : (10 : Int) ^ 40 = 10000000000000000000000000000000000000000 := by decide
  have hv : ∃ i : Int, d = .int i ∧ lo ≤ i ∧ i ≤ 10 ^ 40 := by
    rw [e30] at hd
    simp only [List.mem_cons, List.not_mem_nil, or_false] at hd
    rcases hd with rfl | rfl | rfl | rfl
    · exact ⟨_, rfl, by omega, by omega⟩
    · exact ⟨_, rfl, by omega, by omega⟩
    · exact ⟨_, rfl, by omega, by omega⟩
    · exact ⟨_, rfl, by omega, by omega⟩
  obtain ⟨i, rfl, hi1, hi2⟩ := hv
  refine q _ _ (sm_int (by omega) hi2) (by rw [hkd]; exact hok i hi1) hb2 ((Sub.x s2).trans (SubX.put.trans .put))
theorem part_txt (hb : Bs m p k) (hk : k < 900000) (hc : decide (c ∈ ("01n" : Str).cps.toList) = false) (hcase : c = 107 ∨ c = 112 ∨ c = 116 ∨ c = 108) {Q : DK} (q : ∀ d m2, smB 1 d = true → argB (kindC c) d = true → Bs m2 p (k + 2) → SubX p m m2 → Q d m2) : S__law_part [.ref p, .str ⟨#[c]⟩] m Q := by
  have big := line_eq
  refine ⟨rfl, ?_⟩
  show w__law_part { nx := fun _ m' => Q .non m', rt := Q } [some (.ref p), some (.str ⟨#[c]⟩), none] m
  unfold w__law_part
  have t1 : PuT (wBl (wOp (dIn false) (wVar 1) (wC (.str "01n")))) [some (.ref p), some (.str ⟨#[c]⟩), none] m false := by
    have := pt_bl (pu_op (pu_var (δ := [some (.ref p), some (.str ⟨#[c]⟩), none]) (m := m) (i := 1) rfl) pu_c (in_sign (z := "01n")))
    rw [hc] at this
    exact this
  refine go_sif (pos_puT t1 fun m1 s1 => ?_)
  rw [if_neg Bool.false_ne_true]
  have tk := eq_s (m := m1) (δ := [some (.ref p), some (.str ⟨#[c]⟩), none]) (k := ⟨#[c]⟩) (z := "k") (i := 1) rfl
  refine go_sif (pos_puT tk fun m2 s2 => ?_)
  have hb2 := (hb.sub s1).sub s2
  have sx2 : SubX p m m2 := Sub.x (s1.trans s2)
  have fin : ∀ {m3 : Sto} {xs : List DV} {j : Nat}, Bs m3 p j → j ≤ k + 1 → SubX p m m3 → xs ≠ [] → xs.length ≤ 10 → xs.all (fun d => smB 1 d && argB (kindC c) d) = true → S__law_pick [.ref p, .lst xs] m3 Q := fun {m3 xs j} hb3 hj sx hne hle hall => by
    refine sp_pick hb3 (by omega) hne (by omega) fun d o hd hb4 => ?_
    have := List.all_eq_true.mp hall d hd
    rw [Bool.and_eq_true] at this
    exact q d _ this.1 this.2 (hb4.le (by omega)) (sx.trans .put)
  by_cases ek : (⟨#[c]⟩ : Str) = "k"
  · rw [decide_eq_true ek, if_pos rfl]
    have hc7 : c = 107 := by
      rcases hcase with rfl | rfl | rfl | rfl
      · rfl
      · exact absurd ek (by decide +kernel)
      · exact absurd ek (by decide +kernel)
      · exact absurd ek (by decide +kernel)
    subst hc7
    refine go_ret (go_call (go_cons (go_var rfl (go_cons (pos_pu (pu_lst (pa_cons pu_c (pa_cons pu_c (pa_cons pu_c (pa_cons pu_c pa_nil)))) (by simp; omega)) fun m3 s3 => go_nil ?_)))))
    exact fin (hb2.sub s3) (by omega) (sx2.trans (Sub.x s3)) (by simp) (by simp) (by decide +kernel)
  rw [decide_eq_false ek, if_neg Bool.false_ne_true]
  have tp := eq_s (m := m2) (δ := [some (.ref p), some (.str ⟨#[c]⟩), none]) (k := ⟨#[c]⟩) (z := "p") (i := 1) rfl
  refine go_sif (pos_puT tp fun m4 s4 => ?_)
  have hb4 := hb2.sub s4
  have sx4 : SubX p m m4 := sx2.trans (Sub.x s4)
  by_cases ep : (⟨#[c]⟩ : Str) = "p"
  · rw [decide_eq_true ep, if_pos rfl]
    have hc7 : c = 112 := by
      rcases hcase with rfl | rfl | rfl | rfl
      · exact absurd ep (by decide +kernel)
      · rfl
      · exact absurd ep (by decide +kernel)
      · exact absurd ep (by decide +kernel)
    subst hc7
    refine go_ret (go_call (go_cons (go_var rfl (go_cons (pos_pu (pu_lst (pa_cons pu_c (pa_cons pu_c (pa_cons pu_c (pa_cons pu_c pa_nil)))) (by simp; omega)) fun m3 s3 => go_nil ?_)))))
    exact fin (hb4.sub s3) (by omega) (sx4.trans (Sub.x s3)) (by simp) (by simp) (by decide +kernel)
  rw [decide_eq_false ep, if_neg Bool.false_ne_true]
  have tt := eq_s (m := m4) (δ := [some (.ref p), some (.str ⟨#[c]⟩), none]) (k := ⟨#[c]⟩) (z := "t") (i := 1) rfl
  have mulE : Pu2 dMulS (.str "x") (.int 50) m4 (.str "xxxxxxxxxxxxxxxxxxxxxxxxxxxxxxxxxxxxxxxxxxxxxxxxxx") := fun m' Q _ q => by
    refine ⟨mul_ok, ?_⟩
    rw [mul_is]
    exact q _ (.refl _)
  rcases hcase with rfl | rfl | rfl | rfl
  · exact absurd rfl (show ¬ (107 : Nat) = 107 from fun _ => ek (by decide +kernel))
  · exact absurd rfl (show ¬ (112 : Nat) = 112 from fun _ => ep (by decide +kernel))
  · have et : decide ((⟨#[116]⟩ : Str) = "t") = true := by decide +kernel
    rw [et] at tt
    refine go_ret (go_call (go_cons (go_var rfl (go_cons (pos_pu (pu_lst (pa_cons pu_c (pa_cons pu_c (pa_cons pu_c (pa_cons (pu_op pu_c pu_c mulE) (pa_cons (pu_if (v := .str "") tt (fun _ => pu_c) fun z => Bool.noConfusion z) pa_nil))))) (by simp; omega)) fun m3 s3 => go_nil ?_)))))
    exact fin (hb4.sub s3) (by omega) (sx4.trans (Sub.x s3)) (by simp) (by simp) (by decide +kernel)
  · have et : decide ((⟨#[108]⟩ : Str) = "t") = false := by decide +kernel
    rw [et] at tt
    refine go_ret (go_call (go_cons (go_var rfl (go_cons (pos_pu (pu_lst (pa_cons pu_c (pa_cons pu_c (pa_cons pu_c (pa_cons (pu_op pu_c pu_c mulE) (pa_cons (pu_if (v := .str "0") tt (fun z => Bool.noConfusion z) fun _ => pu_c) pa_nil))))) (by simp; omega)) fun m3 s3 => go_nil ?_)))))
    exact fin (hb4.sub s3) (by omega) (sx4.trans (Sub.x s3)) (by simp) (by simp) (by decide +kernel)
theorem sp_part (hb : Bs m p k) (hk : k < 900000) (hc : okC c = true) {Q : DK} (q : ∀ d m2, smB 1 d = true → argB (kindC c) d = true → Bs m2 p (k + 2) → SubX p m m2 → Q d m2) : S__law_part [.ref p, .str ⟨#[c]⟩] m Q := by
  unfold okC at hc
  simp only [Bool.or_eq_true, beq_iff_eq] at hc
  rcases hc with (((((rfl | rfl) | rfl) | rfl) | rfl) | rfl) | rfl
  · exact part_num (lo := 0) (kd := "number") hb hk (by decide +kernel) (by decide +kernel) (by decide) (by decide) (by kernel_rfl) (fun i hi => arg_num (lo := 0) (.inr ⟨by decide +kernel, .inr rfl, by rw [if_neg (by decide +kernel)]; exact hi⟩)) q
  · exact part_num (lo := 1) (kd := "new") hb hk (by decide +kernel) (by decide +kernel) (by decide) (by decide) (by kernel_rfl) (fun i hi => arg_num (lo := 0) (.inr ⟨by decide +kernel, .inl rfl, by rw [if_pos rfl]; exact hi⟩)) q
  · exact part_num (lo := -9) (kd := "value") hb hk (by decide +kernel) (by decide +kernel) (by decide) (by decide) (by kernel_rfl) (fun i hi => arg_num (lo := 0) (.inl rfl)) q
  · exact part_txt hb hk (by decide +kernel) (by decide) q
  · exact part_txt hb hk (by decide +kernel) (by decide) q
  · exact part_txt hb hk (by decide +kernel) (by decide) q
  · exact part_txt hb hk (by decide +kernel) (by decide) q
end
end Law
namespace Law
open PySem PySem.Spec PyProof.Rows L2 DL
theorem smB_up : ∀ (n : Nat) {d : DV}, smB n d = true → smB (n + 1) d = true
  | 0, _, h => Bool.noConfusion h
  | n + 1, d, h => by
    cases d with
    | lst xs =>
      have h : (decide (xs.length ≤ 8) && xs.all (smB n)) = true := h
      show (decide (xs.length ≤ 8) && xs.all (smB (n + 1))) = true
      rw [Bool.and_eq_true] at h ⊢
      exact ⟨h.1, List.all_eq_true.mpr fun x hx => smB_up n (List.all_eq_true.mp h.2 x hx)⟩
    | tup xs =>
      have h : (decide (xs.length ≤ 8) && xs.all (smB n)) = true := h
      show (decide (xs.length ≤ 8) && xs.all (smB (n + 1))) = true
      rw [Bool.and_eq_true] at h ⊢
      exact ⟨h.1, List.all_eq_true.mpr fun x hx => smB_up n (List.all_eq_true.mp h.2 x hx)⟩
    | ref a => exact Bool.noConfusion h
    | ktup xs => exact Bool.noConfusion h
    | klst xs => exact Bool.noConfusion h
    | _ => exact h
theorem smB_le {n k : Nat} (h : n ≤ k) {d : DV} (hd : smB n d = true) : smB k d = true := by
  induction h with
  | refl => exact hd
  | step _ ih => exact smB_up _ ih
theorem sm_mkT {n : Nat} {xs : List DV} (hl : xs.length ≤ 8) (h : ∀ x ∈ xs, smB n x = true) : smB (n + 1) (.tup xs) = true := by
  show (decide (xs.length ≤ 8) && xs.all (smB n)) = true
  rw [decide_eq_true hl, List.all_eq_true.mpr h]; rfl
theorem sm_mkL {n : Nat} {xs : List DV} (hl : xs.length ≤ 8) (h : ∀ x ∈ xs, smB n x = true) : smB (n + 1) (.lst xs) = true := by
  show (decide (xs.length ≤ 8) && xs.all (smB n)) = true
  rw [decide_eq_true hl, List.all_eq_true.mpr h]; rfl
section
variable {m : Sto} {δ : Slots} {w wa wb wi : DE} {n : Nat} {x d : DV} {p q a : Addr} {c k : Nat} {i j : Int}
def oddB (d : DV) : Bool := smB 2 d && (match d with
  | .tup ys => decide (ys.length ≤ 2)
  | _ => true)
theorem pow_I (h0 : 0 ≤ j) (h1 : j ≤ 1000000) (h2 : i.natAbs < 2 ^ 64) : Pu2 dPow (.int i) (.int j) m (.int (i ^ j.toNat)) := fun m' Q _ q => ⟨h0, h1, h2, q _ (.refl _)⟩
theorem go_consP {r : DA} {Q : List DV → Sto → Prop} {v : DV} (h : PuE w δ m v) (q : ∀ m2, Sub m m2 → r δ m2 fun ds m3 => Q (v :: ds) m3) : wCons w r δ m Q := h m _ (.refl _) q
theorem sp_odd (hb : Bs m p k) (hk : k < 900000) {Q : DK} (q : ∀ d m2, smB 2 d = true → (∀ ys, d = .tup ys → ys.length ≤ 2) → Bs m2 p (k + 1) → SubX p m m2 → Q d m2) : S__law_odd [.ref p] m Q := by
  have big := line_eq
  refine ⟨rfl, ?_⟩
  show w__law_odd { nx := fun _ m' => Q .non m', rt := Q } [some (.ref p), none] m
  unfold w__law_odd
  refine go_ssetP (pu_lst (pa_cons pu_c (pa_cons pu_c (pa_cons pu_c (pa_cons (pu_neg pu_c) (pa_cons pu_c (pa_cons pu_c (pa_cons pu_c (pa_cons pu_c (pa_cons pu_c (pa_cons pu_c (pa_cons pu_c (pa_cons pu_c (pa_cons pu_c (pa_cons pu_c (pa_cons pu_c (pa_cons (pu_tup pa_nil (n60 rfl)) (pa_cons (pu_lst pa_nil (n60 rfl)) (pa_cons (pu_tup (pa_cons pu_c pa_nil) (n60 rfl)) (pa_cons (pu_lst (pa_cons pu_c pa_nil) (n60 rfl)) (pa_cons (pu_tup (pa_cons (pu_tup pa_nil (n60 rfl)) pa_nil) (n60 rfl)) pa_nil)))))))))))))))))))) (n60 rfl)) (fun m1 s1 => ?_)
  show wRet _ _ [some (.ref p), some _] m1
  refine go_ret (go_call (go_cons (go_var rfl (go_consP (pu_op (pu_var (i := 1) rfl) (pu_lst (pa_cons (pu_tup (pa_cons pu_c pa_nil) (n60 rfl)) (pa_cons (pu_lst (pa_cons pu_c pa_nil) (n60 rfl)) (pa_cons (pu_op pu_c pu_c (pow_I (i := 10) (j := 40) (by decide) (by decide) (by decide))) (pa_cons pu_c (pa_cons pu_c (pa_cons (pu_tup (pa_cons pu_c (pa_cons pu_c pa_nil)) (n60 rfl)) (pa_cons pu_c (pa_cons pu_c pa_nil)))))))) (n60 rfl)) (cat_L (n60 rfl))) (fun m2 s2 => go_nil ?_)))))
  refine sp_pick ((hb.sub s1).sub s2) (by omega) (by simp) (by simp) fun d o hd hb2 => ?_
  have hall : oddB d = true := by
    refine (List.all_eq_true (p := oddB)).mp ?_ d hd
    decide +kernel
  unfold oddB at hall
  rw [Bool.and_eq_true] at hall
  refine q d _ hall.1 (fun ys e => ?_) hb2 ((Sub.x (s1.trans s2)).trans .put)
  subst e
  exact of_decide_eq_true hall.2
theorem sl_E1 {xs : List DV} (h : PuE w δ m (.tup xs)) (hi : PuE wi δ m (.int i)) : PuE (wSl false w none (some wi)) δ m (.tup (DL.cutD xs none (some i))) := fun m' Q s q => h m' _ s fun m1 s1 => hi m1 _ (s.trans s1) fun m2 s2 => q m2 (s1.trans s2)
theorem sl_E2 {xs : List DV} (h : PuE w δ m (.tup xs)) (hi : PuE wi δ m (.int i)) : PuE (wSl false w (some wi) none) δ m (.tup (DL.cutD xs (some i) none)) := fun m' Q s q => h m' _ s fun m1 s1 => hi m1 _ (s.trans s1) fun m2 s2 => q m2 (s1.trans s2)
theorem cut_mem {xs : List DV} {lo hi : Option Int} {y : DV} (h : y ∈ DL.cutD xs lo hi) : y ∈ xs := List.mem_of_mem_drop (List.mem_of_mem_take h)
theorem cut_len {xs : List DV} (h0 : 0 ≤ i) (h1 : i < xs.length) : (DL.cutD xs none (some i)).length + (DL.cutD xs (some (i + 1)) none).length ≤ xs.length := by
  unfold DL.cutD
  have e1 : HT.sIx xs.length xs.length (some i) = i.toNat := by
    show (if i < 0 then _ else min i.toNat xs.length) = _
    rw [if_neg (by omega)]; omega
  have e2 : HT.sIx xs.length 0 (some (i + 1)) = (i + 1).toNat := by
    show (if i + 1 < 0 then _ else min (i + 1).toNat xs.length) = _
    rw [if_neg (by omega)]; omega
  rw [e1, e2]
  show (List.take (i.toNat - 0) (List.drop 0 xs)).length + (List.take (xs.length - (i + 1).toNat) (List.drop (i + 1).toNat xs)).length ≤ _
  rw [List.length_take, List.length_take, List.length_drop, List.length_drop]
  omega
theorem catT_any {xs ys : List DV} (h : xs.length + ys.length ≤ sizeLine) : Pu2 dAddT (.tup xs) (.tup ys) m (.tup (xs ++ ys)) := fun m' Q _ q => ⟨h, q _ (.refl _)⟩
/-- the names of calls, sorted -/
theorem sorted_forms {Q : DK} (q : ∀ (ys : List Str) m2, Sub m m2 → ys.Perm (sortT.map (·.1)) → Q (.lst (ys.map DV.str)) m2) : wB (dSorted false) (wCons (wCall S__law_forms [] wNil) wNil) δ m Q := by
  refine go_b (go_cons (go_call (go_nil (sp_forms fun p m2 s2 hp e2 => go_nil ?_))))
  have ea : asL m2 (.ref p) = none := by unfold asL; simp only [e2]
  have e3 : keysI? (kvD formsT) = none := by kernel_rfl
  have e4 : keysS? (kvD formsT) = some (sortT.map (·.1)) := by kernel_rfl
  have e5 : (kvD formsT).length < 64 := by decide +kernel
  show dSorted false [.ref p] m2 Q
  unfold dSorted
  dsimp only
  rw [ea]
  simp only [e2, e3, e4]
  refine ⟨e5, fun ys hp hs => ?_⟩
  rw [newL_data]
  exact q ys m2 s2 hp
end
end Law
namespace Law
open PySem PySem.Spec PyProof.Rows L2 DL
section
variable {m : Sto} {δ : Slots} {w wa wb wi : DE} {n : Nat} {x d : DV} {p q a : Addr} {c k : Nat} {i j : Int}
theorem go_eqI {Q : DK} (h : Q (.bl (decide (i = j))) m) : dEq false (.int i) (.int j) m Q := by
  show Q (.bl (xor false (decide (i = j)))) m
  rw [Bool.false_xor]; exact h
theorem go_test {s s2 : DS} {D : DEnds} {r c : Int} {i : Nat} (hd : δ[i]? = some (some (.int r))) (hy : r = c → s { D with nx := s2 D } δ m) (hn : r ≠ c → s2 D δ m) : wSeq (wIfS (wBl (wOp (dEq false) (wVar i) (wC (.int c)))) s wNext) s2 D δ m := by
  refine go_sif (go_bl (go_op (go_var hd (go_c (go_eqI ?_)))))
  dsimp only
  by_cases e : r = c
  · rw [decide_eq_true e, if_pos rfl]; exact hy e
  · rw [decide_eq_false e, if_neg Bool.false_ne_true]; exact hn e
theorem lo_T {mu : Bool} {xs : List DV} {Q : DK} (h : newL mu xs m Q) : dListOf mu [.tup xs] m Q := h
theorem name_sm : (sortT.map (·.1)).all (fun y => smB 1 (.str y)) = true := by decide +kernel
theorem sp_bent {xs : List DV} (hb : Bs m p k) (hk : k < 800000) (hn : 1 ≤ n) (hx : ∀ x ∈ xs, smB n x = true) (h0 : xs ≠ []) (hl : xs.length ≤ 6) {Q : DK} (q : ∀ d m2, smB (n + 2) d = true → (∀ ys, d = .tup ys → ys.length ≤ xs.length + 1) → Bs m2 p (k + 4) → SubX p m m2 → Q d m2) : S__law_bent [.ref p, .tup xs] m Q := by
  have big := line_eq
  have hpos : 0 < xs.length := List.length_pos_iff.mpr h0
  refine ⟨rfl, ?_⟩
  show w__law_bent { nx := fun _ m' => Q .non m', rt := Q } [some (.ref p), some (.tup xs), none, none, none] m
  unfold w__law_bent
  have hxs : ∀ j, n ≤ j → ∀ x ∈ xs, smB j x = true := fun j hj x hx' => smB_le hj (hx x hx')
  refine go_spar (go_cons (go_call (go_cons (go_var rfl (go_cons (go_c (go_nil ?_)))))))
  refine sp_draw hb (by omega) (by decide) (by decide) fun r o hr hr2 hb1 => ?_
  refine go_cons (go_b (go_cons (go_var rfl (go_nil ?_))))
  refine lo_T ?_
  refine go_new fun b h1b => go_nil ?_
  obtain ⟨bx, by', be, bm, bh⟩ := hb1.ex
  have hbp : b ≠ p := fun z => by rw [z, bm] at h1b; cases h1b
  have hmb : m b = none := by rw [put_ne hbp] at h1b; exact h1b
  show wSeq _ _ _ [some (.ref p), some (.tup xs), some (.int r), some (.ref b), none] _
  have s1 : Sub (DL.put m p o) (DL.put (DL.put m p o) b (.lst xs)) := Sub.put h1b
  refine go_sset (go_call (go_cons (go_var rfl (go_cons (go_b (go_cons (go_var rfl (go_nil (go_lenI (xs := xs) rfl (go_nil ?_)))))))))) 
  refine sp_draw (hb1.sub s1) (by omega) (by omega) (by omega) fun r2 o2 hr3 hr4 hb2 => ?_
  show wSeq _ _ _ [some (.ref p), some (.tup xs), some (.int r), some (.ref b), some (.int r2)] _
  have hbl : (DL.put (DL.put (DL.put m p o) b (.lst xs)) p o2) b = some (.lst xs) := by rw [put_ne hbp, put_same]
  have sx : SubX p m (DL.put (DL.put (DL.put m p o) b (.lst xs)) p o2) := (SubX.put.trans (Sub.x s1)).trans .put
  generalize DL.put (DL.put (DL.put m p o) b (.lst xs)) p o2 = m3 at hb2 hbl sx
  have hb3 : Bs m3 p (k + 2) := hb2
  refine go_test rfl (fun _ => ?_) fun _ => ?_
  · refine go_ret (go_varZ rfl hbl ?_)
    refine q _ _ (smB_up _ (sm_mkL (by omega) hx)) (fun ys e => by cases e) ?_ ?_
    · obtain ⟨x, y, e, h1, h2⟩ := hb3.ex
      exact ⟨x, y, e, by rw [rmv_ne hbp.symm]; exact h1, by obtain ⟨g1, g2, g3, g4⟩ := h2; exact ⟨g1, g2, g3, by omega⟩⟩
    · intro x u hxp hu
      have hxb : x ≠ b := fun z => by rw [z, hmb] at hu; cases hu
      rw [rmv_ne hxb]
      exact sx x u hxp hu
  refine go_test rfl (fun _ => ?_) fun _ => ?_
  · refine go_ret (go_op (go_var rfl (go_tup (go_cons (go_call (go_cons (go_var rfl (go_nil ?_))))))))
    refine sp_odd hb3 (by omega) fun d m4 hd hdl hb4 sx4 => go_nil ⟨by simp; omega, ?_⟩
    refine ⟨h0, by simp; omega, ?_⟩
    refine q _ _ (sm_mkT (by rw [List.length_append]; simp; omega) fun x hx' => ?_) (fun ys e => by cases e; rw [List.length_append]; simp) (hb4.le (by omega)) (sx.trans sx4)
    rcases List.mem_append.mp hx' with h | h
    · exact hxs _ (by omega) x h
    · rw [List.mem_singleton.mp h]; exact smB_le (by omega) hd
  refine go_test rfl (fun _ => ?_) fun _ => ?_
  · have cl := cut_len (xs := xs) hr3 (by omega)
    refine go_retP (pu_op (sl_E1 (pu_var rfl) (pu_var rfl)) (sl_E2 (pu_var rfl) (pu_op (pu_var rfl) pu_c add_I)) (catT_any (by omega))) fun m4 s4 => ?_
    refine q _ _ (smB_up _ (sm_mkT (by rw [List.length_append]; omega) fun x hx' => ?_)) (fun ys e => by cases e; rw [List.length_append]; omega) ((hb3.sub s4).le (by omega)) (sx.trans (Sub.x s4))
    rcases List.mem_append.mp hx' with h | h
    · exact hx x (cut_mem h)
    · exact hx x (cut_mem h)
  refine go_test rfl (fun _ => ?_) fun _ => ?_
  · refine go_retP (pu_tup (pa_cons (pu_var rfl) pa_nil) (n60 rfl)) fun m4 s4 => ?_
    refine q _ _ (sm_mkT (by simp) fun x hx' => ?_) (fun ys e => by cases e; simp) ((hb3.sub s4).le (by omega)) (sx.trans (Sub.x s4))
    rw [List.mem_singleton.mp hx']
    exact sm_mkT (by omega) hx
  refine go_test rfl (fun _ => ?_) fun _ => ?_
  · refine go_ret (go_call (go_cons (go_var rfl (go_nil ?_))))
    refine sp_odd hb3 (by omega) fun d m4 hd hdl hb4 sx4 => ?_
    exact q _ _ (smB_le (by omega) hd) (fun ys e => by have := hdl ys e; omega) (hb4.le (by omega)) (sx.trans sx4)
  refine go_test rfl (fun _ => ?_) fun _ => ?_
  · refine go_ret (go_op (go_tup (go_cons (go_call (go_cons (go_var rfl (go_cons (sorted_forms fun ys m4 s4 hp => go_nil ?_))))))))
    have hyl : ys.length = 28 := by rw [hp.length_eq]; decide +kernel
    refine sp_pick (hb3.sub s4) (by omega) (by intro e; have := congrArg List.length e; rw [List.length_map, hyl] at this; cases this) (by rw [List.length_map]; omega) fun d o3 hd hb5 => go_nil ⟨by simp; omega, ?_⟩
    obtain ⟨y, hy, rfl⟩ := List.mem_map.mp hd
    have hsy : smB 1 (.str y) = true := List.all_eq_true.mp name_sm y (hp.mem_iff.mp hy)
    cases xs with
    | nil => exact absurd rfl h0
    | cons x0 r =>
      refine pos_pu (sl_T (pu_var rfl)) fun m6 s6 => ?_
      rw [List.length_cons] at hl hpos
      refine ⟨by simp, by simp; omega, ?_⟩
      refine q _ _ (smB_up _ (sm_mkT (by simp; omega) fun x hx' => ?_)) (fun zs e => by cases e; simp) ((hb5.sub s6).le (by omega)) (((sx.trans (Sub.x s4)).trans .put).trans (Sub.x s6))
      rcases List.mem_cons.mp hx' with h | h
      · rw [h]; exact smB_le hn hsy
      · exact hx x (List.mem_cons_of_mem _ h)
  refine go_sasg (go_call (go_cons (go_var rfl (go_nil ?_))))
  refine sp_odd hb3 (by omega) fun d m4 hd hdl hb4 sx4 => ?_
  have hbl4 : m4 b = some (.lst xs) := sx4 b _ hbp hbl
  have hix : ixN xs.length r2 = some r2.toNat := by
    unfold ixN
    rw [if_pos (by omega), if_pos (by omega)]
  refine go_var rfl (go_var rfl (set_at hbl4 hix ?_))
  refine go_ret (go_b (go_cons (go_var rfl (go_nil ?_))))
  have ht : ∀ {m : Sto} {zs : List DV} {Q : DK}, m b = some (.lst zs) → Q (.tup zs) m → dTupOf [.ref b] m Q := fun {m zs Q} h1 h2 => by
    unfold dTupOf
    have e : asL m (.ref b) = some zs := st_asL h1
    simp only [e]
    exact h2
  refine ht put_same ?_
  refine q _ _ (sm_mkT (by rw [List.length_set]; omega) fun x hx' => ?_) (fun ys e => by cases e; rw [List.length_set]; omega) ?_ ?_
  · rcases List.mem_or_eq_of_mem_set hx' with h | h
    · exact hxs _ (by omega) x h
    · rw [h]; exact smB_le (by omega) hd
  · obtain ⟨x, y, e, h1, h2⟩ := hb4.ex
    exact ⟨x, y, e, by rw [put_ne hbp.symm]; exact h1, by obtain ⟨g1, g2, g3, g4⟩ := h2; exact ⟨g1, g2, g3, by omega⟩⟩
  · intro x u hxp hu
    have hxb : x ≠ b := fun z => by rw [z, hmb] at hu; cases hu
    rw [put_ne hxb]
    exact sx4 x u hxp (sx x u hxp hu)
end
end Law
namespace Law
open PySem PySem.Spec PyProof.Rows L2 DL
theorem shown_len {i : Int} (h : i.natAbs < 10 ^ 41) : (PyData.int i).shown.length ≤ 50 := by
  rw [PyData.shown.eq_3, PyProof.Rows.ofString_length]
  have nat : ∀ n : Nat, n < 10 ^ 41 → (Nat.repr n).toList.length ≤ 41 := fun n hn => by
    have := (Nat.length_toDigits_le_iff (b := 10) (n := n) (k := 41) (by decide) (by decide)).mpr hn
    unfold Nat.repr
    simpa using this
  cases i with
  | ofNat n =>
    have := nat n h
    show (Nat.repr n).toList.length ≤ 50
    omega
  | negSucc n =>
    have := nat (n + 1) h
    show ("-" ++ Nat.repr (n + 1)).toList.length ≤ 50
    rw [String.toList_append, List.length_append]
    show 1 + _ ≤ 50
    omega
def bdS : Nat → Nat
  | 0 => 0
  | n + 1 => 8 * (bdS n + 1) + 50
structure FS (n B : Nat) (p : PyData) : Prop where
  lay : p.canLay0 = true
  dep : p.depth ≤ n
  shw : p.showable = true
  sho : p.intsShort 50 = true
  blk : p.bulk ≤ B
theorem fs_all {n B : Nat} : ∀ {xs : List DV}, (∀ x ∈ xs, ∃ p, py x = some p ∧ FS n B p) → ∃ ps, pys xs = some ps ∧ PyData.canLayAll0 ps = true ∧ PyData.depthAll ps ≤ n ∧ PyData.showableAll ps = true ∧ PyData.intsShortAll 50 ps = true ∧ PyData.bulkAll ps ≤ xs.length * (B + 1)
  | [], _ => ⟨[], rfl, rfl, Nat.zero_le _, rfl, rfl, Nat.zero_le _⟩
  | x :: xs, h => by
    obtain ⟨p, e, f⟩ := h x List.mem_cons_self
    obtain ⟨ps, e1, e2, e3, e4, e5, e6⟩ := fs_all (xs := xs) fun y hy => h y (List.mem_cons_of_mem _ hy)
    refine ⟨p :: ps, ?_, ?_, ?_, ?_, ?_, ?_⟩
    · simp only [pys, e, e1]
    · simp only [PyData.canLayAll0, f.lay, e2]; rfl
    · simp only [PyData.depthAll]; have := f.dep; omega
    · simp only [PyData.showableAll, f.shw, e4]; rfl
    · simp only [PyData.intsShortAll, f.sho, e5]; rfl
    · simp only [PyData.bulkAll, List.length_cons]
      have := f.blk
      rw [Nat.add_mul]
      omega
theorem fs_py : ∀ (n : Nat) {d : DV}, smB n d = true → ∃ p, py d = some p ∧ FS n (bdS n) p
  | 0, d, h => Bool.noConfusion h
  | n + 1, d, h => by
    have low : 0 ≤ bdS (n + 1) := Nat.zero_le _
    cases d with
    | non => exact ⟨.none, by simp only [py], ⟨by simp only [PyData.canLay0], by simp only [PyData.depth]; omega, by simp only [PyData.showable], by simp only [PyData.intsShort], by simp only [PyData.bulk]; exact low⟩⟩
    | bl b => exact ⟨.bool b, by simp only [py], ⟨by simp only [PyData.canLay0], by simp only [PyData.depth]; omega, by simp only [PyData.showable], by simp only [PyData.intsShort], by simp only [PyData.bulk]; exact low⟩⟩
    | int i =>
      have h : i.natAbs < 10 ^ 41 := of_decide_eq_true h
      refine ⟨.int i, by simp only [py], ⟨by simp only [PyData.canLay0], by simp only [PyData.depth]; omega, ?_, ?_, by simp only [PyData.bulk]; exact low⟩⟩
      · simp only [PyData.showable, decide_eq_true_eq]
        have h2 : i.natAbs < 2 ^ 140 := by
          have : (10 : Nat) ^ 41 < 2 ^ 140 := by decide
          omega
        by_cases h0 : i.natAbs = 0
        · rw [h0]; decide
        · have := (Nat.log2_lt h0).mpr h2
          omega
      · simp only [PyData.intsShort, decide_eq_true_eq]
        exact shown_len h
    | str x =>
      have h : (PyData.strOk x && decide (x.cps.size ≤ 50)) = true := h
      rw [Bool.and_eq_true] at h
      have h2 := of_decide_eq_true h.2
      refine ⟨.str x, by simp only [py], ⟨by simp only [PyData.canLay0]; exact h.1, by simp only [PyData.depth]; omega, by simp only [PyData.showable], by simp only [PyData.intsShort], ?_⟩⟩
      simp only [PyData.bulk]
      show x.cps.size ≤ 8 * (bdS n + 1) + 50
      omega
    | ref a => exact Bool.noConfusion h
    | lst xs =>
      have h : (decide (xs.length ≤ 8) && xs.all (smB n)) = true := h
      rw [Bool.and_eq_true] at h
      have hl := of_decide_eq_true h.1
      obtain ⟨ps, e1, e2, e3, e4, e5, e6⟩ := fs_all fun x hx => fs_py n (List.all_eq_true.mp h.2 x hx)
      refine ⟨.list ps, by simp only [py, e1]; rfl, ⟨by simp only [PyData.canLay0]; exact e2, by simp only [PyData.depth]; omega, by simp only [PyData.showable]; exact e4, by simp only [PyData.intsShort]; exact e5, ?_⟩⟩
      simp only [PyData.bulk]
      have : xs.length * (bdS n + 1) ≤ 8 * (bdS n + 1) := Nat.mul_le_mul_right _ hl
      show _ ≤ 8 * (bdS n + 1) + 50
      omega
    | tup xs =>
      have h : (decide (xs.length ≤ 8) && xs.all (smB n)) = true := h
      rw [Bool.and_eq_true] at h
      have hl := of_decide_eq_true h.1
      obtain ⟨ps, e1, e2, e3, e4, e5, e6⟩ := fs_all fun x hx => fs_py n (List.all_eq_true.mp h.2 x hx)
      refine ⟨.tuple ps, by simp only [py, e1]; rfl, ⟨by simp only [PyData.canLay0]; exact e2, by simp only [PyData.depth]; omega, by simp only [PyData.showable]; exact e4, by simp only [PyData.intsShort]; exact e5, ?_⟩⟩
      simp only [PyData.bulk]
      have : xs.length * (bdS n + 1) ≤ 8 * (bdS n + 1) := Nat.mul_le_mul_right _ hl
      show _ ≤ 8 * (bdS n + 1) + 50
      omega
    | ktup xs => exact Bool.noConfusion h
    | klst xs => exact Bool.noConfusion h
theorem asPy_of {p : PyData} (h : py d = some p) : asPy m d = some p := by
  cases d with
  | ref a => simp only [py] at h; cases h
  | lst xs => simp only [py] at h; exact h
  | klst xs => simp only [py] at h; exact h
  | _ => exact h
theorem pu_reprS {m : Sto} {d : DV} (h : smB 5 d = true) : ∃ t : Str, ∀ m : Sto, PuS dRepr [d] m (.str t) := by
  obtain ⟨p, e, f⟩ := fs_py 5 h
  refine ⟨p.shown, fun m m' Q _ q => ⟨p, asPy_of e, ?_, f.shw, ?_, q _ (.refl _)⟩⟩
  · unfold SeqAt.shaped
    rw [f.lay, Bool.true_and]
    refine decide_eq_true ?_
    have := f.dep
    omega
  · have h1 := PyData.shown_le_bulk 50 (by decide) p (PyData.leavesShort_of_canLay0 50 p f.lay f.sho)
    have h2 : p.bulk ≤ 271498 := Nat.le_trans f.blk (by decide)
    have := line_eq
    omega
end Law
namespace Law
open PySem PySem.Spec PyProof.Rows L2 DL
theorem lcx {it : DIt} {g : DG} {te : DE} {δv : Slots} {D : Addr} {fin : List DV → Sto → Prop} {xs : List DV} (hlk : it.lk = none) (I : Nat → List DV → Sto → Prop) (hst : ∀ m, it.st m)
    (hs : ∀ i y acc m, xs[i]? = some y → I i acc m → m D = some (.lst acc) → ∀ K : DK, (∀ v m4, m4 D = some (.lst acc) ∧ acc.length < sizeLine ∧ I (i + 1) (acc ++ [v]) (DL.put m4 D (.lst (acc ++ [v]))) → K v m4) → g y δv m fun δ1 m1 => te δ1 m1 K)
    (hf : ∀ acc m, I xs.length acc m → m D = some (.lst acc) → fin acc m) : ∀ (ys : List DV) (i : Nat) (acc : List DV) (m : Sto), xs.drop i = ys → i ≤ xs.length → I i acc m → m D = some (.lst acc) → lcGo it g wYes te δv D fin ys acc m
  | [], i, acc, m, hd, hle, hI, e => by
    have : i = xs.length := by
      have := List.drop_eq_nil_iff.mp hd
      omega
    subst this
    refine ⟨hst m, e, ?_⟩
    unfold DIt.fin
    rw [hlk]; exact hf acc m hI e
  | y :: r, i, acc, m, hd, hle, hI, e => by
    obtain ⟨h1, h2⟩ := getElem_drop_cons hd
    have hlt : i < xs.length := (List.getElem?_eq_some_iff.mp h1).1
    exact ⟨hst m, hs i y acc m h1 hI e _ fun v m4 ⟨h3, h4, h5⟩ => ⟨h3, h4, lcx hlk I hst hs hf r (i + 1) (acc ++ [v]) _ h2 hlt h5 put_same⟩⟩
section
variable {m : Sto} {δ : Slots} {w wa wb wi : DE} {n : Nat} {x d : DV} {p q a : Addr} {c k : Nat} {i j : Int}
theorem lx_draw {wi : DI} {g : DG} {te : DE} {vs : List Nat} {xs : List DV} (hb : Bs m p k) (hwi : ∀ R : DIt → Sto → Prop, (∀ it m1, it.items = xs → it.lk = none → (∀ m2, it.st m2) → Sub m m1 → R it m1) → wi δ m R) (P : Nat → DV → Prop)
    (hs : ∀ i y m', xs[i]? = some y → Bs m' p (k + c * i) → ∀ K : DK, (∀ v m4, P i v → Bs m4 p (k + c * (i + 1)) → SubX p m' m4 → K v m4) → g y (wipeD δ vs) m' fun δ1 m1 => te δ1 m1 K) (hl : xs.length ≤ 100) {Q : DK}
    (q : ∀ acc m2, acc.length = xs.length → (∀ i v, acc[i]? = some v → P i v) → Bs m2 p (k + c * xs.length) → SubX p m m2 → Q (.lst acc) m2) : wLc false wi g wYes te vs δ m Q := by
  have big := line_eq
  refine hwi _ fun it m1 hit hlk hst s1 D hD => ?_
  rw [hit]
  have hmD : m D = none := by
    cases e : m D with
    | none => rfl
    | some o => rw [s1 _ _ e] at hD; cases hD
  have hpD : D ≠ p := fun z => by
    obtain ⟨x, y, e, h1, _⟩ := hb.ex
    rw [z, s1 _ _ h1] at hD; cases hD
  refine lcx (xs := xs) hlk (fun i acc m' => acc.length = i ∧ (∀ j v, acc[j]? = some v → P j v) ∧ Bs m' p (k + c * i) ∧ SubX p m m') hst ?_ ?_ xs 0 [] _ rfl (Nat.zero_le _) ⟨rfl, fun j v h => (by cases h), ?_, ?_⟩ put_same
  · intro i y acc m' hy ⟨h1, h2, h3, h4⟩ e K hK
    refine hs i y m' hy h3 K fun v m4 hP hb4 sx4 => hK v m4 ?_
    have hlt : i < xs.length := (List.getElem?_eq_some_iff.mp hy).1
    have e4 := sx4 D _ hpD e
    refine ⟨e4, by omega, by rw [List.length_append, h1]; rfl, fun j u hu => ?_, ?_, ?_⟩
    · by_cases hj : j < acc.length
      · rw [List.getElem?_append_left hj] at hu
        exact h2 j u hu
      · rw [List.getElem?_append_right (by omega)] at hu
        have : j - acc.length = 0 := by
          by_cases z : j - acc.length = 0
          · exact z
          · have h5 := (List.getElem?_eq_some_iff.mp hu).1
            rw [List.length_singleton] at h5; omega
        rw [this] at hu
        cases hu
        have : j = i := by omega
        rw [this]; exact hP
    · obtain ⟨x, y, e, g1, g2⟩ := hb4.ex
      exact ⟨x, y, e, by rw [put_ne hpD.symm]; exact g1, g2⟩
    · intro x u hxp hu
      have hxD : x ≠ D := fun z => by rw [z, hmD] at hu; cases hu
      rw [put_ne hxD]
      exact sx4 x u hxp (h4 x u hxp hu)
  · intro acc m' ⟨h1, h2, h3, h4⟩ e
    show Q (.lst acc) (DL.rmv m' D)
    refine q acc _ h1 h2 ?_ ?_
    · obtain ⟨x, y, e, g1, g2⟩ := h3.ex
      exact ⟨x, y, e, by rw [rmv_ne hpD.symm]; exact g1, g2⟩
    · intro x u hxp hu
      have hxD : x ≠ D := fun z => by rw [z, hmD] at hu; cases hu
      rw [rmv_ne hxD]
      exact h4 x u hxp hu
  · obtain ⟨x, y, e, g1, g2⟩ := hb.ex
    exact ⟨x, y, e, by rw [put_ne hpD.symm]; exact s1 _ _ g1, by obtain ⟨a1, a2, a3, a4⟩ := g2; exact ⟨a1, a2, a3, by omega⟩⟩
  · intro x u hxp hu
    have hxD : x ≠ D := fun z => by rw [z, hmD] at hu; cases hu
    rw [put_ne hxD]
    exact s1 _ _ hu
end
end Law
namespace Law
open PySem PySem.Spec PyProof.Rows L2 DL
section
variable {m : Sto} {δ : Slots} {w wa wb wi : DE} {n : Nat} {x d : DV} {p q a : Addr} {c k : Nat} {i j : Int} {a1 a2 a3 a4 a5 a6 a7 a8 a9 a10 : Option DV}
theorem row_true {F : Str → DV → Bool} : ∀ {ks : List Str} {ds : List DV}, ks.length = ds.length → (∀ (i : Nat) (k : Str) (d : DV), ks[i]? = some k → ds[i]? = some d → F k d = true) → rowB F ks ds = true
  | [], [], _, _ => rfl
  | k :: ks, d :: ds, hl, h => by
    show (F k d && rowB F ks ds) = true
    rw [h 0 k d rfl rfl, row_true (Nat.succ.inj hl) fun i k d h1 h2 => h (i + 1) k d h1 h2]; rfl
  | [], _ :: _, h, _ => by cases h
  | _ :: _, [], h, _ => by cases h
abbrev deedE : DE := wOp (dAdd false) (wTup (wCons (wVar 1) (wNil))) (wB dTupOf (wCons (wLc false (iStrD (wOp dIx (wCall S__law_forms [] wNil) (wVar 1))) (gN 9) (wYes) (wCall S__law_part [] (wCons (wVar 0) (wCons (wVar 9) (wNil)))) [9]) (wNil)))
theorem deed_go {y s : Str} (hb : Bs m p k) (hk : k < 700000) (hy : lookD (kvD formsT) (Sum.inr y) = some (.str s)) (hok : s.cps.toList.all okC = true) (hs3 : s.cps.size ≤ 3) (hlk : lkT tab_FORMS y = some (s.cps.toList.map kindC)) {Q : DK}
    (q : ∀ ds m2, ds.length ≤ 3 → (∀ d ∈ ds, smB 1 d = true) → callB (.tup (.str y :: ds)) = true → Bs m2 p (k + 6) → SubX p m m2 → Q (.tup (.str y :: ds)) m2) : deedE [some (.ref p), some (.str y), a2, a3, a4, a5, a6, a7, a8, a9, a10] m Q := by
  have big := line_eq
  have hsl : (sgD s).length = s.cps.size := by unfold sgD; rw [List.length_map, Array.length_toList]
  refine go_op (go_tup (go_cons (go_var rfl (go_nil ⟨by simp; omega, ?_⟩))))
  refine go_b (go_cons ?_)
  refine lx_draw (xs := sgD s) (c := 2) hb (fun R hR => ?_) (fun i d => ∀ c, s.cps.toList[i]? = some c → smB 1 d = true ∧ argB (kindC c) d = true) (fun i z m' hz hb' K hK => ?_) (by omega) fun acc m2 hlen hP hb2 sx2 => go_nil ?_
  · show (wOp dIx (wCall S__law_forms [] wNil) (wVar 1)) _ m _
    refine go_op (go_call (go_nil (sp_forms fun pf m1 s1 hpf e => go_var rfl (ix_D0 e hy ?_))))
    exact hR ⟨sgD s, fun _ => True, none⟩ m1 rfl rfl (fun _ => trivial) s1
  · unfold sgD at hz
    rw [List.getElem?_map] at hz
    cases ec : s.cps.toList[i]? with
    | none => rw [ec] at hz; cases hz
    | some c =>
      rw [ec] at hz
      cases hz
      have hi : i < s.cps.toList.length := (List.getElem?_eq_some_iff.mp ec).1
      rw [Array.length_toList] at hi
      have hc : okC c = true := List.all_eq_true.mp hok c (List.mem_of_getElem? ec)
      show wCall S__law_part [] (wCons (wVar 0) (wCons (wVar 9) (wNil))) [some (.ref p), some (.str y), a2, a3, a4, a5, a6, a7, a8, some (.str ⟨#[c]⟩), a10] m' K
      refine go_call (go_cons (go_var rfl (go_cons (go_var rfl (go_nil ?_)))))
      refine sp_part hb' (by omega) hc fun d m2 h1 h2 h3 h4 => hK d m2 (fun c2 e2 => ?_) (h3.le (by rw [Nat.mul_add]; omega)) h4
      rw [ec] at e2; cases e2
      exact ⟨h1, h2⟩
  · have ht : ∀ {m : Sto} {zs : List DV} {Q : DK}, Q (.tup zs) m → dTupOf [.lst zs] m Q := fun h => h
    refine ht ?_
    refine ⟨by simp, by simp; omega, ?_⟩
    refine q acc m2 (by omega) (fun d hd => ?_) ?_ (hb2.le (by omega)) sx2
    · obtain ⟨i, hi⟩ := List.getElem?_of_mem hd
      have hlt := (List.getElem?_eq_some_iff.mp hi).1
      have hlt2 : i < s.cps.toList.length := by rw [Array.length_toList]; omega
      exact (hP i d hi _ (List.getElem?_eq_getElem hlt2)).1
    · show (match lkT tab_FORMS y with
        | some ks => rowB argB ks acc
        | none => false) = true
      rw [hlk]
      refine row_true (by rw [List.length_map, Array.length_toList]; omega) fun i k d h1 h2 => ?_
      rw [List.getElem?_map] at h1
      cases ec : s.cps.toList[i]? with
      | none => rw [ec] at h1; cases h1
      | some c =>
        rw [ec] at h1
        cases h1
        exact (hP i d h2 c ec).2
abbrev mattersE : DE := wOp (dAdd false) (wLst false (wCons (wVar 2) (wNil))) (wLc false (iRngD (wCons (wC (.int 12)) (wNil))) (gN 10) (wYes) (wCall S__law_bent [] (wCons (wVar 0) (wCons (wVar 2) (wNil)))) [10])
theorem matters_go {xs : List DV} (hb : Bs m p k) (hk : k < 700000) (hx : ∀ x ∈ xs, smB 1 x = true) (h0 : xs ≠ []) (hl : xs.length ≤ 4) {Q : DK}
    (q : ∀ ds m2, ds.length = 12 → (∀ d ∈ ds, smB 3 d = true) → Bs m2 p (k + 48) → SubX p m m2 → Q (.lst (.tup xs :: ds)) m2) : mattersE [some (.ref p), a1, some (.tup xs), a3, a4, a5, a6, a7, a8, a9, a10] m Q := by
  have big := line_eq
  refine go_op (pos_pu (pu_lst (pa_cons (pu_var rfl) pa_nil) (n60 rfl)) fun m1 s1 => ?_)
  refine lx_draw (xs := rgD 0 12) (c := 4) (hb.sub s1) (fun R hR => ?_) (fun i d => smB 3 d = true) (fun i z m' hz hb' K hK => ?_) (by decide) fun acc m2 hlen hP hb2 sx2 => ?_
  · refine go_cons (go_c (go_nil ⟨by decide, by decide, ?_⟩))
    exact hR ⟨rgD 0 12, fun _ => True, none⟩ m1 rfl rfl (fun _ => trivial) (.refl _)
  · have hi : i < 12 := (List.getElem?_eq_some_iff.mp hz).1
    show wCall S__law_bent [] (wCons (wVar 0) (wCons (wVar 2) (wNil))) [some (.ref p), a1, some (.tup xs), a3, a4, a5, a6, a7, a8, a9, some z] m' K
    refine go_call (go_cons (go_var rfl (go_cons (go_var rfl (go_nil ?_)))))
    exact sp_bent (n := 1) hb' (by omega) (Nat.le_refl _) hx h0 (by omega) fun d m2 h1 _ h3 h4 => hK d m2 h1 (h3.le (by rw [Nat.mul_add]; omega)) h4
  · have hl12 : acc.length = 12 := hlen
    refine dAdd_list (xs := [.tup xs]) (ys := acc) rfl rfl (by rw [hl12]; simp; omega) ?_
    rw [newL_data]
    refine q acc m2 hl12 (fun d hd => ?_) (hb2.le (by show k + 4 * 12 ≤ k + 48; omega)) ((Sub.x s1).trans sx2)
    obtain ⟨i, hi⟩ := List.getElem?_of_mem hd
    exact hP i d hi
theorem pu_callK1 {S0 : DSp} {x v : DV} (ha : PuE wa δ m x) (hs : PuS S0 [x] m v) : PuE (wCallN 0 (["thing"] : List Str).length S0 (fun ds es => pick [0] ds es) (wNil) (wCons wa (wNil))) δ m v := fun m' Q s q =>
  show (wNil δ m' fun ds m1 => (wCons wa wNil) δ m1 fun es m2 => ds.length = 0 ∧ es.length = _ ∧ S0 (pick [0] ds es) m2 Q) from
  go_nil (go_cons (ha m' _ s fun m1 s1 => go_nil ⟨rfl, rfl, hs m1 Q (s.trans s1) fun m2 s2 => q m2 (s1.trans s2)⟩))
theorem eq_strN {x : Str} : Pu2 (dEq true) (.str x) (.str x) m (.bl false) := fun m' Q s q => by
  have := ne_str (m := m) (x := x) (y := x) m' Q s
  rw [decide_eq_true rfl] at this
  exact this q
abbrev bdy1 : DS := wSeq (wPar 7 8 (wCons (wB dRepr (wCons (wVar 6) (wNil))) (wCons (wCall S__law_is_due [] (wCons (wVar 6) (wNil))) (wNil)))) (wIfS (wOrT (wNotT (wTru (wCall (S__law_same 6) [] (wCons (wLst false (wCons (wCall S_is_call [] (wCons (wVar 6) (wNil))) (wCons (wCallN 0 (["thing"] : List Str).length S_is_call (fun ds es => pick [0] ds es) (wNil) (wCons (wVar 6) (wNil))) (wNil)))) (wCons (wLst false (wCons (wVar 8) (wCons (wVar 8) (wNil)))) (wNil)))))) (wBl (wOp (dEq true) (wB dRepr (wCons (wVar 6) (wNil))) (wVar 7)))) (wRet (wC (.bl false))) (wNext))
theorem bdy_X (h : smB 5 d = true) : PuX bdy1 [a1, a2, a3, a4, a5, a6, some d, a7, a8, a9, a10] m (fun δ' => ∃ c7 c8, δ' = [a1, a2, a3, a4, a5, a6, some d, c7, c8, a9, a10]) (fun _ => False) := by
  have big := line_eq
  obtain ⟨t, ht⟩ := pu_reprS (m := m) h
  refine px_seq (M := fun δ' => δ' = [a1, a2, a3, a4, a5, a6, some d, some (.str t), some (.bl (callB d)), a9, a10]) (px_par (pa_cons (pu_b (pa_cons (pu_var rfl) pa_nil) (ht m)) (pa_cons (call1 (pu_var rfl) (sp_due h)) pa_nil)) rfl) fun δ' e => ?_
  subst e
  refine px_if (b := !true || false) (pt_or (pt_not (pt_tru (call2 (x := .lst [.bl (callB d), .bl (callB d)]) (y := .lst [.bl (callB d), .bl (callB d)]) (pu_lst (pa_cons (call1 (pu_var rfl) (sp_iscall h)) (pa_cons (pu_callK1 (pu_var rfl) (sp_iscall h)) pa_nil)) (n60 rfl)) (pu_lst (pa_cons (pu_var rfl) (pa_cons (pu_var rfl) pa_nil)) (n60 rfl)) (sp_same 6 _ _ _ (same_okN 6 ⟨by simp, fun y hy => ?_⟩))))) fun _ => pt_bl (pu_op (pu_b (pa_cons (pu_var rfl) pa_nil) (ht m)) (pu_var rfl) eq_strN)) (fun z => Bool.noConfusion z) fun _ => px_next ⟨_, _, rfl⟩
  simp only [List.mem_cons, List.not_mem_nil, or_false] at hy
  rcases hy with rfl | rfl <;> exact rfl
end
end Law
namespace Law
open PySem PySem.Spec PyProof.Rows L2 DL
section
variable {m : Sto} {δ : Slots} {w wa wb wi : DE} {n : Nat} {x d : DV} {p q a : Addr} {c k : Nat} {i j : Int} {a1 a2 a3 a4 a5 a6 a7 a8 a9 a10 : Option DV}
theorem isB_E {b c : Bool} : Pu2 (dIsB true) (.bl b) (.bl c) m (.bl (!decide (b = c))) := fun m' Q _ q => by
  have := q m' (.refl _)
  show Q (.bl (xor true (decide (b = c)))) m'
  rw [Bool.true_xor]; exact this
theorem names_in : (sortT.map (·.1)).all (fun y => (lkT tab_FORMS y).isSome) = true := by decide +kernel
theorem sm_tupE {n : Nat} {xs : List DV} (h : smB (n + 1) (.tup xs) = true) : ∀ x ∈ xs, smB n x = true := (sm_tup h).2
theorem twice_go {o : DV} (hb : Bs m p k) (hk : k < 700000) (ho : smB 3 o = true) (hol : ∀ ys, o = .tup ys → ys.length ≤ 5) {Q : DK} (q : ∀ t m2, smB 5 t = true → Bs m2 p (k + 4) → SubX p m m2 → Q t m2) :
    wIf (wAndT (wTru (wIsi [.tup] (wVar 4))) (wBl (wOp (dRel fun i j => decide (j < i)) (wB dLen (wCons (wVar 4) (wNil))) (wC (.int 0))))) (wCall S__law_bent [] (wCons (wVar 0) (wCons (wVar 4) (wNil)))) (wC .non) [some (.ref p), a1, a2, a3, some o, a5, a6, a7, a8, a9, a10] m Q := by
  have a := isi_of (m := m) (δ := [some (.ref p), a1, a2, a3, some o, a5, a6, a7, a8, a9, a10]) (i := 4) (ts := [.tup]) ho rfl
  refine go_ifE ?_
  have no : ∀ {t : DT}, PuT t [some (.ref p), a1, a2, a3, some o, a5, a6, a7, a8, a9, a10] m false → t [some (.ref p), a1, a2, a3, some o, a5, a6, a7, a8, a9, a10] m fun b m1 => if b = true then (wCall S__law_bent [] (wCons (wVar 0) (wCons (wVar 4) (wNil)))) [some (.ref p), a1, a2, a3, some o, a5, a6, a7, a8, a9, a10] m1 Q else (wC .non) [some (.ref p), a1, a2, a3, some o, a5, a6, a7, a8, a9, a10] m1 Q := fun h => pos_puT h fun m1 s1 => by
    rw [if_neg Bool.false_ne_true]
    exact go_c (q _ _ rfl ((hb.sub s1).le (by omega)) (Sub.x s1))
  cases o with
  | tup ys =>
    have l0 : PuE (wB dLen (wCons (wVar 4) (wNil))) [some (.ref p), a1, a2, a3, some (.tup ys), a5, a6, a7, a8, a9, a10] m (.int ys.length) := pu_lenT (pu_var rfl)
    cases ys with
    | nil => exact no (pt_and (b := true) (c := false) (pt_tru a) fun _ => pt_gt l0 pu_c)
    | cons z zs =>
      have hl := hol _ rfl
      have l1 := pt_gt l0 (pu_c (v := .int 0))
      rw [decide_eq_true (by rw [List.length_cons]; omega)] at l1
      refine pos_puT (pt_and (b := true) (c := true) (pt_tru a) fun _ => l1) fun m1 s1 => ?_
      rw [if_pos (show (true && true) = true from rfl)]
      refine go_call (go_cons (go_var rfl (go_cons (go_var rfl (go_nil ?_)))))
      exact sp_bent (n := 2) (hb.sub s1) (by omega) (by decide) (sm_tupE ho) (by simp) (by omega) fun t m2 h1 _ h3 h4 => q t m2 (smB_up _ h1) h3 ((Sub.x s1).trans h4)
  | _ => first | exact no (pt_and (b := false) (c := false) (pt_tru a) fun z => Bool.noConfusion z) | exact Bool.noConfusion ho
theorem sp_lright (hb : Bs m p 0) {Q : DK} (q : ∀ m', SubX p m m' → Q (.bl true) m') : S__law_right [.ref p] m Q := by
  have big := line_eq
  refine ⟨rfl, ?_⟩
  show w__law_right { nx := fun _ m' => Q .non m', rt := Q } [some (.ref p), none, none, none, none, none, none, none, none, none, none] m
  unfold w__law_right
  refine go_seq ?_
  unfold wFor iAny
  refine sorted_forms fun ys m1 s1 hp => ?_
  have hyl : ys.length = 28 := by rw [hp.length_eq]; decide +kernel
  show forGo ⟨ys.map DV.str, fun m' => asQ m' (.lst (ys.map DV.str)) = some (ys.map DV.str), none⟩ _ _ _ (ys.map DV.str) _ m1
  refine fx_for (xs := ys.map DV.str) rfl rfl (fun i δ m' => ∃ a1 a2 a3 a4 a5 a6 a7 a8 a9 a10, δ = [some (.ref p), a1, a2, a3, a4, a5, a6, a7, a8, a9, a10] ∧ Bs m' p (100 * i) ∧ SubX p m m') (fun _ _ _ _ => rfl) ⟨_, _, _, _, _, _, _, _, _, _, rfl, hb.sub s1, Sub.x s1⟩ ?_ gN_mono ?_
  · rintro i y0 δ m2 hy ⟨a1, a2, a3, a4, a5, a6, a7, a8, a9, a10, rfl, hb2, sx2⟩
    rw [List.getElem?_map] at hy
    cases ey : ys[i]? with
    | none => rw [ey] at hy; cases hy
    | some y =>
      rw [ey] at hy
      cases hy
      have hi : i < ys.length := (List.getElem?_eq_some_iff.mp ey).1
      have hyn : y ∈ sortT.map (·.1) := hp.mem_iff.mp (List.mem_of_getElem? ey)
      have hsy : smB 1 (.str y) = true := List.all_eq_true.mp name_sm y hyn
      have hin := List.all_eq_true.mp names_in y hyn
      obtain ⟨ks, hks⟩ := Option.isSome_iff_exists.mp hin
      obtain ⟨s, hok, hs3, hls, rfl⟩ := look_yes hks
      intro D' hnx hrt hbk hct
      refine go_sset (deed_go hb2 (by omega) hls hok hs3 hks fun ds m3 hdl hds hcall hb3 sx3 => ?_)
      show wSeq _ _ D' [some (.ref p), some (.str y), some (.tup (.str y :: ds)), a3, a4, a5, a6, a7, a8, a9, a10] m3
      have hxe : ∀ x ∈ DV.str y :: ds, smB 1 x = true := fun x hx => by
        rcases List.mem_cons.mp hx with h | h
        · rw [h]; exact hsy
        · exact hds x h
      have hxl : (DV.str y :: ds).length ≤ 4 := by rw [List.length_cons]; omega
      have hdeed : smB 2 (.tup (.str y :: ds)) = true := sm_mkT (by omega) hxe
      refine go_spar (go_cons (matters_go hb3 (by omega) hxe (by simp) hxl fun ms m4 hml hms hb4 sx4 => go_cons (go_call (go_cons (go_var rfl (go_cons (go_var rfl (go_nil ?_))))))))
      refine sp_bent (n := 1) hb4 (by omega) (Nat.le_refl _) hxe (by simp) (by omega) fun o m5 ho hol hb5 sx5 => go_nil ?_
      show wSeq _ _ D' [some (.ref p), some (.str y), some (.tup (.str y :: ds)), some (.lst (.tup (.str y :: ds) :: ms)), some o, a5, a6, a7, a8, a9, a10] m5
      refine go_sset (twice_go hb5 (by omega) ho (fun zs e => by have := hol zs e; omega) fun t m6 ht hb6 sx6 => ?_)
      show wSeq _ _ D' [some (.ref p), some (.str y), some (.tup (.str y :: ds)), some (.lst (.tup (.str y :: ds) :: ms)), some o, some t, a6, a7, a8, a9, a10] m6
      have hall : ∀ z ∈ (.tup (.str y :: ds) :: ms) ++ [t], smB 5 z = true := fun z hz => by
        rcases List.mem_append.mp hz with h | h
        · rcases List.mem_cons.mp h with h | h
          · rw [h]; exact smB_le (by decide) hdeed
          · exact smB_le (by decide) (hms z h)
        · rw [List.mem_singleton.mp h]; exact ht
      have hI : PuI (iAny (wOp (dAdd false) (wVar 3) (wLst false (wCons (wVar 5) (wNil))))) [some (.ref p), some (.str y), some (.tup (.str y :: ds)), some (.lst (.tup (.str y :: ds) :: ms)), some o, some t, a6, a7, a8, a9, a10] m6 ((.tup (.str y :: ds) :: ms) ++ [t]) := pi_any (pu_op (pu_var rfl) (pu_lst (pa_cons (pu_var rfl) pa_nil) (n60 rfl)) (cat_L (by rw [List.length_cons, hml]; simp; omega))) rfl
      refine go_seq (fr_for (m := m6) (xs := (.tup (.str y :: ds) :: ms) ++ [t]) hI (.refl _) (fun i δ m1 => ∃ a6 a7 a8, δ = [some (.ref p), some (.str y), some (.tup (.str y :: ds)), some (.lst (.tup (.str y :: ds) :: ms)), some o, some t, a6, a7, a8, a9, a10] ∧ Sub m6 m1)
        (fun m1 s1 => ⟨_, _, _, rfl, s1⟩) (fun i δ m1 ⟨_, _, _, _, s⟩ => s) ?_ ?_)
      · rintro j z δ m7 hz ⟨b6, b7, b8, rfl, s7⟩
        refine ⟨_, fun m Q q => q, fun D2 hnx2 hrt2 hbk2 hct2 => ?_⟩
        exact bdy_X (hall z (List.mem_of_getElem? hz)) D2 m7 (.refl _) (fun δ' m8 s8 ⟨c7, c8, e⟩ => hnx2 _ _ ⟨_, _, _, e, s7.trans s8⟩) fun _ _ _ z => False.elim z
      · rintro δ m7 ⟨b6, b7, b8, rfl, s7⟩
        dsimp only
        have tst := pt_bl (pu_op (call1 (pu_var (δ := [some (.ref p), some (.str y), some (.tup (.str y :: ds)), some (.lst (.tup (.str y :: ds) :: ms)), some o, some t, b6, b7, b8, a9, a10]) (m := m7) (i := 2) rfl) (sp_iscall hdeed)) (pu_c (v := .bl true)) isB_E)
        rw [hcall] at tst
        refine go_if (pos_puT tst fun m8 s8 => ?_)
        have fin : wNext D' [some (.ref p), some (.str y), some (.tup (.str y :: ds)), some (.lst (.tup (.str y :: ds) :: ms)), some o, some t, b6, b7, b8, a9, a10] m8 := go_next (hnx _ _ ⟨_, _, _, _, _, _, _, _, _, _, rfl, ((hb6.sub s7).sub s8).le (by omega), ((((((sx2.trans sx3).trans sx4).trans sx5).trans sx6).trans (Sub.x s7)).trans (Sub.x s8))⟩)
        exact fin
  · rintro δ m2 ⟨a1, a2, a3, a4, a5, a6, a7, a8, a9, a10, rfl, hb2, sx2⟩
    dsimp only
    exact go_ret (go_c (q _ sx2))
end
end Law
namespace Law
open PySem PySem.Spec PyProof.Rows L2 DL
section
variable {m : Sto} {δ : Slots} {w wa wb wi : DE} {n : Nat} {x d : DV} {p q a : Addr} {c k : Nat} {i j : Int}
theorem sl_L {xs : List DV} {lo hi : Option Int} {Q : DK} (h : asL m d = some xs) (q : Q (.lst (DL.cutD xs lo hi)) m) : dSl false d lo hi m Q := by
  have e : newL false (DL.cutD xs lo hi) m Q := by rw [newL_data]; exact q
  cases d <;> first
    | exact ⟨xs, h, e⟩
    | (simp [asL] at h; done)
theorem cut_take {ns : List Int} : DL.cutD (ns.map DV.int) none (some 3) = (ns.take 3).map DV.int := by
  unfold DL.cutD
  have e1 : HT.sIx (ns.map DV.int).length (ns.map DV.int).length (some 3) = min 3 ns.length := by
    unfold HT.sIx
    dsimp only
    rw [if_neg (by decide), List.length_map]; rfl
  rw [e1]
  show List.take (min 3 ns.length - 0) (List.drop 0 (ns.map DV.int)) = _
  rw [Nat.sub_zero, List.drop_zero, List.map_take]
  by_cases h : ns.length ≤ 3
  · rw [Nat.min_eq_right h, List.take_of_length_le (by rw [List.length_map]; omega), List.take_of_length_le (by rw [List.length_map]; omega)]
  · rw [Nat.min_eq_left (by omega)]
theorem cut_rest {ns : List Int} : ∃ rs : List Int, DL.cutD (ns.map DV.int) (some 3) (some 63) = rs.map DV.int ∧ (rs ≠ [] → 3 < ns.length) := by
  unfold DL.cutD
  have e1 : HT.sIx (ns.map DV.int).length 0 (some 3) = min 3 ns.length := by
    unfold HT.sIx
    dsimp only
    rw [if_neg (by decide), List.length_map]; rfl
  rw [e1]
  generalize HT.sIx (ns.map DV.int).length (ns.map DV.int).length (some 63) = z
  refine ⟨(ns.drop (min 3 ns.length)).take (z - min 3 ns.length), by rw [List.map_take, List.map_drop], fun h => ?_⟩
  by_cases h3 : 3 < ns.length
  · exact h3
  · exfalso
    apply h
    rw [Nat.min_eq_right (by omega), List.drop_length, List.take_nil]
theorem go_partV {l : Nat} {Q : Option Int → Sto → Prop} (hd : δ[l]? = some (some (.int i))) (h : Q (some i) m) : wPart (some (wVar l)) δ m Q := by
  have := go_var (i := l) (m := m) (δ := δ) (Q := fun d m1 => match d with
    | .int i => Q (some i) m1
    | _ => False) hd h
  exact this
theorem lo_L {mu : Bool} {xs : List DV} {Q : DK} (h : newL mu xs m Q) : dListOf mu [.lst xs] m Q := h
theorem go_partC {Q : Option Int → Sto → Prop} (h : Q (some i) m) : wPart (some (wC (.int i))) δ m Q := h
theorem go_partN {Q : Option Int → Sto → Prop} (h : Q none m) : wPart none δ m Q := h
theorem sp_folded {ns : List Int} (hd : asL m d = some (ns.map DV.int)) {Q : DK} (q : ∀ (a : Addr) (cs : List Int) (m2 : Sto), m2 a = some (.lst (cs.map DV.int)) → 1 ≤ cs.length → cs.length ≤ 3 → Q (.ref a) m2) : S__law_folded [d, .int 3] m Q := by
  have big := line_eq
  refine ⟨rfl, ?_⟩
  show w__law_folded { nx := fun _ m' => Q .non m', rt := Q } [some d, some (.int 3), none, none, none] m
  unfold w__law_folded
  obtain ⟨rs, hrs, hrs3⟩ := cut_rest (ns := ns)
  have main : ∀ (a : Addr) (cs : List Int) (m1 : Sto), m a = none → Sub m m1 → m1 a = some (.lst (cs.map DV.int)) → 1 ≤ cs.length → cs.length ≤ 3 → (3 < ns.length → cs.length = 3) → wSeq (wFor (iEnumD (wCons (wSl false (wVar 0) (some (wVar 1)) (some (wC (.int 63)))) (wNil))) (gSeq 2 (gConsD (gN 3) (gConsD (gN 4) (gNilD)))) (wAsg (wOp (dAdd false) (wOp dIx (wVar 2) (wOp (dMod) (wVar 3) (wVar 1))) (wOp (dMul false) (wVar 4) (wOp (dAdd false) (wVar 3) (wC (.int 2))))) (gSubD (wVar 2) (wOp (dMod) (wVar 3) (wVar 1))))) (wRet (wVar 2)) { nx := fun _ m' => Q .non m', rt := Q } [some d, some (.int 3), some (.ref a), none, none] m1 := fun a cs m1 ha s1 e1 h1 h3 h33 => by
    have hI : PuI (iEnumD (wCons (wSl false (wVar 0) (some (wVar 1)) (some (wC (.int 63)))) (wNil))) [some d, some (.int 3), some (.ref a), none, none] m (enD 0 (rs.map DV.int)) := fun m' K s k => by
      unfold iEnumD
      refine go_cons (go_var rfl (go_partV rfl (go_partC ?_)))
      refine sl_L (asL_sub hd s) (go_nil ?_)
      rw [hrs]
      exact k ⟨enD 0 (rs.map DV.int), fun m => asL m (.lst (rs.map DV.int)) = some (rs.map DV.int), none⟩ m' (.refl _) rfl rfl fun m2 _ => rfl
    refine go_seq (fr_for (m := m) (xs := enD 0 (rs.map DV.int)) hI s1 (fun i δ m1 => ∃ (x y : Option DV) (cs : List Int), δ = [some d, some (.int 3), some (.ref a), x, y] ∧ Sub m m1 ∧ m1 a = some (.lst (cs.map DV.int)) ∧ 1 ≤ cs.length ∧ cs.length ≤ 3 ∧ (3 < ns.length → cs.length = 3))
      (fun m2 s2 => ⟨_, _, cs, rfl, s1.trans s2, s2 _ _ e1, h1, h3, h33⟩) (fun i δ m1 ⟨_, _, _, _, s, _⟩ => s) ?_ ?_)
    · rintro i y δ m2 hy ⟨x, z, cs, rfl, s2, e2, g1, g3, g33⟩
      rw [enD_get, List.getElem?_map] at hy
      cases er : rs[i]? with
      | none => rw [er] at hy; cases hy
      | some v =>
        rw [er] at hy
        cases hy
        have hne : rs ≠ [] := fun z => by rw [z] at er; cases er
        have hl3 := g33 (hrs3 hne)
        refine ⟨[some d, some (.int 3), some (.ref a), some (.int ((0 + i : Nat) : Int)), some (.int v)], fun m Q q => ⟨rfl, rfl, q⟩, fun D' hnx hrt hbk hct => ?_⟩
        generalize hj : ((0 + i : Nat) : Int) = j
        have hj0 : 0 ≤ j := by omega
        have hm0 := Int.emod_nonneg j (b := 3) (by decide)
        have hm1 := Int.emod_lt_of_pos j (b := 3) (by decide)
        have hlt : (j % 3).toNat < cs.length := by omega
        have hix : ixN (cs.map DV.int).length (j % 3) = some (j % 3).toNat := by
          unfold ixN
          rw [if_pos hm0, if_pos (by rw [List.length_map]; omega)]
        have hat : atI (cs.map DV.int) (j % 3) = some (.int cs[(j % 3).toNat]) := by
          unfold atI
          rw [hix]
          show (cs.map DV.int)[(j % 3).toNat]? = _
          rw [List.getElem?_map, List.getElem?_eq_getElem hlt]; rfl
        have p64 : (2 : Int) ^ 64 = 18446744073709551616 := by decide
        have hjs : j < 1000000000 ∨ ¬ j < 1000000000 := by omega
        refine go_asgS (go_op (go_op (go_var rfl (go_op (go_var rfl (go_var rfl (go_mod (by decide) (ix_at e2 hat ?_))))))))
        refine go_op (go_var rfl (go_op (go_var rfl (go_c (go_add ?_)))))
        refine go_mul (.inr ⟨by omega, ?_⟩) (go_add ?_)
        · have hi : i < rs.length := (List.getElem?_eq_some_iff.mp er).1
          have hrl : rs.length ≤ 63 := by
            have e := congrArg List.length hrs
            rw [List.length_map] at e
            rw [← e]
            unfold DL.cutD
            rw [List.length_take]
            have : HT.sIx (ns.map DV.int).length (ns.map DV.int).length (some 63) ≤ 63 := by
              unfold HT.sIx
              dsimp only
              rw [if_neg (by decide)]
              exact Nat.min_le_left _ _
            omega
          omega
        refine go_var rfl (go_op (go_var rfl (go_var rfl (go_mod (by decide) (set_at e2 hix ?_)))))
        refine hnx _ _ ⟨_, _, cs.set (j % 3).toNat (cs[(j % 3).toNat] + v * (j + 2)), rfl, Sub.put2 ha s2, ?_, by rw [List.length_set]; exact g1, by rw [List.length_set]; exact g3, fun z => by rw [List.length_set]; exact g33 z⟩
        rw [put_same, List.map_set]
    · rintro δ m2 ⟨x, z, cs, rfl, s2, e2, g1, g3, g33⟩
      dsimp only
      exact go_ret (go_var rfl (q a cs m2 e2 g1 g3))
  refine go_sset ?_
  show (wB (dListOf true) (wCons (wSl false (wVar 0) none (some (wVar 1))) (wNil))) _ m fun x m1 => truD m1 x fun b => if b = true then _ else (wLst true (wCons (wC (.int 0)) (wNil))) _ m1 _
  refine go_b (go_cons (go_var rfl (go_partN (go_partV rfl ?_))))
  refine sl_L hd (go_nil ?_)
  rw [cut_take]
  refine lo_L ?_
  refine go_new fun a ha => ?_
  have ea : (DL.put m a (.lst ((ns.take 3).map DV.int))) a = some (.lst ((ns.take 3).map DV.int)) := put_same
  have s1 : Sub m (DL.put m a (.lst ((ns.take 3).map DV.int))) := Sub.put ha
  show (match (DL.put m a (.lst ((ns.take 3).map DV.int))) a with
    | some (.lst xs) => _
    | some (.dct kvs) => _
    | _ => False)
  rw [ea]
  cases ns with
  | nil =>
    show (if (!List.isEmpty (List.map DV.int (List.take 3 []))) = true then _ else _)
    rw [if_neg (by decide)]
    refine go_lst (go_cons (go_c (go_nil ⟨by simp; omega, go_new fun b hb => ?_⟩)))
    have hmb : m b = none := by
      cases e : m b with
      | none => rfl
      | some o => rw [s1 _ _ e] at hb; cases hb
    exact main b [0] _ hmb (s1.trans (Sub.put hb)) put_same (by decide) (by decide) fun z => by cases z
  | cons y r =>
    show (if (!List.isEmpty (List.map DV.int (List.take 3 (y :: r)))) = true then _ else _)
    rw [if_pos (show (!List.isEmpty (List.map DV.int (List.take 3 (y :: r)))) = true from rfl)]
    refine main a ((y :: r).take 3) _ ha s1 put_same ?_ ?_ ?_
    · rw [List.length_take, List.length_cons]; omega
    · rw [List.length_take]; omega
    · intro z; rw [List.length_take]; omega
/-- the law of one script -/
theorem plain (d : DV) (ns : List Int) (m : Sto) (Q : DK) (h : asL m d = some (ns.map DV.int)) (hl : ns.length ≤ 63) (q : ∀ m', Q (.bl true) m') : S_law [d] m Q := by
  have big := line_eq
  refine ⟨rfl, ?_⟩
  show w_law { nx := fun _ m' => Q .non m', rt := Q } [some d, none, none] m
  unfold w_law
  refine go_sset (go_call (go_cons (go_var rfl (go_cons (go_c (go_nil ?_))))))
  refine sp_folded h fun a cs m2 ha h1 h3 => ?_
  show wRet _ _ [some d, some (.ref a), none] m2
  refine go_ret ?_
  have hlen : PuE (wB dLen (wCons (wVar 1) (wNil))) [some d, some (.ref a), none] m2 (.int cs.length) := by
    have := len_Q (m := m2) (δ := [some d, some (.ref a), none]) (w := wVar 1) (d := .ref a) (xs := cs.map DV.int) (pu_var rfl) fun m' s => st_asQ (s _ _ ha)
    rw [List.length_map] at this
    exact this
  have hI : PuI (iRngD (wCons (wB dLen (wCons (wVar 1) (wNil))) (wNil))) [some d, some (.ref a), none] m2 (rgD 0 (cs.length : Int).toNat) := fun m' K s k =>
    (pa_cons hlen pa_nil) m' _ s fun m1 s1 => ⟨by omega, by omega, k _ m1 s1 rfl rfl fun _ _ => trivial⟩
  have lc := pu_lc (m := m2) (δ := [some d, some (.ref a), none]) (g := gN 2) (vs := [2]) (tt := wYes) (te := wCall S__law_right [] (wCons (wCall S__law_stream [] (wCons (wVar 1) (wCons (wVar 2) (wNil)))) (wNil))) (fun _ => true) (fun _ => .bl true) hI (by unfold rgD; rw [List.length_map, List.length_range]; omega) fun y hy => by
    obtain ⟨i, hi⟩ := List.getElem?_of_mem hy
    obtain ⟨h1, rfl⟩ := rg_get hi
    refine ⟨_, fun m Q q => q, pt_yes, fun _ m' Q s q => ?_⟩
    refine go_call (go_cons (go_call (go_cons (go_var rfl (go_cons (go_var rfl (go_nil ?_)))))))
    refine sp_stream (k := i) (s _ _ ha) (by omega) (by omega) fun p x y hp hx hy1 hy2 => ?_
    refine go_nil ?_
    have hbx : Bs (DL.put m' p (.lst [.int x, .int y, .int 0])) p 0 := ⟨x, y, 0, put_same, hx, hy1, hy2, Nat.le_refl _⟩
    refine sp_lright hbx fun m2 sx => q m2 fun a o e => ?_
    have hap : a ≠ p := fun z => by rw [z, hp] at e; cases e
    exact sx a o hap (by rw [put_ne hap]; exact e)
  refine pos_pu (pu_all lc fun b hb => ?_) fun m2 _ => q m2
  rw [lcF_map] at hb
  obtain ⟨_, _, rfl⟩ := List.mem_map.mp hb
  rfl
end
end Law
open PySem PySem.W PySem.Calls PyProof.Rows
theorem PySem.Challenge.cw_treethaw_k01_calls_or_not_holds : PySem.Challenge.rw_treethaw_k01_calls_or_not.Holds := by
  w_on; o_law
  refine HandSHeadRun.head_any (r := OpenLaw.row PySem.Challenge.rw_treethaw_k01_calls_or_not) (q := view (OpenLaw.row PySem.Challenge.rw_treethaw_k01_calls_or_not).prog [30]) (H := Law.hk) (ob := Law.ob) (M := 20000) (loose := Law.looseP) (d := HandSHeadRun.topDef (OpenLaw.row PySem.Challenge.rw_treethaw_k01_calls_or_not).prog 30) (kwd := []) Law.ob_eq
    (by kernel_rfl) (fun s => by kernel_rfl) Law.run (by kernel_rfl) (by kernel_rfl) (by kernel_rfl) (by rfl) (by first | assumption | decide +kernel) (by decide +kernel) ⟨rfl, rfl, rfl, rfl, rfl, by decide +kernel⟩ ?hw ?hc
  case hw => w_witness2
  case hc =>
    refine DL.walk_ofG (l := PySem.Challenge.rw_treethaw_k01_calls_or_not) (n := 63) (k := 8) (x := "_law_script") (CX := L2.CX0) rfl (by decide) (by kernel_rfl) ⟨rfl, by decide, by decide⟩ ?F (fun _ _ _ _ z => z)
    intro w mg fa h Y G hmg0
    obtain ⟨K, KX, c⟩ := Y
    have hmg : mg ("law" : PySem.Str) = some (.ref fa) := by
      have e : (HandSHeadRun.topDef (OpenLaw.row PySem.Challenge.rw_treethaw_k01_calls_or_not).prog 30).name = ("law" : PySem.Str) := by kernel_rfl
      rw [← e]
      exact hmg0
    have cx := Law.cxt_of KX G c
    have ea := hmg.symm.trans (He.glo_ok KX G (c.t.d.fact 40 (f := .glo "law") rfl))
    cases ea
    obtain ⟨fd, Fd, Fu⟩ := Law.ok_law (P := (PySem.Challenge.rw_treethaw_k01_calls_or_not).prog) (w := w) (base := h) cx
    refine ⟨K, fd, _, KX, fun s v => (Fu.bindsA (ps := ["_law_script"]) (fun _ _ _ _ _ _ us hl => match us, hl with | [_], _ => rfl)) s [v] rfl, fun H a ns hl hb _ hS => Law.law_sp Law.plain H a ns hl hS, fun base _ _ => ?_⟩
    obtain ⟨fd2, Fd2, Fu2⟩ := Law.ok_law (P := (PySem.Challenge.rw_treethaw_k01_calls_or_not).prog) (w := w) (base := base) cx
    cases DL.funD_fd Fu Fu2
    exact Fd2.ok
