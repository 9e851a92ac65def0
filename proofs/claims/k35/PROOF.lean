import PyProof.Rows.All
import Wide.All
import OpenK.AllK
import Wide.FinOn
import HandS.ForMost
import HandS.Evl
import HandS.Wide
import HandS.IsInst
import HandS.Flow
import HandS.DictComp
import HandS.EndBits
import HandS.DictEq
import HandS.TupAny
import HandS.Words
import HandS.Style
import HandS.TryOnly
import HandS.Small
import HandS.Zip
import HandS.SetFor
import HandS.WordsDict
import HandS.SortInts
import HandS.DictTup
import HandS.Strs
import HandS.Comp
import HandS.Ends
import HandS.HeadEnd
import HandS.Defaults
import HandS.HeadHook1
import HandS.HeadHook2
import HandS.Conv
import PyProof.ReprRoads
import HandS.Deep
import HandS.RaiseMore
import KE.KRevSl
import HandS.SortRule
import HandS.Head0
import HandS.Head1
import HandS.Head2
import KE.KStateDown
import Lean
import PySem.Challenge.RW_treethaw_k35_known_families
set_option Elab.async false
set_option linter.all false
set_option maxRecDepth 100000
set_option maxHeartbeats 4000000
namespace DL
open PySem PySem.Spec PyProof.Rows L2
/-- a value: data as trees (ktup: a tuple written at the top); ref: an object of the store (or any other address) -/
inductive DV where
  | non | bl (b : Bool) | int (i : Int) | str (x : Str) | ref (a : Addr)
  | lst (xs : List DV) | tup (xs : List DV) | ktup (xs : List DV) | klst (xs : List DV)
/-- an object that may change -/
inductive MO where
  | lst (xs : List DV) | dct (kvs : List (Key × DV)) | dcT (kvs : List (List Key × DV)) | ins (c : Nat) (fs : List (Nat × DV))
  /-- a dict that is being walked -/
  | lck (o : Obj) (kv : List (Key × V)) (kvs : List (Key × DV))
abbrev Sto := Addr → Option MO
def put (m : Sto) (a : Addr) (o : MO) : Sto := fun b => if b = a then some o else m b
def rmv (m : Sto) (a : Addr) : Sto := fun b => if b = a then none else m b
theorem put_same {m : Sto} {a : Addr} {o : MO} : put m a o a = some o := if_pos rfl
theorem put_ne {m : Sto} {a b : Addr} {o : MO} (h : b ≠ a) : put m a o b = m b := if_neg h
theorem rmv_ne {m : Sto} {a b : Addr} (h : b ≠ a) : rmv m a b = m b := if_neg h
theorem rmv_same {m : Sto} {a : Addr} : rmv m a a = none := if_pos rfl
theorem put_put {m : Sto} {a : Addr} {o u : MO} : put (put m a o) a u = put m a u := by
  funext b; unfold put; split <;> rfl
theorem put_comm {m : Sto} {a b : Addr} {o u : MO} (h : a ≠ b) : put (put m a o) b u = put (put m b u) a o := by
  funext c; unfold put
  by_cases h1 : c = a
  · subst h1; rw [if_neg h, if_pos rfl, if_pos rfl]
  · by_cases h2 : c = b
    · subst h2; rw [if_pos rfl, if_neg h1, if_pos rfl]
    · rw [if_neg h2, if_neg h1, if_neg h1, if_neg h2]
theorem rmv_put {m : Sto} {a : Addr} {o : MO} (h : m a = none) : rmv (put m a o) a = m := by
  funext b; unfold rmv put
  by_cases h1 : b = a
  · subst h1; rw [if_pos rfl, h]
  · rw [if_neg h1, if_neg h1]
theorem put_self {m : Sto} {a : Addr} {o : MO} (h : m a = some o) : put m a o = m := by
  funext b; unfold put
  by_cases h1 : b = a
  · subst h1; rw [if_pos rfl, h]
  · rw [if_neg h1]
/-- what is told of the classes and the names of fields -/
structure Gam where
  K : PySem.W.Frag
  cls : Nat → Addr
  fld : Nat → Str
mutual
inductive VR (K : PySem.W.Frag) (F : Hp) : V → DV → Prop
  | non : VR K F .non .non
  | bl (b : Bool) : VR K F (.bl b) (.bl b)
  | int (i : Int) : VR K F (.int i) (.int i)
  | str (x : Str) : VR K F (.str x) (.str x)
  | ref (a : Addr) : VR K F (.ref a) (.ref a)
  | lst {a : Addr} {vs : List V} {ds : List DV} : Rd F a (.lst vs) → VRs K F vs ds → VR K F (.ref a) (.lst ds)
  | tup {a : Addr} {vs : List V} {ds : List DV} : F a = some (.tup vs) → VRs K F vs ds → VR K F (.ref a) (.tup ds)
  | ktup {a : Addr} {vs : List V} {ds : List DV} : SqT K (fun _ => none) a vs → VRs K F vs ds → VR K F (.ref a) (.ktup ds)
  | klst {a : Addr} {vs : List V} {ds : List DV} : SqL K (fun _ => none) a vs → VRs K F vs ds → VR K F (.ref a) (.klst ds)
inductive VRs (K : PySem.W.Frag) (F : Hp) : List V → List DV → Prop
  | nil : VRs K F [] []
  | cons {v : V} {vs : List V} {d : DV} {ds : List DV} : VR K F v d → VRs K F vs ds → VRs K F (v :: vs) (d :: ds)
end
abbrev Ex (F F' : Hp) : Prop := ∀ a o, F a = some o → F' a = some o
theorem Ex.refl (F : Hp) : Ex F F := fun _ _ h => h
theorem Ex.trans {F F1 F2 : Hp} (a : Ex F F1) (b : Ex F1 F2) : Ex F F2 := fun x o h => b x o (a x o h)
theorem ex_none {F : Hp} : Ex (fun _ => none) F := fun a o e => by
  have e' : (none : Option HO) = some o := e
  cases e'
theorem Ex.rd {F F' : Hp} {a : Addr} {u : HO} (e : Ex F F') (h : Rd F a u) : Rd F' a u := by
  rcases h with h | ⟨o, h⟩
  · exact Or.inl (e a _ h)
  · exact Or.inr ⟨o, e a _ h⟩
theorem Ex.sqL {K : PySem.W.Frag} {F F' : Hp} {a : Addr} {xs : List V} (e : Ex F F') (h : SqL K F a xs) : SqL K F' a xs := by
  rcases h with h | h
  · exact Or.inl (e.rd h)
  · exact Or.inr h
theorem Ex.sqT {K : PySem.W.Frag} {F F' : Hp} {a : Addr} {xs : List V} (e : Ex F F') (h : SqT K F a xs) : SqT K F' a xs := by
  rcases h with h | h
  · exact Or.inl (e.rd h)
  · exact Or.inr h
theorem Ex.new {F : Hp} {p : Addr} {o : HO} (h : F p = none) : Ex F (upd F p o) := fun a u e => by
  rw [upd_ne (ne_of_none e h)]
  exact e
mutual
theorem VR.mono {K : PySem.W.Frag} {F F' : Hp} (e : Ex F F') : ∀ {v : V} {d : DV}, VR K F v d → VR K F' v d
  | _, _, .non => .non
  | _, _, .bl b => .bl b
  | _, _, .int i => .int i
  | _, _, .str x => .str x
  | _, _, .ref a => .ref a
  | _, _, .lst h r => .lst (e.rd h) (VRs.mono e r)
  | _, _, .tup h r => .tup (e _ _ h) (VRs.mono e r)
  | _, _, .ktup h r => .ktup h (VRs.mono e r)
  | _, _, .klst h r => .klst h (VRs.mono e r)
theorem VRs.mono {K : PySem.W.Frag} {F F' : Hp} (e : Ex F F') : ∀ {vs : List V} {ds : List DV}, VRs K F vs ds → VRs K F' vs ds
  | _, _, .nil => .nil
  | _, _, .cons h r => .cons (VR.mono e h) (VRs.mono e r)
end
section
variable {K : PySem.W.Frag} {F : Hp}
theorem VRs.length : ∀ {vs : List V} {ds : List DV}, VRs K F vs ds → vs.length = ds.length
  | _, _, .nil => rfl
  | _, _, .cons _ r => by rw [List.length_cons, List.length_cons, r.length]
theorem VRs.get : ∀ {vs : List V} {ds : List DV} {i : Nat} {d : DV}, VRs K F vs ds → ds[i]? = some d → ∃ v, vs[i]? = some v ∧ VR K F v d
  | _, _, _, _, .nil, e => by simp at e
  | _, _, 0, _, .cons r _, e => by simp at e; subst e; exact ⟨_, rfl, r⟩
  | _, _, i + 1, d, .cons _ t, e => by
    obtain ⟨u, h1, h2⟩ := VRs.get (i := i) (d := d) t (by simpa using e)
    exact ⟨u, by simpa using h1, h2⟩
theorem VRs.getV : ∀ {vs : List V} {ds : List DV} {i : Nat} {v : V}, VRs K F vs ds → vs[i]? = some v → ∃ d, ds[i]? = some d ∧ VR K F v d
  | _, _, _, _, .nil, e => by simp at e
  | _, _, 0, _, .cons r _, e => by simp at e; subst e; exact ⟨_, rfl, r⟩
  | _, _, i + 1, v, .cons _ t, e => by
    obtain ⟨u, h1, h2⟩ := VRs.getV (i := i) (v := v) t (by simpa using e)
    exact ⟨u, by simpa using h1, h2⟩
theorem VRs.append : ∀ {vs ws : List V} {ds es : List DV}, VRs K F vs ds → VRs K F ws es → VRs K F (vs ++ ws) (ds ++ es)
  | _, _, _, _, .nil, s => s
  | _, _, _, _, .cons r t, s => .cons r (VRs.append t s)
theorem VRs.set {v : V} {d : DV} (r : VR K F v d) : ∀ {vs : List V} {ds : List DV} (i : Nat), VRs K F vs ds → VRs K F (vs.set i v) (ds.set i d)
  | _, _, _, .nil => .nil
  | _, _, 0, .cons _ t => .cons r t
  | _, _, i + 1, .cons q t => .cons q (VRs.set r i t)
theorem VRs.take : ∀ {vs : List V} {ds : List DV} (n : Nat), VRs K F vs ds → VRs K F (vs.take n) (ds.take n)
  | _, _, 0, _ => .nil
  | _, _, _ + 1, .nil => .nil
  | _, _, n + 1, .cons r t => .cons r (VRs.take n t)
theorem VRs.drop : ∀ {vs : List V} {ds : List DV} (n : Nat), VRs K F vs ds → VRs K F (vs.drop n) (ds.drop n)
  | _, _, 0, r => r
  | _, _, _ + 1, .nil => .nil
  | _, _, n + 1, .cons _ t => VRs.drop n t
theorem VRs.one {v : V} {d : DV} (r : VR K F v d) : VRs K F [v] [d] := .cons r .nil
theorem VRs.ints : ∀ {vs : List V} {ns : List Int}, VRs K F vs (ns.map DV.int) → vs = ns.map V.int
  | _, [], h => by cases h; rfl
  | _, n :: ns, h => by
    cases h with
    | cons r t => cases r; rw [VRs.ints t]; rfl
theorem VRs.of_ints : ∀ (ns : List Int), VRs K F (ns.map V.int) (ns.map DV.int)
  | [] => .nil
  | n :: ns => .cons (.int n) (VRs.of_ints ns)
theorem VRs.strs : ∀ {vs : List V} {ns : List Str}, VRs K F vs (ns.map DV.str) → vs = ns.map V.str
  | _, [], h => by cases h; rfl
  | _, n :: ns, h => by
    cases h with
    | cons r t => cases r; rw [VRs.strs t]; rfl
end
/-- pairs of a dict, of fields -/
def KR {κ : Type} (K : PySem.W.Frag) (F : Hp) : List (κ × V) → List (κ × DV) → Prop := Paired fun p q => p.1 = q.1 ∧ VR K F p.2 q.2
def FR (G : Gam) (F : Hp) : List (Str × V) → List (Nat × DV) → Prop := Paired fun p q => p.1 = G.fld q.1 ∧ VR G.K F p.2 q.2
theorem KR.mono {κ : Type} {K : PySem.W.Frag} {F F' : Hp} (e : Ex F F') {a : List (κ × V)} {b : List (κ × DV)} (h : KR K F a b) : KR K F' a b := Paired.mapP h fun _ _ z => ⟨z.1, z.2.mono e⟩
theorem FR.mono {G : Gam} {F F' : Hp} (e : Ex F F') {a : List (Str × V)} {b : List (Nat × DV)} (h : FR G F a b) : FR G F' a b := Paired.mapP h fun _ _ z => ⟨z.1, z.2.mono e⟩
def MR (G : Gam) (F : Hp) : MO → HO → Prop
  | .lst xs, u => ∃ vs, u = .lst vs ∧ VRs G.K F vs xs
  | .dct kvs, u => ∃ kv, u = .dK kv ∧ KR G.K F kv kvs
  | .dcT kvs, u => ∃ kv, u = .dT kv ∧ KR G.K F kv kvs
  | .ins c fs, u => ∃ dx fv, u = .ins (G.cls c) dx fv ∧ FR G F fv fs
  | .lck o kv kvs, u => u = .frz o (.dK kv) ∧ KR G.K F kv kvs
theorem MR.mono {G : Gam} {F F' : Hp} (e : Ex F F') : ∀ {o : MO} {u : HO}, MR G F o u → MR G F' o u
  | .lst _, _, ⟨vs, h, r⟩ => ⟨vs, h, r.mono e⟩
  | .dct _, _, ⟨vs, h, r⟩ => ⟨vs, h, KR.mono e r⟩
  | .dcT _, _, ⟨vs, h, r⟩ => ⟨vs, h, KR.mono e r⟩
  | .ins _ _, _, ⟨dx, fv, h, r⟩ => ⟨dx, fv, h, FR.mono e r⟩
  | .lck _ _ _, _, ⟨h, r⟩ => ⟨h, KR.mono e r⟩
/-- the abstract heap bears the data F and the store m -/
structure Rel (G : Gam) (F : Hp) (m : Sto) (H : Hp) : Prop where
  ex : Ex F H
  mo : ∀ a o, m a = some o → F a = none ∧ ∃ u, H a = some u ∧ MR G F o u
section
variable {G : Gam} {F F' H H' : Hp} {m : Sto} {a p : Addr} {o : MO} {u : HO}
theorem Rel.freeM (r : Rel G F m H) (h : H p = none) : m p = none := by
  cases e : m p with
  | none => rfl
  | some o =>
    obtain ⟨_, u, hu, _⟩ := r.mo p o e
    rw [h] at hu; cases hu
theorem Rel.freeF (r : Rel G F m H) (h : H p = none) : F p = none := by
  cases e : F p with
  | none => rfl
  | some o => rw [r.ex p o e] at h; cases h
/-- more may be known of the heap -/
theorem Rel.grow (r : Rel G F m H) (e : Ex H H') : Rel G F m H' := ⟨r.ex.trans e, fun a o h => let ⟨n, u, hu, q⟩ := r.mo a o h; ⟨n, u, e a u hu, q⟩⟩
/-- new data -/
theorem Rel.data (r : Rel G F m H) (h : H p = none) : Rel G (upd F p u) m (upd H p u) where
  ex := fun b o e => by
    by_cases hb : b = p
    · subst hb; rw [upd_same] at e ⊢; exact e
    · rw [upd_ne hb] at e ⊢; exact r.ex b o e
  mo := fun b o e => by
    obtain ⟨n, w, hw, q⟩ := r.mo b o e
    have hb : b ≠ p := ne_of_none hw h
    exact ⟨by rw [upd_ne hb]; exact n, w, by rw [upd_ne hb]; exact hw, q.mono (Ex.new (r.freeF h))⟩
/-- a new object -/
theorem Rel.newM (r : Rel G F m H) (h : H p = none) (q : MR G F o u) : Rel G F (put m p o) (upd H p u) where
  ex := fun b w e => by
    have hb : b ≠ p := ne_of_none (r.ex b w e) h
    rw [upd_ne hb]; exact r.ex b w e
  mo := fun b w e => by
    by_cases hb : b = p
    · subst hb
      rw [put_same] at e; cases e
      exact ⟨r.freeF h, u, upd_same, q⟩
    · rw [put_ne hb] at e
      obtain ⟨n, w, hw, q⟩ := r.mo b w e
      exact ⟨n, w, by rw [upd_ne hb]; exact hw, q⟩
/-- an object changes -/
theorem Rel.write (r : Rel G F m H) {o' : MO} (h : m p = some o') (q : MR G F o u) : Rel G F (put m p o) (upd H p u) where
  ex := fun b w e => by
    have hb : b ≠ p := ne_of_none e (r.mo p o' h).1
    rw [upd_ne hb]; exact r.ex b w e
  mo := fun b w e => by
    by_cases hb : b = p
    · subst hb
      rw [put_same] at e; cases e
      exact ⟨(r.mo _ o' h).1, u, upd_same, q⟩
    · rw [put_ne hb] at e
      obtain ⟨n, w, hw, q⟩ := r.mo b w e
      exact ⟨n, w, by rw [upd_ne hb]; exact hw, q⟩
/-- an object becomes data -/
theorem Rel.freeze (r : Rel G F m H) (h : m p = some o) (hu : H p = some u) : Rel G (upd F p u) (rmv m p) H where
  ex := fun b w e => by
    by_cases hb : b = p
    · subst hb; rw [upd_same] at e; rw [hu]; exact e
    · rw [upd_ne hb] at e; exact r.ex b w e
  mo := fun b w e => by
    by_cases hb : b = p
    · subst hb; rw [rmv_same] at e; cases e
    · rw [rmv_ne hb] at e
      obtain ⟨n, w, hw, q⟩ := r.mo b w e
      exact ⟨by rw [upd_ne hb]; exact n, w, hw, q.mono (Ex.new (r.mo p o h).1)⟩
end
abbrev Slots := List (Option DV)
/-- the values by slot -/
structure SR (K : PySem.W.Frag) (F : Hp) (σ : L2.St) (δ : Slots) : Prop where
  len : σ.length = δ.length
  at_ : ∀ (i : Nat) (d : DV), δ[i]? = some (some d) → ∃ v, σ[i]? = some (some v) ∧ VR K F v d
theorem SR.mono {K : PySem.W.Frag} {F F' : Hp} {σ : L2.St} {δ : Slots} (e : Ex F F') (h : SR K F σ δ) : SR K F' σ δ :=
  ⟨h.len, fun i d q => let ⟨v, a, b⟩ := h.at_ i d q; ⟨v, a, b.mono e⟩⟩
theorem SR.set {K : PySem.W.Frag} {F : Hp} {σ : L2.St} {δ : Slots} {v : V} {d : DV} (i : Nat) (h : SR K F σ δ) (r : VR K F v d) : SR K F (σ.set i (some v)) (δ.set i (some d)) := by
  refine ⟨by simp [h.len], fun j c q => ?_⟩
  by_cases e : i = j
  · subst e
    by_cases hl : i < δ.length
    · rw [List.getElem?_set_self hl] at q
      cases q
      exact ⟨v, by rw [List.getElem?_set_self (by rw [h.len]; exact hl)], r⟩
    · rw [List.getElem?_eq_none (by simp; omega)] at q; cases q
  · rw [List.getElem?_set_ne e] at q
    obtain ⟨w, a, b⟩ := h.at_ j c q
    exact ⟨w, by rw [List.getElem?_set_ne e]; exact a, b⟩
abbrev DK := DV → Sto → Prop
abbrev DE := Slots → Sto → DK → Prop
abbrev DT := Slots → Sto → (Bool → Sto → Prop) → Prop
abbrev DA := Slots → Sto → (List DV → Sto → Prop) → Prop
structure DEnds where
  nx : Slots → Sto → Prop
  rt : DK
  bk : Slots → Sto → Prop := fun _ _ => False
  ct : Slots → Sto → Prop := fun _ _ => False
abbrev DS := DEnds → Slots → Sto → Prop
/-- what follows, told of data, serves what follows, told of values -/
def Kt (G : Gam) (F : Hp) (Q0 : DK) (Q : VK) : Prop := ∀ d m' v F' H', Q0 d m' → Ex F F' → Rel G F' m' H' → VR G.K F' v d → Q v H'
def KtB (G : Gam) (F : Hp) (Q0 : Bool → Sto → Prop) (Q : Bool → Hp → Prop) : Prop := ∀ b m' F' H', Q0 b m' → Ex F F' → Rel G F' m' H' → Q b H'
def KtA (G : Gam) (F : Hp) (Q0 : List DV → Sto → Prop) (Q : List V → Hp → Prop) : Prop := ∀ ds m' vs F' H', Q0 ds m' → Ex F F' → Rel G F' m' H' → VRs G.K F' vs ds → Q vs H'
def KtS (G : Gam) (F : Hp) (Q0 : Slots → Sto → Prop) (Q : L2.St → Hp → Prop) : Prop := ∀ δ' m' σ' F' H', Q0 δ' m' → Ex F F' → Rel G F' m' H' → SR G.K F' σ' δ' → Q σ' H'
theorem Kt.mono {G : Gam} {F F' : Hp} {Q0 : DK} {Q : VK} (k : Kt G F Q0 Q) (e : Ex F F') : Kt G F' Q0 Q := fun d m v F1 H1 h e1 => k d m v F1 H1 h (e.trans e1)
theorem KtB.mono {G : Gam} {F F' : Hp} {Q0 : Bool → Sto → Prop} {Q : Bool → Hp → Prop} (k : KtB G F Q0 Q) (e : Ex F F') : KtB G F' Q0 Q := fun d m F1 H1 h e1 => k d m F1 H1 h (e.trans e1)
theorem KtA.mono {G : Gam} {F F' : Hp} {Q0 : List DV → Sto → Prop} {Q : List V → Hp → Prop} (k : KtA G F Q0 Q) (e : Ex F F') : KtA G F' Q0 Q := fun d m v F1 H1 h e1 => k d m v F1 H1 h (e.trans e1)
theorem KtS.mono {G : Gam} {F F' : Hp} {Q0 : Slots → Sto → Prop} {Q : L2.St → Hp → Prop} (k : KtS G F Q0 Q) (e : Ex F F') : KtS G F' Q0 Q := fun d m v F1 H1 h e1 => k d m v F1 H1 h (e.trans e1)
structure KtD (G : Gam) (F : Hp) (D0 : DEnds) (D : Ends) : Prop where
  nx : KtS G F D0.nx D.nx
  rt : Kt G F D0.rt D.rt
  bk : KtS G F D0.bk D.bk
  ct : KtS G F D0.ct D.ct
theorem KtD.mono {G : Gam} {F F' : Hp} {D0 : DEnds} {D : Ends} (k : KtD G F D0 D) (e : Ex F F') : KtD G F' D0 D := ⟨k.nx.mono e, k.rt.mono e, k.bk.mono e, k.ct.mono e⟩
/-- the readings over data as readings over the abstract heap -/
def LE (G : Gam) (w : DE) : TE := fun σ H Q => ∃ F m δ Q0, Rel G F m H ∧ SR G.K F σ δ ∧ w δ m Q0 ∧ Kt G F Q0 Q
def LT (G : Gam) (w : DT) : TT := fun σ H Q => ∃ F m δ Q0, Rel G F m H ∧ SR G.K F σ δ ∧ w δ m Q0 ∧ KtB G F Q0 Q
def LA (G : Gam) (w : DA) : TA := fun σ H Q => ∃ F m δ Q0, Rel G F m H ∧ SR G.K F σ δ ∧ w δ m Q0 ∧ KtA G F Q0 Q
def LS (G : Gam) (w : DS) : TS := fun D σ H => ∃ F m δ D0, Rel G F m H ∧ SR G.K F σ δ ∧ w D0 δ m ∧ KtD G F D0 D
theorem PE.imp {X : Cx} {e : Expr} {t t' : TE} (h : PE X e t) (k : ∀ σ H Q, t' σ H Q → t σ H Q) : PE X e t' := ⟨fun pins s σ H Q I q => h.run pins s σ H Q I (k σ H Q q)⟩
theorem PT.imp {X : Cx} {e : Expr} {t t' : TT} (h : PT X e t) (k : ∀ σ H Q, t' σ H Q → t σ H Q) : PT X e t' := ⟨fun pins s σ H Q I q => h.run pins s σ H Q I (k σ H Q q)⟩
theorem PW.imp {X : Cx} {e : Expr} {t t' : TT} (h : PW X e t) (k : ∀ σ H Q, t' σ H Q → t σ H Q) : PW X e t' := ⟨fun wh pins s σ H Q I q => h.run wh pins s σ H Q I (k σ H Q q)⟩
theorem PA.imp {X : Cx} {e : List Expr} {t t' : TA} (h : PA X e t) (k : ∀ σ H Q, t' σ H Q → t σ H Q) : PA X e t' := ⟨fun pos pins s σ H Q I q => h.run pos pins s σ H Q I (k σ H Q q)⟩
theorem PK.imp {X : Cx} {e : List Keyword} {t t' : TA} (h : PK X e t) (k : ∀ σ H Q, t' σ H Q → t σ H Q) : PK X e t' := ⟨fun pos pins s σ H Q I q => h.run pos pins s σ H Q I (k σ H Q q)⟩
theorem PS.imp {X : Cx} {e : Stmt} {t t' : TS} (h : PS X e t) (k : ∀ D σ H, t' D σ H → t D σ H) : PS X e t' := ⟨fun pins s σ H D I q => h.run pins s σ H D I (k D σ H q)⟩
theorem PSs.imp {X : Cx} {e : List Stmt} {t t' : TS} (h : PSs X e t) (k : ∀ D σ H, t' D σ H → t D σ H) : PSs X e t' := ⟨fun pins s σ H D I q => h.run pins s σ H D I (k D σ H q)⟩
end DL
namespace DL
open PySem PySem.Spec PyProof.Rows L2
def asL (m : Sto) : DV → Option (List DV)
  | .lst xs => some xs
  | .klst xs => some xs
  | .ref p => match m p with
    | some (.lst xs) => some xs
    | _ => none
  | _ => none
def asT : DV → Option (List DV)
  | .tup xs => some xs
  | .ktup xs => some xs
  | _ => none
def asQ (m : Sto) : DV → Option (List DV)
  | .tup xs => some xs
  | .ktup xs => some xs
  | d => asL m d
section
variable {G : Gam} {F H : Hp} {m : Sto} {x : V} {d : DV} {xs : List DV}
theorem asL_ok (r : Rel G F m H) (v : VR G.K F x d) (h : asL m d = some xs) : ∃ a vs, x = .ref a ∧ SqL G.K H a vs ∧ VRs G.K F vs xs := by
  cases v with
  | @lst a vs ds hs hr =>
    cases h
    exact ⟨a, vs, rfl, .inl (r.ex.rd hs), hr⟩
  | @klst a vs ds hs hr =>
    cases h
    exact ⟨a, vs, rfl, Ex.sqL ex_none hs, hr⟩
  | ref a =>
    simp only [asL] at h
    cases e : m a with
    | none => rw [e] at h; cases h
    | some o =>
      rw [e] at h
      cases o with
      | lst ys =>
        cases h
        obtain ⟨_, u, hu, vs, rfl, hr⟩ := r.mo a _ e
        exact ⟨a, vs, rfl, SqL.of hu, hr⟩
      | _ => cases h
  | _ => cases h
theorem asT_ok (r : Rel G F m H) (v : VR G.K F x d) (h : asT d = some xs) : ∃ a vs, x = .ref a ∧ SqT G.K H a vs ∧ VRs G.K F vs xs := by
  cases v with
  | @tup a vs ds hs hr =>
    cases h
    exact ⟨a, vs, rfl, SqT.of (r.ex _ _ hs), hr⟩
  | @ktup a vs ds hs hr =>
    cases h
    exact ⟨a, vs, rfl, Ex.sqT ex_none hs, hr⟩
  | _ => cases h
theorem asQ_ok (r : Rel G F m H) (v : VR G.K F x d) (h : asQ m d = some xs) : ∃ a vs, x = .ref a ∧ (SqL G.K H a vs ∨ SqT G.K H a vs) ∧ VRs G.K F vs xs := by
  cases v with
  | @tup a vs ds hs hr =>
    cases h
    exact ⟨a, vs, rfl, .inr (SqT.of (r.ex _ _ hs)), hr⟩
  | @ktup a vs ds hs hr =>
    cases h
    exact ⟨a, vs, rfl, .inr (Ex.sqT ex_none hs), hr⟩
  | lst hs hr =>
    obtain ⟨a, vs, e, q, t⟩ := asL_ok r (.lst hs hr) h
    exact ⟨a, vs, e, .inl q, t⟩
  | klst hs hr =>
    obtain ⟨a, vs, e, q, t⟩ := asL_ok r (.klst hs hr) h
    exact ⟨a, vs, e, .inl q, t⟩
  | ref a =>
    obtain ⟨a, vs, e, q, t⟩ := asL_ok r (.ref a) h
    exact ⟨a, vs, e, .inl q, t⟩
  | _ => cases h
end
/-- a new list: data, or (mu) an object of the store -/
def newL (mu : Bool) (xs : List DV) (m : Sto) (Q : DK) : Prop := if mu = true then ∀ p, m p = none → Q (.ref p) (put m p (.lst xs)) else Q (.lst xs) m
theorem newL_data {xs : List DV} {m : Sto} {Q : DK} : newL false xs m Q = Q (.lst xs) m := rfl
theorem newL_own {xs : List DV} {m : Sto} {Q : DK} : newL true xs m Q = ∀ p, m p = none → Q (.ref p) (put m p (.lst xs)) := rfl
theorem newL_ok {G : Gam} {F H : Hp} {m : Sto} {mu : Bool} {xs : List DV} {vs : List V} {Q0 : DK} {Q : VK} (r : Rel G F m H) (h : newL mu xs m Q0) (k : Kt G F Q0 Q) (v : VRs G.K F vs xs) :
    ∀ p, H p = none → Q (.ref p) (upd H p (.lst vs)) := fun p hp => by
  cases mu with
  | true => exact k _ _ _ F _ (h p (r.freeM hp)) (Ex.refl F) (r.newM hp ⟨vs, rfl, v⟩) (.ref p)
  | false => exact k _ _ _ (upd F p (.lst vs)) _ h (Ex.new (r.freeF hp)) (r.data hp) (.lst (.inl upd_same) (v.mono (Ex.new (r.freeF hp))))
theorem newT_ok {G : Gam} {F H : Hp} {m : Sto} {xs : List DV} {vs : List V} {Q0 : DK} {Q : VK} (r : Rel G F m H) (h : Q0 (.tup xs) m) (k : Kt G F Q0 Q) (v : VRs G.K F vs xs) :
    ∀ p, H p = none → Q (.ref p) (upd H p (.tup vs)) := fun p hp =>
  k _ _ _ (upd F p (.tup vs)) _ h (Ex.new (r.freeF hp)) (r.data hp) (.tup upd_same (v.mono (Ex.new (r.freeF hp))))
/-- a two-place operation, told of data -/
abbrev D2 := DV → DV → Sto → DK → Prop
def LR2 (G : Gam) (R : D2) : R2 := fun x y H Q => ∃ F m d1 d2 Q0, Rel G F m H ∧ VR G.K F x d1 ∧ VR G.K F y d2 ∧ R d1 d2 m Q0 ∧ Kt G F Q0 Q
def wOp (R : D2) (wa wb : DE) : DE := fun δ m Q => wa δ m fun x m1 => wb δ m1 fun y m2 => R x y m2 Q
theorem le_op {G : Gam} {R : D2} {wa wb : DE} {σ : L2.St} {H : Hp} {Q : VK} (h : LE G (wOp R wa wb) σ H Q) : tOp (LR2 G R) (LE G wa) (LE G wb) σ H Q := by
  obtain ⟨F, m, δ, Q0, r, s, h, k⟩ := h
  refine ⟨F, m, δ, _, r, s, h, fun d1 m1 x F1 H1 h1 e1 r1 v1 => ⟨F1, m1, δ, _, r1, s.mono e1, h1, fun d2 m2 y F2 H2 h2 e2 r2 v2 => ?_⟩⟩
  exact ⟨F2, m2, d1, d2, Q0, r2, v1.mono e2, v2, h2, k.mono (e1.trans e2)⟩
theorem pd_op {X : Cx} {G : Gam} {op : Operator} {R : D2} {wa wb : DE} {a b : Expr} {pos : Pos} (ho : OpR X (binaryOp op) (LR2 G R)) (ha : PE X a (LE G wa)) (hb : PE X b (LE G wb)) : PE X (.BinOp a op b pos) (LE G (wOp R wa wb)) :=
  PE.imp (pe_op ho ha hb) fun _ _ _ h => le_op h
theorem pd_cmp {X : Cx} {G : Gam} {op : CmpOp} {R : D2} {wa wb : DE} {a b : Expr} {pos : Pos} (ho : OpR X (compareOp op) (LR2 G R)) (ha : PE X a (LE G wa)) (hb : PE X b (LE G wb)) (hm : behindInMarks op b = false) : PE X (.Compare a [op] [b] pos) (LE G (wOp R wa wb)) :=
  PE.imp (pe_cmpR ho ha hb hm) fun _ _ _ h => le_op h
/-- lists of any provenance joined -/
def rCatL (K : PySem.W.Frag) : R2 := fun x y H Q => ∃ l b xs zs, x = .ref l ∧ y = .ref b ∧ SqL K H l xs ∧ SqL K H b zs ∧ xs.length + zs.length ≤ sizeLine ∧ ∀ p, H p = none → Q (.ref p) (upd H p (.lst (xs ++ zs)))
theorem op_catL {X : Cx} : OpR X (binaryOp .Add) (rCatL X.K) := by
  intro pins s σ H x y v u Q I rx ry h
  obtain ⟨l, b, xs, zs, rfl, rfl, hH, hB, hz, q⟩ := h
  cases rx
  cases ry
  obtain ⟨its, r, ⟨o, n, e, c1, c2, c3⟩, z⟩ := I.list hH
  obtain ⟨its2, r2, ⟨o2, n2, e2, d1, d2, d3⟩, z2⟩ := I.list hB
  obtain ⟨oc, od, dt, sl⟩ := o
  obtain ⟨oc2, od2, dt2, sl2⟩ := o2
  simp only at c1 c2 c3 d1 d2 d3
  subst c1 c2 c3 d1 d2 d3
  have hl := r.length
  have hl2 := r2.length
  refine concat_meets ⟨_, e, rfl⟩ ⟨_, e2, rfl⟩ noFill_list_add seq_list_add PySem.F.slot_list_add PySem.F.entry_list_add (PySem.F.args_list_add_2 _ _) (list_addW l b its.toArray its2.toArray n n2 none none sl sl2 (by simp only [List.size_toArray]; omega)) ⟨e, e2, ?_⟩
  have ea : its.toArray ++ its2.toArray = (its ++ its2).toArray := by simp
  rw [ea]
  exact ⟨.ref _, _, I.lnew (t' := s.toks) (r.append r2) (by rw [List.length_append]; omega), rfl, q _ I.fresh⟩
def dAdd (mu : Bool) : D2 := fun x y m Q => match x, y with
  | .int i, .int j => Q (.int (i + j)) m
  | .int i, .bl k => Q (.int (i + b2i k)) m
  | .str a, .str b => a.length + b.length ≤ sizeLine ∧ Q (.str (a ++ b)) m
  | .tup xs, .tup ys => xs ≠ [] ∧ xs.length + ys.length ≤ sizeLine ∧ Q (.tup (xs ++ ys)) m
  | x, y => ∃ xs ys, asL m x = some xs ∧ asL m y = some ys ∧ xs.length + ys.length ≤ sizeLine ∧ newL mu (xs ++ ys) m Q
theorem dAdd_list {mu : Bool} {x y : DV} {m : Sto} {Q : DK} {xs ys : List DV} (hx : asL m x = some xs) (hy : asL m y = some ys) (h : xs.length + ys.length ≤ sizeLine) (q : newL mu (xs ++ ys) m Q) : dAdd mu x y m Q := by
  cases x <;> first
    | exact ⟨xs, ys, hx, hy, h, q⟩
    | (simp only [asL] at hx; cases hx)
theorem catL_ok {G : Gam} {F H : Hp} {m : Sto} {x y : V} {d1 d2 : DV} {mu : Bool} {Q0 : DK} {Q : VK} (r : Rel G F m H) (v1 : VR G.K F x d1) (v2 : VR G.K F y d2) (k : Kt G F Q0 Q)
    (h : ∃ xs ys, asL m d1 = some xs ∧ asL m d2 = some ys ∧ xs.length + ys.length ≤ sizeLine ∧ newL mu (xs ++ ys) m Q0) : rCatL G.K x y H Q := by
  obtain ⟨xs, ys, hx, hy, hz, q⟩ := h
  obtain ⟨a, vs, rfl, ha, ra⟩ := asL_ok r v1 hx
  obtain ⟨b, ws, rfl, hb, rb⟩ := asL_ok r v2 hy
  exact ⟨a, b, vs, ws, rfl, rfl, ha, hb, by rw [ra.length, rb.length]; exact hz, newL_ok r q k (ra.append rb)⟩
theorem od_add {X : Cx} {G : Gam} (hK : X.K = G.K) (mu : Bool) : OpR X (binaryOp .Add) (LR2 G (dAdd mu)) := by
  intro pins s σ H x y v u Q I rx ry h
  obtain ⟨F, m, d1, d2, Q0, r, v1, v2, h, k⟩ := h
  have viaL : (∃ xs ys, asL m d1 = some xs ∧ asL m d2 = some ys ∧ xs.length + ys.length ≤ sizeLine ∧ newL mu (xs ++ ys) m Q0) → wpAny (model X.prog X.w) X.A (binaryOp .Add v u) (EP X pins σ Q) X.xe s := fun z => by
    refine op_catL pins s σ H x y v u Q I rx ry ?_
    rw [hK]
    exact catL_ok r v1 v2 k z
  cases v1 with
  | int i =>
    cases v2 with
    | int j => exact op_add pins s σ H _ _ v u Q I rx ry ⟨i, j, rfl, rfl, k _ _ _ _ _ h (Ex.refl F) r (.int _)⟩
    | bl j => exact op_add_ib pins s σ H _ _ v u Q I rx ry ⟨i, j, rfl, rfl, k _ _ _ _ _ h (Ex.refl F) r (.int _)⟩
    | _ => exact viaL h
  | str a =>
    cases v2 with
    | str b => exact op_add_str pins s σ H _ _ v u Q I rx ry ⟨a, b, rfl, rfl, h.1, k _ _ _ _ _ h.2 (Ex.refl F) r (.str _)⟩
    | _ => exact viaL h
  | @tup a vs ds hs hr =>
    cases v2 with
    | @tup b ws es ht hq =>
      obtain ⟨h1, h2, h3⟩ := h
      refine op_catT pins s σ H _ _ v u Q I rx ry ⟨a, b, vs, ws, rfl, rfl, ?_, ?_, fun z => h1 ?_, by rw [hr.length, hq.length]; exact h2, fun z => ?_, fun z => newT_ok r h3 k (hr.append hq)⟩
      · rw [hK]; exact SqT.of (r.ex _ _ hs)
      · rw [hK]; exact SqT.of (r.ex _ _ ht)
      · subst z; cases hr; rfl
      · subst z
        cases hq
        have h3' : Q0 (.tup ds) m := by rw [List.append_nil] at h3; exact h3
        exact k _ _ _ _ _ h3' (Ex.refl F) r (.tup hs hr)
    | _ => exact viaL h
  | _ => exact viaL (by cases v2 <;> exact h)
end DL
namespace DL
open PySem PySem.Spec PyProof.Rows L2
def dSub : D2 := fun x y m Q => match x, y with
  | .int i, .int j => Q (.int (i - j)) m
  | _, _ => False
theorem od_sub {X : Cx} {G : Gam} : OpR X (binaryOp .Sub) (LR2 G dSub) := by
  intro pins s σ H x y v u Q I rx ry h
  obtain ⟨F, m, d1, d2, Q0, r, v1, v2, h, k⟩ := h
  cases v1 with
  | int i =>
    cases v2 with
    | int j => exact op_sub pins s σ H _ _ v u Q I rx ry ⟨i, j, rfl, rfl, k _ _ _ _ _ h (Ex.refl F) r (.int _)⟩
    | _ => exact False.elim h
  | _ => exact False.elim (by cases v2 <;> exact h)
/-- a list k times over -/
def rRepL (K : PySem.W.Frag) : R2 := fun x y H Q => ∃ l k xs, x = .ref l ∧ y = .int k ∧ SqL K H l xs ∧ -(2 ^ 63) ≤ k ∧ k < 2 ^ 63 ∧ xs.length * k.toNat ≤ sizeLine ∧ ∀ p, H p = none → Q (.ref p) (upd H p (.lst (List.replicate k.toNat xs).flatten))
theorem op_repL {X : Cx} : OpR X (binaryOp .Mult) (rRepL X.K) := by
  intro pins s σ H x y v u Q I rx ry h
  obtain ⟨l, k, xs, rfl, rfl, hH, h1, h2, hz, q⟩ := h
  cases rx
  obtain ⟨t, rfl⟩ := ry
  obtain ⟨its, r, ⟨o, n, e, c1, c2, c3⟩, z⟩ := I.list hH
  obtain ⟨oc, od, dt, sl⟩ := o
  simp only at c1 c2 c3
  subst c1 c2 c3
  have hl := r.length
  have hlen : its.toArray.size * k.toNat ≤ sizeLine := by rw [List.size_toArray, ← hl]; exact hz
  have hcap : ¬ its.toArray.size * k.toNat > (2 ^ 63 - 1) / 8 := by
    have : (sizeLine : Nat) ≤ (2 ^ 63 - 1) / 8 := by decide
    omega
  have hfit : ¬ (!Builtin.List.listFitsIndex k) = true := by
    rw [fitsIndex_both h1 h2]
    exact Bool.false_ne_true
  have hlong : ¬ Builtin.List.listTooLong (its.toArray.size * k.toNat) = true := by
    rw [notLongL hlen]
    exact Bool.false_ne_true
  have hnew : List.foldl (fun x1 x2 => x1 ++ x2) #[] (List.replicate (if its.toArray.isEmpty = true then 0 else k.toNat) its.toArray) = (List.replicate k.toNat its).flatten.toArray := by
    have f0 : ∀ m : Nat, List.foldl (fun x1 x2 => x1 ++ x2) #[] (List.replicate m its.toArray) = (List.replicate m its).flatten.toArray := fun m => by
      have := foldl_rep its m []
      rw [List.nil_append] at this
      exact this
    rw [f0]
    cases its with
    | nil => simp
    | cons a r' => rw [if_neg (by simp)]
  refine wpAny_binaryOp_repeat_ref (T := "list") (U := "int") (by decide) ⟨_, e, rfl⟩ (fun s' => typeIs_int s' k t) noFill_list_mul F.fills_int_mul F.slot_int_rmul repeat_list F.slot_int_index.lookup
    (call_meets F.slot_int_rmul (typeIs_int s k t) F.entry_int_rmul (F.args_int_rmul_2 _ _) (lm_int_rmul_list_any k t l its.toArray n none sl)
      ⟨e, rfl, ⟨_, e, rfl⟩, call_meets F.slot_list_mul ⟨_, e, rfl⟩ F.entry_list_mul (F.args_list_mul_2 _ _) (lm_list_mul_any l its.toArray n none sl k t hfit hcap hlong) ⟨e, ?_⟩⟩)
  rw [hnew]
  exact ⟨.ref _, _, I.lnew (t' := s.toks) (r.rep k.toNat) (by rw [PyProof.Rows.lm_len_rep_flat, Nat.mul_comm]; exact hz), rfl, q _ I.fresh⟩
theorem VRs.rep {K : PySem.W.Frag} {F : Hp} {vs : List V} {ds : List DV} (h : VRs K F vs ds) : ∀ n : Nat, VRs K F (List.replicate n vs).flatten (List.replicate n ds).flatten
  | 0 => .nil
  | n + 1 => by
    rw [List.replicate_succ, List.replicate_succ, List.flatten_cons, List.flatten_cons]
    exact h.append (VRs.rep h n)
/-- * of two factors of which one is short, or which are together of less than a million bits -/
def CMulD (i j : Int) : Prop := ((-(2 ^ 64) < i ∧ i < 2 ^ 64) ∨ (-(2 ^ 64) < j ∧ j < 2 ^ 64)) ∨ i.natAbs.log2 + j.natAbs.log2 < 1000000
theorem short_bits {i : Int} (h : -(2 ^ 64) < i ∧ i < 2 ^ 64) : Builtin.Int.intBits i ≤ 64 := PyProof.Rows.intBits_le (by
  have e : (2 : Int) ^ 64 = 18446744073709551616 := by decide
  have e2 : (2 : Nat) ^ 64 = 18446744073709551616 := by decide
  rw [e2]; rw [e] at h; omega)
theorem CMulD.ok {i j : Int} (h : CMulD i j) : IntMulOk i j := by
  rcases h with (h | h) | h
  · exact .of_left (short_bits h)
  · exact .of_right (short_bits h)
  · exact CMulW.ok h
theorem op_mulD {X : Cx} : OpR X (binaryOp .Mult) (rI CMulD fun i j => .int (i * j)) := opI fun _ _ _ _ _ _ _ hc q => mul_int q hc.ok
def dMul (mu : Bool) : D2 := fun x y m Q => match x, y with
  | .int i, .int j => CMulD i j ∧ Q (.int (i * j)) m
  | x, .int k => ∃ xs, asL m x = some xs ∧ -(2 ^ 63) ≤ k ∧ k < 2 ^ 63 ∧ xs.length * k.toNat ≤ sizeLine ∧ newL mu (List.replicate k.toNat xs).flatten m Q
  | _, _ => False
theorem od_mul {X : Cx} {G : Gam} (hK : X.K = G.K) (mu : Bool) : OpR X (binaryOp .Mult) (LR2 G (dMul mu)) := by
  intro pins s σ H x y v u Q I rx ry h
  obtain ⟨F, m, d1, d2, Q0, r, v1, v2, h, k⟩ := h
  cases v2 with
  | int j =>
    have viaL : (∃ xs, asL m d1 = some xs ∧ -(2 ^ 63) ≤ j ∧ j < 2 ^ 63 ∧ xs.length * j.toNat ≤ sizeLine ∧ newL mu (List.replicate j.toNat xs).flatten m Q0) → wpAny (model X.prog X.w) X.A (binaryOp .Mult v u) (EP X pins σ Q) X.xe s := fun z => by
      obtain ⟨xs, hx, h1, h2, h3, q⟩ := z
      obtain ⟨a, vs, rfl, ha, ra⟩ := asL_ok r v1 hx
      exact op_repL pins s σ H _ _ v u Q I rx ry ⟨a, j, vs, rfl, rfl, by rw [hK]; exact ha, h1, h2, by rw [ra.length]; exact h3, newL_ok r q k (ra.rep _)⟩
    cases v1 with
    | int i => exact op_mulD pins s σ H _ _ v u Q I rx ry ⟨i, j, rfl, rfl, h.1, k _ _ _ _ _ h.2 (Ex.refl F) r (.int _)⟩
    | _ => exact viaL h
  | _ => exact False.elim (by cases v1 <;> exact h)
def dDiv : D2 := fun x y m Q => match x, y with
  | .int i, .int j => 0 < j ∧ j.natAbs.log2 < 9000 ∧ Q (.int (i / j)) m
  | _, _ => False
theorem od_div {X : Cx} {G : Gam} : OpR X (binaryOp .FloorDiv) (LR2 G dDiv) := by
  intro pins s σ H x y v u Q I rx ry h
  obtain ⟨F, m, d1, d2, Q0, r, v1, v2, h, k⟩ := h
  cases v1 with
  | int i =>
    cases v2 with
    | int j => exact op_fdivW pins s σ H _ _ v u Q I rx ry ⟨i, j, rfl, rfl, ⟨h.1, h.2.1⟩, k _ _ _ _ _ h.2.2 (Ex.refl F) r (.int _)⟩
    | _ => exact False.elim h
  | _ => exact False.elim (by cases v2 <;> exact h)
def dMod : D2 := fun x y m Q => match x, y with
  | .int i, .int j => 0 < j ∧ Q (.int (i % j)) m
  | _, _ => False
theorem od_mod {X : Cx} {G : Gam} : OpR X (binaryOp .Mod) (LR2 G dMod) := by
  intro pins s σ H x y v u Q I rx ry h
  obtain ⟨F, m, d1, d2, Q0, r, v1, v2, h, k⟩ := h
  cases v1 with
  | int i =>
    cases v2 with
    | int j => exact op_mod pins s σ H _ _ v u Q I rx ry ⟨i, j, rfl, rfl, h.1, k _ _ _ _ _ h.2 (Ex.refl F) r (.int _)⟩
    | _ => exact False.elim h
  | _ => exact False.elim (by cases v2 <;> exact h)
def dPow : D2 := fun x y m Q => match x, y with
  | .int i, .int j => 0 ≤ j ∧ j ≤ 1000000 ∧ i.natAbs < 2 ^ 64 ∧ Q (.int (i ^ j.toNat)) m
  | _, _ => False
theorem od_pow {X : Cx} {G : Gam} : OpR X (binaryOp .Pow) (LR2 G dPow) := by
  intro pins s σ H x y v u Q I rx ry h
  obtain ⟨F, m, d1, d2, Q0, r, v1, v2, h, k⟩ := h
  cases v1 with
  | int i =>
    cases v2 with
    | int j => exact op_pow pins s σ H _ _ v u Q I rx ry ⟨i, j, rfl, rfl, ⟨h.1, h.2.1, h.2.2.1⟩, k _ _ _ _ _ h.2.2.2 (Ex.refl F) r (.int _)⟩
    | _ => exact False.elim h
  | _ => exact False.elim (by cases v2 <;> exact h)
def dRel (p : Int → Int → Bool) : D2 := fun x y m Q => match x, y with
  | .int i, .int j => Q (.bl (p i j)) m
  | _, _ => False
theorem od_rel {X : Cx} {G : Gam} {op : CmpOp} {p : Int → Int → Bool} (ho : OpR X (compareOp op) (rI0 fun i j => .bl (p i j))) : OpR X (compareOp op) (LR2 G (dRel p)) := by
  intro pins s σ H x y v u Q I rx ry h
  obtain ⟨F, m, d1, d2, Q0, r, v1, v2, h, k⟩ := h
  cases v1 with
  | int i =>
    cases v2 with
    | int j => exact ho pins s σ H _ _ v u Q I rx ry ⟨i, j, rfl, rfl, k _ _ _ _ _ h (Ex.refl F) r (.bl _)⟩
    | _ => exact False.elim h
  | _ => exact False.elim (by cases v2 <;> exact h)
mutual
def py : DV → Option PyData
  | .non => some .none
  | .bl b => some (.bool b)
  | .int i => some (.int i)
  | .str x => some (.str x)
  | .ref _ => none
  | .lst xs => (pys xs).map .list
  | .tup xs => (pys xs).map .tuple
  | .ktup xs => (pys xs).map .tuple
  | .klst xs => (pys xs).map .list
def pys : List DV → Option (List PyData)
  | [] => some []
  | x :: xs => match py x, pys xs with
    | some a, some b => some (a :: b)
    | _, _ => none
end
mutual
theorem py_ok {K : PySem.W.Frag} {F : Hp} : ∀ {v : V} {d : DV} {p : PyData}, VR K F v d → py d = some p → Dp K F v p
  | _, _, _, .non, h => by simp only [py] at h; cases h; exact .non
  | _, _, _, .bl b, h => by simp only [py] at h; cases h; exact .bl b
  | _, _, _, .int i, h => by simp only [py] at h; cases h; exact .int i
  | _, _, _, .str x, h => by simp only [py] at h; cases h; exact .str x
  | _, _, _, .ref a, h => by simp only [py] at h; cases h
  | _, _, _, .lst (ds := ds) hs hr, h => by
    simp only [py] at h
    cases e : pys ds with
    | none => rw [e] at h; cases h
    | some ps => rw [e] at h; cases h; exact .lst (.inl hs) (pys_ok hr e)
  | _, _, _, .tup (ds := ds) hs hr, h => by
    simp only [py] at h
    cases e : pys ds with
    | none => rw [e] at h; cases h
    | some ps => rw [e] at h; cases h; exact .tup (SqT.of hs) (pys_ok hr e)
  | _, _, _, .ktup (ds := ds) hs hr, h => by
    simp only [py] at h
    cases e : pys ds with
    | none => rw [e] at h; cases h
    | some ps => rw [e] at h; cases h; exact .tup (Ex.sqT ex_none hs) (pys_ok hr e)
  | _, _, _, .klst (ds := ds) hs hr, h => by
    simp only [py] at h
    cases e : pys ds with
    | none => rw [e] at h; cases h
    | some ps => rw [e] at h; cases h; exact .lst (Ex.sqL ex_none hs) (pys_ok hr e)
theorem pys_ok {K : PySem.W.Frag} {F : Hp} : ∀ {vs : List V} {ds : List DV} {ps : List PyData}, VRs K F vs ds → pys ds = some ps → DpAll K F vs ps
  | _, _, _, .nil, h => by simp only [pys] at h; cases h; exact .nil
  | _, _, _, .cons (d := d) (ds := ds) hv hr, h => by
    simp only [pys] at h
    cases e1 : py d with
    | none => rw [e1] at h; cases h
    | some a =>
      cases e2 : pys ds with
      | none => rw [e1, e2] at h; cases h
      | some b => rw [e1, e2] at h; cases h; exact .cons (py_ok hv e1) (pys_ok hr e2)
end
mutual
theorem dp_mono {K : PySem.W.Frag} {F F' : Hp} (e : Ex F F') : ∀ {v : V} {p : PyData}, Dp K F v p → Dp K F' v p
  | _, _, .non => .non
  | _, _, .bl b => .bl b
  | _, _, .int i => .int i
  | _, _, .str x => .str x
  | _, _, .lst h r => .lst (e.sqL h) (dps_mono e r)
  | _, _, .tup h r => .tup (e.sqT h) (dps_mono e r)
theorem dps_mono {K : PySem.W.Frag} {F F' : Hp} (e : Ex F F') : ∀ {vs : List V} {ps : List PyData}, DpAll K F vs ps → DpAll K F' vs ps
  | _, _, .nil => .nil
  | _, _, .cons h r => .cons (dp_mono e h) (dps_mono e r)
end
/-- a value, or a list of the store whose items are data -/
def asPy (m : Sto) (d : DV) : Option PyData := match asL m d with
  | some xs => (pys xs).map .list
  | none => py d
theorem asPy_ok {G : Gam} {F H : Hp} {m : Sto} {x : V} {d : DV} {p : PyData} (r : Rel G F m H) (v : VR G.K F x d) (h : asPy m d = some p) : Dp G.K H x p := by
  unfold asPy at h
  cases e : asL m d with
  | none => rw [e] at h; exact dp_mono r.ex (py_ok v h)
  | some xs =>
    rw [e] at h
    obtain ⟨a, vs, rfl, hs, hr⟩ := asL_ok r v e
    dsimp only at h
    cases e2 : pys xs with
    | none => rw [e2] at h; cases h
    | some ps => rw [e2] at h; cases h; exact .lst hs (dps_mono r.ex (pys_ok hr e2))
/-- == of what is told apart at sight -/
def scEq : DV → DV → Option Bool
  | .non, .non => some true
  | .non, .int _ => some false | .int _, .non => some false
  | .non, .bl _ => some false | .bl _, .non => some false
  | .non, .str _ => some false | .str _, .non => some false
  | .int i, .int j => some (decide (i = j))
  | .bl i, .bl j => some (decide (i = j))
  | .str i, .str j => some (decide (i = j))
  | .int _, .str _ => some false | .str _, .int _ => some false
  | .bl _, .str _ => some false | .str _, .bl _ => some false
  | _, _ => none
/-- a dict beside an empty one -/
def emptyD (m : Sto) : DV → DV → Option Bool
  | .ref a, .ref b => match m a, m b with
    | some (.dct ks), some (.dct []) => some ks.isEmpty
    | _, _ => none
  | _, _ => none
def dEq (neg : Bool) : D2 := fun x y m Q => match scEq x y with
  | some b => Q (.bl (xor neg b)) m
  | none => match emptyD m x y with
    | some b => Q (.bl (xor neg b)) m
    | none => ∃ a b, asPy m x = some a ∧ asPy m y = some b ∧ SeqAt.shaped a = true ∧ SeqAt.shaped b = true ∧ Q (.bl (xor neg (PyData.eqv a b))) m
theorem sc_ok {K : PySem.W.Frag} {F : Hp} {x y : V} {d e : DV} {b : Bool} (v : VR K F x d) (u : VR K F y e) (h : scEq d e = some b) : scal x y = true ∧ decide (x = y) = b := by
  cases v <;> cases u <;> simp only [scEq, Option.some.injEq, reduceCtorEq] at h <;> subst h <;> refine ⟨rfl, ?_⟩ <;> simp
theorem od_eq {X : Cx} {G : Gam} (hK : X.K = G.K) (hu : X.A.units + 65 < cLine) (neg : Bool) {op : CmpOp} (ho : op = if neg = true then .NotEq else .Eq) : OpR X (compareOp op) (LR2 G (dEq neg)) := by
  intro pins s σ H x y v u Q I rx ry h
  obtain ⟨F, m, d1, d2, Q0, r, v1, v2, h, k⟩ := h
  unfold dEq at h
  cases e : scEq d1 d2 with
  | some b =>
    rw [e] at h
    obtain ⟨h1, h2⟩ := sc_ok v1 v2 e
    cases neg with
    | true =>
      subst ho
      refine op_ne pins s σ H x y v u Q I rx ry ⟨h1, ?_⟩
      rw [h2]
      have h' : Q0 (.bl (!b)) m := by cases b <;> exact h
      exact k _ _ _ _ _ h' (Ex.refl F) r (.bl _)
    | false =>
      subst ho
      refine op_eq pins s σ H x y v u Q I rx ry ⟨h1, ?_⟩
      rw [h2]
      have h' : Q0 (.bl b) m := by cases b <;> exact h
      exact k _ _ _ _ _ h' (Ex.refl F) r (.bl _)
  | none =>
    rw [e] at h
    cases e2 : emptyD m d1 d2 with
    | some b =>
      rw [e2] at h
      cases v1 <;> simp only [emptyD, reduceCtorEq] at e2
      cases v2 <;> simp only [emptyD, reduceCtorEq] at e2
      rename_i a c
      cases ea : m a with
      | none => rw [ea] at e2; cases e2
      | some oa =>
        cases ec : m c with
        | none => rw [ea, ec] at e2; cases oa <;> cases e2
        | some oc =>
          rw [ea, ec] at e2
          cases oa with
          | dct ks =>
            cases oc with
            | dct ls =>
              cases ls with
              | cons _ _ => cases e2
              | nil =>
                have eb : ks.isEmpty = b := Option.some.inj e2
                obtain ⟨_, ua, hua, ka, rfl, ra⟩ := r.mo a _ ea
                obtain ⟨_, uc, huc, kc, rfl, rc⟩ := r.mo c _ ec
                cases rc
                obtain rfl : v = Value.ref a := rx
                obtain rfl : u = Value.ref c := ry
                obtain ⟨_, ya, va, qa, da⟩ := (show ObjOk X.prog X.w H s.heap a (.dK ka) from I.hok a _ hua)
                obtain ⟨_, yb, vb, qb, db⟩ := (show ObjOk X.prog X.w H s.heap c (.dK []) from I.hok c _ huc)
                cases qb
                have hl : va.length = ks.length := by rw [← qa.length]; exact Paired.length ra
                have hb : (va.length == ([] : List (Key × Value)).length && true) = b := by
                  rw [Bool.and_true, ← eb, hl]
                  cases ks <;> rfl
                have hits : va.length = ([] : List (Key × Value)).length → PySem.W.KeqHits X.A.in1 s ([] : List (Key × Value)) va true := fun z => by
                  cases va with
                  | nil => exact .nil
                  | cons _ _ => cases z
                cases neg with
                | true =>
                  subst ho
                  have h' : Q0 (.bl (!b)) m := by cases b <;> exact h
                  exact PySem.W.keq_ne (knd := mixKind X.prog X.w) (r := true) ya yb da db (by omega) hits (fin_bl I (k _ _ _ _ _ h' (Ex.refl F) r (.bl _)) (by rw [hb]))
                | false =>
                  subst ho
                  have h' : Q0 (.bl b) m := by cases b <;> exact h
                  exact PySem.W.keq_eq (knd := mixKind X.prog X.w) (r := true) ya yb da db (by omega) hits (fin_bl I (k _ _ _ _ _ h' (Ex.refl F) r (.bl _)) (by rw [hb]))
            | _ => cases e2
          | _ => cases oc <;> cases e2
    | none =>
      rw [e2] at h
      obtain ⟨a, b, ha, hb, sa, sb, q⟩ := h
      have pa := asPy_ok r v1 ha
      have pb := asPy_ok r v2 hb
      cases neg with
      | true =>
        subst ho
        have q' : Q0 (.bl (!PyData.eqv a b)) m := by cases z : PyData.eqv a b <;> (rw [z] at q; exact q)
        exact op_neD (by omega) pins s σ H x y v u Q I rx ry ⟨a, b, by rw [hK]; exact pa, by rw [hK]; exact pb, sa, sb, k _ _ _ _ _ q' (Ex.refl F) r (.bl _)⟩
      | false =>
        subst ho
        have q' : Q0 (.bl (PyData.eqv a b)) m := by cases z : PyData.eqv a b <;> (rw [z] at q; exact q)
        exact op_eqD (by omega) pins s σ H x y v u Q I rx ry ⟨a, b, by rw [hK]; exact pa, by rw [hK]; exact pb, sa, sb, k _ _ _ _ _ q' (Ex.refl F) r (.bl _)⟩
end DL
namespace DL
open PySem PySem.Spec PyProof.Rows L2
section
variable {κ : Type} [DecidableEq κ]
def lookD (kvs : List (κ × DV)) (k : κ) : Option DV := match kvs with
  | [] => none
  | (j, d) :: r => if j = k then some d else lookD r k
def putD (kvs : List (κ × DV)) (k : κ) (d : DV) : List (κ × DV) := match kvs with
  | [] => [(k, d)]
  | (j, e) :: r => if j = k then (j, d) :: r else (j, e) :: putD r k d
def dropD (kvs : List (κ × DV)) (k : κ) : List (κ × DV) := kvs.filter fun kv => decide (kv.1 ≠ k)
variable {K : PySem.W.Frag} {F : Hp}
theorem KR.look {vs : List (κ × V)} {ds : List (κ × DV)} (h : KR K F vs ds) (k : κ) : (∀ d, lookD ds k = some d → ∃ v, valV vs k = some v ∧ VR K F v d) ∧ (lookD ds k = none → valV vs k = none) := by
  unfold KR at h
  induction h with
  | nil => exact ⟨fun d e => (by simp only [lookD] at e; cases e), fun _ => rfl⟩
  | @cons p q ps qs h t ih =>
    obtain ⟨h1, h2⟩ := h
    obtain ⟨j, d⟩ := q
    by_cases e : p.1 = k
    · have e' : j = k := h1.symm.trans e
      refine ⟨fun x hx => ⟨p.2, valV_pos e, ?_⟩, fun hx => ?_⟩
      · simp only [lookD, if_pos e'] at hx; cases hx; exact h2
      · simp only [lookD, if_pos e'] at hx; cases hx
    · have e' : ¬ j = k := fun z => e (h1.trans z)
      refine ⟨fun x hx => ?_, fun hx => ?_⟩
      · simp only [lookD, if_neg e'] at hx; rw [valV_neg e]; exact ih.1 x hx
      · simp only [lookD, if_neg e'] at hx; rw [valV_neg e]; exact ih.2 hx
theorem KR.isSome {vs : List (κ × V)} {ds : List (κ × DV)} (h : KR K F vs ds) (k : κ) : (valV vs k).isSome = (lookD ds k).isSome := by
  obtain ⟨h1, h2⟩ := KR.look h k
  cases e : lookD ds k with
  | none => rw [h2 e]; rfl
  | some d => obtain ⟨v, hv, _⟩ := h1 d e; rw [hv]; rfl
theorem KR.put {vs : List (κ × V)} {ds : List (κ × DV)} (h : KR K F vs ds) (hn : (vs.map (·.1)).Nodup) (k : κ) {v : V} {d : DV} (r : VR K F v d) : KR K F (putK vs k v) (putD ds k d) := by
  unfold KR at h ⊢
  induction h with
  | nil => exact .cons ⟨rfl, r⟩ .nil
  | @cons p q ps qs h t ih =>
    obtain ⟨j, e⟩ := q
    obtain ⟨h1, h2⟩ := h
    rw [List.map_cons, List.nodup_cons] at hn
    by_cases z : p.1 = k
    · have z' : j = k := h1.symm.trans z
      have hk : ∀ kv ∈ ps, ¬ kv.1 = k := fun kv hkv w => hn.1 (List.mem_map.mpr ⟨kv, hkv, by rw [w, z]⟩)
      have e1 : putK (p :: ps) k v = (p.1, v) :: ps := by
        unfold putK
        rw [List.any_cons, decide_eq_true z, Bool.true_or, if_pos rfl, List.map_cons, if_pos z]
        congr 1
        have : ∀ l : List (κ × V), (∀ kv ∈ l, ¬ kv.1 = k) → l.map (fun kv => if kv.1 = k then (kv.1, v) else kv) = l := by
          intro l
          induction l with
          | nil => intro _; rfl
          | cons a b ih2 =>
            intro hl
            rw [List.map_cons, if_neg (hl a List.mem_cons_self), ih2 fun kv hkv => hl kv (List.mem_cons_of_mem _ hkv)]
        exact this ps hk
      rw [e1]
      simp only [putD, if_pos z']
      exact .cons ⟨h1, r⟩ t
    · have z' : ¬ j = k := fun w => z (h1.trans w)
      have e1 : putK (p :: ps) k v = p :: putK ps k v := by
        unfold putK
        rw [List.any_cons, decide_eq_false z, Bool.false_or]
        by_cases w : (ps.any fun kv => decide (kv.1 = k)) = true
        · rw [if_pos w, if_pos w, List.map_cons, if_neg z]
        · rw [if_neg w, if_neg w, List.cons_append]
      rw [e1]
      simp only [putD, if_neg z']
      exact .cons ⟨h1, h2⟩ (ih hn.2)
theorem KR.drop {vs : List (κ × V)} {ds : List (κ × DV)} (h : KR K F vs ds) (k : κ) : KR K F (dropK vs k) (dropD ds k) := by
  unfold KR at h ⊢
  unfold dropK dropD
  induction h with
  | nil => exact .nil
  | @cons p q ps qs h t ih =>
    obtain ⟨h1, h2⟩ := h
    rw [List.filter_cons, List.filter_cons]
    by_cases e : p.1 = k
    · have a : ¬ decide (p.1 ≠ k) = true := by simp [e]
      have b : ¬ decide (q.1 ≠ k) = true := by simp [h1.symm.trans e]
      rw [if_neg a, if_neg b]; exact ih
    · have e' : ¬ q.1 = k := fun z => e (h1.trans z)
      have a : decide (p.1 ≠ k) = true := by simp [e]
      have b : decide (q.1 ≠ k) = true := by simp [e']
      rw [if_pos a, if_pos b]; exact .cons ⟨h1, h2⟩ ih
theorem KR.keys {vs : List (κ × V)} {ds : List (κ × DV)} (h : KR K F vs ds) : vs.map (·.1) = ds.map (·.1) := by
  unfold KR at h
  induction h with
  | nil => rfl
  | cons h t ih => rw [List.map_cons, List.map_cons, ih, h.1]
theorem KR.length {vs : List (κ × V)} {ds : List (κ × DV)} (h : KR K F vs ds) : vs.length = ds.length := Paired.length h
theorem lookD_put {kvs : List (κ × DV)} {k j : κ} {d : DV} : lookD (putD kvs k d) j = if j = k then some d else lookD kvs j := by
  induction kvs with
  | nil =>
    by_cases e : j = k
    · subst e; simp [putD, lookD]
    · have e' : ¬ k = j := fun z => e z.symm
      simp [putD, lookD, e, e']
  | cons p r ih =>
    obtain ⟨i, e⟩ := p
    by_cases z : i = k
    · subst z
      simp only [putD, if_pos]
      by_cases y : i = j
      · subst y; simp [lookD]
      · have y' : ¬ j = i := fun w => y w.symm
        simp [lookD, y, y']
    · simp only [putD, if_neg z]
      by_cases y : i = j
      · subst y; simp [lookD, z]
      · simp only [lookD, if_neg y]; exact ih
end
theorem paired_keys {κ α β : Type} {R : κ × α → κ × β → Prop} {as : List (κ × α)} {bs : List (κ × β)} (h : Paired R as bs) (k : ∀ a b, R a b → a.1 = b.1) : as.map (·.1) = bs.map (·.1) := by
  induction h with
  | nil => rfl
  | cons h t ih => rw [List.map_cons, List.map_cons, ih, k _ _ h]
/-- the keys of a dict that is tracked stand once -/
theorem dk_nodup {X : Cx} {pins : List (Addr × Obj)} {σ : L2.St} {H : Hp} {s : Shared} {a : Addr} {kvs : List (Key × V)} (I : Inv X pins σ H s) (h : H a = some (.dK kvs)) : (kvs.map (·.1)).Nodup := by
  obtain ⟨_, _, vs, rel, o, es, ep, _, _, _, hp⟩ := dk_of I.hok h
  rw [rel.keys]
  exact hp.2.2
theorem dt_nodup {X : Cx} {pins : List (Addr × Obj)} {σ : L2.St} {H : Hp} {s : Shared} {a : Addr} {kvs : List (List Key × V)} (I : Inv X pins σ H s) (h : H a = some (.dT kvs)) : (kvs.map (·.1)).Nodup := by
  obtain ⟨_, _, xs, rel, o, es, ep, _, _, _, hp⟩ := I.hok a _ h
  rw [paired_keys rel fun _ _ z => z.1]
  exact hp.2
def kD : Key → DV
  | .inl i => .int i
  | .inr x => .str x
def dK? : DV → Option Key
  | .int i => some (.inl i)
  | .str x => some (.inr x)
  | _ => none
def dKs? : List DV → Option (List Key)
  | [] => some []
  | d :: r => match dK? d, dKs? r with
    | some k, some ks => some (k :: ks)
    | _, _ => none
section
variable {K : PySem.W.Frag} {F : Hp}
theorem vr_key {v : V} {d : DV} {k : Key} (h : VR K F v d) (e : dK? d = some k) : v = kV k := by
  cases h <;> simp only [dK?, Option.some.injEq, reduceCtorEq] at e <;> subst e <;> rfl
theorem vr_keys : ∀ {vs : List V} {ds : List DV} {ks : List Key}, VRs K F vs ds → dKs? ds = some ks → vs = ks.map kV
  | _, _, _, .nil, e => by simp only [dKs?] at e; cases e; rfl
  | _, _, _, .cons (d := d) (ds := ds) h t, e => by
    simp only [dKs?] at e
    cases e1 : dK? d with
    | none => rw [e1] at e; cases e
    | some k =>
      cases e2 : dKs? ds with
      | none => rw [e1, e2] at e; cases e
      | some ks => rw [e1, e2] at e; cases e; rw [vr_key h e1, vr_keys t e2]; rfl
end
/-- what a dict of the store gives at a key: none if this is no such look -/
def dictAt (m : Sto) (x y : DV) : Option (Option DV) := match x with
  | .ref p => match m p with
    | some (.dct kvs) => (dK? y).map fun k => lookD kvs k
    | some (.lck _ _ kvs) => (dK? y).map fun k => lookD kvs k
    | some (.dcT kvs) => match y with
      | .tup ds => (dKs? ds).map fun k => lookD kvs k
      | _ => none
    | _ => none
  | _ => none
theorem dictAt_ok {G : Gam} {F H : Hp} {m : Sto} {x y : V} {d e : DV} {o : Option DV} (r : Rel G F m H) (v : VR G.K F x d) (u : VR G.K F y e) (h : dictAt m d e = some o) :
    ∃ a o', x = .ref a ∧ DGet H a y o' ∧ (∀ z, o = some z → ∃ w, o' = some w ∧ VR G.K F w z) ∧ (o = none → o' = none) ∧ o'.isSome = o.isSome := by
  cases v <;> simp only [dictAt, reduceCtorEq] at h
  rename_i p
  cases em : m p with
  | none => rw [em] at h; cases h
  | some ob =>
    rw [em] at h
    cases ob with
    | dct kvs =>
      dsimp only at h
      cases ek : dK? e with
      | none => rw [ek] at h; cases h
      | some k =>
        rw [ek] at h
        obtain ⟨_, w, hw, kv, rfl, hr⟩ := r.mo p _ em
        have eo : lookD kvs k = o := Option.some.inj h
        subst eo
        refine ⟨p, valV kv k, rfl, ?_, fun z hz => (KR.look hr k).1 z hz, fun hz => (KR.look hr k).2 hz, KR.isSome hr k⟩
        rw [vr_key u ek]
        exact DGet.k hw
    | lck o1 kv kvs =>
      dsimp only at h
      cases ek : dK? e with
      | none => rw [ek] at h; cases h
      | some k =>
        rw [ek] at h
        obtain ⟨_, w, hw, rfl, hr⟩ := r.mo p _ em
        have eo : lookD kvs k = o := Option.some.inj h
        subst eo
        refine ⟨p, valV kv k, rfl, ?_, fun z hz => (KR.look hr k).1 z hz, fun hz => (KR.look hr k).2 hz, KR.isSome hr k⟩
        rw [vr_key u ek]
        exact .inl ⟨kv, k, .inr ⟨o1, hw⟩, rfl, rfl⟩
    | dcT kvs =>
      dsimp only at h
      cases u <;> simp only [reduceCtorEq] at h
      rename_i b vs ds hb hv
      cases ek : dKs? ds with
      | none => rw [ek] at h; cases h
      | some k =>
        rw [ek] at h
        obtain ⟨_, w, hw, kv, rfl, hr⟩ := r.mo p _ em
        have eo : lookD kvs k = o := Option.some.inj h
        subst eo
        refine ⟨p, valV kv k, rfl, ?_, fun z hz => (KR.look hr k).1 z hz, fun hz => (KR.look hr k).2 hz, KR.isSome hr k⟩
        rw [vr_keys hv ek] at hb
        exact DGet.t hw (r.ex _ _ hb)
    | _ => cases h
def flatD : DV → Bool
  | .non => true | .bl _ => true | .int _ => true | .str _ => true
  | _ => false
def eqF : DV → DV → Bool
  | .non, .non => true
  | .bl a, .bl b => a == b
  | .bl a, .int b => (if a then 1 else 0) == b
  | .int a, .bl b => a == (if b then 1 else 0)
  | .int a, .int b => a == b
  | .str a, .str b => a == b
  | _, _ => false
section
variable {K : PySem.W.Frag} {F : Hp}
theorem flat_ok {v : V} {d : DV} (h : VR K F v d) (f : flatD d = true) : flatV v = true := by
  cases h <;> first | rfl | cases f
theorem flats_ok : ∀ {vs : List V} {ds : List DV}, VRs K F vs ds → ds.all flatD = true → vs.all flatV = true
  | _, _, .nil, _ => rfl
  | _, _, .cons h t, f => by
    rw [List.all_cons, Bool.and_eq_true] at f ⊢
    exact ⟨flat_ok h f.1, flats_ok t f.2⟩
theorem eqF_ok {v w : V} {d e : DV} (h : VR K F v d) (g : VR K F w e) (f : flatD d = true) (f' : flatD e = true) : eqV v w = eqF d e := by
  cases h <;> first
    | (cases g <;> first | rfl | cases f')
    | cases f
theorem any_ok {w : V} {e : DV} (g : VR K F w e) (f' : flatD e = true) : ∀ {vs : List V} {ds : List DV}, VRs K F vs ds → ds.all flatD = true → (vs.any fun y => eqV y w) = ds.any fun y => eqF y e
  | _, _, .nil, _ => rfl
  | _, _, .cons h t, f => by
    rw [List.all_cons, Bool.and_eq_true] at f
    rw [List.any_cons, List.any_cons, eqF_ok h g f.1 f', any_ok g f' t f.2]
end
/-- x in y: flat items of a list or tuple; the keys of a dict; one sign of a text -/
def dIn (neg : Bool) : D2 := fun x y m Q => match dictAt m y x with
  | some o => Q (.bl (xor neg o.isSome)) m
  | none => match asQ m y with
    | some ys => (flatD x && ys.all flatD) = true ∧ Q (.bl (xor neg (ys.any fun z => eqF z x))) m
    | none => match x, y with
      | .str w, .str z => ∃ c : Nat, w = ⟨#[c]⟩ ∧ Q (.bl (xor neg (decide (c ∈ z.cps.toList)))) m
      | _, _ => False
theorem od_in {X : Cx} {G : Gam} (hK : X.K = G.K) (hu : X.A.units + 1 < cLine) (neg : Bool) {op : CmpOp} (ho : op = if neg = true then .NotIn else .In) : OpR X (compareOp op) (LR2 G (dIn neg)) := by
  intro pins s σ H x y v u Q I rx ry h
  obtain ⟨F, m, d1, d2, Q0, r, v1, v2, h, k⟩ := h
  unfold dIn at h
  cases e : dictAt m d2 d1 with
  | some o =>
    rw [e] at h
    dsimp only at h
    obtain ⟨a, o', rfl, g, _, _, hs⟩ := dictAt_ok r v2 v1 e
    obtain rfl : u = Value.ref a := ry
    cases neg with
    | true =>
      subst ho
      have h' : Q0 (.bl (!o.isSome)) m := by cases z : o.isSome <;> (rw [z] at h; exact h)
      exact d_notIn hu I g rx fun s' I' => fin_bl I' (k _ _ _ _ _ h' (Ex.refl F) r (.bl _)) (by rw [hs])
    | false =>
      subst ho
      have h' : Q0 (.bl o.isSome) m := by cases z : o.isSome <;> (rw [z] at h; exact h)
      exact d_in hu I g rx fun s' I' => fin_bl I' (k _ _ _ _ _ h' (Ex.refl F) r (.bl _)) (by rw [hs])
  | none =>
    rw [e] at h
    dsimp only at h
    cases e2 : asQ m d2 with
    | some ys =>
      rw [e2] at h
      obtain ⟨f, q⟩ := h
      rw [Bool.and_eq_true] at f
      obtain ⟨a, vs, rfl, ha, ra⟩ := asQ_ok r v2 e2
      have ea : inV x vs = ys.any fun z => eqF z d1 := any_ok v1 f.1 ra f.2
      have go : ∀ b : Bool, Q0 (.bl (if b then !inV x vs else inV x vs)) m → Q (.bl (if b then !inV x vs else inV x vs)) H := fun b z => k _ _ _ _ _ z (Ex.refl F) r (.bl _)
      cases neg with
      | true =>
        subst ho
        refine op_notIn_seq pins s σ H _ _ v u Q I rx ry ⟨a, vs, rfl, by rw [hK]; exact ha, flat_ok v1 f.1, flats_ok ra f.2, go true ?_⟩
        rw [← ea] at q
        cases z : inV x vs <;> (rw [z] at q; exact q)
      | false =>
        subst ho
        refine op_in_seq pins s σ H _ _ v u Q I rx ry ⟨a, vs, rfl, by rw [hK]; exact ha, flat_ok v1 f.1, flats_ok ra f.2, go false ?_⟩
        rw [← ea] at q
        cases z : inV x vs <;> (rw [z] at q; exact q)
    | none =>
      rw [e2] at h
      dsimp only at h
      cases v1 <;> cases v2 <;> first
        | exact False.elim h
        | skip
      obtain ⟨c, rfl, q⟩ := h
      rename_i z
      cases neg with
      | true =>
        subst ho
        have q' : Q0 (.bl (!decide (c ∈ z.cps.toList))) m := by cases w : decide (c ∈ z.cps.toList) <;> (rw [w] at q; exact q)
        exact op_notIn_sign pins s σ H _ _ v u Q I rx ry ⟨c, z, rfl, rfl, k _ _ _ _ _ q' (Ex.refl F) r (.bl _)⟩
      | false =>
        subst ho
        have q' : Q0 (.bl (decide (c ∈ z.cps.toList))) m := by cases w : decide (c ∈ z.cps.toList) <;> (rw [w] at q; exact q)
        exact op_in_sign pins s σ H _ _ v u Q I rx ry ⟨c, z, rfl, rfl, k _ _ _ _ _ q' (Ex.refl F) r (.bl _)⟩
/-- is None, is not None -/
def dIsN (neg : Bool) : D2 := fun x y m Q => match y with
  | .non => match x with
    | .non => Q (.bl (!neg)) m
    | _ => Q (.bl neg) m
  | _ => False
theorem od_isN {X : Cx} {G : Gam} (neg : Bool) {op : CmpOp} (ho : op = if neg = true then .IsNot else .Is) : OpR X (compareOp op) (LR2 G (dIsN neg)) := by
  intro pins s σ H x y v u Q I rx ry h
  obtain ⟨F, m, d1, d2, Q0, r, v1, v2, h, k⟩ := h
  cases v2 <;> first | exact False.elim h | skip
  have key : ∀ b : Bool, Q0 (.bl b) m → Q (.bl b) H := fun b q => k _ _ _ _ _ q (Ex.refl F) r (.bl _)
  cases neg with
  | true =>
    subst ho
    refine op_notN pins s σ H _ _ v u Q I rx ry ⟨rfl, key _ ?_⟩
    cases v1 <;> exact h
  | false =>
    subst ho
    refine op_isN pins s σ H _ _ v u Q I rx ry ⟨rfl, key _ ?_⟩
    cases v1 <;> exact h
theorem plainIx_of {b : Expr} (h : ∀ lo hi st p, b ≠ .Slice lo hi st p) : PlainIx b := fun o i => by
  cases b <;> first
    | rfl
    | exact absurd rfl (h _ _ _ _)
theorem ix_dct {X : Cx} (hu : X.A.units + 1 < cLine) : IxR X (fun x y H Q => ∃ a v, x = .ref a ∧ DGet H a y (some v) ∧ Q v H) := by
  intro value slice pins s σ H x y v u Q I rx ry h hs
  obtain ⟨a, z, rfl, g, q⟩ := h
  obtain rfl : v = Value.ref a := rx
  exact tail_any (dict_typeIs I g) PySem.F.slot_dict_getitem.lookup (d_getItem hu I g ry fun w' s3 I3 rw' => ⟨z, H, I3, rw', q⟩) hs
def dIx : D2 := fun x y m Q => match dictAt m x y with
  | some o => match o with
    | some d => Q d m
    | none => False
  | none => match asQ m x with
    | some xs => match y with
      | .int i => match atI xs i with
        | some d => Q d m
        | none => False
      | _ => False
    | none => match x, y with
      | .str z, .int i => z.length ≤ sizeLine ∧ ∃ c, atI z.cps.toList i = some c ∧ Q (.str ⟨#[c]⟩) m
      | _, _ => False
theorem atI_vr {K : PySem.W.Frag} {F : Hp} {vs : List V} {ds : List DV} {i : Int} {d : DV} (h : VRs K F vs ds) (e : atI ds i = some d) : ∃ v, atI vs i = some v ∧ VR K F v d := by
  unfold atI at e ⊢
  rw [h.length]
  cases q : ixN ds.length i with
  | none => rw [q] at e; cases e
  | some j =>
    rw [q] at e
    obtain ⟨v, hv, r⟩ := h.get (i := j) e
    exact ⟨v, hv, r⟩
theorem od_ix {X : Cx} {G : Gam} (hK : X.K = G.K) (hu : X.A.units + 1 < cLine) : IxR X (LR2 G dIx) := by
  intro value slice pins s σ H x y v u Q I rx ry h hs
  obtain ⟨F, m, d1, d2, Q0, r, v1, v2, h, k⟩ := h
  unfold dIx at h
  cases e : dictAt m d1 d2 with
  | some o =>
    rw [e] at h
    cases o with
    | none => exact False.elim h
    | some d =>
      obtain ⟨a, o', rfl, g, hv, _, _⟩ := dictAt_ok r v1 v2 e
      obtain ⟨w, rfl, rw'⟩ := hv d rfl
      exact ix_dct hu value slice pins s σ H _ _ v u Q I rx ry ⟨a, w, rfl, g, k _ _ _ _ _ h (Ex.refl F) r rw'⟩ hs
  | none =>
    rw [e] at h
    dsimp only at h
    cases e2 : asQ m d1 with
    | some xs =>
      rw [e2] at h
      dsimp only at h
      cases v2 <;> first | exact False.elim h | skip
      rename_i i
      dsimp only at h
      cases e3 : atI xs i with
      | none => rw [e3] at h; exact False.elim h
      | some d =>
        rw [e3] at h
        obtain ⟨a, vs, rfl, ha, ra⟩ := asQ_ok r v1 e2
        obtain ⟨w, hw, rw'⟩ := atI_vr ra e3
        have q := k _ _ _ _ _ h (Ex.refl F) r rw'
        rcases ha with ha | ha
        · exact ix_list value slice pins s σ H _ _ v u Q I rx ry ⟨a, vs, i, w, rfl, rfl, by rw [hK]; exact ha, hw, q⟩ hs
        · exact ix_tup value slice pins s σ H _ _ v u Q I rx ry ⟨a, vs, i, w, rfl, rfl, by rw [hK]; exact ha, hw, q⟩ hs
    | none =>
      rw [e2] at h
      dsimp only at h
      cases v1 <;> cases v2 <;> first | exact False.elim h | skip
      obtain ⟨hz, c, hc, q⟩ := h
      exact ix_str value slice pins s σ H _ _ v u Q I rx ry ⟨_, _, c, rfl, rfl, hz, hc, k _ _ _ _ _ q (Ex.refl F) r (.str _)⟩ hs
theorem pd_ix {X : Cx} {G : Gam} {wa wb : DE} {a b : Expr} {pos : Pos} (hK : X.K = G.K) (hu : X.A.units + 1 < cLine) (ha : PE X a (LE G wa)) (hb : PE X b (LE G wb)) (hs : ∀ lo hi st p, b ≠ .Slice lo hi st p) : PE X (.Subscript a b pos) (LE G (wOp dIx wa wb)) :=
  PE.imp (pe_ix (od_ix hK hu) ha hb (plainIx_of hs)) fun _ _ _ h => le_op h
/-- a part of a slice -/
def wPart (w : Option DE) : Slots → Sto → (Option Int → Sto → Prop) → Prop := match w with
  | none => fun _ m Q => Q none m
  | some w => fun δ m Q => w δ m fun d m1 => match d with
    | .int i => Q (some i) m1
    | _ => False
def cutD (xs : List DV) (lo hi : Option Int) : List DV := (xs.drop (HT.sIx xs.length 0 lo)).take (HT.sIx xs.length xs.length hi - HT.sIx xs.length 0 lo)
def dSl (mu : Bool) : DV → Option Int → Option Int → Sto → DK → Prop := fun x lo hi m Q => match x with
  | .tup xs => Q (.tup (cutD xs lo hi)) m
  | .str z => z.length ≤ sizeLine ∧ Q (.str (cutS z lo hi)) m
  | x => ∃ xs, asL m x = some xs ∧ newL mu (cutD xs lo hi) m Q
def wSl (mu : Bool) (w : DE) (lo hi : Option DE) : DE := fun δ m Q => w δ m fun x m1 => wPart lo δ m1 fun l m2 => wPart hi δ m2 fun u m3 => dSl mu x l u m3 Q
def LO (G : Gam) (w : Option DE) : TO := fun σ H Q => ∃ F m δ Q0, Rel G F m H ∧ SR G.K F σ δ ∧ wPart w δ m Q0 ∧ ∀ o m' F' H', Q0 o m' → Ex F F' → Rel G F' m' H' → Q o H'
theorem po_none' {X : Cx} {G : Gam} : PO X none (LO G none) := by
  have h : PO X none tNoPart := po_none
  exact ⟨fun pins s σ H Q I q => h.run pins s σ H Q I (by obtain ⟨F, m, δ, Q0, r, s, h, k⟩ := q; exact k _ _ _ _ h (Ex.refl F) r)⟩
theorem po_some' {X : Cx} {G : Gam} {e : Expr} {w : DE} (he : PE X e (LE G w)) : PO X (some e) (LO G (some w)) := by
  have h : PO X (some e) (tPart (LE G w)) := po_some he
  refine ⟨fun pins s σ H Q I q => h.run pins s σ H Q I ?_⟩
  obtain ⟨F, m, δ, Q0, r, s, h, k⟩ := q
  refine ⟨F, m, δ, _, r, s, h, fun d m' v F' H' hd e1 r1 v1 => ?_⟩
  cases v1 <;> first | exact False.elim hd | skip
  exact ⟨_, rfl, k _ _ _ _ hd e1 r1⟩
theorem cut_ok {K : PySem.W.Frag} {F : Hp} {vs : List V} {ds : List DV} (h : VRs K F vs ds) (lo hi : Option Int) : VRs K F (cutV vs lo hi) (cutD ds lo hi) := by
  unfold cutV cutD
  rw [h.length]
  exact (h.drop _).take _
def LR3 (G : Gam) (R : DV → Option Int → Option Int → Sto → DK → Prop) : V → Option Int → Option Int → Hp → VK → Prop := fun x lo hi H Q => ∃ F m d Q0, Rel G F m H ∧ VR G.K F x d ∧ R d lo hi m Q0 ∧ Kt G F Q0 Q
theorem od_sl {X : Cx} {G : Gam} (hK : X.K = G.K) (mu : Bool) : SlR X (LR3 G (dSl mu)) := by
  intro pins s σ H x v vl vu lo hi sl Q I rx hs pl pu h
  obtain ⟨F, m, d, Q0, r, v1, h, k⟩ := h
  have viaL : (∃ xs, asL m d = some xs ∧ newL mu (cutD xs lo hi) m Q0) → ∃ T id, typeLookup (.type T) "__getitem__" = pure (some (.builtin id)) ∧ s.TypeIs v T ∧ wpAny (model X.prog X.w) X.A (getItem v (.ref sl)) (EP X pins σ Q) X.xe s := fun z => by
    obtain ⟨xs, hx, q⟩ := z
    obtain ⟨a, vs, rfl, ha, ra⟩ := asL_ok r v1 hx
    exact sl_list pins s σ H _ v vl vu lo hi sl Q I rx hs pl pu ⟨a, vs, rfl, by rw [hK]; exact ha, newL_ok r q k (cut_ok ra lo hi)⟩
  cases v1 with
  | @tup a vs ds ht hr =>
    refine sl_tupA pins s σ H _ v vl vu lo hi sl Q I rx hs pl pu ⟨a, vs, rfl, by rw [hK]; exact SqT.of (r.ex _ _ ht), fun z => ?_, fun _ => newT_ok r h k (cut_ok hr lo hi)⟩
    have e : cutD ds lo hi = ds := by
      unfold cutD
      rw [← hr.length, z.1, z.2, List.drop_zero, Nat.sub_zero, hr.length, List.take_length]
    have h' : Q0 (.tup ds) m := by rw [← e]; exact h
    exact k _ _ _ _ _ h' (Ex.refl F) r (.tup ht hr)
  | str z => exact sl_str pins s σ H _ v vl vu lo hi sl Q I rx hs pl pu ⟨z, rfl, h.1, k _ _ _ _ _ h.2 (Ex.refl F) r (.str _)⟩
  | _ => exact viaL h
theorem pd_sl {X : Cx} {G : Gam} {mu : Bool} {w : DE} {lo hi : Option DE} {e : Expr} {l u : Option Expr} {pos p2 : Pos} (hK : X.K = G.K) (he : PE X e (LE G w)) (hl : PO X l (LO G lo)) (hu : PO X u (LO G hi)) : PE X (.Subscript e (.Slice l u none p2) pos) (LE G (wSl mu w lo hi)) := by
  refine PE.imp (pe_slice (od_sl hK mu) he hl hu) fun σ H Q h => ?_
  obtain ⟨F, m, δ, Q0, r, s, h, k⟩ := h
  refine ⟨F, m, δ, _, r, s, h, fun d1 m1 x F1 H1 h1 e1 r1 v1 => ⟨F1, m1, δ, _, r1, s.mono e1, h1, fun o m2 F2 H2 h2 e2 r2 => ⟨F2, m2, δ, _, r2, s.mono (e1.trans e2), h2, fun o' m3 F3 H3 h3 e3 r3 => ?_⟩⟩⟩
  exact ⟨F3, m3, d1, Q0, r3, v1.mono (e2.trans e3), h3, k.mono ((e1.trans e2).trans e3)⟩
end DL
namespace DL
open PySem PySem.Spec PyProof.Rows L2
structure FnG (P : Program) (w : World) (K : PySem.W.Frag) (mg : Str → Option Value) (base : Heap) (CX : CXT) (k : Nat) (f : Addr) (fd : FuncData) (ps : List Str) (sp : Sp) : Prop where
  len : ∀ vs H Q E, sp vs H Q E → vs.length = ps.length
  run : ∀ (A : Around) (outer : List Env) (s : Shared) (H : Hp) (args : Args) (us : List Value) (vs : List V) (Q : VK) (E : XK), Room k A → A.guards = some [] → Env0 P w K mg base A outer s H → BindsTo s fd args (ps.zip us) → Vals vs us → sp vs H Q E →
    codeAny (model P w) A (.call (.ref f) args) (CR CX outer P w H s Q E) s
section
variable {P : Program} {w : World} {K : PySem.W.Frag} {mg : Str → Option Value} {base : Heap} {CX : CXT} {j k : Nat} {f : Addr} {fd : FuncData} {ps : List Str} {sp sp' : Sp}
theorem FnG.of (F : FnOk P w K mg base CX k f fd ps sp) : FnG P w K mg base CX k f fd ps sp := ⟨F.len, fun A outer s H args us vs Q E hr _ => F.run A outer s H args us vs Q E hr⟩
theorem FnG.mono (F : FnG P w K mg base CX j f fd ps sp) (h : j ≤ k) : FnG P w K mg base CX k f fd ps sp := ⟨F.len, fun A outer s H args us vs Q E hr => F.run A outer s H args us vs Q E (hr.mono h)⟩
theorem FnG.imp (F : FnG P w K mg base CX k f fd ps sp) (h : ∀ vs H Q E, sp' vs H Q E → sp vs H Q E) : FnG P w K mg base CX k f fd ps sp' :=
  ⟨fun vs H Q E q => F.len vs H Q E (h _ _ _ _ q), fun A outer s H args us vs Q E hr hg he hb hv hs => F.run A outer s H args us vs Q E hr hg he hb hv (h _ _ _ _ hs)⟩
end
theorem guards_make {A : Around} {C : Addr} {us : List Value} {kw : List (Str × Value)} (h : A.guards = some []) : (A.under (.builtin "type.__call__" ⟨.ref C :: us, kw⟩)).guards = some [] := by
  have e : (Code.builtin "type.__call__" ⟨.ref C :: us, kw⟩).guards = [] := rfl
  simp only [Around.under, e, h]
  rfl
section
variable {X : Cx} {CX : CXT} {k : Nat} {f C : Addr} {fd : FuncData} {ps ks : List Str} {sp : Sp} {dvs : List V} {ds : List Value} {E : XK} {x m : Str} {p pos apos : Pos} {e o : Expr} {es : List Expr} {kws : List Keyword} {ta : TE} {t tk : TA}
theorem run_fnG {pins : List (Addr × Obj)} {σ : L2.St} {H : Hp} {s : Shared} {Q : VK} {us : List Value} {vs : List V} (F : FnG X.prog X.w X.K X.mg X.base CX k f fd ps sp) (hr : Room k X.A) (hG : X.A.guards = some []) (hb : Binds X.K fd ps ds) (hd : Vals dvs ds) (hx : Passes CX X E)
    (I : Inv X pins σ H s) (r : Vals vs us) (h : sp (vs ++ dvs) H Q E) : wpAny (model X.prog X.w) X.A (call (.ref f) us) (EP X pins σ Q) X.xe s := by
  have r2 : Vals (vs ++ dvs) (us ++ ds) := r.append hd
  have hl : (us ++ ds).length = ps.length := by rw [← r2.length]; exact F.len _ _ _ _ h
  refine wpAny_call (codeAny_mono (F.run X.A X.stack s H ⟨us, []⟩ (us ++ ds) (vs ++ dvs) Q E hr hG I.env0 (hb s us I.kIn hl) r2 h) fun r s' hq => ?_)
  cases r with
  | error e => exact hx pins σ H s e s' I hq
  | ok fl =>
    cases fl with
    | ret u => exact I.after hq
    | next => exact False.elim hq
    | brk => exact False.elim hq
    | cont => exact False.elim hq
theorem pe_callG (F : FnG X.prog X.w X.K X.mg X.base CX k f fd ps sp) (hr : Room k X.A) (hG : X.A.guards = some []) (hg : Gl X x) (hm : X.mg x = some (.ref f)) (hk : PySem.W.keepIn X.K (.ref f) = true) (hb : Binds X.K fd ps ds) (hd : Vals dvs ds) (hx : Passes CX X E)
    (ha : PA X (e :: es) t) (hdb : (x == ("__debug__" : Str)) = false := by decide) (he : starEach (e :: es) X.env = (false, eval e X.env) :: starEach es X.env := by rfl) (hpl : (backTo pos (starEach es X.env)).any (·.1) = false := by rfl) :
    PE X (.Call (.Name x p) (e :: es) [] pos) (tCall sp dvs E t) := by
  refine ⟨fun pins s σ H Q I h => ?_⟩
  refine wpAny_Call_Name_kw (ld_glob I hg hm ?_ hdb)
  refine PySem.W.callWith_K (h₀ := X.base) I.ok.mod.kin hk (thn (ha.run pos pins s σ H _ I h) fun us s1 ⟨vs, H1, I1, r, q⟩ => ⟨I1.kIn, ?_⟩) he hpl
  exact run_fnG F hr hG hb hd hx I1 r q
theorem pe_callG0 (F : FnG X.prog X.w X.K X.mg X.base CX k f fd ps sp) (hr : Room k X.A) (hG : X.A.guards = some []) (hg : Gl X x) (hm : X.mg x = some (.ref f)) (hk : PySem.W.keepIn X.K (.ref f) = true) (hb : Binds X.K fd ps ds) (hd : Vals dvs ds) (hx : Passes CX X E)
    (hdb : (x == ("__debug__" : Str)) = false := by decide) : PE X (.Call (.Name x p) [] [] pos) (tCall sp dvs E tNil) := by
  refine ⟨fun pins s σ H Q I h => ?_⟩
  refine wpAny_Call_Name_kw (ld_glob I hg hm ?_ hdb)
  exact PySem.W.callWith_K0 I.kIn hk (run_fnG (us := []) F hr hG hb hd hx I .nil h)
theorem pe_methG {pl : Sem Bool} (he : PE X o ta) (c : Cls X.K C) (hm : Meth X.K C m f) (F : FnG X.prog X.w X.K X.mg X.base CX k f fd ps sp) (hr : Room k X.A) (hG : X.A.guards = some []) (hb : Binds X.K fd ps ds) (hd : Vals dvs ds) (hx : Passes CX X E) (ha : PA X (e :: es) t)
    (hst : starEach (e :: es) X.env = (false, eval e X.env) :: starEach es X.env := by rfl) (hpl : (backTo pos (starEach es X.env)).any (·.1) = false := by rfl)
    (ht : eval (.Call (.Attribute o m apos) (e :: es) [] pos) X.env = (do
      let ov ← eval o X.env
      standAt apos.atName
      let (f, first) ← holding [ov] (getMethod ov m pl)
      callWith pos f first (backTo pos (starEach (e :: es) X.env)) (backToKw pos (keywordEach [] X.env))) := by rfl) :
    PE X (.Call (.Attribute o m apos) (e :: es) [] pos) (tMeth C m sp dvs E ta t) := by
  refine ⟨fun pins s σ H Q I h => ?_⟩
  refine PySem.W.methodCall_KW (pl := pl) (thn (he.run pins s σ H _ I h) fun u s1 ⟨x, H1, I1, rx, a, dx, fs, ex, ea, l, q⟩ => ?_) ht
  subst ex
  obtain rfl : u = Value.ref a := rx
  refine getmeth_ok I1 ea c hm l ?_
  refine PySem.W.callWith_K (first := [.ref a]) (h₀ := X.base) I.ok.mod.kin hm.kp (thn (ha.run pos pins s1 σ H1 _ I1 q) fun us s2 ⟨vs, H2, I2, r, q2⟩ => ⟨I2.kIn, ?_⟩) hst hpl
  exact run_fnG (us := .ref a :: us) (vs := .ref a :: vs) F hr hG hb hd hx I2 (.cons rfl r) q2
theorem pe_methG0 {pl : Sem Bool} (he : PE X o ta) (c : Cls X.K C) (hm : Meth X.K C m f) (F : FnG X.prog X.w X.K X.mg X.base CX k f fd ps sp) (hr : Room k X.A) (hG : X.A.guards = some []) (hb : Binds X.K fd ps ds) (hd : Vals dvs ds) (hx : Passes CX X E)
    (ht : eval (.Call (.Attribute o m apos) [] [] pos) X.env = (do
      let ov ← eval o X.env
      standAt apos.atName
      let (f, first) ← holding [ov] (getMethod ov m pl)
      callWith pos f first (backTo pos (starEach [] X.env)) (backToKw pos (keywordEach [] X.env))) := by rfl) :
    PE X (.Call (.Attribute o m apos) [] [] pos) (tMeth C m sp dvs E ta tNil) := by
  refine ⟨fun pins s σ H Q I h => ?_⟩
  refine PySem.W.methodCall_KW (pl := pl) (thn (he.run pins s σ H _ I h) fun u s1 ⟨x, H1, I1, rx, a, dx, fs, ex, ea, l, q⟩ => ?_) ht
  subst ex
  obtain rfl : u = Value.ref a := rx
  refine getmeth_ok I1 ea c hm l ?_
  exact PySem.W.callWith_K0 (first := [.ref a]) I1.kIn hm.kp (run_fnG (us := [.ref a]) (vs := [.ref a]) F hr hG hb hd hx I1 (.cons rfl .nil) q)
theorem run_makeG {pins : List (Addr × Obj)} {σ : L2.St} {H : Hp} {s : Shared} {Q : VK} {us : List Value} {vs : List V} (M : Mk X.K C f) (F : FnG X.prog X.w X.K X.mg X.base CX k f fd ps sp) (hr : Room (k + 1) X.A) (hG : X.A.guards = some []) (hb : Binds X.K fd ps ds) (hd : Vals dvs ds)
    (hx : Passes CX X E) (I : Inv X pins σ H s) (r : Vals vs us)
    (h : ∀ x dx, H x = none → H dx = none → dx ≠ x → sp (.ref x :: (vs ++ dvs)) (upd (upd H dx (.own x)) x (.ins C dx [])) (fun v H2 => v = .non ∧ Q (.ref x) H2) E) :
    wpAny (model X.prog X.w) X.A (call (.ref C) us) (EP X pins σ Q) X.xe s := by
  have hq := h (s.heap.objs.size + 1) s.heap.objs.size (I.hok.fresh (Nat.le_succ _)) (I.hok.fresh (Nat.le_refl _)) (Nat.ne_of_lt (Nat.lt_succ_self _))
  have I2 := Inv.made (C := C) I
  have r2 : Vals (V.ref (s.heap.objs.size + 1) :: (vs ++ dvs)) (Value.ref (s.heap.objs.size + 1) :: (us ++ ds)) := .cons rfl (r.append hd)
  have hl : (Value.ref (s.heap.objs.size + 1) :: us ++ ds).length = ps.length := by
    have e := r2.length
    rw [F.len _ _ _ _ hq] at e
    exact e.symm
  refine wpAny_call (make_map (f := f) I.kIn M.makes M.init (beq_iff_eq.mp M.fn) (codeAny_mono (F.run _ X.stack _ _ ⟨Value.ref (s.heap.objs.size + 1) :: us, []⟩ (Value.ref (s.heap.objs.size + 1) :: (us ++ ds)) _ _ E (hr.make C us []) (guards_make hG)
    (I2.env0.make C us []) (hb _ (Value.ref (s.heap.objs.size + 1) :: us) I2.kIn hl) r2 hq) fun r s' hq' => ?_))
  cases r with
  | error e => exact hx pins σ _ _ e s' I2 hq'
  | ok fl =>
    cases fl with
    | ret u =>
      obtain ⟨v, H', I3, rv, ev, q3⟩ := I2.after hq'
      subst ev
      exact ⟨rv, ⟨V.ref (s.heap.objs.size + 1), H', I3, rfl, q3⟩⟩
    | next => exact False.elim hq'
    | brk => exact False.elim hq'
    | cont => exact False.elim hq'
theorem pe_makeG (M : Mk X.K C f) (F : FnG X.prog X.w X.K X.mg X.base CX k f fd ps sp) (hr : Room (k + 1) X.A) (hG : X.A.guards = some []) (hg : Gl X x) (hm : X.mg x = some (.ref C)) (hb : Binds X.K fd ps ds) (hd : Vals dvs ds) (hx : Passes CX X E)
    (ha : PA X (e :: es) t) (hdb : (x == ("__debug__" : Str)) = false := by decide) (he : starEach (e :: es) X.env = (false, eval e X.env) :: starEach es X.env := by rfl) (hpl : (backTo pos (starEach es X.env)).any (·.1) = false := by rfl) :
    PE X (.Call (.Name x p) (e :: es) [] pos) (tMake C sp dvs E t) := by
  refine ⟨fun pins s σ H Q I h => ?_⟩
  refine wpAny_Call_Name_kw (ld_glob I hg hm ?_ hdb)
  refine PySem.W.callWith_K (h₀ := X.base) I.ok.mod.kin M.kp (thn (ha.run pos pins s σ H _ I h) fun us s1 ⟨vs, H1, I1, r, q⟩ => ⟨I1.kIn, ?_⟩) he hpl
  exact run_makeG M F hr hG hb hd hx I1 r q
theorem pe_makeG0 (M : Mk X.K C f) (F : FnG X.prog X.w X.K X.mg X.base CX k f fd ps sp) (hr : Room (k + 1) X.A) (hG : X.A.guards = some []) (hg : Gl X x) (hm : X.mg x = some (.ref C)) (hb : Binds X.K fd ps ds) (hd : Vals dvs ds) (hx : Passes CX X E)
    (hdb : (x == ("__debug__" : Str)) = false := by decide) : PE X (.Call (.Name x p) [] [] pos) (tMake C sp dvs E tNil) := by
  refine ⟨fun pins s σ H Q I h => ?_⟩
  refine wpAny_Call_Name_kw (ld_glob I hg hm ?_ hdb)
  exact PySem.W.callWith_K0 I.kIn M.kp (run_makeG (us := []) M F hr hG hb hd hx I .nil h)
variable {g : List Value → List Value → List Value} {gV : List V → List V → List V}
theorem run_fnkG {pins : List (Addr × Obj)} {σ : L2.St} {H : Hp} {s : Shared} {Q : VK} {us ws : List Value} {vs zs : List V} (F : FnG X.prog X.w X.K X.mg X.base CX k f fd ps sp) (hr : Room k X.A) (hG : X.A.guards = some []) (hb : KBinds X.K fd ps ks g gV) (hx : Passes CX X E)
    (I : Inv X pins σ H s) (r : Vals vs us) (rz : Vals zs ws) (h : sp (gV vs zs) H Q E) : wpAny (model X.prog X.w) X.A (call (.ref f) us (ks.zip ws)) (EP X pins σ Q) X.xe s := by
  have r2 := hb.rel r rz
  have hl : (g us ws).length = ps.length := by rw [← r2.length]; exact F.len _ _ _ _ h
  refine wpAny_call (codeAny_mono (F.run X.A X.stack s H ⟨us, ks.zip ws⟩ (g us ws) (gV vs zs) Q E hr hG I.env0 (hb.to s us ws I.kIn hl) r2 h) fun r s' hq => ?_)
  cases r with
  | error e => exact hx pins σ H s e s' I hq
  | ok fl =>
    cases fl with
    | ret u => exact I.after hq
    | next => exact False.elim hq
    | brk => exact False.elim hq
    | cont => exact False.elim hq
theorem pe_callGK (F : FnG X.prog X.w X.K X.mg X.base CX k f fd ps sp) (hr : Room k X.A) (hG : X.A.guards = some []) (hg : Gl X x) (hm : X.mg x = some (.ref f)) (hk : PySem.W.keepIn X.K (.ref f) = true) (hb : KBinds X.K fd ps ks g gV) (hx : Passes CX X E)
    (ha : PA X (e :: es) t) (hkw : PK X kws tk) (hall : (backToKw pos (keywordEach kws X.env)).all (·.1.isSome) = true := by rfl) (hks : (backToKw pos (keywordEach kws X.env)).filterMap (·.1) = ks := by rfl)
    (hdb : (x == ("__debug__" : Str)) = false := by decide) (he : starEach (e :: es) X.env = (false, eval e X.env) :: starEach es X.env := by rfl)
    (hpl : ((backTo pos (starEach (e :: es) X.env)).any (·.1) || (backToKw pos (keywordEach kws X.env)).any (·.1.isNone)) = false := by rfl) :
    PE X (.Call (.Name x p) (e :: es) kws pos) (tCallK sp gV E t tk) := by
  refine ⟨fun pins s σ H Q I h => ?_⟩
  refine wpAny_Call_Name_kw (ld_glob I hg hm ?_ hdb)
  refine PySem.W.callWith_KW (h₀ := X.base) I.ok.mod.kin hk hall (thn (ha.run pos pins s σ H _ I h) fun us s1 ⟨vs, H1, I1, r, q⟩ => ?_) hpl he
  refine thn (hkw.run pos pins s1 σ H1 _ I1 q) fun ws s2 ⟨zs, H2, I2, rz, q2⟩ => ⟨I2.kIn, ?_⟩
  rw [hks]
  exact run_fnkG F hr hG hb hx I2 r rz q2
end
/-- a def by its body -/
theorem fn_ofG {CX : CXT} {P : Program} {w : World} {K : PySem.W.Frag} {mg : Str → Option Value} {base : Heap} {k : Nat} {f : Addr} {name qual : Str} {params : Arguments} {body : List Stmt} {scope : Scope} {dV kV doc pm cdv ct oc : Value} {an od : Option Addr}
    {osl : Array (Option Value)} {N ps : List Str} {sp : Sp} (lk : K.lookup f = some ⟨oc, od, .func (PySem.W.fnOf name qual params body scope dV kV doc pm an cdv ct), osl⟩) (hcd : PySem.W.codeIn K cdv qual = true) (S : FnScope N ps scope)
    (len : ∀ vs H Q E, sp vs H Q E → vs.length = ps.length)
    (hbody : ∀ (A : Around) (outer : List Env) (s : Shared) (H : Hp) (vs : List V) (Q : VK) (E : XK), Room k (A.deeper (envOfC qual scope s.heap.objs.size f cdv)) → A.guards = some [] → sp vs H Q E →
      ∃ t, PSs (cxOf CX P w K mg base N qual scope f cdv A outer s H E) body t ∧ t { nx := fun _ H' => Q .non H', rt := Q } (start N vs) H) :
    FnG P w K mg base CX (k + 1) f (PySem.W.fnOf name qual params body scope dV kV doc pm an cdv ct) ps sp := by
  refine ⟨len, fun A outer s H args us vs Q E hr hG e0 hb r hsp => ?_⟩
  have hl := len _ _ _ _ hsp
  have KX : K.In s.heap := e0.mod.kin.keeps fun b o e => (e0.bs b o e).1
  have lim : s.heap.NoLimit := e0.mod.nolimit.keeps fun b o e => (e0.bs b o e).1
  have hkind : ∀ y ∈ ps.zip us, scope.names.lookup y.1 = some .local ∨ (scope.names.lookup y.1 = some .cell ∧ ((cellsFrom (s.heap.objs.size + 1) scope.names []).lookup y.1).isSome = true) := fun ⟨n, v⟩ hy => by
    rcases S.par n (List.of_mem_zip hy).1 with q | q
    · exact .inl q
    · exact .inr ⟨q, PySem.W.cellsFrom_some _ _ _ (.inl q)⟩
  refine codeAny_call_function hr.depth (KX _ _ lk) rfl S.co S.gen rfl (PySem.W.codeRec_of KX hcd) (hb _ _ _ _ ?_)
  refine wpAny_newFunctionEnv_cells S.kind hkind fun env he s1 x => ?_
  subst he
  refine ⟨lim.keeps x.toInCall.keep, codeAny_func ?_⟩
  obtain ⟨t, ht, hq⟩ := hbody A outer s H vs Q E (hr.deeper _) hG hsp
  have I : Inv (cxOf CX P w K mg base N qual scope f cdv A outer s H E) [] (start N vs) H s1 := inv_start S hr.hd e0 hl r x
  refine wpAny_mono (ht.run [] s1 (start N vs) H _ I hq) (fun fl s' hs => ?_) fun e s' hs => hs
  have fin : ∀ {σ' : L2.St} {H' : Hp} {v : V} {u : Value}, Inv (cxOf CX P w K mg base N qual scope f cdv A outer s H E) [] σ' H' s' → RelV v u → Q v H' → CE outer P w H s Q u s' :=
    fun {σ' H' v u} J rv q => ⟨v, H', J.os, J.bare, J.base, J.hok, rv, q⟩
  cases fl with
  | ret u =>
    obtain ⟨v, σ', H', J, rv, q⟩ := hs
    exact fin J rv q
  | next =>
    obtain ⟨σ', H', J, q⟩ := hs
    exact fin (v := V.non) (u := Value.none) J rfl q
  | brk =>
    obtain ⟨_, _, _, q⟩ := hs
    exact False.elim q
  | cont =>
    obtain ⟨_, _, _, q⟩ := hs
    exact False.elim q
abbrev DSp := List DV → Sto → DK → Prop
def spL (G : Gam) (S : DSp) : Sp := fun vs H Q _ => ∃ F m ds Q0, Rel G F m H ∧ VRs G.K F vs ds ∧ S ds m Q0 ∧ Kt G F Q0 Q
/-- n arguments -/
def arD (n : Nat) (S : DSp) : DSp := fun ds m Q => ds.length = n ∧ S ds m Q
theorem spL_len {G : Gam} {S : DSp} {n : Nat} {vs : List V} {H : Hp} {Q : VK} {E : XK} (h : spL G (arD n S) vs H Q E) : vs.length = n := by
  obtain ⟨F, m, ds, Q0, _, r, ⟨e, _⟩, _⟩ := h
  rw [r.length, e]
def startD (n : Nat) (ds : List DV) : Slots := ds.map some ++ List.replicate (n - ds.length) none
theorem sr_start {K : PySem.W.Frag} {F : Hp} {N : List Str} {vs : List V} {ds : List DV} (r : VRs K F vs ds) : SR K F (start N vs) (startD N.length ds) := by
  refine ⟨by simp [L2.start, startD, r.length], fun i d h => ?_⟩
  unfold startD at h
  unfold L2.start
  by_cases hi : i < ds.length
  · rw [List.getElem?_append_left (by simpa using hi), List.getElem?_map] at h
    cases e : ds[i]? with
    | none => rw [e] at h; cases h
    | some c =>
      rw [e] at h; cases h
      obtain ⟨v, hv, rv⟩ := r.get e
      refine ⟨v, ?_, rv⟩
      rw [List.getElem?_append_left (by simp [r.length]; exact hi), List.getElem?_map, hv]; rfl
  · rw [List.getElem?_append_right (by simpa using hi), List.getElem?_replicate] at h
    split at h <;> cases h
def runD (n : Nat) (w : DS) : DSp := fun ds m Q => w { nx := fun _ m' => Q .non m', rt := Q } (startD n ds) m
theorem runD_ok {G : Gam} {N : List Str} {w : DS} {vs : List V} {H : Hp} {Q : VK} {E : XK} {n : Nat} (h : spL G (arD n (runD N.length w)) vs H Q E) : LS G w { nx := fun _ H' => Q .non H', rt := Q } (start N vs) H := by
  obtain ⟨F, m, ds, Q0, r, rv, ⟨_, h⟩, k⟩ := h
  refine ⟨F, m, startD N.length ds, _, r, sr_start rv, h, ⟨fun δ' m' σ' F' H' q e r' s' => k _ _ _ _ _ q e r' .non, k, fun _ _ _ _ _ q => False.elim q, fun _ _ _ _ _ q => False.elim q⟩⟩
/-- a def over data, by its body -/
theorem Fun.okD {P : Program} {w : World} {K : PySem.W.Frag} {mg : Str → Option Value} {base : Heap} {G : Gam} {x qual : Str} {st : Stmt} {f : Addr} {fd : FuncData} {N ps : List Str} {k : Nat} {W : DS} (F : Fun K x qual st f fd) (S : FnScope N ps (defScope st))
    (hbody : ∀ (cdv : Value) (A : Around) (outer : List Env) (s : Shared) (H : Hp) (E : XK), Room k (A.deeper (envOfC qual (defScope st) s.heap.objs.size f cdv)) → A.guards = some [] →
      PSs (cxOf CX0 P w K mg base N qual (defScope st) f cdv A outer s H E).nox (defBody st) (LS G W)) : FnG P w K mg base CX0 (k + 1) f fd ps (spL G (arD ps.length (runD N.length W))) := by
  obtain ⟨oc, od, kV, doc, pm, an, cdv, ct, osl, rfl, lk, hcd⟩ := F.ex
  exact fn_ofG lk hcd S (fun vs H Q E h => spL_len h) fun A outer s H vs Q E hr hG hsp => ⟨_, (hbody cdv A outer s H E hr hG).nox, runD_ok hsp⟩
structure DX (X : Cx) (G : Gam) (k : Nat) : Prop where
  K : X.K = G.K
  room : Room k X.A
  gd : X.A.guards = some []
  calm : X.calm = true
  pas : PassesOwn (model X.prog X.w) X.A X.env X.xe
  nd : X.N.Nodup
section
variable {X : Cx} {G : Gam} {k j : Nat} {f C : Addr} {c : Nat} {fd : FuncData} {ps ks : List Str} {S : DSp} {dvs : List V} {dds : List DV} {ds : List Value} {x m : Str} {p pos apos : Pos} {e o : Expr} {es : List Expr} {kws : List Keyword} {w : DE} {wa wb : DA}
def wNil : DA := fun _ m Q => Q [] m
def wCons (a : DE) (r : DA) : DA := fun δ m Q => a δ m fun d m1 => r δ m1 fun ds m2 => Q (d :: ds) m2
theorem la_nil {σ : L2.St} {H : Hp} {Q : List V → Hp → Prop} (h : LA G wNil σ H Q) : tNil σ H Q := by
  obtain ⟨F, m, δ, Q0, r, s, h, k⟩ := h
  exact k _ _ _ _ _ h (Ex.refl F) r .nil
theorem la_cons {σ : L2.St} {H : Hp} {Q : List V → Hp → Prop} (h : LA G (wCons w wa) σ H Q) : tCons (LE G w) (LA G wa) σ H Q := by
  obtain ⟨F, m, δ, Q0, r, s, h, k⟩ := h
  exact ⟨F, m, δ, _, r, s, h, fun d1 m1 v1 F1 H1 h1 e1 r1 v1r => ⟨F1, m1, δ, _, r1, s.mono e1, h1, fun ds m2 vs F2 H2 h2 e2 r2 v2 => k _ _ _ _ _ h2 (e1.trans e2) r2 (.cons (v1r.mono e2) v2)⟩⟩
theorem qa_nil : PA X [] (LA G wNil) := PA.imp pa_nil fun _ _ _ h => la_nil h
theorem qa_cons (ha : PE X e (LE G w)) (hr : PA X es (LA G wa)) (hs : starEach (e :: es) X.env = (false, eval e X.env) :: starEach es X.env := by rfl) : PA X (e :: es) (LA G (wCons w wa)) :=
  PA.imp (pa_cons ha hr hs) fun _ _ _ h => la_cons h
theorem qk_nil : PK X [] (LA G wNil) := PK.imp pk_nil fun _ _ _ h => la_nil h
theorem qk_cons {nm : Option Str} {kpos : Pos} (ha : PE X e (LE G w)) (hr : PK X kws (LA G wa)) : PK X (⟨nm, e, kpos⟩ :: kws) (LA G (wCons w wa)) :=
  PK.imp (pk_cons ha hr) fun _ _ _ h => la_cons h
/-- f(..) -/
def wCall (S : DSp) (dds : List DV) (t : DA) : DE := fun δ m Q => t δ m fun ds m1 => S (ds ++ dds) m1 Q
theorem le_call {σ : L2.St} {H : Hp} {Q : VK} (hdd : ∀ F, VRs G.K F dvs dds) (h : LE G (wCall S dds wa) σ H Q) : tCall (spL G S) dvs E0 (LA G wa) σ H Q := by
  obtain ⟨F, m, δ, Q0, r, s, h, k⟩ := h
  exact ⟨F, m, δ, _, r, s, h, fun ds m1 vs F1 H1 h1 e1 r1 v1 => ⟨F1, m1, _, Q0, r1, v1.append (hdd F1), h1, k.mono e1⟩⟩
theorem qe_call (F : FnG X.prog X.w X.K X.mg X.base CX0 k f fd ps (spL G S)) (dx : DX X G j) (hj : k ≤ j) (hg : Gl X x) (hm : X.mg x = some (.ref f)) (hk : PySem.W.keepIn X.K (.ref f) = true) (hb : Binds X.K fd ps ds) (hd : Vals dvs ds) (hdd : ∀ F, VRs G.K F dvs dds)
    (ha : PA X (e :: es) (LA G wa)) (hdb : (x == ("__debug__" : Str)) = false := by decide) (he : starEach (e :: es) X.env = (false, eval e X.env) :: starEach es X.env := by rfl) (hpl : (backTo pos (starEach es X.env)).any (·.1) = false := by rfl) :
    PE X (.Call (.Name x p) (e :: es) [] pos) (LE G (wCall S dds wa)) :=
  PE.imp (pe_callG F (dx.room.mono hj) dx.gd hg hm hk hb hd pass0 ha hdb he hpl) fun _ _ _ h => le_call hdd h
theorem qe_call0 (F : FnG X.prog X.w X.K X.mg X.base CX0 k f fd ps (spL G S)) (dx : DX X G j) (hj : k ≤ j) (hg : Gl X x) (hm : X.mg x = some (.ref f)) (hk : PySem.W.keepIn X.K (.ref f) = true) (hb : Binds X.K fd ps ds) (hd : Vals dvs ds) (hdd : ∀ F, VRs G.K F dvs dds)
    (hdb : (x == ("__debug__" : Str)) = false := by decide) : PE X (.Call (.Name x p) [] [] pos) (LE G (wCall S dds wNil)) :=
  PE.imp (pe_callG0 F (dx.room.mono hj) dx.gd hg hm hk hb hd pass0 hdb) fun σ H Q h => by
    obtain ⟨F, m, δ, Q0, r, s, h, k⟩ := h
    exact ⟨F, m, dds, Q0, r, hdd F, h, k⟩
/-- f(.., k = ..): gD tells where the values go -/
def wCallK (S : DSp) (gD : List DV → List DV → List DV) (t tk : DA) : DE := fun δ m Q => t δ m fun ds m1 => tk δ m1 fun es m2 => S (gD ds es) m2 Q
theorem qe_callK {g : List Value → List Value → List Value} {gV : List V → List V → List V} {gD : List DV → List DV → List DV} (F : FnG X.prog X.w X.K X.mg X.base CX0 k f fd ps (spL G S)) (dx : DX X G j) (hj : k ≤ j) (hg : Gl X x) (hm : X.mg x = some (.ref f)) (hk : PySem.W.keepIn X.K (.ref f) = true) (hb : KBinds X.K fd ps ks g gV)
    (hgd : ∀ F vs ds ws es, VRs G.K F vs ds → VRs G.K F ws es → VRs G.K F (gV vs ws) (gD ds es))
    (ha : PA X (e :: es) (LA G wa)) (hkw : PK X kws (LA G wb)) (hall : (backToKw pos (keywordEach kws X.env)).all (·.1.isSome) = true := by rfl) (hks : (backToKw pos (keywordEach kws X.env)).filterMap (·.1) = ks := by rfl)
    (hdb : (x == ("__debug__" : Str)) = false := by decide) (he : starEach (e :: es) X.env = (false, eval e X.env) :: starEach es X.env := by rfl)
    (hpl : ((backTo pos (starEach (e :: es) X.env)).any (·.1) || (backToKw pos (keywordEach kws X.env)).any (·.1.isNone)) = false := by rfl) :
    PE X (.Call (.Name x p) (e :: es) kws pos) (LE G (wCallK S gD wa wb)) :=
  PE.imp (pe_callGK F (dx.room.mono hj) dx.gd hg hm hk hb pass0 ha hkw hall hks hdb he hpl) fun σ H Q h => by
    obtain ⟨F, m, δ, Q0, r, s, h, k⟩ := h
    exact ⟨F, m, δ, _, r, s, h, fun ds m1 vs F1 H1 h1 e1 r1 v1 => ⟨F1, m1, δ, _, r1, s.mono e1, h1, fun es m2 ws F2 H2 h2 e2 r2 v2 => ⟨F2, m2, _, Q0, r2, hgd _ _ _ _ _ (v1.mono e2) v2, h2, k.mono (e1.trans e2)⟩⟩⟩
/-- o.m(..) of an instance of class c -/
def hasF (m : Sto) (c : Nat) (d : DV) : Prop := match d with
  | .ref p => match m p with
    | some (.ins c' _) => c' = c
    | _ => False
  | _ => False
theorem hasF_ok {F : Hp} {mm : Sto} {v : V} {d : DV} (h : VR G.K F v d) (hf : hasF mm c d) : ∃ a fs, v = .ref a ∧ d = .ref a ∧ mm a = some (.ins c fs) := by
  cases h <;> first | exact False.elim hf | skip
  rename_i a
  unfold hasF at hf
  cases em : mm a with
  | none => simp only [em] at hf
  | some ob =>
    simp only [em] at hf
    cases ob <;> first | exact False.elim hf | skip
    rename_i c' fs
    have hf : c' = c := hf
    subst hf
    exact ⟨a, fs, rfl, rfl, em⟩
def wMeth (c : Nat) (S : DSp) (dds : List DV) (w : DE) (t : DA) : DE := fun δ m Q => w δ m fun x m1 => hasF m1 c x ∧ t δ m1 fun ds m2 => S (x :: (ds ++ dds)) m2 Q
theorem lookup_fr {F : Hp} {fv : List (Str × V)} {fs : List (Nat × DV)} {mm : Str} (h : FR G F fv fs) (hn : ∀ i, G.fld i ≠ mm) : fv.lookup mm = none := by
  unfold FR at h
  induction h with
  | nil => rfl
  | @cons a b as bs h t ih =>
    obtain ⟨n, v⟩ := a
    have e : n = G.fld b.1 := h.1
    rw [List.lookup_cons]
    have hb : (mm == n) = false := by
      rw [e]; exact beq_eq_false_iff_ne.mpr fun q => hn b.1 q.symm
    rw [hb]; exact ih
theorem le_meth {σ : L2.St} {H : Hp} {Q : VK} (hC : G.cls c = C) (hn : ∀ i, G.fld i ≠ m) (hdd : ∀ F, VRs G.K F dvs dds) (h : LE G (wMeth c S dds w wa) σ H Q) : tMeth C m (spL G S) dvs E0 (LE G w) (LA G wa) σ H Q := by
  obtain ⟨F, mm, δ, Q0, r, s, h, k⟩ := h
  refine ⟨F, mm, δ, _, r, s, h, fun d m1 v F1 H1 ⟨hf, h1⟩ e1 r1 v1 => ?_⟩
  obtain ⟨a, fs, rfl, rfl, em⟩ := hasF_ok v1 hf
  obtain ⟨_, u, hu, dx, fv, rfl, hfr⟩ := r1.mo a _ em
  refine ⟨a, dx, fv, rfl, by rw [← hC]; exact hu, lookup_fr hfr hn, F1, m1, δ, _, r1, s.mono e1, h1, fun ds m2 vs F2 H2 h2 e2 r2 v2 => ?_⟩
  exact ⟨F2, m2, _, Q0, r2, .cons (.ref a) (v2.append (hdd F2)), h2, k.mono (e1.trans e2)⟩
theorem qe_meth {pl : Sem Bool} (he : PE X o (LE G w)) (cl : Cls X.K C) (hC : G.cls c = C) (hn : ∀ i, G.fld i ≠ m) (hm : Meth X.K C m f) (F : FnG X.prog X.w X.K X.mg X.base CX0 k f fd ps (spL G S)) (dx : DX X G j) (hj : k ≤ j) (hb : Binds X.K fd ps ds) (hd : Vals dvs ds) (hdd : ∀ F, VRs G.K F dvs dds)
    (ha : PA X (e :: es) (LA G wa)) (hst : starEach (e :: es) X.env = (false, eval e X.env) :: starEach es X.env := by rfl) (hpl : (backTo pos (starEach es X.env)).any (·.1) = false := by rfl)
    (ht : eval (.Call (.Attribute o m apos) (e :: es) [] pos) X.env = (do
      let ov ← eval o X.env
      standAt apos.atName
      let (f, first) ← holding [ov] (getMethod ov m pl)
      callWith pos f first (backTo pos (starEach (e :: es) X.env)) (backToKw pos (keywordEach [] X.env))) := by rfl) :
    PE X (.Call (.Attribute o m apos) (e :: es) [] pos) (LE G (wMeth c S dds w wa)) :=
  PE.imp (pe_methG (pl := pl) he cl hm F (dx.room.mono hj) dx.gd hb hd pass0 ha hst hpl ht) fun _ _ _ h => le_meth hC hn hdd h
theorem qe_meth0 {pl : Sem Bool} (he : PE X o (LE G w)) (cl : Cls X.K C) (hC : G.cls c = C) (hn : ∀ i, G.fld i ≠ m) (hm : Meth X.K C m f) (F : FnG X.prog X.w X.K X.mg X.base CX0 k f fd ps (spL G S)) (dx : DX X G j) (hj : k ≤ j) (hb : Binds X.K fd ps ds) (hd : Vals dvs ds) (hdd : ∀ F, VRs G.K F dvs dds)
    (ht : eval (.Call (.Attribute o m apos) [] [] pos) X.env = (do
      let ov ← eval o X.env
      standAt apos.atName
      let (f, first) ← holding [ov] (getMethod ov m pl)
      callWith pos f first (backTo pos (starEach [] X.env)) (backToKw pos (keywordEach [] X.env))) := by rfl) :
    PE X (.Call (.Attribute o m apos) [] [] pos) (LE G (wMeth c S dds w wNil)) :=
  PE.imp (pe_methG0 (pl := pl) he cl hm F (dx.room.mono hj) dx.gd hb hd pass0 ht) fun σ H Q h => by
    obtain ⟨a, b, c, d, e⟩ := le_meth hC hn hdd h
    exact ⟨a, b, c, d, e.1, e.2.1, e.2.2.1, fun d m v F1 H1 h1 e1 r1 v1 => by
      obtain ⟨a1, dx1, fs1, q1, q2, q3, q4⟩ := e.2.2.2 d m v F1 H1 h1 e1 r1 v1
      exact ⟨a1, dx1, fs1, q1, q2, q3, la_nil q4⟩⟩
/-- C(..) -/
def wMake (c : Nat) (S : DSp) (dds : List DV) (t : DA) : DE := fun δ m Q => t δ m fun ds m1 => ∀ x, m1 x = none → S (.ref x :: (ds ++ dds)) (put m1 x (.ins c [])) fun v m2 => v = .non ∧ Q (.ref x) m2
theorem make_ok {F : Hp} {mm : Sto} {H : Hp} {vs : List V} {dd : List DV} {Q0 : DK} {Q : VK} (hC : G.cls c = C) (r : Rel G F mm H) (v : VRs G.K F vs dd) (h : ∀ x, mm x = none → S (.ref x :: dd) (put mm x (.ins c [])) fun v m2 => v = .non ∧ Q0 (.ref x) m2) (k : Kt G F Q0 Q) :
    ∀ x dx, H x = none → H dx = none → dx ≠ x → spL G S (.ref x :: vs) (upd (upd H dx (.own x)) x (.ins C dx [])) (fun v H2 => v = .non ∧ Q (.ref x) H2) E0 := fun x dx hx hdx ne => by
  have r1 : Rel G F mm (upd H dx (.own x)) := r.grow (Ex.new hdx)
  have r2 : Rel G F (put mm x (.ins c [])) (upd (upd H dx (.own x)) x (.ins C dx [])) := r1.newM (by rw [upd_ne (fun z => ne z.symm)]; exact hx) ⟨dx, [], by rw [hC], .nil⟩
  exact ⟨F, _, _, _, r2, .cons (.ref x) v, h x (r.freeM hx), fun d m' v F' H' ⟨q1, q2⟩ e' r' v' => by subst q1; cases v'; exact ⟨rfl, k _ _ _ _ _ q2 e' r' (.ref x)⟩⟩
theorem qe_make (M : Mk X.K C f) (hC : G.cls c = C) (F : FnG X.prog X.w X.K X.mg X.base CX0 k f fd ps (spL G S)) (dx : DX X G j) (hj : k + 1 ≤ j) (hg : Gl X x) (hm : X.mg x = some (.ref C)) (hb : Binds X.K fd ps ds) (hd : Vals dvs ds) (hdd : ∀ F, VRs G.K F dvs dds)
    (ha : PA X (e :: es) (LA G wa)) (hdb : (x == ("__debug__" : Str)) = false := by decide) (he : starEach (e :: es) X.env = (false, eval e X.env) :: starEach es X.env := by rfl) (hpl : (backTo pos (starEach es X.env)).any (·.1) = false := by rfl) :
    PE X (.Call (.Name x p) (e :: es) [] pos) (LE G (wMake c S dds wa)) :=
  PE.imp (pe_makeG M F (dx.room.mono hj) dx.gd hg hm hb hd pass0 ha hdb he hpl) fun σ H Q h => by
    obtain ⟨F, mm, δ, Q0, r, s, h, k⟩ := h
    exact ⟨F, mm, δ, _, r, s, h, fun ds m1 vs F1 H1 h1 e1 r1 v1 => make_ok hC r1 (v1.append (hdd F1)) h1 (k.mono e1)⟩
theorem qe_make0 (M : Mk X.K C f) (hC : G.cls c = C) (F : FnG X.prog X.w X.K X.mg X.base CX0 k f fd ps (spL G S)) (dx : DX X G j) (hj : k + 1 ≤ j) (hg : Gl X x) (hm : X.mg x = some (.ref C)) (hb : Binds X.K fd ps ds) (hd : Vals dvs ds) (hdd : ∀ F, VRs G.K F dvs dds)
    (hdb : (x == ("__debug__" : Str)) = false := by decide) : PE X (.Call (.Name x p) [] [] pos) (LE G (wMake c S dds wNil)) :=
  PE.imp (pe_makeG0 M F (dx.room.mono hj) dx.gd hg hm hb hd pass0 hdb) fun σ H Q h => by
    obtain ⟨F, mm, δ, Q0, r, s, h, k⟩ := h
    exact make_ok hC r (hdd F) h k
end
end DL
namespace DL
open PySem PySem.Spec PyProof.Rows L2
theorem DX.u65 {X : Cx} {G : Gam} {k : Nat} (d : DX X G k) : X.A.units + 65 < cLine := by
  have := d.room.un
  omega
theorem DX.u1 {X : Cx} {G : Gam} {k : Nat} (d : DX X G k) : X.A.units + 1 < cLine := by
  have := d.room.un
  omega
theorem DX.u0 {X : Cx} {G : Gam} {k : Nat} (d : DX X G k) : X.A.units < cLine := by
  have := d.room.un
  omega
section
variable {X : Cx} {G : Gam} {k : Nat} {a b e : Expr} {es : List Expr} {pos : Pos} {x : Str} {w wa wb : DE} {wt wu : DT} {wl : DA}
def wVar (i : Nat) : DE := fun δ m Q => match δ[i]? with
  | some (some d) => Q d m
  | _ => False
theorem qe_var {i : Nat} (hN : X.N[i]? = some x) (hv : Vis X.env.scope x) (hd : (x == ("__debug__" : Str)) = false := by decide) (hcd : (x == ("__classdict__" : Str)) = false := by decide) : PE X (.Name x pos) (LE G (wVar i)) :=
  PE.imp (pe_var hN hv hd hcd) fun σ H Q h => by
    obtain ⟨F, m, δ, Q0, r, s, h, k⟩ := h
    unfold wVar at h
    cases e : δ[i]? with
    | none => rw [e] at h; exact False.elim h
    | some o =>
      rw [e] at h
      cases o with
      | none => exact False.elim h
      | some d =>
        obtain ⟨v, hv, rv⟩ := s.at_ i d e
        exact ⟨v, hv, k _ _ _ _ _ h (Ex.refl F) r rv⟩
/-- a list of the store becomes data -/
def frzL (d : DV) (m : Sto) (Q : DK) : Prop := match d with
  | .ref p => match m p with
    | some (.lst xs) => Q (.lst xs) (rmv m p)
    | _ => Q d m
  | _ => Q d m
theorem frz_ok {F H : Hp} {m : Sto} {v : V} {d : DV} {Q0 : DK} {Q : VK} (r : Rel G F m H) (rv : VR G.K F v d) (h : frzL d m Q0) (k : Kt G F Q0 Q) : Q v H := by
  have pl : Q0 d m → Q v H := fun h => k _ _ _ _ _ h (Ex.refl F) r rv
  cases rv <;> first | exact pl h | skip
  rename_i a
  unfold frzL at h
  dsimp only at h
  cases e : m a with
  | none => rw [e] at h; exact pl h
  | some o =>
    rw [e] at h
    cases o <;> first | exact pl h | skip
    rename_i xs
    obtain ⟨hn, u, hu, vs, rfl, hr⟩ := r.mo a _ e
    have r' := r.freeze e hu
    exact k _ _ _ _ _ h (Ex.new hn) r' (.lst (.inl upd_same) (hr.mono (Ex.new hn)))
def wVarZ (i : Nat) : DE := fun δ m Q => match δ[i]? with
  | some (some d) => frzL d m Q
  | _ => False
theorem qe_varZ {i : Nat} (hN : X.N[i]? = some x) (hv : Vis X.env.scope x) (hd : (x == ("__debug__" : Str)) = false := by decide) (hcd : (x == ("__classdict__" : Str)) = false := by decide) : PE X (.Name x pos) (LE G (wVarZ i)) :=
  PE.imp (pe_var hN hv hd hcd) fun σ H Q h => by
    obtain ⟨F, m, δ, Q0, r, s, h, k⟩ := h
    unfold wVarZ at h
    cases e : δ[i]? with
    | none => rw [e] at h; exact False.elim h
    | some o =>
      rw [e] at h
      cases o with
      | none => exact False.elim h
      | some d =>
        obtain ⟨v, hv, rv⟩ := s.at_ i d e
        exact ⟨v, hv, frz_ok r rv h k⟩
def wC (d : DV) : DE := fun _ m Q => Q d m
theorem le_c {v : V} {d : DV} (hv : ∀ F, VR G.K F v d) {σ : L2.St} {H : Hp} {Q : VK} (h : LE G (wC d) σ H Q) : tC v σ H Q := by
  obtain ⟨F, m, δ, Q0, r, s, h, k⟩ := h
  exact k _ _ _ _ _ h (Ex.refl F) r (hv F)
theorem qe_int {i j} : PE X (.Constant (.int i) j pos) (LE G (wC (.int i))) := PE.imp pe_int fun _ _ _ h => le_c (fun _ => .int i) h
theorem qe_bl {i j} : PE X (.Constant (.bool i) j pos) (LE G (wC (.bl i))) := PE.imp pe_bl fun _ _ _ h => le_c (fun _ => .bl i) h
theorem qe_non {j} : PE X (.Constant .none j pos) (LE G (wC .non)) := PE.imp pe_non fun _ _ _ h => le_c (fun _ => .non) h
theorem qe_str {y : Str} {j} : PE X (.Constant (.str y) j pos) (LE G (wC (.str y))) := PE.imp pe_str fun _ _ _ h => le_c (fun _ => .str y) h
theorem qe_glob {v : V} {u : Value} {d : DV} (hg : Gl X x) (hm : X.mg x = some u) (r : RelV v u) (hv : ∀ F, VR G.K F v d) (hd : (x == ("__debug__" : Str)) = false := by decide) : PE X (.Name x pos) (LE G (wC d)) :=
  PE.imp (pe_glob hg hm r hd) fun _ _ _ h => le_c hv h
def wTup (t : DA) : DE := fun δ m Q => t δ m fun ds m1 => ds.length ≤ sizeLine ∧ Q (.tup ds) m1
theorem qe_tup {x1} (h : PA X es (LA G wl)) : PE X (.Tuple es x1 pos) (LE G (wTup wl)) :=
  PE.imp (pe_tup h) fun σ H Q h => by
    obtain ⟨F, m, δ, Q0, r, s, h, k⟩ := h
    exact ⟨F, m, δ, _, r, s, h, fun ds m1 vs F1 H1 ⟨h1, h2⟩ e1 r1 v1 => ⟨by rw [v1.length]; exact h1, newT_ok r1 h2 (k.mono e1) v1⟩⟩
def wLst (mu : Bool) (t : DA) : DE := fun δ m Q => t δ m fun ds m1 => ds.length ≤ sizeLine ∧ newL mu ds m1 Q
theorem qe_lst (mu : Bool) (h : PA X es (LA G wl)) : PE X (.List es pos) (LE G (wLst mu wl)) :=
  PE.imp (pe_lst h) fun σ H Q h => by
    obtain ⟨F, m, δ, Q0, r, s, h, k⟩ := h
    exact ⟨F, m, δ, _, r, s, h, fun ds m1 vs F1 H1 ⟨h1, h2⟩ e1 r1 v1 => ⟨by rw [v1.length]; exact h1, newL_ok r1 h2 (k.mono e1) v1⟩⟩
def wNeg (w : DE) : DE := fun δ m Q => w δ m fun d m1 => match d with
  | .int i => Q (.int (-i)) m1
  | _ => False
theorem qe_neg (he : PE X e (LE G w)) : PE X (.UnaryOp .USub e pos) (LE G (wNeg w)) :=
  PE.imp (pe_un un_neg he) fun σ H Q h => by
    obtain ⟨F, m, δ, Q0, r, s, h, k⟩ := h
    refine ⟨F, m, δ, _, r, s, h, fun d m1 v F1 H1 h1 e1 r1 v1 => ?_⟩
    cases v1 <;> first | exact False.elim h1 | skip
    exact ⟨_, rfl, k _ _ _ _ _ h1 e1 r1 (.int _)⟩
/-- the truth of a value -/
def truD (m : Sto) (d : DV) (Q : Bool → Prop) : Prop := match d with
  | .non => Q false
  | .bl b => Q b
  | .int i => Q (i != 0)
  | .str y => y.length ≤ sizeLine ∧ Q ((y.length : Int) != 0)
  | .lst xs => Q (!xs.isEmpty)
  | .tup xs => Q (!xs.isEmpty)
  | .ktup xs => Q (!xs.isEmpty)
  | .klst xs => Q (!xs.isEmpty)
  | .ref p => match m p with
    | some (.lst xs) => Q (!xs.isEmpty)
    | some (.dct kvs) => Q (!kvs.isEmpty)
    | _ => False
theorem isEmpty_vrs {K : PySem.W.Frag} {F : Hp} {vs : List V} {ds : List DV} (h : VRs K F vs ds) : vs.isEmpty = ds.isEmpty := by cases h <;> rfl
theorem tru_vr {F H : Hp} {m : Sto} {v : V} {d : DV} {Q : Bool → Prop} (r : Rel G F m H) (rv : VR G.K F v d) (h : truD m d Q) : ∃ b, TruV G.K v H b ∧ Q b := by
  cases rv with
  | non => exact ⟨_, rfl, h⟩
  | bl b => exact ⟨_, rfl, h⟩
  | int i => exact ⟨_, rfl, h⟩
  | str y => exact ⟨_, ⟨h.1, rfl⟩, h.2⟩
  | lst hs hr => exact ⟨_, .inl ⟨_, .inl (r.ex.rd hs), rfl⟩, by rw [isEmpty_vrs hr]; exact h⟩
  | tup hs hr => exact ⟨_, .inr (.inl ⟨_, SqT.of (r.ex _ _ hs), rfl⟩), by rw [isEmpty_vrs hr]; exact h⟩
  | ktup hs hr => exact ⟨_, .inr (.inl ⟨_, Ex.sqT ex_none hs, rfl⟩), by rw [isEmpty_vrs hr]; exact h⟩
  | klst hs hr => exact ⟨_, .inl ⟨_, Ex.sqL ex_none hs, rfl⟩, by rw [isEmpty_vrs hr]; exact h⟩
  | ref a =>
    unfold truD at h
    dsimp only at h
    cases e : m a with
    | none => rw [e] at h; exact False.elim h
    | some o =>
      rw [e] at h
      cases o <;> first | exact False.elim h | skip
      · obtain ⟨_, u, hu, vs, rfl, hr⟩ := r.mo a _ e
        exact ⟨_, .inl ⟨_, SqL.of hu, rfl⟩, by rw [isEmpty_vrs hr]; exact h⟩
      · rename_i kvs
        obtain ⟨_, u, hu, kv, rfl, hr⟩ := r.mo a _ e
        have hh : kv.isEmpty = kvs.isEmpty := by
          unfold KR at hr
          cases hr <;> rfl
        exact ⟨_, .inr (.inr ⟨_, hu, rfl⟩), by rw [hh]; exact h⟩
def wTru (w : DE) : DT := fun δ m Q => w δ m fun d m1 => truD m1 d fun b => Q b m1
theorem qt_truth (hK : X.K = G.K) (ha : PE X a (LE G w)) (he : ∀ whole, isTrue a X.env whole = (do let v ← whole; standAt a.pos; holding [v] (truthy v)) := by intro _; rfl) : PT X a (LT G (wTru w)) :=
  PT.imp (pt_truth ha he) fun σ H Q h => by
    obtain ⟨F, m, δ, Q0, r, s, h, k⟩ := h
    refine ⟨F, m, δ, _, r, s, h, fun d m1 v F1 H1 h1 e1 r1 v1 => ?_⟩
    obtain ⟨b, t, q⟩ := tru_vr r1 v1 h1
    exact ⟨b, by rw [hK]; exact t, k _ _ _ _ q e1 r1⟩
/-- the truth of a bool -/
def wBl (w : DE) : DT := fun δ m Q => w δ m fun d m1 => match d with
  | .bl b => Q b m1
  | _ => False
theorem lt_bl {σ : L2.St} {H : Hp} {Q : Bool → Hp → Prop} (h : LT G (wBl w) σ H Q) : tTest (LE G w) σ H Q := by
  obtain ⟨F, m, δ, Q0, r, s, h, k⟩ := h
  refine ⟨F, m, δ, _, r, s, h, fun d m1 v F1 H1 h1 e1 r1 v1 => ?_⟩
  cases v1 <;> first | exact False.elim h1 | skip
  exact ⟨_, rfl, k _ _ _ _ h1 e1 r1⟩
theorem qt_cmp {op : CmpOp} {R : D2} (ho : OpR X (compareOp op) (LR2 G R)) (ha : PE X a (LE G wa)) (hb : PE X b (LE G wb)) (hm : behindInMarks op b = false) : PT X (.Compare a [op] [b] pos) (LT G (wBl (wOp R wa wb))) :=
  PT.imp (pt_cmpR ho ha hb hm) fun σ H Q h => by
    obtain ⟨F, m, δ, Q0, r, s, h, k⟩ := lt_bl h
    exact le_op ⟨F, m, δ, Q0, r, s, h, k⟩
/-- x op y op' z -/
def wChain (R R' : D2) (wa wb wc : DE) : DE := fun δ m Q => wa δ m fun x m1 => wb δ m1 fun y m2 => R x y m2 fun z m3 => match z with
  | .bl true => wc δ m3 fun u m4 => R' y u m4 Q
  | .bl false => Q (.bl false) m3
  | _ => False
theorem le_chain {R R' : D2} {wc : DE} {σ : L2.St} {H : Hp} {Q : VK} (h : LE G (wChain R R' wa wb wc) σ H Q) : tChain (LR2 G R) (LR2 G R') (LE G wa) (LE G wb) (LE G wc) σ H Q := by
  obtain ⟨F, m, δ, Q0, r, s, h, k⟩ := h
  refine ⟨F, m, δ, _, r, s, h, fun d1 m1 v1 F1 H1 h1 e1 r1 q1 => ⟨F1, m1, δ, _, r1, s.mono e1, h1, fun d2 m2 v2 F2 H2 h2 e2 r2 q2 => ⟨F2, m2, d1, d2, _, r2, q1.mono e2, q2, h2, fun d3 m3 v3 F3 H3 h3 e3 r3 q3 => ?_⟩⟩⟩
  cases q3 <;> first | exact False.elim h3 | skip
  rename_i b
  refine ⟨b, rfl, ?_⟩
  cases b with
  | true =>
    rw [if_pos rfl]
    exact ⟨F3, m3, δ, _, r3, s.mono ((e1.trans e2).trans e3), h3, fun d4 m4 v4 F4 H4 h4 e4 r4 q4 => ⟨F4, m4, d2, d4, Q0, r4, q2.mono (e3.trans e4), q4, h4, k.mono (((e1.trans e2).trans e3).trans e4)⟩⟩
  | false =>
    rw [if_neg Bool.false_ne_true]
    exact k _ _ _ _ _ h3 ((e1.trans e2).trans e3) r3 (.bl false)
theorem qe_chain {op op' : CmpOp} {R R' : D2} {c : Expr} {wc : DE} (ho : OpR X (compareOp op) (LR2 G R)) (ho' : OpR X (compareOp op') (LR2 G R')) (ha : PE X a (LE G wa)) (hb : PE X b (LE G wb)) (hc : PE X c (LE G wc)) (hm : lastMarks [op, op'] [b, c] = false := by with_unfolding_all rfl) :
    PE X (.Compare a [op, op'] [b, c] pos) (LE G (wChain R R' wa wb wc)) := PE.imp (pe_chain ho ho' ha hb hc hm) fun _ _ _ h => le_chain h
theorem qt_chain {op op' : CmpOp} {R R' : D2} {c : Expr} {wc : DE} (ho : OpR X (compareOp op) (LR2 G R)) (ho' : OpR X (compareOp op') (LR2 G R')) (ha : PE X a (LE G wa)) (hb : PE X b (LE G wb)) (hc : PE X c (LE G wc)) (hm : lastMarks [op, op'] [b, c] = false := by with_unfolding_all rfl) :
    PT X (.Compare a [op, op'] [b, c] pos) (LT G (wBl (wChain R R' wa wb wc))) := PT.imp (pt_chain ho ho' ha hb hc hm) fun σ H Q h => by
    obtain ⟨F, m, δ, Q0, r, s, h, k⟩ := lt_bl h
    exact le_chain ⟨F, m, δ, Q0, r, s, h, k⟩
/-- and, or, not as tests -/
def wAndT (t u : DT) : DT := fun δ m Q => t δ m fun b m1 => if b = true then u δ m1 Q else Q false m1
def wOrT (t u : DT) : DT := fun δ m Q => t δ m fun b m1 => if b = true then Q true m1 else u δ m1 Q
def wNotT (t : DT) : DT := fun δ m Q => t δ m fun b m1 => Q (!b) m1
theorem qw_and1 (ha : PT X a (LT G wt)) : PW X (.BoolOp .And [a] pos) (LT G wt) := pw_and1 ha
theorem qw_or1 (ha : PT X a (LT G wt)) : PW X (.BoolOp .Or [a] pos) (LT G wt) := pw_or1 ha
theorem qw_and {rest : List Expr} (ha : PT X a (LT G wt)) (hb : PW X (.BoolOp .And (b :: rest) pos) (LT G wu)) : PW X (.BoolOp .And (a :: b :: rest) pos) (LT G (wAndT wt wu)) :=
  PW.imp (pw_and ha hb) fun σ H Q h => by
    obtain ⟨F, m, δ, Q0, r, s, h, k⟩ := h
    refine ⟨F, m, δ, _, r, s, h, fun c m1 F1 H1 h1 e1 r1 => ?_⟩
    cases c with
    | true => exact ⟨F1, m1, δ, Q0, r1, s.mono e1, h1, k.mono e1⟩
    | false => exact k _ _ _ _ h1 e1 r1
theorem qw_or {rest : List Expr} (ha : PT X a (LT G wt)) (hb : PW X (.BoolOp .Or (b :: rest) pos) (LT G wu)) : PW X (.BoolOp .Or (a :: b :: rest) pos) (LT G (wOrT wt wu)) :=
  PW.imp (pw_or ha hb) fun σ H Q h => by
    obtain ⟨F, m, δ, Q0, r, s, h, k⟩ := h
    refine ⟨F, m, δ, _, r, s, h, fun c m1 F1 H1 h1 e1 r1 => ?_⟩
    cases c with
    | false => exact ⟨F1, m1, δ, Q0, r1, s.mono e1, h1, k.mono e1⟩
    | true => exact k _ _ _ _ h1 e1 r1
theorem qt_not (ha : PT X a (LT G wt)) : PT X (.UnaryOp .Not a pos) (LT G (wNotT wt)) :=
  PT.imp (pt_not ha) fun σ H Q h => by
    obtain ⟨F, m, δ, Q0, r, s, h, k⟩ := h
    exact ⟨F, m, δ, _, r, s, h, fun c m1 F1 H1 h1 e1 r1 => k _ _ _ _ h1 e1 r1⟩
/-- and, or, not as values -/
def wAnd (wa wb : DE) : DE := fun δ m Q => wa δ m fun x m1 => truD m1 x fun b => if b = true then wb δ m1 Q else Q x m1
def wOr (wa wb : DE) : DE := fun δ m Q => wa δ m fun x m1 => truD m1 x fun b => if b = true then Q x m1 else wb δ m1 Q
def wNot (wa : DE) : DE := fun δ m Q => wa δ m fun x m1 => truD m1 x fun b => Q (.bl (!b)) m1
theorem qe_one {op} (h : PE X a (LE G w)) : PE X (.BoolOp op [a] pos) (LE G w) := pe_one h
theorem qe_and {rest : List Expr} (hK : X.K = G.K) (ha : PE X a (LE G wa)) (hb : PE X (.BoolOp .And (b :: rest) pos) (LE G wb)) : PE X (.BoolOp .And (a :: b :: rest) pos) (LE G (wAnd wa wb)) :=
  PE.imp (pe_andT ha hb) fun σ H Q h => by
    obtain ⟨F, m, δ, Q0, r, s, h, k⟩ := h
    refine ⟨F, m, δ, _, r, s, h, fun d m1 v F1 H1 h1 e1 r1 v1 => ?_⟩
    obtain ⟨b, t, q⟩ := tru_vr r1 v1 h1
    refine ⟨b, by rw [hK]; exact t, ?_⟩
    cases b with
    | true => exact ⟨F1, m1, δ, Q0, r1, s.mono e1, q, k.mono e1⟩
    | false => exact k _ _ _ _ _ q e1 r1 v1
theorem qe_or {rest : List Expr} (hK : X.K = G.K) (ha : PE X a (LE G wa)) (hb : PE X (.BoolOp .Or (b :: rest) pos) (LE G wb)) : PE X (.BoolOp .Or (a :: b :: rest) pos) (LE G (wOr wa wb)) :=
  PE.imp (pe_orT ha hb) fun σ H Q h => by
    obtain ⟨F, m, δ, Q0, r, s, h, k⟩ := h
    refine ⟨F, m, δ, _, r, s, h, fun d m1 v F1 H1 h1 e1 r1 v1 => ?_⟩
    obtain ⟨b, t, q⟩ := tru_vr r1 v1 h1
    refine ⟨b, by rw [hK]; exact t, ?_⟩
    cases b with
    | false => exact ⟨F1, m1, δ, Q0, r1, s.mono e1, q, k.mono e1⟩
    | true => exact k _ _ _ _ _ q e1 r1 v1
theorem qe_not (hK : X.K = G.K) (ha : PE X a (LE G wa)) : PE X (.UnaryOp .Not a pos) (LE G (wNot wa)) :=
  PE.imp (pe_notT ha) fun σ H Q h => by
    obtain ⟨F, m, δ, Q0, r, s, h, k⟩ := h
    refine ⟨F, m, δ, _, r, s, h, fun d m1 v F1 H1 h1 e1 r1 v1 => ?_⟩
    obtain ⟨b, t, q⟩ := tru_vr r1 v1 h1
    exact ⟨b, by rw [hK]; exact t, k _ _ _ _ _ q e1 r1 (.bl _)⟩
/-- a if c else b -/
def wIf (t : DT) (wa wb : DE) : DE := fun δ m Q => t δ m fun b m1 => if b = true then wa δ m1 Q else wb δ m1 Q
theorem qe_if {c : Expr} (hc : PT X c (LT G wt)) (ha : PE X a (LE G wa)) (hb : PE X b (LE G wb)) : PE X (.IfExp c a b pos) (LE G (wIf wt wa wb)) :=
  PE.imp (pe_ifExp hc ha hb) fun σ H Q h => by
    obtain ⟨F, m, δ, Q0, r, s, h, k⟩ := h
    refine ⟨F, m, δ, _, r, s, h, fun c m1 F1 H1 h1 e1 r1 => ?_⟩
    cases c with
    | true => exact ⟨F1, m1, δ, Q0, r1, s.mono e1, h1, k.mono e1⟩
    | false => exact ⟨F1, m1, δ, Q0, r1, s.mono e1, h1, k.mono e1⟩
def lookN (fs : List (Nat × DV)) (i : Nat) : Option DV := match fs with
  | [] => none
  | (j, d) :: r => if j = i then some d else lookN r i
def putN (i : Nat) (d : DV) : List (Nat × DV) → List (Nat × DV)
  | [] => [(i, d)]
  | (j, e) :: r => if j = i then (j, d) :: r else (j, e) :: putN i d r
def Gam.Inj (G : Gam) : Prop := ∀ i j, G.fld i = G.fld j → i = j
theorem FR.look {F : Hp} (hi : G.Inj) {i : Nat} {d : DV} {fv : List (Str × V)} {fs : List (Nat × DV)} (h : FR G F fv fs) (e : lookN fs i = some d) : ∃ v, fv.lookup (G.fld i) = some v ∧ VR G.K F v d := by
  unfold FR at h
  induction h with
  | nil => cases e
  | @cons a b as bs h t ih =>
    obtain ⟨n, v⟩ := a
    obtain ⟨j, c⟩ := b
    have en : n = G.fld j := h.1
    subst en
    rw [List.lookup_cons]
    unfold lookN at e
    by_cases z : j = i
    · subst z
      rw [if_pos rfl] at e; cases e
      rw [beq_self_eq_true]
      exact ⟨v, rfl, h.2⟩
    · rw [if_neg z] at e
      have hb : (G.fld i == G.fld j) = false := beq_eq_false_iff_ne.mpr fun q => z (hi _ _ q).symm
      rw [hb]
      exact ih e
theorem FR.put {F : Hp} (hi : G.Inj) {i : Nat} {v : V} {d : DV} (rv : VR G.K F v d) {fv : List (Str × V)} {fs : List (Nat × DV)} (h : FR G F fv fs) : FR G F (putF (G.fld i) v fv) (putN i d fs) := by
  unfold FR at h ⊢
  induction h with
  | nil => exact .cons ⟨rfl, rv⟩ .nil
  | @cons a b as bs h t ih =>
    obtain ⟨n, v'⟩ := a
    obtain ⟨j, c⟩ := b
    have en : n = G.fld j := h.1
    subst en
    unfold putF putN
    by_cases z : j = i
    · subst z
      rw [if_pos rfl, if_pos rfl]
      exact .cons ⟨rfl, rv⟩ t
    · rw [if_neg z, if_neg fun q => z (hi _ _ q)]
      exact .cons h ih
/-- a field of an instance of the class c -/
def fldD (c i : Nat) (d : DV) (m : Sto) (Q : DK) : Prop := match d with
  | .ref p => match m p with
    | some (.ins c' fs) => c' = c ∧ match lookN fs i with
      | some x => Q x m
      | none => False
    | _ => False
  | _ => False
theorem fld_ok {F H : Hp} {m : Sto} {v : V} {d : DV} {c i : Nat} {Q0 : DK} {Q : VK} (hi : G.Inj) (r : Rel G F m H) (rv : VR G.K F v d) (h : fldD c i d m Q0) (k : Kt G F Q0 Q) :
    ∃ a dx fs x, v = .ref a ∧ H a = some (.ins (G.cls c) dx fs) ∧ fs.lookup (G.fld i) = some x ∧ Q x H := by
  cases rv <;> first | exact False.elim h | skip
  rename_i a
  unfold fldD at h
  dsimp only at h
  cases e : m a with
  | none => rw [e] at h; exact False.elim h
  | some o =>
    rw [e] at h
    cases o <;> first | exact False.elim h | skip
    dsimp only at h
    obtain ⟨rfl, h⟩ := h
    rename_i fs
    cases e2 : lookN fs i with
    | none => rw [e2] at h; exact False.elim h
    | some x =>
      rw [e2] at h
      obtain ⟨_, u, hu, dx, fv, rfl, hf⟩ := r.mo a _ e
      obtain ⟨w, hw, rw'⟩ := FR.look hi hf e2
      exact ⟨a, dx, fv, w, rfl, hu, hw, k _ _ _ _ _ h (Ex.refl F) r rw'⟩
def wFld (c i : Nat) (w : DE) : DE := fun δ m Q => w δ m fun d m1 => fldD c i d m1 Q
theorem qe_fld {f : Str} {c i : Nat} (hi : G.Inj) (hf : G.fld i = f) (cl : Cls X.K (G.cls c)) (na : NoAttr X.K (G.cls c) f) (he : PE X e (LE G w)) (hb : attributeBase e f X.env (eval e X.env) = eval e X.env := by rfl) : PE X (.Attribute e f pos) (LE G (wFld c i w)) :=
  PE.imp (pe_fld he hb) fun σ H Q h => by
    obtain ⟨F, m, δ, Q0, r, s, h, k⟩ := h
    refine ⟨F, m, δ, _, r, s, h, fun d m1 v F1 H1 h1 e1 r1 v1 => ?_⟩
    obtain ⟨a, dx, fs, x, h2, h3, h4, h5⟩ := fld_ok hi r1 v1 h1 (k.mono e1)
    exact ⟨a, G.cls c, dx, fs, x, h2, h3, cl, na, by rw [← hf]; exact h4, h5⟩
end
end DL
namespace DL
open PySem PySem.Spec PyProof.Rows L2 RZ
def UnlV (X : Cx) (N : VK) : VK := fun v H => N v H ∨ ∃ d od u, H d = some (.frz od u) ∧ (∀ o' u', X.H_0 d ≠ some (.frz o' u')) ∧ N v (upd H d u)
def UnlS (X : Cx) (N : L2.St → Hp → Prop) : L2.St → Hp → Prop := fun σ H => N σ H ∨ ∃ d od u, H d = some (.frz od u) ∧ (∀ o' u', X.H_0 d ≠ some (.frz o' u')) ∧ N σ (upd H d u)
theorem PE.unl {X : Cx} {e : Expr} {t : TE} (h : PE X e t) : PE X e (fun σ H Q => t σ H (UnlV X Q)) := ⟨fun pins s σ H Q I q => thn (h.run pins s σ H _ I q) fun u s1 ⟨v, H1, I1, r1, q1⟩ => by
  rcases q1 with q1 | ⟨d, od, u', e, n, q1⟩
  · exact ⟨v, H1, I1, r1, q1⟩
  · exact ⟨v, _, I1.unlock e n, r1, q1⟩⟩
theorem PS.unl {X : Cx} {st : Stmt} {t : TS} (h : PS X st t) : PS X st (fun D σ H => t { nx := UnlS X D.nx, rt := UnlV X D.rt, bk := UnlS X D.bk, ct := UnlS X D.ct } σ H) := by
  have key : ∀ {pins : List (Addr × Obj)} {s : Shared} {σ : L2.St} {H : Hp} {N : L2.St → Hp → Prop}, Inv X pins σ H s → UnlS X N σ H → ∃ σ' H', Inv X pins σ' H' s ∧ N σ' H' := fun {pins s σ H N} I q => by
    rcases q with q | ⟨d, od, u', e, n, q⟩
    · exact ⟨σ, H, I, q⟩
    · exact ⟨σ, _, I.unlock e n, q⟩
  refine ⟨fun pins s σ H D I q => thn (h.run pins s σ H _ I q) fun f s1 q1 => ?_⟩
  cases f with
  | next => obtain ⟨σ1, H1, I1, q1⟩ := q1; exact key I1 q1
  | brk => obtain ⟨σ1, H1, I1, q1⟩ := q1; exact key I1 q1
  | cont => obtain ⟨σ1, H1, I1, q1⟩ := q1; exact key I1 q1
  | ret u =>
    obtain ⟨v, σ1, H1, I1, r1, q1⟩ := q1
    rcases q1 with q1 | ⟨d, od, u', e, n, q1⟩
    · exact ⟨v, σ1, H1, I1, r1, q1⟩
    · exact ⟨v, σ1, _, I1.unlock e n, r1, q1⟩
structure DIt where
  items : List DV
  st : Sto → Prop
  lk : Option (Addr × Obj × List (Key × V) × List (Key × DV)) := none
def DIt.fin (it : DIt) (m : Sto) (k : Sto → Prop) : Prop := match it.lk with
  | none => k m
  | some (p, o, kv, kvs) => m p = some (.lck o kv kvs) ∧ k (put m p (.dct kvs))
abbrev DI := Slots → Sto → (DIt → Sto → Prop) → Prop
def ItOk (G : Gam) (F0 : Hp) (J : It) (it : DIt) : Prop := ∀ (i : Nat) (F : Hp) (m : Sto) (H : Hp), Ex F0 F → Rel G F m H → it.st m →
  (∀ d, it.items[i]? = some d → J.go i H ∧ ∀ x H', J.yld i H x H' → ∃ F', Ex F F' ∧ Rel G F' m H' ∧ VR G.K F' x d) ∧ (it.items[i]? = none → J.stop i H)
def LI (X : Cx) (G : Gam) (w : DI) : TI := fun σ H R => ∃ F m δ R0, Rel G F m H ∧ SR G.K F σ δ ∧ w δ m R0 ∧ ∀ it m' F' H' J, R0 it m' → Ex F F' → Rel G F' m' H' → ItOk G F' J it → (∀ pk, it.lk = some pk → ∀ o u, X.H_0 pk.1 ≠ some (.frz o u)) → R J H'
theorem fin_ok {X : Cx} {G : Gam} {F H : Hp} {m : Sto} {it : DIt} {k : Sto → Prop} {N : Hp → Prop} (r : Rel G F m H) (hn : ∀ pk, it.lk = some pk → ∀ o u, X.H_0 pk.1 ≠ some (.frz o u)) (h : it.fin m k) (q : ∀ m' H', k m' → Rel G F m' H' → N H') :
    N H ∨ ∃ d od u, H d = some (.frz od u) ∧ (∀ o' u', X.H_0 d ≠ some (.frz o' u')) ∧ N (upd H d u) := by
  obtain ⟨items, st, lk⟩ := it
  unfold DIt.fin at h
  cases lk with
  | none => exact .inl (q _ _ h r)
  | some pk =>
    obtain ⟨p, o, kv, kvs⟩ := pk
    obtain ⟨e, h⟩ := h
    obtain ⟨_, u, hu, rfl, hr⟩ := r.mo p _ e
    exact .inr ⟨p, o, .dK kv, hu, hn _ rfl, q _ _ h (r.write e ⟨kv, rfl, hr⟩)⟩
/-- what a value gives when it is walked -/
def itOf (d : DV) (m : Sto) (R : DIt → Sto → Prop) : Prop := match asQ m d with
  | some xs => R ⟨xs, fun m' => asQ m' d = some xs, none⟩ m
  | none => match d with
    | .ref p => match m p with
      | some (.dct kvs) => ∀ o kv, R ⟨kvs.map fun kv => kD kv.1, fun m' => m' p = some (.lck o kv kvs), some (p, o, kv, kvs)⟩ (put m p (.lck o kv kvs))
      | some (.lck o kv kvs) => R ⟨kvs.map fun kv => kD kv.1, fun m' => m' p = some (.lck o kv kvs), none⟩ m
      | _ => False
    | _ => False
theorem vr_kD {K : PySem.W.Frag} {F : Hp} (k : Key) : VR K F (kV k) (kD k) := by
  cases k with
  | inl i => exact .int i
  | inr x => exact .str x
theorem itok_seq {G : Gam} {F : Hp} {a : Addr} {xs : List DV} {S : Hp → List V → Prop} {st : Sto → Prop} {J : It}
    (h : ∀ F' m H, Ex F F' → Rel G F' m H → st m → ∃ vs, S H vs ∧ VRs G.K F' vs xs)
    (go : ∀ i H vs x, S H vs → vs[i]? = some x → J.go i H) (yl : ∀ i H vs x H', S H vs → J.yld i H x H' → H' = H ∧ vs[i]? = some x) (sp : ∀ i H vs, S H vs → vs.length ≤ i → J.stop i H) : ItOk G F J ⟨xs, st, none⟩ := by
  intro i F' m H e r s
  obtain ⟨vs, hs, hv⟩ := h F' m H e r s
  refine ⟨fun d hd => ?_, fun hd => ?_⟩
  · obtain ⟨x, hx, rx⟩ := hv.get hd
    refine ⟨go i H vs x hs hx, fun y H' hy => ?_⟩
    obtain ⟨eH, hz⟩ := yl i H vs y H' hs hy
    rw [hx] at hz; cases hz
    rw [eH]
    exact ⟨F', Ex.refl F', r, rx⟩
  · refine sp i H vs hs ?_
    rw [hv.length]
    exact List.getElem?_eq_none_iff.mp hd
theorem SqL.inj {K : PySem.W.Frag} {H : Hp} {a : Addr} {xs ys : List V} {X : Cx} {pins : List (Addr × Obj)} {σ : L2.St} {s : Shared} (I : Inv X pins σ H s) (hK : X.K = K) (h : SqL K H a xs) (g : SqL K H a ys) : xs = ys := by
  subst hK; exact I.list_inj h g
def iAny (w : DE) : DI := fun δ m R => w δ m fun d m1 => itOf d m1 R
theorem itl_ok {G : Gam} {F : Hp} {a : Addr} {xs : List DV} {st : Sto → Prop} (h : ∀ F' m H, Ex F F' → Rel G F' m H → st m → ∃ vs, SqL G.K H a vs ∧ VRs G.K F' vs xs) : ItOk G F (Itl G.K a) ⟨xs, st, none⟩ := by
  refine itok_seq (a := a) (S := fun H vs => SqL G.K H a vs) h (fun i H vs x hs hx => ⟨vs, x, hs, hx⟩) (fun i H vs x H' hs hy => ⟨hy.1, hy.2 vs hs⟩) fun i H vs hs hl => ⟨vs, hs, hl⟩
theorem itt_ok {G : Gam} {F : Hp} {a : Addr} {xs : List DV} {st : Sto → Prop} (h : ∀ F' m H, Ex F F' → Rel G F' m H → st m → ∃ vs, SqT G.K H a vs ∧ VRs G.K F' vs xs) : ItOk G F (Itt G.K a) ⟨xs, st, none⟩ := by
  refine itok_seq (a := a) (S := fun H vs => SqT G.K H a vs) h (fun i H vs x hs hx => ⟨vs, x, hs, hx⟩) (fun i H vs x H' hs hy => ⟨hy.1, hy.2 vs hs⟩) fun i H vs hs hl => ⟨vs, hs, hl⟩
theorem itk_ok {G : Gam} {F : Hp} {p : Addr} {o : Obj} {kv : List (Key × V)} {kvs : List (Key × DV)} {lk} (hr : KR G.K F kv kvs) :
    ItOk G F (Itk p o kv) ⟨kvs.map fun kv => kD kv.1, fun m' => m' p = some (.lck o kv kvs), lk⟩ := by
  intro i F' m H e r s
  have hH : H p = some (.frz o (.dK kv)) := by
    obtain ⟨_, u, hu, rfl, _⟩ := r.mo p _ s
    exact hu
  have hl := KR.length hr
  have hk := KR.keys hr
  refine ⟨fun d hd => ?_, fun hd => ?_⟩
  · have hi : i < kvs.length := by
      have := List.getElem?_eq_some_iff.mp hd
      obtain ⟨z, _⟩ := this
      simpa using z
    refine ⟨⟨hH, by omega⟩, fun y H' hy => ?_⟩
    obtain ⟨rfl, k, v, e1, rfl⟩ := hy
    have e2 : (kv.map (·.1))[i]? = some k := by rw [List.getElem?_map, e1]; rfl
    rw [hk, List.getElem?_map] at e2
    dsimp only at hd
    rw [List.getElem?_map] at hd
    cases e3 : kvs[i]? with
    | none => rw [e3] at e2; cases e2
    | some q =>
      rw [e3] at e2 hd
      have e4 : q.1 = k := Option.some.inj e2
      have e5 : kD q.1 = d := Option.some.inj hd
      subst e5
      rw [e4]
      exact ⟨F', Ex.refl F', r, vr_kD k⟩
  · refine ⟨hH, ?_⟩
    have := List.getElem?_eq_none_iff.mp hd
    simp at this
    omega
theorem qi_any {X : Cx} {G : Gam} {tg e : Expr} {w : DE} (hK : X.K = G.K) (he : PE X e (LE G w)) : PI X tg e (LI X G (iAny w)) := by
  refine ⟨fun pins s σ H R I h => ?_⟩
  obtain ⟨F, m, δ, R0, r, sr, h, k⟩ := h
  refine thn (he.run pins s σ H (fun v H1 => ∃ F1 m1 d, Ex F F1 ∧ Rel G F1 m1 H1 ∧ VR G.K F1 v d ∧ itOf d m1 R0) I ⟨F, m, δ, _, r, sr, h, fun d m1 v F1 H1 q e1 r1 v1 => ⟨F1, m1, d, e1, r1, v1, q⟩⟩) fun v s1 ⟨x, H1, I1, rx, F1, m1, d, e1, r1, v1, q⟩ => ?_
  -- a list, a tuple
  have asList : ∀ a xs, x = .ref a → (∀ F' m H, Ex F1 F' → Rel G F' m H → asQ m d = some xs → ∃ vs, SqL G.K H a vs ∧ VRs G.K F' vs xs) → asQ m1 d = some xs → R0 ⟨xs, fun m' => asQ m' d = some xs, none⟩ m1 →
      wpAny (model X.prog X.w) X.A (pyIter v) (PIE X pins σ tg R) X.xe s1 := fun a xs ex hl ha hq => by
    subst ex
    cases rx
    obtain ⟨vs, hs, _⟩ := hl F1 m1 H1 (Ex.refl F1) r1 ha
    obtain ⟨its, rv, p, hz⟩ := I1.list (by rw [hK]; exact hs)
    refine wpAny_pyIter_list p.isList ?_
    refine ⟨s1.heap.objs.size, [s1.heap.objs.size], _, _, H1, rfl, I1.kept (t' := s1.toks) fun b o e => Heap.get?_push_of_some _ e, turn_list a _, ⟨_, Heap.get?_push_size _ rfl, rfl, rfl⟩, fun b hb => ?_,
      k _ _ _ _ _ hq e1 r1 (by rw [hK]; exact itl_ok hl) fun pk e => by cases e⟩
    have e : b = s1.heap.objs.size := by simpa using hb
    subst e
    exact I1.fpOk (Nat.le_refl _) (I1.hok.fresh (Nat.le_refl _))
  have asTup : ∀ a xs, x = .ref a → (∀ F' m H, Ex F1 F' → Rel G F' m H → asQ m d = some xs → ∃ vs, SqT G.K H a vs ∧ VRs G.K F' vs xs) → asQ m1 d = some xs → R0 ⟨xs, fun m' => asQ m' d = some xs, none⟩ m1 →
      wpAny (model X.prog X.w) X.A (pyIter v) (PIE X pins σ tg R) X.xe s1 := fun a xs ex hl ha hq => by
    subst ex
    cases rx
    obtain ⟨vs, hs, _⟩ := hl F1 m1 H1 (Ex.refl F1) r1 ha
    obtain ⟨its, rv, p, hz⟩ := I1.tuple (by rw [hK]; exact hs)
    refine wpAny_pyIter_tuple (show s1.heap.IsTuple a its.toArray from p) ?_
    refine ⟨s1.heap.objs.size, [s1.heap.objs.size], _, _, H1, rfl, I1.kept (t' := s1.toks) fun b o e => Heap.get?_push_of_some _ e, turn_tuple a _, ⟨_, Heap.get?_push_size _ rfl, rfl, rfl⟩, fun b hb => ?_,
      k _ _ _ _ _ hq e1 r1 (by rw [hK]; exact itt_ok hl) fun pk e => by cases e⟩
    have e : b = s1.heap.objs.size := by simpa using hb
    subst e
    exact I1.fpOk (Nat.le_refl _) (I1.hok.fresh (Nat.le_refl _))
  have dKeys : ∀ (p : Addr) (o : Obj) (kv : List (Key × V)) (H2 : Hp), v = .ref p → Inv X pins σ H2 s1 → H2 p = some (.frz o (.dK kv)) → R (Itk p o kv) H2 → wpAny (model X.prog X.w) X.A (pyIter v) (PIE X pins σ tg R) X.xe s1 := fun p o kv H2 ev I2 hd q => by
    subst ev
    obtain ⟨hs, hgd, hx, es, ep, vs, hdt, hsz, kv', hm⟩ := I2.frzK hd
    refine iter_keys hs hgd hx hdt (pi_one (tk := s1.toks) I2 _ (turn_keys _ hdt) ⟨_, Heap.get?_push_size _ rfl, rfl, ?_⟩ q)
    rw [hsz] <;> rfl
  unfold itOf at q
  cases ea : asQ m1 d with
  | some xs =>
    rw [ea] at q
    dsimp only at q
    cases v1 with
    | @lst a vs ds hs hr =>
      refine asList a xs rfl (fun F' m H e r h => ⟨vs, .inl ((e.trans r.ex).rd hs), ?_⟩) ea q
      have z : ds = xs := Option.some.inj h
      subst z
      exact hr.mono e
    | @klst a vs ds hs hr =>
      refine asList a xs rfl (fun F' m H e r h => ⟨vs, Ex.sqL ex_none hs, ?_⟩) ea q
      have z : ds = xs := Option.some.inj h
      subst z
      exact hr.mono e
    | @tup a vs ds hs hr =>
      refine asTup a xs rfl (fun F' m H e r h => ⟨vs, SqT.of ((e.trans r.ex) _ _ hs), ?_⟩) ea q
      have z : ds = xs := Option.some.inj h
      subst z
      exact hr.mono e
    | @ktup a vs ds hs hr =>
      refine asTup a xs rfl (fun F' m H e r h => ⟨vs, Ex.sqT ex_none hs, ?_⟩) ea q
      have z : ds = xs := Option.some.inj h
      subst z
      exact hr.mono e
    | ref a =>
      refine asList a xs rfl (fun F' m H e r h => ?_) ea q
      obtain ⟨a', vs, e1, e2, e3⟩ := asL_ok (G := G) (F := F') r (.ref a) h
      cases e1
      exact ⟨vs, e2, e3⟩
    | _ => cases ea
  | none =>
    rw [ea] at q
    dsimp only at q
    cases v1 <;> first | exact False.elim q | skip
    rename_i p
    dsimp only at q
    cases em : m1 p with
    | none => rw [em] at q; exact False.elim q
    | some ob =>
      rw [em] at q
      cases ob <;> first | exact False.elim q | skip
      · rename_i kvs
        dsimp only at q
        obtain ⟨hF, u, hu, kv, rfl, hr⟩ := r1.mo p _ em
        obtain ⟨od, I2⟩ := I1.lock hu trivial
        have r2 : Rel G F1 (put m1 p (.lck od kv kvs)) (upd H1 p (.frz od (.dK kv))) := r1.write em ⟨rfl, hr⟩
        exact dKeys p od kv _ rx I2 upd_same (k _ _ F1 _ _ (q od kv) e1 r2 (itk_ok hr) fun pk e => by cases e; exact I1.nofrz hu trivial)
      · rename_i o kv kvs
        dsimp only at q
        obtain ⟨hF, u, hu, rfl, hr⟩ := r1.mo p _ em
        exact dKeys p o kv _ rx I1 hu (k _ _ F1 _ _ q e1 r1 (itk_ok hr) fun pk e => by cases e)
section
variable {X : Cx} {G : Gam} {tg e e2 : Expr} {elts : List Expr} {kk : Nat} {p pos tpos : Pos} {wl : DA}
theorem asL_stay {G : Gam} {F F' H : Hp} {m : Sto} {a : Addr} {d : DV} {xs : List DV} (v : VR G.K F (.ref a) d) (e : Ex F F') (r : Rel G F' m H) (h : asL m d = some xs) : ∃ vs, SqL G.K H a vs ∧ VRs G.K F' vs xs := by
  obtain ⟨a', vs, e1, e2, e3⟩ := asL_ok r (v.mono e) h
  cases e1
  exact ⟨vs, e2, e3⟩
theorem asT_stay {G : Gam} {F F' H : Hp} {m : Sto} {a : Addr} {d : DV} {xs : List DV} (v : VR G.K F (.ref a) d) (e : Ex F F') (r : Rel G F' m H) (h : asT d = some xs) : ∃ vs, SqT G.K H a vs ∧ VRs G.K F' vs xs := by
  obtain ⟨a', vs, e1, e2, e3⟩ := asT_ok r (v.mono e) h
  cases e1
  exact ⟨vs, e2, e3⟩
/-- pairs of number and item -/
def enD (i : Nat) : List DV → List DV
  | [] => []
  | x :: r => .tup [.int i, x] :: enD (i + 1) r
theorem enD_get : ∀ (xs : List DV) (j i : Nat), (enD j xs)[i]? = xs[i]?.map fun x => .tup [.int ((j + i : Nat) : Int), x]
  | [], j, i => by simp [enD]
  | x :: r, j, 0 => by simp [enD]
  | x :: r, j, i + 1 => by
    show (enD (j + 1) r)[i]? = r[i]?.map _
    rw [enD_get r (j + 1) i]
    have : j + 1 + i = j + (i + 1) := by omega
    rw [this]
theorem ite_ok {G : Gam} {F : Hp} {a : Addr} {d : DV} {xs : List DV} (v : VR G.K F (.ref a) d) : ItOk G F (Ite G.K a) ⟨enD 0 xs, fun m => asL m d = some xs, none⟩ := by
  intro i F' m H e r s
  obtain ⟨vs, hs, hv⟩ := asL_stay v e r s
  refine ⟨fun x hx => ?_, fun hx => ?_⟩
  · dsimp only at hx
    rw [enD_get, Nat.zero_add] at hx
    cases ex : xs[i]? with
    | none => rw [ex] at hx; cases hx
    | some c =>
      rw [ex] at hx
      cases hx
      obtain ⟨u, hu, ru⟩ := hv.get ex
      refine ⟨⟨vs, u, hs, hu⟩, fun y H' hy => ?_⟩
      obtain ⟨T, z, rfl, hT, rfl, hz⟩ := hy
      have := hz vs hs
      rw [hu] at this; cases this
      have eF := Ex.new (o := .tup [.int (i : Nat), u]) (r.freeF hT)
      exact ⟨_, eF, r.data hT, .tup upd_same (.cons (.int _) (.cons (ru.mono eF) .nil))⟩
  · dsimp only at hx
    rw [enD_get] at hx
    cases ex : xs[i]? with
    | some c => rw [ex] at hx; cases hx
    | none => exact ⟨vs, hs, by rw [hv.length]; exact List.getElem?_eq_none_iff.mp ex⟩
def iEnumD (t : DA) : DI := fun δ m R => t δ m fun ds m1 => match ds with
  | [d] => match asL m1 d with
    | some xs => R ⟨enD 0 xs, fun m => asL m d = some xs, none⟩ m1
    | none => False
  | _ => False
theorem VRs.one_inv {K : PySem.W.Frag} {F : Hp} {vs : List V} {d : DV} (h : VRs K F vs [d]) : ∃ v, vs = [v] ∧ VR K F v d := by
  cases h with
  | cons a b => cases b; exact ⟨_, rfl, a⟩
theorem VRs.two_inv {K : PySem.W.Frag} {F : Hp} {vs : List V} {d e : DV} (h : VRs K F vs [d, e]) : ∃ v w, vs = [v, w] ∧ VR K F v d ∧ VR K F w e := by
  cases h with
  | cons a b =>
    obtain ⟨w, rfl, r⟩ := VRs.one_inv b
    exact ⟨_, _, rfl, a, r⟩
theorem VRs.three_inv {K : PySem.W.Frag} {F : Hp} {vs : List V} {d e f : DV} (h : VRs K F vs [d, e, f]) : ∃ v w u, vs = [v, w, u] ∧ VR K F v d ∧ VR K F w e ∧ VR K F u f := by
  cases h with
  | cons a b =>
    obtain ⟨w, u, rfl, r, s⟩ := VRs.two_inv b
    exact ⟨_, _, _, rfl, a, r, s⟩
theorem qi_enum (hK : X.K = G.K) (hg : Gl X "enumerate") (hm : X.mg "enumerate" = none) (ha : PA X [e] (LA G wl)) (hs : starEach [e] X.env = [(false, eval e X.env)] := by rfl) :
    PI X (.Tuple elts kk tpos) (.Call (.Name "enumerate" p) [e] [] pos) (LI X G (iEnumD wl)) := by
  have base : PI X (.Tuple elts kk tpos) (.Call (.Name "enumerate" p) [e] [] pos) (iEnum X.K (LA G wl)) := pi_enum hg hm ha hs
  refine ⟨fun pins s σ H R I h => base.run pins s σ H R I ?_⟩
  obtain ⟨F, m, δ, R0, r, sr, h, k⟩ := h
  refine ⟨F, m, δ, _, r, sr, h, fun ds m1 vs F1 H1 q e1 r1 v1 => ?_⟩
  match ds, q with
  | [d], q =>
    obtain ⟨v, rfl, rv⟩ := v1.one_inv
    dsimp only at q
    cases ea : asL m1 d with
    | none => rw [ea] at q; exact False.elim q
    | some xs =>
      rw [ea] at q
      obtain ⟨a, ws, rfl, hl, hr⟩ := asL_ok r1 rv ea
      rw [hK]
      exact ⟨a, ws, rfl, hl, k _ _ _ _ _ q e1 r1 (ite_ok rv) fun pk e => by cases e⟩
/-- pairs of the items of two -/
def zipD : List DV → List DV → List DV
  | x :: xs, y :: ys => .tup [x, y] :: zipD xs ys
  | _, _ => []
theorem zipD_get : ∀ (xs ys : List DV) (i : Nat), (zipD xs ys)[i]? = match xs[i]?, ys[i]? with
    | some x, some y => some (.tup [x, y])
    | _, _ => none
  | [], ys, i => by simp [zipD]
  | x :: xs, [], i => by
    simp [zipD]
  | x :: xs, y :: ys, 0 => by simp [zipD]
  | x :: xs, y :: ys, i + 1 => by
    show (zipD xs ys)[i]? = _
    rw [zipD_get xs ys i]
    simp
theorem zip_ok {G : Gam} {F : Hp} {S : Hp → Addr → List V → Prop} {a b : Addr} {xs ys : List DV} {st : Sto → Prop} {J : It}
    (h : ∀ F' m H, Ex F F' → Rel G F' m H → st m → ∃ vs ws, S H a vs ∧ S H b ws ∧ VRs G.K F' vs xs ∧ VRs G.K F' ws ys)
    (go : ∀ i H vs ws x y, S H a vs → S H b ws → vs[i]? = some x → ws[i]? = some y → J.go i H)
    (yl : ∀ i H vs ws v H', S H a vs → S H b ws → J.yld i H v H' → ∃ T x y, v = .ref T ∧ H T = none ∧ H' = upd H T (.tup [x, y]) ∧ vs[i]? = some x ∧ ws[i]? = some y)
    (sp : ∀ i H vs ws, S H a vs → S H b ws → (vs.length ≤ i ∨ ws.length ≤ i) → J.stop i H) : ItOk G F J ⟨zipD xs ys, st, none⟩ := by
  intro i F' m H e r s
  obtain ⟨vs, ws, h1, h2, r1, r2⟩ := h F' m H e r s
  refine ⟨fun d hd => ?_, fun hd => ?_⟩
  · dsimp only at hd
    rw [zipD_get] at hd
    cases e1 : xs[i]? with
    | none => rw [e1] at hd; cases hd
    | some x =>
      cases e2 : ys[i]? with
      | none => rw [e1, e2] at hd; cases hd
      | some y =>
        rw [e1, e2] at hd
        cases hd
        obtain ⟨u, hu, ru⟩ := r1.get e1
        obtain ⟨w, hw, rw'⟩ := r2.get e2
        refine ⟨go i H vs ws u w h1 h2 hu hw, fun v H' hv => ?_⟩
        obtain ⟨T, u', w', rfl, hT, rfl, hu', hw'⟩ := yl i H vs ws v H' h1 h2 hv
        rw [hu] at hu'; cases hu'
        rw [hw] at hw'; cases hw'
        have eF := Ex.new (o := .tup [u, w]) (r.freeF hT)
        exact ⟨_, eF, r.data hT, .tup upd_same (.cons (ru.mono eF) (.cons (rw'.mono eF) .nil))⟩
  · refine sp i H vs ws h1 h2 ?_
    rw [r1.length, r2.length]
    dsimp only at hd
    rw [zipD_get] at hd
    cases e1 : xs[i]? with
    | none => exact .inl (List.getElem?_eq_none_iff.mp e1)
    | some x =>
      cases e2 : ys[i]? with
      | none => exact .inr (List.getElem?_eq_none_iff.mp e2)
      | some y => rw [e1, e2] at hd; cases hd
def iZipD (t : DA) : DI := fun δ m R => t δ m fun ds m1 => match ds with
  | [c, d] => match asL m1 c, asL m1 d with
    | some xs, some ys => R ⟨zipD xs ys, fun m => asL m c = some xs ∧ asL m d = some ys, none⟩ m1
    | _, _ => match asT c, asT d with
      | some xs, some ys => R ⟨zipD xs ys, fun _ => True, none⟩ m1
      | _, _ => False
  | _ => False
theorem qi_zip (hK : X.K = G.K) (hg : Gl X "zip") (hm : X.mg "zip" = none) (ha : PA X [e, e2] (LA G wl))
    (hs : starEach [e, e2] X.env = (false, eval e X.env) :: starEach [e2] X.env := by rfl) (hpl : (backTo pos (starEach [e2] X.env)).any (·.1) = false := by rfl) :
    PI X (.Tuple elts kk tpos) (.Call (.Name "zip" p) [e, e2] [] pos) (LI X G (iZipD wl)) := by
  have base : PI X (.Tuple elts kk tpos) (.Call (.Name "zip" p) [e, e2] [] pos) (iZipA X.K (LA G wl)) := pi_zipA hg hm ha hs hpl
  refine ⟨fun pins s σ H R I h => base.run pins s σ H R I ?_⟩
  obtain ⟨F, m, δ, R0, r, sr, h, k⟩ := h
  refine ⟨F, m, δ, _, r, sr, h, fun ds m1 vs F1 H1 q e1 r1 v1 => ?_⟩
  match ds, q with
  | [c, d], q =>
    obtain ⟨v, w, rfl, rv, rw'⟩ := v1.two_inv
    dsimp only at q
    rw [hK]
    have tups : (match asT c, asT d with
      | some xs, some ys => R0 ⟨zipD xs ys, fun _ => True, none⟩ m1
      | _, _ => False) → ∃ a b xs ys, [v, w] = [V.ref a, V.ref b] ∧ ((SqL G.K H1 a xs ∧ SqL G.K H1 b ys ∧ R (Itz G.K a b) H1) ∨ (SqT G.K H1 a xs ∧ SqT G.K H1 b ys ∧ R (ItzT G.K a b) H1)) := fun q => by
      cases ec : asT c with
      | none => rw [ec] at q; exact False.elim q
      | some xs =>
        cases ed : asT d with
        | none => rw [ec, ed] at q; exact False.elim q
        | some ys =>
          rw [ec, ed] at q
          obtain ⟨a, us, rfl, hl, hr⟩ := asT_ok r1 rv ec
          obtain ⟨b, ws, rfl, hl2, hr2⟩ := asT_ok r1 rw' ed
          refine ⟨a, b, us, ws, rfl, .inr ⟨hl, hl2, k _ _ _ _ _ q e1 r1 ?_ fun pk e => by cases e⟩⟩
          refine zip_ok (S := fun H a vs => SqT G.K H a vs) (a := a) (b := b) (fun F' m H e r _ => ?_) (fun i H vs ws x y h1 h2 h3 h4 => ⟨vs, ws, x, y, h1, h2, h3, h4⟩) (fun i H vs ws v H' h1 h2 hy => ?_) fun i H vs ws h1 h2 h3 => ⟨vs, ws, h1, h2, h3⟩
          · obtain ⟨vs, g1, g2⟩ := asT_stay rv e r ec
            obtain ⟨ws, g3, g4⟩ := asT_stay rw' e r ed
            exact ⟨vs, ws, g1, g3, g2, g4⟩
          · obtain ⟨T, x, y, g1, g2, g3, g4, g5⟩ := hy
            exact ⟨T, x, y, g1, g2, g3, g4 _ h1, g5 _ h2⟩
    cases ec : asL m1 c with
    | none => rw [ec] at q; exact tups q
    | some xs =>
      cases ed : asL m1 d with
      | none => rw [ec, ed] at q; exact tups q
      | some ys =>
        rw [ec, ed] at q
        obtain ⟨a, us, rfl, hl, hr⟩ := asL_ok r1 rv ec
        obtain ⟨b, ws, rfl, hl2, hr2⟩ := asL_ok r1 rw' ed
        refine ⟨a, b, us, ws, rfl, .inl ⟨hl, hl2, k _ _ _ _ _ q e1 r1 ?_ fun pk e => by cases e⟩⟩
        refine zip_ok (S := fun H a vs => SqL G.K H a vs) (a := a) (b := b) (fun F' m H e r hst => ?_) (fun i H vs ws x y h1 h2 h3 h4 => ⟨vs, ws, x, y, h1, h2, h3, h4⟩) (fun i H vs ws v H' h1 h2 hy => ?_) fun i H vs ws h1 h2 h3 => ⟨vs, ws, h1, h2, h3⟩
        · obtain ⟨vs, g1, g2⟩ := asL_stay rv e r hst.1
          obtain ⟨ws, g3, g4⟩ := asL_stay rw' e r hst.2
          exact ⟨vs, ws, g1, g3, g2, g4⟩
        · obtain ⟨T, x, y, g1, g2, g3, g4, g5⟩ := hy
          exact ⟨T, x, y, g1, g2, g3, g4 _ h1, g5 _ h2⟩
/-- lo, lo + 1, .. -/
def rgD (lo : Int) (n : Nat) : List DV := (List.range n).map fun i : Nat => .int (lo + (i : Int))
theorem itr_ok {G : Gam} {F : Hp} {lo : Int} {n : Nat} : ItOk G F (Itr lo n) ⟨rgD lo n, fun _ => True, none⟩ := by
  intro i F' m H e r _
  refine ⟨fun d hd => ?_, fun hd => ?_⟩
  · dsimp only at hd
    unfold rgD at hd
    rw [List.getElem?_map] at hd
    by_cases hi : i < n
    · rw [List.getElem?_range hi] at hd
      cases hd
      refine ⟨hi, fun x H' hy => ?_⟩
      obtain ⟨rfl, rfl⟩ := hy
      exact ⟨F', Ex.refl F', r, .int _⟩
    · rw [List.getElem?_eq_none (by simpa using hi)] at hd
      cases hd
  · dsimp only at hd
    have := List.getElem?_eq_none_iff.mp hd
    unfold rgD at this
    show n ≤ i
    simpa using this
def iRngD (t : DA) : DI := fun δ m R => t δ m fun ds m1 => match ds with
  | [.int j] => -(2 ^ 62) ≤ j ∧ j < 2 ^ 62 ∧ R ⟨rgD 0 j.toNat, fun _ => True, none⟩ m1
  | _ => False
def iRngD2 (t : DA) : DI := fun δ m R => t δ m fun ds m1 => match ds with
  | [.int i, .int j] => (-(2 ^ 62) ≤ i ∧ i < 2 ^ 62 ∧ -(2 ^ 62) ≤ j ∧ j < 2 ^ 62) ∧ R ⟨rgD i (j - i).toNat, fun _ => True, none⟩ m1
  | _ => False
theorem qi_range1 (hg : Gl X "range") (hm : X.mg "range" = none) (ha : PA X [e] (LA G wl)) (hs : starEach [e] X.env = [(false, eval e X.env)] := by rfl) : PI X tg (.Call (.Name "range" p) [e] [] pos) (LI X G (iRngD wl)) := by
  have base : PI X tg (.Call (.Name "range" p) [e] [] pos) (iRng1 (LA G wl)) := pi_range1 hg hm ha hs
  refine ⟨fun pins s σ H R I h => base.run pins s σ H R I ?_⟩
  obtain ⟨F, m, δ, R0, r, sr, h, k⟩ := h
  refine ⟨F, m, δ, _, r, sr, h, fun ds m1 vs F1 H1 q e1 r1 v1 => ?_⟩
  match ds, q with
  | [.int j], q =>
    obtain ⟨v, rfl, rv⟩ := v1.one_inv
    cases rv
    exact ⟨j, rfl, q.1, q.2.1, k _ _ _ _ _ q.2.2 e1 r1 itr_ok fun pk e => by cases e⟩
theorem qi_range2 (hg : Gl X "range") (hm : X.mg "range" = none) (ha : PA X [e, e2] (LA G wl)) (hs : starEach [e, e2] X.env = [(false, eval e X.env), (false, eval e2 X.env)] := by rfl) (hs2 : starEach [e2] X.env = [(false, eval e2 X.env)] := by rfl) :
    PI X tg (.Call (.Name "range" p) [e, e2] [] pos) (LI X G (iRngD2 wl)) := by
  have base : PI X tg (.Call (.Name "range" p) [e, e2] [] pos) (iRng2 (LA G wl)) := pi_range2 hg hm ha hs hs2
  refine ⟨fun pins s σ H R I h => base.run pins s σ H R I ?_⟩
  obtain ⟨F, m, δ, R0, r, sr, h, k⟩ := h
  refine ⟨F, m, δ, _, r, sr, h, fun ds m1 vs F1 H1 q e1 r1 v1 => ?_⟩
  match ds, q with
  | [.int i, .int j], q =>
    obtain ⟨v, w, rfl, rv, rw'⟩ := v1.two_inv
    cases rv
    cases rw'
    exact ⟨i, j, rfl, q.1, k _ _ _ _ _ q.2 e1 r1 itr_ok fun pk e => by cases e⟩
end
end DL
namespace DL
open PySem PySem.Spec PyProof.Rows L2
def ChgIn (vs : List Nat) (σ σ' : L2.St) : Prop := σ'.length = σ.length ∧ ∀ i, i ∉ vs → σ'[i]? = σ[i]?
theorem ChgIn.refl (vs : List Nat) (σ : L2.St) : ChgIn vs σ σ := ⟨rfl, fun _ _ => rfl⟩
theorem ChgIn.comp {vs ws : List Nat} {a b c : L2.St} (h : ChgIn vs a b) (g : ChgIn ws b c) : ChgIn (vs ++ ws) a c :=
  ⟨g.1.trans h.1, fun i hi => (g.2 i fun z => hi (List.mem_append_right _ z)).trans (h.2 i fun z => hi (List.mem_append_left _ z))⟩
abbrev DG := DV → Slots → Sto → (Slots → Sto → Prop) → Prop
abbrev DGs := List DV → Slots → Sto → (Slots → Sto → Prop) → Prop
def KtG (G : Gam) (F : Hp) (vs : List Nat) (σ : L2.St) (Q0 : Slots → Sto → Prop) (Q : L2.St → Hp → Prop) : Prop := ∀ δ' m' σ' F' H', Q0 δ' m' → Ex F F' → Rel G F' m' H' → SR G.K F' σ' δ' → ChgIn vs σ σ' → Q σ' H'
def LG (G : Gam) (vs : List Nat) (g : DG) : TG := fun v σ H Q => ∃ F m δ d Q0, Rel G F m H ∧ SR G.K F σ δ ∧ VR G.K F v d ∧ g d δ m Q0 ∧ KtG G F vs σ Q0 Q
def LGs (G : Gam) (vs : List Nat) (g : DGs) : TGs := fun us σ H Q => ∃ F m δ ds Q0, Rel G F m H ∧ SR G.K F σ δ ∧ VRs G.K F us ds ∧ g ds δ m Q0 ∧ KtG G F vs σ Q0 Q
theorem PG.imp {X : Cx} {e : Expr} {t t' : TG} (h : PG X e t) (k : ∀ v σ H Q, t' v σ H Q → t v σ H Q) : PG X e t' := ⟨fun pins s σ H v u Q I r q => h.run pins s σ H v u Q I r (k v σ H Q q)⟩
theorem PGs.imp {X : Cx} {e : List Expr} {t t' : TGs} (h : PGs X e t) (k : ∀ v σ H Q, t' v σ H Q → t v σ H Q) : PGs X e t' := ⟨fun pins s σ H v u Q I r q => h.run pins s σ H v u Q I r (k v σ H Q q)⟩
section
variable {X : Cx} {G : Gam} {k : Nat} {e o i : Expr} {es : List Expr} {x : Str} {pos : Pos} {w wo wi : DE} {g : DG} {gs : DGs} {vs ws : List Nat}
def gN (i : Nat) : DG := fun d δ m Q => Q (δ.set i (some d)) m
theorem qg_name {i : Nat} (hN : X.N.Nodup) (hi : X.N[i]? = some x) (hx : Loc X.env.scope x) (hf : X.fn x = true ∨ X.env.scope.names.lookup x = some .local := by first | exact .inl rfl | exact .inr rfl | assumption) : PG X (.Name x pos) (LG G [i] (gN i)) :=
  PG.imp (pg_name hN hi hx hf) fun v σ H Q h => by
    obtain ⟨F, m, δ, d, Q0, r, s, rv, h, k⟩ := h
    exact k _ _ _ _ _ h (Ex.refl F) r (s.set i rv) ⟨by simp, fun j hj => by rw [List.getElem?_set_ne fun z => hj (by rw [z]; exact List.mem_cons_self)]⟩
def gNilD : DGs := fun ds δ m Q => ds = [] ∧ Q δ m
def gConsD (g : DG) (gs : DGs) : DGs := fun ds δ m Q => match ds with
  | d :: r => g d δ m fun δ1 m1 => gs r δ1 m1 Q
  | [] => False
theorem qgs_nil : PGs X [] (LGs G [] gNilD) := PGs.imp pgs_nil fun v σ H Q h => by
  obtain ⟨F, m, δ, d, Q0, r, s, rv, ⟨h1, h2⟩, k⟩ := h
  subst h1
  cases rv
  exact ⟨rfl, k _ _ _ _ _ h2 (Ex.refl F) r s (.refl _ _)⟩
theorem qgs_cons (h1 : PG X e (LG G vs g)) (h2 : PGs X es (LGs G ws gs)) (hs : (assignEach (e :: es) X.env).map (·.2) = assign e X.env :: (assignEach es X.env).map (·.2) := by rfl) : PGs X (e :: es) (LGs G (vs ++ ws) (gConsD g gs)) :=
  PGs.imp (pgs_cons h1 h2 hs) fun us σ H Q h => by
    obtain ⟨F, m, δ, ds, Q0, r, s, rv, h, k⟩ := h
    cases rv with
    | nil => exact False.elim h
    | cons rd rr =>
      refine ⟨_, _, rfl, F, m, δ, _, _, r, s, rd, h, fun δ1 m1 σ1 F1 H1 h1 e1 r1 s1 c1 => ?_⟩
      exact ⟨F1, m1, δ1, _, Q0, r1, s1, rr.mono e1, h1, fun δ2 m2 σ2 F2 H2 h2 e2 r2 s2 c2 => k _ _ _ _ _ h2 (e1.trans e2) r2 s2 (c1.comp c2)⟩
def gSeq (n : Nat) (gs : DGs) : DG := fun d δ m Q => match asQ m d with
  | some xs => xs.length = n ∧ gs xs δ m Q
  | none => False
theorem qg_tup {k n : Nat} (hK : X.K = G.K) (hc : X.calm = true) (h : PGs X es (LGs G vs gs)) (hn : (assignEach es X.env).length = n := by rfl) (hst : (assignEach es X.env).findIdx? (·.1) = none := by rfl) : PG X (.Tuple es k pos) (LG G vs (gSeq n gs)) := by
  refine ⟨fun pins s σ H v u Q I rv h => ?_⟩
  obtain ⟨F, m, δ, d, Q0, r, sr, rd, h, k⟩ := h
  unfold gSeq at h
  cases ea : asQ m d with
  | none => rw [ea] at h; exact False.elim h
  | some xs =>
    rw [ea] at h
    obtain ⟨hl, h⟩ := h
    obtain ⟨a, us, rfl, hs, hr⟩ := asQ_ok r rd ea
    have inner : LGs G vs gs us σ H Q := ⟨F, m, δ, xs, Q0, r, sr, hr, h, k⟩
    rcases hs with hs | hs
    · exact (pg_lst hc ‹PGs X es (LGs G vs gs)› hn hst).run pins s σ H _ u Q I rv ⟨a, us, rfl, by rw [hK]; exact hs, by rw [hr.length]; exact hl, inner⟩
    · exact (pg_tup hc ‹PGs X es (LGs G vs gs)› hn hst).run pins s σ H _ u Q I rv ⟨a, us, rfl, by rw [hK]; exact hs, by rw [hr.length]; exact hl, inner⟩
/-- o[i] = d -/
def setD (o i d : DV) (m : Sto) (Q : Sto → Prop) : Prop := match o with
  | .ref p => match m p with
    | some (.lst xs) => match i with
      | .int k => match ixN xs.length k with
        | some j => Q (put m p (.lst (xs.set j d)))
        | none => False
      | _ => False
    | some (.dct kvs) => match dK? i with
      | some k => kvs.length < sizeLine ∧ Q (put m p (.dct (putD kvs k d)))
      | none => False
    | some (.dcT kvs) => match i with
      | .tup ks => match dKs? ks with
        | some k => kvs.length < sizeLine ∧ Q (put m p (.dcT (putD kvs k d)))
        | none => False
      | _ => False
    | _ => False
  | _ => False
def LSet (G : Gam) : TSet := fun o i v H Q => ∃ F m do' di dv Q0, Rel G F m H ∧ VR G.K F o do' ∧ VR G.K F i di ∧ VR G.K F v dv ∧ setD do' di dv m Q0 ∧ ∀ m' H', Q0 m' → Rel G F m' H' → Q H'
theorem pset (hu : X.A.units + 1 < cLine) : PSet X (LSet G) := by
  intro pins s σ H o i v ov iv u Q I ro ri rv h
  obtain ⟨F, m, do', di, dv, Q0, r, r1, r2, r3, h, k⟩ := h
  cases r1 <;> first | exact False.elim h | skip
  rename_i p
  unfold setD at h
  dsimp only at h
  cases em : m p with
  | none => rw [em] at h; exact False.elim h
  | some ob =>
    rw [em] at h
    cases ob with
    | lst xs =>
      dsimp only at h
      cases r2 <;> first | exact False.elim h | skip
      rename_i j
      dsimp only at h
      cases ej : ixN xs.length j with
      | none => rw [ej] at h; exact False.elim h
      | some n =>
        rw [ej] at h
        obtain ⟨_, w, hw, us, rfl, hr⟩ := r.mo p _ em
        exact set_list pins s σ H _ _ v ov iv u Q I ro ri rv ⟨p, us, j, n, rfl, rfl, hw, by rw [hr.length]; exact ej, k _ _ h (r.write em ⟨_, rfl, hr.set r3 n⟩)⟩
    | dct kvs =>
      dsimp only at h
      cases ek : dK? di with
      | none => rw [ek] at h; exact False.elim h
      | some key =>
        rw [ek] at h
        obtain ⟨hz, h⟩ := h
        obtain ⟨_, w, hw, kv, rfl, hr⟩ := r.mo p _ em
        have ey := vr_key r2 ek
        subst ey
        exact set_dict hu pins s σ H _ _ v ov iv u Q I ro ri rv ⟨p, _, rfl, .inl ⟨kv, key, hw, rfl, by rw [KR.length hr]; exact hz, rfl⟩, k _ _ h (r.write em ⟨_, rfl, KR.put hr (dk_nodup I hw) key r3⟩)⟩
    | dcT kvs =>
      dsimp only at h
      cases r2 <;> first | exact False.elim h | skip
      rename_i b us ds hb hv
      dsimp only at h
      cases ek : dKs? ds with
      | none => rw [ek] at h; exact False.elim h
      | some key =>
        rw [ek] at h
        obtain ⟨hz, h⟩ := h
        obtain ⟨_, w, hw, kv, rfl, hr⟩ := r.mo p _ em
        have ey := vr_keys hv ek
        subst ey
        exact set_dict hu pins s σ H _ _ v ov iv u Q I ro ri rv ⟨p, _, rfl, .inr ⟨kv, key, b, hw, rfl, r.ex _ _ hb, by rw [KR.length hr]; exact hz, rfl⟩, k _ _ h (r.write em ⟨_, rfl, KR.put hr (dt_nodup I hw) key r3⟩)⟩
    | _ => exact False.elim h
def gSubD (wo wi : DE) : DG := fun d δ m Q => wo δ m fun o m1 => wi δ m1 fun i m2 => setD o i d m2 fun m3 => Q δ m3
theorem qg_sub (dx : DX X G k) (ho : PE X o (LE G wo)) (hi : PE X i (LE G wi)) (ha : ∀ v, assign (.Subscript o i pos) X.env v = (do
      let ov ← holding [v] (eval o X.env)
      let iv ← holding [v, ov] (eval i X.env)
      standAt pos
      holding [v, ov, iv] (setItem ov iv v)
      release [v, ov, iv] []) := by intro _; rfl) : PG X (.Subscript o i pos) (LG G vs (gSubD wo wi)) :=
  PG.imp (pg_sub ho hi (pset (G := G) dx.u1) ha) fun v σ H Q h => by
    obtain ⟨F, m, δ, d, Q0, r, s, rv, h, k⟩ := h
    exact ⟨F, m, δ, _, r, s, h, fun d1 m1 v1 F1 H1 h1 e1 r1 q1 => ⟨F1, m1, δ, _, r1, s.mono e1, h1, fun d2 m2 v2 F2 H2 h2 e2 r2 q2 =>
      ⟨F2, m2, d1, d2, d, _, r2, q1.mono e2, q2, rv.mono (e1.trans e2), h2, fun m' H' hq r' => k _ _ _ _ _ hq (e1.trans e2) r' (s.mono (e1.trans e2)) (.refl _ _)⟩⟩⟩
def wNext : DS := fun D δ m => D.nx δ m
def wSeq (t u : DS) : DS := fun D δ m => t { D with nx := u D } δ m
def wBreak : DS := fun D δ m => D.bk δ m
def wCont : DS := fun D δ m => D.ct δ m
def wDrop (w : DE) : DS := fun D δ m => w δ m fun _ m1 => D.nx δ m1
def wRet (w : DE) : DS := fun D δ m => w δ m D.rt
def wRetN : DS := fun D _ m => D.rt .non m
def wIfS (c : DT) (t u : DS) : DS := fun D δ m => c δ m fun b m1 => if b = true then t D δ m1 else u D δ m1
def wNever : DS := fun _ _ _ => False
variable {st : Stmt} {sts : List Stmt} {t u : DS} {wt : DT}
theorem kts_of {F : Hp} {D0 : DEnds} {D : Ends} (k : KtD G F D0 D) : KtS G F D0.nx D.nx := k.nx
theorem qss_nil : PSs X [] (LS G wNext) := PSs.imp pss_nil fun D σ H h => by
  obtain ⟨F, m, δ, D0, r, s, h, k⟩ := h
  exact k.nx _ _ _ _ _ h (Ex.refl F) r s
theorem qss_cons (h1 : PS X st (LS G t)) (h2 : PSs X sts (LS G u)) : PSs X (st :: sts) (LS G (wSeq t u)) := PSs.imp (pss_cons h1 h2) fun D σ H h => by
  obtain ⟨F, m, δ, D0, r, s, h, k⟩ := h
  exact ⟨F, m, δ, _, r, s, h, ⟨fun δ1 m1 σ1 F1 H1 h1 e1 r1 s1 => ⟨F1, m1, δ1, D0, r1, s1, h1, k.mono e1⟩, k.rt, k.bk, k.ct⟩⟩
theorem qss_one (h1 : PS X st (LS G t)) : PSs X [st] (LS G t) := pss_one h1
theorem qs_pass : PS X (.Pass pos) (LS G wNext) := PS.imp ps_pass fun D σ H h => by
  obtain ⟨F, m, δ, D0, r, s, h, k⟩ := h
  exact k.nx _ _ _ _ _ h (Ex.refl F) r s
theorem qs_break : PS X (.Break pos) (LS G wBreak) := PS.imp ps_break fun D σ H h => by
  obtain ⟨F, m, δ, D0, r, s, h, k⟩ := h
  exact k.bk _ _ _ _ _ h (Ex.refl F) r s
theorem qs_continue : PS X (.Continue pos) (LS G wCont) := PS.imp ps_continue fun D σ H h => by
  obtain ⟨F, m, δ, D0, r, s, h, k⟩ := h
  exact k.ct _ _ _ _ _ h (Ex.refl F) r s
theorem qs_expr (he : PE X e (LE G w)) (hs : swapsWith e none pos.line X.env = pure false := by rfl) : PS X (.Expr e pos) (LS G (wDrop w)) := PS.imp (ps_expr he hs) fun D σ H h => by
  obtain ⟨F, m, δ, D0, r, s, h, k⟩ := h
  exact ⟨F, m, δ, _, r, s, h, fun d m1 v F1 H1 h1 e1 r1 v1 => k.nx _ _ _ _ _ h1 e1 r1 (s.mono e1)⟩
theorem qs_ret (he : PE X e (LE G w)) : PS X (.Return (some e) pos) (LS G (wRet w)) := PS.imp (ps_ret he) fun D σ H h => by
  obtain ⟨F, m, δ, D0, r, s, h, k⟩ := h
  exact ⟨F, m, δ, _, r, s, h, k.rt⟩
theorem qs_retN : PS X (.Return none pos) (LS G wRetN) := PS.imp ps_retN fun D σ H h => by
  obtain ⟨F, m, δ, D0, r, s, h, k⟩ := h
  exact k.rt _ _ _ _ _ h (Ex.refl F) r .non
theorem qs_if {c : Expr} {a b : List Stmt} (hc : PT X c (LT G wt)) (ha : PSs X a (LS G t)) (hb : PSs X b (LS G u)) : PS X (.If c a b pos) (LS G (wIfS wt t u)) := PS.imp (ps_if hc ha hb) fun D σ H h => by
  obtain ⟨F, m, δ, D0, r, s, h, k⟩ := h
  refine ⟨F, m, δ, _, r, s, h, fun b m1 F1 H1 h1 e1 r1 => ?_⟩
  cases b with
  | true => exact ⟨F1, m1, δ, D0, r1, s.mono e1, h1, k.mono e1⟩
  | false => exact ⟨F1, m1, δ, D0, r1, s.mono e1, h1, k.mono e1⟩
theorem qs_never : PS X st (LS G wNever) := PS.imp ps_never fun D σ H h => by
  obtain ⟨F, m, δ, D0, r, s, h, k⟩ := h
  exact h
theorem qss_never : PSs X sts (LS G wNever) := PSs.imp pss_never fun D σ H h => by
  obtain ⟨F, m, δ, D0, r, s, h, k⟩ := h
  exact h
/-- target = e -/
def wAsg (w : DE) (g : DG) : DS := fun D δ m => w δ m fun d m1 => g d δ m1 D.nx
theorem ls_asg {D : Ends} {σ : L2.St} {H : Hp} (h : LS G (wAsg w g) D σ H) : tAsg (LE G w) (LG G vs g) D σ H := by
  obtain ⟨F, m, δ, D0, r, s, h, k⟩ := h
  exact ⟨F, m, δ, _, r, s, h, fun d m1 v F1 H1 h1 e1 r1 v1 => ⟨F1, m1, δ, d, _, r1, s.mono e1, v1, h1, fun δ' m' σ' F' H' q e' r' s' _ => k.nx _ _ _ _ _ q (e1.trans e') r' s'⟩⟩
theorem qs_asg {tg : Expr} (he : PE X e (LE G w)) (hg : PG X tg (LG G vs g)) (hs : swapsWithSole [tg] e pos.line X.env = pure false := by rfl) (hw : swappedStores [tg] e X.env = pure none := by rfl) (h1 : (assignEach [tg] X.env).map (·.2) = [assign tg X.env] := by rfl) : PS X (.Assign [tg] e pos) (LS G (wAsg w g)) :=
  PS.imp (ps_asg he hg hs hw h1) fun D σ H h => ls_asg h
theorem le_gname {D : Ends} {σ : L2.St} {H : Hp} {i : Nat} {te : TE} (hte : ∀ σ H Q, LE G w σ H Q → te σ H Q) (h : LS G (wAsg w (gN i)) D σ H) : tAsg te (gName i) D σ H := by
  obtain ⟨F, m, δ, D0, r, s, h, k⟩ := h
  exact hte _ _ _ ⟨F, m, δ, _, r, s, h, fun d m1 v F1 H1 h1 e1 r1 v1 => k.nx _ _ _ _ _ h1 e1 r1 ((s.mono e1).set i v1)⟩
theorem qs_set {i : Nat} {pos' : Pos} (hN : X.N.Nodup) (hi : X.N[i]? = some x) (hx : Loc X.env.scope x) (he : PE X e (LE G w)) (hs : swapsWith e (some (.Name x pos')) pos.line X.env = pure false := by rfl) (hf : X.fn x = true ∨ X.env.scope.names.lookup x = some .local := by first | exact .inl rfl | exact .inr rfl | assumption) :
    PS X (.Assign [.Name x pos'] e pos) (LS G (wAsg w (gN i))) := PS.imp (ps_set hN hi hx he hs hf) fun D σ H h => le_gname (fun _ _ _ h => h) h
def wPar (i j : Nat) (t : DA) : DS := fun D δ m => t δ m fun ds m1 => match ds with
  | [a, b] => D.nx ((δ.set i (some a)).set j (some b)) m1
  | _ => False
theorem qs_par {i j : Nat} {y : Str} {a b : Expr} {wl : DA} {px py pt : Pos} {kt k2 pt2} (hc : X.calm = true) (hN : X.N.Nodup) (hi : X.N[i]? = some x) (hj : X.N[j]? = some y) (hij : i ≠ j)
    (hx : X.env.scope.names.lookup x = some .local) (hy : X.env.scope.names.lookup y = some .local) (ha : PA X [a, b] (LA G wl))
    (hw : swappedStores [.Tuple [.Name x px, .Name y py] kt pt] (.Tuple [a, b] k2 pt2) X.env = pure (some [x, y]) := by rfl)
    (hs : swapsWithSole [.Tuple [.Name x px, .Name y py] kt pt] (.Tuple [a, b] k2 pt2) pos.line X.env = pure false := by rfl) : PS X (.Assign [.Tuple [.Name x px, .Name y py] kt pt] (.Tuple [a, b] k2 pt2) pos) (LS G (wPar i j wl)) :=
  PS.imp (ps_par hc hN hi hj hij hx hy ha hw hs) fun D σ H h => by
    obtain ⟨F, m, δ, D0, r, s, h, k⟩ := h
    refine ⟨F, m, δ, _, r, s, h, fun ds m1 vs F1 H1 h1 e1 r1 v1 => ?_⟩
    match ds, h1 with
    | [c, d], h1 =>
      obtain ⟨v, w, rfl, rv, rw'⟩ := v1.two_inv
      exact ⟨v, w, rfl, k.nx _ _ _ _ _ h1 e1 r1 (((s.mono e1).set i rv).set j rw')⟩
def wPar3 (i j l : Nat) (t : DA) : DS := fun D δ m => t δ m fun ds m1 => match ds with
  | [a, b, c] => D.nx (((δ.set i (some a)).set j (some b)).set l (some c)) m1
  | _ => False
theorem qs_par3 {i j l : Nat} {y z : Str} {a b c : Expr} {wl : DA} {px py pz pt : Pos} {kt k2 pt2} (hc : X.calm = true) (hN : X.N.Nodup) (hi : X.N[i]? = some x) (hj : X.N[j]? = some y) (hl : X.N[l]? = some z) (hij : i ≠ j) (hil : i ≠ l) (hjl : j ≠ l)
    (hx : X.env.scope.names.lookup x = some .local) (hy : X.env.scope.names.lookup y = some .local) (hz : X.env.scope.names.lookup z = some .local) (ha : PA X [a, b, c] (LA G wl))
    (hw : swappedStores [.Tuple [.Name x px, .Name y py, .Name z pz] kt pt] (.Tuple [a, b, c] k2 pt2) X.env = pure (some [x, y, z]) := by rfl)
    (hs : swapsWithSole [.Tuple [.Name x px, .Name y py, .Name z pz] kt pt] (.Tuple [a, b, c] k2 pt2) pos.line X.env = pure false := by rfl) : PS X (.Assign [.Tuple [.Name x px, .Name y py, .Name z pz] kt pt] (.Tuple [a, b, c] k2 pt2) pos) (LS G (wPar3 i j l wl)) :=
  PS.imp (ps_par3 hc hN hi hj hl hij hil hjl hx hy hz ha hw hs) fun D σ H h => by
    obtain ⟨F, m, δ, D0, r, s, h, k⟩ := h
    refine ⟨F, m, δ, _, r, s, h, fun ds m1 vs F1 H1 h1 e1 r1 v1 => ?_⟩
    match ds, h1 with
    | [c, d, f], h1 =>
      obtain ⟨v, w, u, rfl, rv, rw', ru⟩ := v1.three_inv
      exact ⟨v, w, u, rfl, k.nx _ _ _ _ _ h1 e1 r1 ((((s.mono e1).set i rv).set j rw').set l ru)⟩
/-- o.f = e -/
def setF (c i : Nat) (o d : DV) (m : Sto) (Q : Sto → Prop) : Prop := match o with
  | .ref p => match m p with
    | some (.ins c' fs) => c' = c ∧ fs.length < 1000 ∧ Q (put m p (.ins c (putN i d fs)))
    | _ => False
  | _ => False
theorem setF_ok {F H : Hp} {m : Sto} {v y : V} {d d' : DV} {c i : Nat} {Q0 : Sto → Prop} (hi : G.Inj) (r : Rel G F m H) (rv : VR G.K F v d) (ry : VR G.K F y d') (h : setF c i d d' m Q0) :
    ∃ a dx fs, v = .ref a ∧ H a = some (.ins (G.cls c) dx fs) ∧ fs.length < 1000 ∧ ∃ m', Q0 m' ∧ Rel G F m' (upd H a (.ins (G.cls c) dx (putF (G.fld i) y fs))) := by
  cases rv <;> first | exact False.elim h | skip
  rename_i a
  unfold setF at h
  dsimp only at h
  cases e : m a with
  | none => rw [e] at h; exact False.elim h
  | some ob =>
    rw [e] at h
    cases ob <;> first | exact False.elim h | skip
    dsimp only at h
    obtain ⟨rfl, hz, h⟩ := h
    rename_i fs
    obtain ⟨_, u, hu, dx, fv, rfl, hf⟩ := r.mo a _ e
    exact ⟨a, dx, fv, rfl, hu, by rw [Paired.length hf]; exact hz, _, h, r.write e ⟨dx, _, rfl, FR.put hi ry hf⟩⟩
def wSetF (c i : Nat) (wo w : DE) : DS := fun D δ m => w δ m fun d m1 => wo δ m1 fun o m2 => setF c i o d m2 fun m3 => D.nx δ m3
theorem qs_fld {f : Str} {c i : Nat} {pos' : Pos} (hi : G.Inj) (hf : G.fld i = f) (cl : Cls X.K (G.cls c)) (na : NoAttr X.K (G.cls c) f) (ho : PE X o (LE G wo)) (he : PE X e (LE G w)) (hs : swapsWith e (some (.Attribute o f pos')) pos.line X.env = pure false := by rfl) :
    PS X (.Assign [.Attribute o f pos'] e pos) (LS G (wSetF c i wo w)) := PS.imp (ps_fld ho he hs) fun D σ H h => by
  obtain ⟨F, m, δ, D0, r, s, h, k⟩ := h
  refine ⟨F, m, δ, _, r, s, h, fun d m1 v F1 H1 h1 e1 r1 v1 => ⟨F1, m1, δ, _, r1, s.mono e1, h1, fun d2 m2 v2 F2 H2 h2 e2 r2 q2 => ?_⟩⟩
  obtain ⟨a, dx, fs, rfl, h3, h4, m', h5, h6⟩ := setF_ok hi r2 q2 (v1.mono e2) h2
  exact ⟨a, G.cls c, dx, fs, rfl, h3, cl, na, h4, by rw [← hf]; exact k.nx _ _ _ _ _ h5 (e1.trans e2) h6 (s.mono (e1.trans e2))⟩
/-- x op= y: ints, texts, a list that grows -/
def dIAdd : D2 := fun x y m Q => match x, y with
  | .int i, .int j => Q (.int (i + j)) m
  | _, _ => False
theorem in_addD : InOp X .Add (LR2 G dIAdd) := by
  intro pins s σ H x y u v Q I rx ry h
  obtain ⟨F, m, d1, d2, Q0, r, v1, v2, h, k⟩ := h
  cases v1 with
  | int i =>
    cases v2 with
    | int j => exact in_add pins s σ H _ _ u v Q I rx ry ⟨i, j, rfl, rfl, k _ _ _ _ _ h (Ex.refl F) r (.int _)⟩
    | _ => exact False.elim h
  | _ => exact False.elim (by cases v2 <;> exact h)
def dISub : D2 := fun x y m Q => match x, y with
  | .int i, .int j => Q (.int (i - j)) m
  | _, _ => False
theorem in_subD : InOp X .Sub (LR2 G dISub) := by
  intro pins s σ H x y u v Q I rx ry h
  obtain ⟨F, m, d1, d2, Q0, r, v1, v2, h, k⟩ := h
  cases v1 with
  | int i =>
    cases v2 with
    | int j => exact in_sub pins s σ H _ _ u v Q I rx ry ⟨i, j, rfl, rfl, k _ _ _ _ _ h (Ex.refl F) r (.int _)⟩
    | _ => exact False.elim h
  | _ => exact False.elim (by cases v2 <;> exact h)
def wAug (i : Nat) (R : D2) (w : DE) : DS := fun D δ m => match δ[i]? with
  | some (some d) => w δ m fun d2 m1 => R d d2 m1 fun d3 m2 => D.nx (δ.set i (some d3)) m2
  | _ => False
theorem qs_aug {i : Nat} {op : Operator} {R : D2} {pos' : Pos} (hN : X.N.Nodup) (hi : X.N[i]? = some x) (hx : Loc X.env.scope x) (he : PE X e (LE G w)) (ho : InOp X op (LR2 G R)) (hf : X.fn x = true ∨ X.env.scope.names.lookup x = some .local := by first | exact .inl rfl | exact .inr rfl | assumption) :
    PS X (.AugAssign (.Name x pos') op e pos) (LS G (wAug i R w)) := PS.imp (ps_aug hN hi hx he ho hf) fun D σ H h => by
  obtain ⟨F, m, δ, D0, r, s, h, k⟩ := h
  unfold wAug at h
  cases ei : δ[i]? with
  | none => rw [ei] at h; exact False.elim h
  | some od =>
    rw [ei] at h
    cases od with
    | none => exact False.elim h
    | some d =>
      obtain ⟨v, hv, rv⟩ := s.at_ i d ei
      exact ⟨v, hv, F, m, δ, _, r, s, h, fun d2 m1 y F1 H1 h1 e1 r1 v1 => ⟨F1, m1, d, d2, _, r1, rv.mono e1, v1, h1, fun d3 m2 z F2 H2 h2 e2 r2 v2 => k.nx _ _ _ _ _ h2 (e1.trans e2) r2 ((s.mono (e1.trans e2)).set i v2)⟩⟩
def wAugF (c i : Nat) (R : D2) (wo w : DE) : DS := fun D δ m => wo δ m fun o m1 => fldD c i o m1 fun x m2 => w δ m2 fun y m3 => R x y m3 fun z m4 => setF c i o z m4 fun m5 => D.nx δ m5
theorem qs_fldaug {f : Str} {c i : Nat} {op : Operator} {R : D2} {tpos : Pos} (hi : G.Inj) (hf : G.fld i = f) (cl : Cls X.K (G.cls c)) (na : NoAttr X.K (G.cls c) f) (ho : PE X o (LE G wo)) (he : PE X e (LE G w)) (hop : InOp X op (LR2 G R)) :
    PS X (.AugAssign (.Attribute o f tpos) op e pos) (LS G (wAugF c i R wo w)) := PS.imp (ps_fldaug ho he hop) fun D σ H h => by
  obtain ⟨F, m, δ, D0, r, s, h, k⟩ := h
  refine ⟨F, m, δ, _, r, s, h, fun d m1 v F1 H1 h1 e1 r1 v1 => ?_⟩
  have kk : Kt G F1 (fun x m2 => w δ m2 fun y m3 => R x y m3 fun z m4 => setF c i d z m4 fun m5 => D0.nx δ m5) fun x H' => ∃ F2 m2 dd, Ex F1 F2 ∧ Rel G F2 m2 H' ∧ VR G.K F2 x dd ∧ w δ m2 fun y m3 => R dd y m3 fun z m4 => setF c i d z m4 fun m5 => D0.nx δ m5 :=
    fun dd m2 x F2 H2 h2 e2 r2 v2 => ⟨F2, m2, dd, e2, r2, v2, h2⟩
  obtain ⟨a, dx, fs, x, rfl, h3, h4, F2, m2, dd, e2, r2, v2, h5⟩ := fld_ok hi r1 v1 h1 kk
  refine ⟨a, G.cls c, dx, fs, x, rfl, h3, cl, na, by rw [← hf]; exact h4, F2, m2, δ, _, r2, s.mono (e1.trans e2), h5, fun y m3 vy F3 H3 h6 e3 r3 v3 => ⟨F3, m3, dd, y, _, r3, v2.mono e3, v3, h6, fun z m4 vz F4 H4 h7 e4 r4 v4 => ?_⟩⟩
  obtain ⟨a', dx', fs', h8, h9, h10, m', h11, h12⟩ := setF_ok hi r4 (v1.mono ((e2.trans e3).trans e4)) v4 h7
  cases h8
  exact ⟨dx', fs', h9, h10, by rw [← hf]; exact k.nx _ _ _ _ _ h11 (((e1.trans e2).trans e3).trans e4) h12 (s.mono (((e1.trans e2).trans e3).trans e4))⟩
def wWhile (c : DT) (tb : DS) : DS := fun D δ m => ∃ W : Nat → Slots → Sto → Prop, (∃ n, W n δ m) ∧ ∀ n δ m, W n δ m →
  c δ m fun b m1 => if b = true then tb { nx := fun δ' m' => ∃ n', n' < n ∧ W n' δ' m', rt := D.rt, bk := D.nx, ct := fun δ' m' => ∃ n', n' < n ∧ W n' δ' m' } δ m1 else D.nx δ m1
theorem qs_while {c : Expr} {body : List Stmt} (dx : DX X G k) (hc : PT X c (LT G wt)) (hb : PSs X body (LS G t)) : PS X (.While c body [] pos) (LS G (wWhile wt t)) := PS.imp (ps_while dx.pas hc hb) fun D σ H h => by
  obtain ⟨F, m, δ, D0, r, s, ⟨W, ⟨n0, h0⟩, hs⟩, k⟩ := h
  refine ⟨fun n σ' H' => ∃ F' m' δ', Ex F F' ∧ Rel G F' m' H' ∧ SR G.K F' σ' δ' ∧ W n δ' m', ⟨n0, F, m, δ, Ex.refl F, r, s, h0⟩, ?_⟩
  rintro n σ' H' ⟨F', m', δ', e', r', s', w'⟩
  refine ⟨F', m', δ', _, r', s', hs n δ' m' w', fun b m1 F1 H1 h1 e1 r1 => ?_⟩
  cases b with
  | false => exact k.nx _ _ _ _ _ h1 (e'.trans e1) r1 (s'.mono e1)
  | true =>
    refine ⟨fun σ2 H2 => ∃ n', n' < n ∧ ∃ F' m' δ', Ex F F' ∧ Rel G F' m' H2 ∧ SR G.K F' σ2 δ' ∧ W n' δ' m', fun _ _ q => q, F1, m1, δ', _, r1, s'.mono e1, h1, ?_⟩
    have nx : KtS G F1 (fun δ' m' => ∃ n', n' < n ∧ W n' δ' m') (fun σ2 H2 => ∃ n', n' < n ∧ ∃ F' m' δ', Ex F F' ∧ Rel G F' m' H2 ∧ SR G.K F' σ2 δ' ∧ W n' δ' m') := fun δ2 m2 σ2 F2 H2 ⟨n', hn, w2⟩ e2 r2 s2 => ⟨n', hn, F2, m2, δ2, (e'.trans e1).trans e2, r2, s2, w2⟩
    exact ⟨nx, (k.mono (e'.trans e1)).rt, (k.mono (e'.trans e1)).nx, nx⟩
def forGo (it : DIt) (g : DG) (tb : DS) (D : DEnds) : List DV → Slots → Sto → Prop
  | [], δ, m => it.st m ∧ it.fin m (D.nx δ)
  | x :: r, δ, m => it.st m ∧ g x δ m fun δ1 m1 => tb { nx := forGo it g tb D r, rt := fun v m' => it.fin m' (D.rt v), bk := fun δ' m' => it.fin m' (D.nx δ'), ct := forGo it g tb D r } δ1 m1
def wFor (wi : DI) (g : DG) (tb : DS) : DS := fun D δ m => wi δ m fun it m1 => forGo it g tb D it.items δ m1
theorem getElem_drop_cons {α : Type} {xs : List α} {i : Nat} {x : α} {r : List α} (h : xs.drop i = x :: r) : xs[i]? = some x ∧ xs.drop (i + 1) = r := by
  have h1 : (xs.drop i)[0]? = some x := by rw [h]; rfl
  rw [List.getElem?_drop, Nat.add_zero] at h1
  refine ⟨h1, ?_⟩
  have : xs.drop (i + 1) = (xs.drop i).drop 1 := by rw [List.drop_drop]
  rw [this, h]; rfl
theorem getElem_drop_nil {α : Type} {xs : List α} {i : Nat} (h : xs.drop i = []) : xs[i]? = none := by
  have := List.drop_eq_nil_iff.mp h
  exact List.getElem?_eq_none this
theorem qs_for {tg iter : Expr} {body : List Stmt} {wi : DI} (dx : DX X G k) (hi : PI X tg iter (LI X G wi)) (hg : PG X tg (LG G vs g)) (hb : PSs X body (LS G t)) (hs : ∀ x, foldedSetIterable iter X.env x = pure x := by intro _; rfl) :
    PS X (.For tg iter body [] pos) (LS G (wFor wi g t)) := PS.imp (PS.unl (ps_for dx.pas dx.calm hi hg hb hs)) fun D σ H h => by
  obtain ⟨F, m, δ, D0, r, s, h, k⟩ := h
  refine ⟨F, m, δ, _, r, s, h, fun it m1 F1 H1 J q e1 r1 ok hn => ?_⟩
  refine ⟨fun i n σ' H' => n = it.items.length - i ∧ i ≤ it.items.length ∧ ∃ F' m' δ', Ex F1 F' ∧ Rel G F' m' H' ∧ SR G.K F' σ' δ' ∧ forGo it g t D0 (it.items.drop i) δ' m', ⟨_, rfl, Nat.zero_le _, F1, m1, δ, Ex.refl F1, r1, s.mono e1, q⟩, ?_⟩
  rintro i n σ' H' ⟨rfl, hle, F', m', δ', e', r', s', w'⟩
  have nxOk : KtS G F' (fun δ m => it.fin m (D0.nx δ)) (UnlS X D.nx) := fun δ2 m2 σ2 F2 H2 h2 e2 r2 s2 =>
    fin_ok (N := fun H => D.nx σ2 H) r2 hn h2 fun m3 H3 h3 r3 => k.nx _ _ _ _ _ h3 ((e1.trans e').trans e2) r3 s2
  have rtOk : Kt G F' (fun v m => it.fin m (D0.rt v)) (UnlV X D.rt) := fun d2 m2 v2 F2 H2 h2 e2 r2 q2 =>
    fin_ok (N := fun H => D.rt v2 H) r2 hn h2 fun m3 H3 h3 r3 => k.rt _ _ _ _ _ h3 ((e1.trans e').trans e2) r3 q2
  cases ed : it.items.drop i with
  | nil =>
    rw [ed] at w'
    exact .inl ⟨(ok i F' m' H' e' r' w'.1).2 (getElem_drop_nil ed), nxOk _ _ _ _ _ w'.2 (Ex.refl F') r' s'⟩
  | cons x rest =>
    rw [ed] at w'
    obtain ⟨hx, hd⟩ := getElem_drop_cons ed
    obtain ⟨w1, w2⟩ := w'
    obtain ⟨go, yl⟩ := (ok i F' m' H' e' r' w1).1 x hx
    have hlt : i < it.items.length := by
      have := List.getElem?_eq_some_iff.mp hx
      obtain ⟨z, _⟩ := this
      exact z
    refine .inr ⟨go, fun σ2 H2 => ∃ F2 m2 δ2, Ex F1 F2 ∧ Rel G F2 m2 H2 ∧ SR G.K F2 σ2 δ2 ∧ forGo it g t D0 rest δ2 m2, fun σ2 H2 q2 => ⟨_, (by omega : it.items.length - (i + 1) < it.items.length - i), rfl, hlt, by rw [hd]; exact q2⟩, fun y H2 hy => ?_⟩
    obtain ⟨F2, e2, r2, v2⟩ := yl y H2 hy
    refine ⟨F2, m', δ', x, _, r2, s'.mono e2, v2, w2, fun δ3 m3 σ3 F3 H3 h3 e3 r3 s3 _ => ⟨F3, m3, δ3, _, r3, s3, h3, ?_⟩⟩
    have e13 : Ex F1 F3 := (e'.trans e2).trans e3
    have nx : KtS G F3 (forGo it g t D0 rest) (fun σ2 H2 => ∃ F2 m2 δ2, Ex F1 F2 ∧ Rel G F2 m2 H2 ∧ SR G.K F2 σ2 δ2 ∧ forGo it g t D0 rest δ2 m2) := fun δ4 m4 σ4 F4 H4 h4 e4 r4 s4 => ⟨F4, m4, δ4, e13.trans e4, r4, s4, h4⟩
    exact ⟨nx, rtOk.mono (e2.trans e3), nxOk.mono (e2.trans e3), nx⟩
end
end DL
namespace DL
open PySem PySem.Spec PyProof.Rows L2 RZ
section
variable {P : Program} {w : World} {A : Around} {E : Value → Shared → Prop} {s : Shared}
set_option maxRecDepth 100000 in
set_option maxHeartbeats 3200000 in
theorem call_set_listI {l : Addr} {items : Array Value} (ns : List Int) {Q : Value → Shared → Prop} (hh : A.handled = none) (hl : s.heap.IsList l items) (hit : IntsAre items.toList ns) (hb : ns.length + 1 < scanBound)
    (h : ∀ (h' : Heap) (tk c : Nat), SetR w h' s.heap.objs.size (fun j => decide (j ∈ ns)) c → c ≤ ns.length → (∀ b o, s.heap.get? b = some o → h'.get? b = some o) → Q (.ref s.heap.objs.size) { s with heap := h', toks := tk }) :
    wpAny (model P w) A (call (.type "set") [.ref l]) Q E s := by
  have hisz : items.size = ns.length := by
    have q := IntsAre.length hit
    rw [Array.length_toList] at q
    exact q
  obtain ⟨c, tl, hmro⟩ := F.called_set.mro
  have hmade := F.called_set.made
  have hsub := F.called_set.sub
  refine wpAny_call (codeAny_of_tree ?_)
  show wpAny _ _ (callAny (.type "set") _) _ _ _
  refine wpAny_pure ⟨Code.quiet_builtin _ (by decide +kernel), codeAny_builtin F.entry_type_call ?_⟩
  rw [Around.under_plain (weight_type_call_type "set" [.ref l] []) rfl]
  have h1 := F.called_set.notType
  have h2 := F.called_set.canCreate
  have hct := F.typeCall_set_1 (.ref l)
  repeat (any_goals (first | assumption | wp_step))
  refine codeAny_mono (code_set_led1 (.ref l) (E := E) (Q₁ := fun obj s₁ => obj = .ref s.heap.objs.size ∧ s₁ = { s with heap := s.heap.push { cls := .type "set", dict := none, data := .set #[] 0 (.fresh 0 0 (!w.params.followText "set-order")) } }) ⟨rfl, rfl⟩) fun r s₁ hr => ?_
  cases r with
  | error e => exact hr
  | ok fl =>
    cases fl with
    | ret obj =>
      obtain ⟨rfl, rfl⟩ := hr
      have hS : (s.heap.push { cls := .type "set", dict := none, data := .set #[] 0 (.fresh 0 0 (!w.params.followText "set-order")) }).get? s.heap.objs.size = some { cls := .type "set", dict := none, data := .set #[] 0 (.fresh 0 0 (!w.params.followText "set-order")) } := Heap.get?_push_size _ rfl
      have hT : Shared.TypeIs { s with heap := s.heap.push { cls := .type "set", dict := none, data := .set #[] 0 (.fresh 0 0 (!w.params.followText "set-order")) } } (.ref s.heap.objs.size) "set" := ⟨_, hS, rfl⟩
      have hli := F.called_set.init.lookup
      have hbi := F.called_set.init.bind (.ref s.heap.objs.size)
      repeat (any_goals (first | assumption | wp_step))
      refine codeAny_mono (codeAny_call_builtin (R := wants (fun r s₂ => r = .none ∧ ∃ h' tk c, s₂ = { s with heap := h', toks := tk } ∧ SetR w h' s.heap.objs.size (fun j => decide (j ∈ ns)) c ∧ c ≤ ns.length ∧
          (∀ b o, s.heap.get? b = some o → h'.get? b = some o)) E) F.called_set.init.plain F.entry_set_init (check_set_init_1 hT ?_)) fun r₂ s₂ hr₂ => ?_
      · obtain ⟨ol, hol, hcl, nl, hdl⟩ := hl
        obtain ⟨ocls, odict, odata, oslots⟩ := ol
        simp only at hcl hdl
        subst hcl; subst hdl
        have hol' : (s.heap.push { cls := .type "set", dict := none, data := .set #[] 0 (.fresh 0 0 (!w.params.followText "set-order")) }).get? l = some { cls := .type "list", dict := odict, data := .seq items nl, slots := oslots } := Heap.get?_push_of_some _ hol
        have hsls := F.sub_list_set
        have hslf := F.sub_list_frozenset
        have hne : (Value.type "tuple" == Value.type "dict") = false := by decide
        have hl1 : (s.heap.push { cls := .type "set", dict := none, data := .set #[] 0 (.fresh 0 0 (!w.params.followText "set-order")) }).IsList l items := ⟨_, hol', rfl, nl, rfl⟩
        unfold Builtin.«set.__init__» noKeywords Builtin.Frozenset.updateFrom
        generalize hPI : pyIter = PI
        wp_walk
        subst hPI
        refine wpAny_pyIter_list hl1 ?_
        refine wpAny_bind (wpAny_runValue ?_)
        have hlS : l < s.heap.objs.size := Heap.lt_size hol
        have hh3 : A.in1.in1.in1.handled = none := by simp [hh]
        have hz1 : (s.heap.push { cls := .type "set", dict := none, data := .set #[] 0 (.fresh 0 0 (!w.params.followText "set-order")) }).objs.size = s.heap.objs.size + 1 := Heap.size_push ..
        have hneI : l ≠ (s.heap.push { cls := .type "set", dict := none, data := .set #[] 0 (.fresh 0 0 (!w.params.followText "set-order")) }).objs.size := by
          rw [Heap.size_push]; exact Nat.ne_of_lt (Nat.lt_succ_of_lt hlS)
        have hSf : s.heap.objs.size ∉ [(s.heap.push { cls := .type "set", dict := none, data := .set #[] 0 (.fresh 0 0 (!w.params.followText "set-order")) }).objs.size, l] := by
          rw [Heap.size_push]; simp only [List.mem_cons, List.mem_singleton, List.not_mem_nil, or_false, not_or]
          exact ⟨Nat.ne_of_lt (Nat.lt_succ_self _), Nat.ne_of_gt hlS⟩
        have hval : ∀ (i : Nat) (v : Value), items[i]? = some v → ∃ k t, ns[i]? = some k ∧ v = .int k t := fun i v hv => by
          have hi : i < ns.length := by rw [← hisz]; exact (Array.getElem?_eq_some_iff.mp hv).1
          obtain ⟨t, e⟩ := PyProof.Rows.IntsAre.int_at hit i v (by rw [Array.getElem?_toList]; exact hv)
          refine ⟨ns[i], t, List.getElem?_eq_getElem hi, ?_⟩
          rw [e, List.getD_eq_getElem?_getD, List.getElem?_eq_getElem hi] <;> rfl
        refine set_update_ints ((Walks.list hh3 _ l hneI items).toS) s.heap.objs.size
          hSf ns hisz hb hval (items.size - 0) 0 _ (by omega) (Nat.zero_le _)
          ⟨⟨_, Heap.get?_push_size _ rfl, rfl, rfl⟩, (hl1.push _)⟩ ?hS0 ?hR
        case hS0 =>
          have hget : ((s.heap.push { cls := .type "set", dict := none, data := .set #[] 0 (.fresh 0 0 (!w.params.followText "set-order")) }).push { cls := .type "list_iterator", data := .fields #[.ref l, .int 0 0] }).get? s.heap.objs.size
              = some { cls := .type "set", dict := none, data := .set #[] 0 (.fresh 0 0 (!w.params.followText "set-order")) } := Heap.get?_push_of_some _ hS
          exact ⟨0, Nat.le_refl 0, setR_new_at hget⟩
        case hR =>
          intro s' c' hm hc' hS'
          obtain ⟨h', g2, d', tk', os'⟩ := s'
          have eg : g2 = s.gens := hm.gens
          have ed : d' = s.drawn := hm.drawn
          have eo : os' = s.os := hm.os
          subst eg; subst ed; subst eo
          show wpAny _ _ _ _ _ _
          refine wpAny_pure ?_
          show wpAny _ _ (ret Value.none) _ _ _
          rw [hisz] at hc'
          refine wpAny_pure ⟨rfl, h', tk', c', rfl, hS', hc', fun b o e => ?_⟩
          have hb0 : b < s.heap.objs.size := Heap.lt_size e
          have hb1 : b ≠ s.heap.objs.size := Nat.ne_of_lt hb0
          have hb2 : b ≠ (s.heap.push { cls := .type "set", dict := none, data := .set #[] 0 (.fresh 0 0 (!w.params.followText "set-order")) }).objs.size := by
            rw [Heap.size_push]; exact Nat.ne_of_lt (Nat.lt_succ_of_lt hb0)
          exact hm.heap b o (by simp only [List.mem_cons, List.mem_singleton, List.not_mem_nil, or_false, not_or]; exact ⟨hb1, hb2⟩) (Heap.get?_push_of_some _ (Heap.get?_push_of_some _ e))
      · cases r₂ with
        | error e => exact hr₂
        | ok fl₂ =>
          cases fl₂ with
          | ret r =>
            obtain ⟨rfl, h', tk, c', rfl, hS', hc', hk'⟩ := hr₂
            repeat (any_goals (first | assumption | wp_step))
            exact h _ _ _ hS' hc' hk'
          | _ => exact hr₂.elim
    | _ => exact hr.elim
end
def LC (G : Gam) (R : DSp) : List V → Hp → VK → Prop := fun vs H Q => ∃ F m ds Q0, Rel G F m H ∧ VRs G.K F vs ds ∧ R ds m Q0 ∧ Kt G F Q0 Q
def wB (R : DSp) (t : DA) : DE := fun δ m Q => t δ m fun ds m1 => R ds m1 Q
section
variable {X : Cx} {G : Gam} {k : Nat} {e : Expr} {es : List Expr} {x : Str} {p pos : Pos} {R : DSp} {wl : DA} {w : DE}
theorem le_b {σ : L2.St} {H : Hp} {Q : VK} (h : LE G (wB R wl) σ H Q) : tCB (LC G R) (LA G wl) σ H Q := by
  obtain ⟨F, m, δ, Q0, r, s, h, k⟩ := h
  exact ⟨F, m, δ, _, r, s, h, fun ds m1 vs F1 H1 h1 e1 r1 v1 => ⟨F1, m1, ds, Q0, r1, v1, h1, k.mono e1⟩⟩
theorem qe_callB {id : String} (hc : CallR X (.builtin id) (LC G R)) (hg : Gl X x) (hm : X.mg x = none) (hv : bootBuiltins x = some (.builtin id)) (ha : PA X (e :: es) (LA G wl)) (hn : x ≠ "__name__" := by decide) (hdb : (x == ("__debug__" : Str)) = false := by decide)
    (he : starEach (e :: es) X.env = (false, eval e X.env) :: starEach es X.env := by rfl) (hpl : (backTo pos (starEach es X.env)).any (·.1) = false := by rfl) : PE X (.Call (.Name x p) (e :: es) [] pos) (LE G (wB R wl)) :=
  PE.imp (pe_callB hc hg hm hv ha hn hdb he hpl) fun _ _ _ h => le_b h
theorem qe_callTy {T : String} (hc : CallR X (.type T) (LC G R)) (hg : Gl X x) (hm : X.mg x = none) (hv : bootBuiltins x = some (.type T)) (ha : PA X (e :: es) (LA G wl)) (hn : x ≠ "__name__" := by decide) (hdb : (x == ("__debug__" : Str)) = false := by decide)
    (he : starEach (e :: es) X.env = (false, eval e X.env) :: starEach es X.env := by rfl) (hpl : (backTo pos (starEach es X.env)).any (·.1) = false := by rfl) : PE X (.Call (.Name x p) (e :: es) [] pos) (LE G (wB R wl)) :=
  PE.imp (pe_callTy hc hg hm hv ha hn hdb he hpl) fun _ _ _ h => le_b h
theorem lc_one {vs : List V} {H : Hp} {Q : VK} (h : LC G R vs H Q) : ∃ F m ds Q0, Rel G F m H ∧ VRs G.K F vs ds ∧ R ds m Q0 ∧ Kt G F Q0 Q := h
def ints? : List DV → Option (List Int)
  | [] => some []
  | .int i :: r => (ints? r).map (i :: ·)
  | _ => none
theorem ints_ok {K : PySem.W.Frag} {F : Hp} : ∀ {vs : List V} {ds : List DV} {ns : List Int}, VRs K F vs ds → ints? ds = some ns → vs = ns.map V.int
  | _, _, _, .nil, h => by cases h; rfl
  | _, _, _, .cons (d := d) (ds := ds) rv t, h => by
    cases rv <;> first | (exfalso; simp [ints?] at h; done) | skip
    simp only [ints?] at h
    cases e : ints? ds with
    | none => rw [e] at h; cases h
    | some ms => rw [e] at h; cases h; rw [ints_ok t e]; rfl
theorem ints_of (ns : List Int) : ints? (ns.map DV.int) = some ns := by
  induction ns with
  | nil => rfl
  | cons n r ih => simp [ints?, ih]
def bls? : List DV → Option (List Bool)
  | [] => some []
  | .bl i :: r => (bls? r).map (i :: ·)
  | _ => none
theorem bls_ok {K : PySem.W.Frag} {F : Hp} : ∀ {vs : List V} {ds : List DV} {ns : List Bool}, VRs K F vs ds → bls? ds = some ns → vs = ns.map V.bl
  | _, _, _, .nil, h => by cases h; rfl
  | _, _, _, .cons (d := d) (ds := ds) rv t, h => by
    cases rv <;> first | (exfalso; simp [bls?] at h; done) | skip
    simp only [bls?] at h
    cases e : bls? ds with
    | none => rw [e] at h; cases h
    | some ms => rw [e] at h; cases h; rw [bls_ok t e]; rfl
theorem bls_of (ns : List Bool) : bls? (ns.map DV.bl) = some ns := by
  induction ns with
  | nil => rfl
  | cons n r ih => simp [bls?, ih]
def strs? : List DV → Option (List Str)
  | [] => some []
  | .str i :: r => (strs? r).map (i :: ·)
  | _ => none
theorem strs_ok {K : PySem.W.Frag} {F : Hp} : ∀ {vs : List V} {ds : List DV} {ns : List Str}, VRs K F vs ds → strs? ds = some ns → vs = ns.map V.str
  | _, _, _, .nil, h => by cases h; rfl
  | _, _, _, .cons (d := d) (ds := ds) rv t, h => by
    cases rv <;> first | (exfalso; simp [strs?] at h; done) | skip
    simp only [strs?] at h
    cases e : strs? ds with
    | none => rw [e] at h; cases h
    | some ms => rw [e] at h; cases h; rw [strs_ok t e]; rfl
theorem strs_of (ns : List Str) : strs? (ns.map DV.str) = some ns := by
  induction ns with
  | nil => rfl
  | cons n r ih => simp [strs?, ih]
theorem vrs_strs {K : PySem.W.Frag} {F : Hp} : ∀ ns : List Str, VRs K F (ns.map V.str) (ns.map DV.str)
  | [] => .nil
  | n :: r => .cons (.str n) (vrs_strs r)
/-- the size of a value -/
def lenD (m : Sto) (d : DV) (Q : Int → Prop) : Prop := match d with
  | .str z => z.length ≤ sizeLine ∧ Q (z.length : Int)
  | d => match asQ m d with
    | some xs => Q (xs.length : Int)
    | none => match d with
      | .ref p => match m p with
        | some (.dct kvs) => Q (kvs.length : Int)
        | _ => False
      | _ => False
def dLen : DSp := fun ds m Q => match ds with
  | [d] => lenD m d fun n => Q (.int n) m
  | _ => False
theorem cd_len (hK : X.K = G.K) : CallR X (.builtin "len") (LC G dLen) := by
  intro pins s σ H vs us Q I rr h
  obtain ⟨F, m, ds, Q0, r, rv, h, k⟩ := h
  match ds, h with
  | [d], h =>
    obtain ⟨v, rfl, rd⟩ := rv.one_inv
    have seq : ∀ xs, asQ m d = some xs → Q0 (.int (xs.length : Int)) m → wpAny (model X.prog X.w) X.A (call (.builtin "len") us) (EP X pins σ Q) X.xe s := fun xs ea q => by
      obtain ⟨a, ws, rfl, hs, hr⟩ := asQ_ok r rd ea
      refine call_len_seq pins s σ H _ us Q I rr ⟨a, ws, rfl, by rw [hK]; exact hs, ?_⟩
      rw [hr.length]
      exact k _ _ _ _ _ q (Ex.refl F) r (.int _)
    cases rd with
    | str z => exact call_len_str pins s σ H _ us Q I rr ⟨z, rfl, h.1, k _ _ _ _ _ h.2 (Ex.refl F) r (.int _)⟩
    | ref a =>
      simp only [dLen, lenD] at h
      cases ea : asQ m (.ref a) with
      | some xs => rw [ea] at h; exact seq xs ea h
      | none =>
        rw [ea] at h
        dsimp only at h
        cases em : m a with
        | none => rw [em] at h; exact False.elim h
        | some ob =>
          rw [em] at h
          cases ob <;> first | exact False.elim h | skip
          rename_i kvs
          obtain ⟨_, u, hu, kv, rfl, hr⟩ := r.mo a _ em
          exact call_lenD pins s σ H _ us Q I rr ⟨a, kv, rfl, hu, by rw [KR.length hr]; exact k _ _ _ _ _ h (Ex.refl F) r (.int _)⟩
    | lst hs hr => exact seq _ rfl h
    | tup hs hr => exact seq _ rfl h
    | ktup hs hr => exact seq _ rfl h
    | klst hs hr => exact seq _ rfl h
    | _ => exact False.elim h
def dAbs : DSp := fun ds m Q => match ds with
  | [.int i] => Q (.int (if i < 0 then -i else i)) m
  | _ => False
theorem cd_abs : CallR X (.builtin "abs") (LC G dAbs) := by
  intro pins s σ H vs us Q I rr h
  obtain ⟨F, m, ds, Q0, r, rv, h, k⟩ := h
  match ds, h with
  | [.int i], h =>
    obtain ⟨v, rfl, rd⟩ := rv.one_inv
    cases rd
    exact call_abs pins s σ H _ us Q I rr ⟨i, rfl, k _ _ _ _ _ h (Ex.refl F) r (.int _)⟩
def dInt : DSp := fun ds m Q => match ds with
  | [.int i] => Q (.int i) m
  | [.bl b] => Q (.int (if b then 1 else 0)) m
  | _ => False
theorem cd_int : CallR X (.type "int") (LC G dInt) := by
  intro pins s σ H vs us Q I rr h
  obtain ⟨F, m, ds, Q0, r, rv, h, k⟩ := h
  match ds, h with
  | [.int i], h =>
    obtain ⟨v, rfl, rd⟩ := rv.one_inv
    cases rd
    exact call_int1 pins s σ H _ us Q I rr (.inl ⟨i, rfl, k _ _ _ _ _ h (Ex.refl F) r (.int _)⟩)
  | [.bl b], h =>
    obtain ⟨v, rfl, rd⟩ := rv.one_inv
    cases rd
    exact call_int1 pins s σ H _ us Q I rr (.inr ⟨b, rfl, k _ _ _ _ _ h (Ex.refl F) r (.int _)⟩)
def minL : List Int → Int
  | [] => 0
  | [x] => x
  | x :: r => if x ≤ minL r then x else minL r
theorem minL_ok : ∀ (n : Int) (ns : List Int), minL (n :: ns) ∈ n :: ns ∧ ∀ y ∈ n :: ns, minL (n :: ns) ≤ y
  | n, [] => by simp [minL]
  | n, a :: r => by
    obtain ⟨h1, h2⟩ := minL_ok a r
    show (if n ≤ minL (a :: r) then n else minL (a :: r)) ∈ n :: a :: r ∧ ∀ y ∈ n :: a :: r, (if n ≤ minL (a :: r) then n else minL (a :: r)) ≤ y
    split
    · refine ⟨List.mem_cons_self, fun y hy => ?_⟩
      rcases List.mem_cons.mp hy with rfl | hy
      · exact Int.le_refl _
      · have := h2 y hy
        omega
    · refine ⟨List.mem_cons_of_mem _ h1, fun y hy => ?_⟩
      rcases List.mem_cons.mp hy with rfl | hy
      · omega
      · exact h2 y hy
def maxL : List Int → Int
  | [] => 0
  | [x] => x
  | x :: r => if maxL r ≤ x then x else maxL r
theorem maxL_ok : ∀ (n : Int) (ns : List Int), maxL (n :: ns) ∈ n :: ns ∧ ∀ y ∈ n :: ns, y ≤ maxL (n :: ns)
  | n, [] => by simp [maxL]
  | n, a :: r => by
    obtain ⟨h1, h2⟩ := maxL_ok a r
    show (if maxL (a :: r) ≤ n then n else maxL (a :: r)) ∈ n :: a :: r ∧ ∀ y ∈ n :: a :: r, y ≤ (if maxL (a :: r) ≤ n then n else maxL (a :: r))
    split
    · refine ⟨List.mem_cons_self, fun y hy => ?_⟩
      rcases List.mem_cons.mp hy with rfl | hy
      · exact Int.le_refl _
      · have := h2 y hy
        omega
    · refine ⟨List.mem_cons_of_mem _ h1, fun y hy => ?_⟩
      rcases List.mem_cons.mp hy with rfl | hy
      · omega
      · exact h2 y hy
def dMin : DSp := fun ds m Q => match ds with
  | [.int i, .int j] => Q (.int (if j < i then j else i)) m
  | [d] => match asL m d with
    | some xs => match ints? xs with
      | some ns => 0 < ns.length ∧ Q (.int (minL ns)) m
      | none => False
    | none => False
  | _ => False
theorem cd_min (hK : X.K = G.K) (hc : X.calm = true) : CallR X (.builtin "min") (LC G dMin) := by
  intro pins s σ H vs us Q I rr h
  obtain ⟨F, m, ds, Q0, r, rv, h, k⟩ := h
  unfold dMin at h
  split at h
  · obtain ⟨v, w, rfl, rd, re⟩ := rv.two_inv
    cases rd
    cases re
    exact call_min2 hc pins s σ H _ us Q I rr ⟨_, _, rfl, k _ _ _ _ _ h (Ex.refl F) r (.int _)⟩
  · obtain ⟨v, rfl, rd⟩ := rv.one_inv
    rename_i d
    cases ea : asL m d with
    | none => rw [ea] at h; exact False.elim h
    | some xs =>
      rw [ea] at h
      dsimp only at h
      cases ei : ints? xs with
      | none => rw [ei] at h; exact False.elim h
      | some ns =>
        rw [ei] at h
        obtain ⟨a, ws, rfl, hs, hr⟩ := asL_ok r rd ea
        have := ints_ok hr ei
        subst this
        refine cr_min hc pins s σ H _ us Q I rr ⟨a, ns, rfl, by rw [hK]; exact hs, h.1, fun z hz hle => ?_⟩
        have e : z = minL ns := by
          cases ns with
          | nil => cases hz
          | cons n r =>
            obtain ⟨h1, h2⟩ := minL_ok n r
            have := hle _ h1
            have := h2 _ hz
            omega
        subst e
        exact k _ _ _ _ _ h.2 (Ex.refl F) r (.int _)
  · exact False.elim h
def dMax : DSp := fun ds m Q => match ds with
  | [.int i, .int j] => Q (.int (if j > i then j else i)) m
  | [d] => match asL m d with
    | some xs => match ints? xs with
      | some ns => 0 < ns.length ∧ Q (.int (maxL ns)) m
      | none => False
    | none => False
  | _ => False
theorem cd_max (hK : X.K = G.K) (hc : X.calm = true) : CallR X (.builtin "max") (LC G dMax) := by
  intro pins s σ H vs us Q I rr h
  obtain ⟨F, m, ds, Q0, r, rv, h, k⟩ := h
  unfold dMax at h
  split at h
  · obtain ⟨v, w, rfl, rd, re⟩ := rv.two_inv
    cases rd
    cases re
    exact call_max2 hc pins s σ H _ us Q I rr ⟨_, _, rfl, k _ _ _ _ _ h (Ex.refl F) r (.int _)⟩
  · obtain ⟨v, rfl, rd⟩ := rv.one_inv
    rename_i d
    cases ea : asL m d with
    | none => rw [ea] at h; exact False.elim h
    | some xs =>
      rw [ea] at h
      dsimp only at h
      cases ei : ints? xs with
      | none => rw [ei] at h; exact False.elim h
      | some ns =>
        rw [ei] at h
        obtain ⟨a, ws, rfl, hs, hr⟩ := asL_ok r rd ea
        have := ints_ok hr ei
        subst this
        refine cr_max hc pins s σ H _ us Q I rr ⟨a, ns, rfl, by rw [hK]; exact hs, h.1, fun z hz hle => ?_⟩
        have e : z = maxL ns := by
          cases ns with
          | nil => cases hz
          | cons n r =>
            obtain ⟨h1, h2⟩ := maxL_ok n r
            have := hle _ h1
            have := h2 _ hz
            omega
        subst e
        exact k _ _ _ _ _ h.2 (Ex.refl F) r (.int _)
  · exact False.elim h
/-- of a list of bools, of ints -/
def dBls (f : List Bool → Bool) : DSp := fun ds m Q => match ds with
  | [d] => match asL m d with
    | some xs => match bls? xs with
      | some ns => Q (.bl (f ns)) m
      | none => False
    | none => False
  | _ => False
theorem cd_bls {id : String} {f : List Bool → Bool} (hK : X.K = G.K) (base : CallR X (.builtin id) fun vs H Q => ∃ (a : Addr) (bs : List Bool), vs = [V.ref a] ∧ SqL X.K H a (bs.map V.bl) ∧ Q (.bl (f bs)) H) : CallR X (.builtin id) (LC G (dBls f)) := by
  intro pins s σ H vs us Q I rr h
  obtain ⟨F, m, ds, Q0, r, rv, h, k⟩ := h
  match ds, h with
  | [d], h =>
    obtain ⟨v, rfl, rd⟩ := rv.one_inv
    unfold dBls at h
    dsimp only at h
    cases ea : asL m d with
    | none => rw [ea] at h; exact False.elim h
    | some xs =>
      rw [ea] at h
      dsimp only at h
      cases ei : bls? xs with
      | none => rw [ei] at h; exact False.elim h
      | some ns =>
        rw [ei] at h
        obtain ⟨a, ws, rfl, hs, hr⟩ := asL_ok r rd ea
        have := bls_ok hr ei
        subst this
        exact base pins s σ H _ us Q I rr ⟨a, ns, rfl, by rw [hK]; exact hs, k _ _ _ _ _ h (Ex.refl F) r (.bl _)⟩
abbrev dAll : DSp := dBls fun bs => bs.all id
abbrev dAny : DSp := dBls fun bs => bs.any id
theorem cd_all (hK : X.K = G.K) (hc : X.calm = true) : CallR X (.builtin "all") (LC G dAll) := cd_bls hK (cr_all hc)
theorem cd_any (hK : X.K = G.K) (hc : X.calm = true) : CallR X (.builtin "any") (LC G dAny) := cd_bls hK (cr_any hc)
def dSum : DSp := fun ds m Q => match ds with
  | [d] => match asL m d with
    | some xs => match ints? xs with
      | some ns => Q (.int ns.sum) m
      | none => False
    | none => False
  | _ => False
theorem cd_sum (hK : X.K = G.K) (hc : X.calm = true) : CallR X (.builtin "sum") (LC G dSum) := by
  intro pins s σ H vs us Q I rr h
  obtain ⟨F, m, ds, Q0, r, rv, h, k⟩ := h
  match ds, h with
  | [d], h =>
    obtain ⟨v, rfl, rd⟩ := rv.one_inv
    unfold dSum at h
    dsimp only at h
    cases ea : asL m d with
    | none => rw [ea] at h; exact False.elim h
    | some xs =>
      rw [ea] at h
      dsimp only at h
      cases ei : ints? xs with
      | none => rw [ei] at h; exact False.elim h
      | some ns =>
        rw [ei] at h
        obtain ⟨a, ws, rfl, hs, hr⟩ := asL_ok r rd ea
        have := ints_ok hr ei
        subst this
        exact cr_sum hc pins s σ H _ us Q I rr ⟨a, ns, rfl, by rw [hK]; exact hs, k _ _ _ _ _ h (Ex.refl F) r (.int _)⟩
def dListOf (mu : Bool) : DSp := fun ds m Q => match ds with
  | [d] => match asQ m d with
    | some xs => newL mu xs m Q
    | none => match d with
      | .ref p => match m p with
        | some (.dct kvs) => newL mu (kvs.map fun kv => kD kv.1) m Q
        | _ => False
      | _ => False
  | _ => False
theorem kr_keysV {K : PySem.W.Frag} {F F' : Hp} : ∀ {kv : List (Key × V)} {kvs : List (Key × DV)}, KR K F kv kvs → VRs K F' (kv.map fun kv => kV kv.1) (kvs.map fun kv => kD kv.1) := fun {kv kvs} h => by
  have h' : Paired (fun (p : Key × V) (q : Key × DV) => p.1 = q.1 ∧ VR K F p.2 q.2) kv kvs := h
  clear h
  induction h' with
  | nil => exact .nil
  | cons h t ih => exact .cons (by dsimp only; rw [h.1]; exact vr_kD _) ih
theorem cd_list (hK : X.K = G.K) (hc : X.calm = true) (mu : Bool) : CallR X (.type "list") (LC G (dListOf mu)) := by
  intro pins s σ H vs us Q I rr h
  obtain ⟨F, m, ds, Q0, r, rv, h, k⟩ := h
  match ds, h with
  | [d], h =>
    obtain ⟨v, rfl, rd⟩ := rv.one_inv
    unfold dListOf at h
    dsimp only at h
    cases ea : asQ m d with
    | some xs =>
      rw [ea] at h
      obtain ⟨a, ws, rfl, hs, hr⟩ := asQ_ok r rd ea
      exact call_list_of pins s σ H _ us Q I rr ⟨a, ws, rfl, by rw [hK]; exact hs, newL_ok r h k hr⟩
    | none =>
      rw [ea] at h
      dsimp only at h
      cases rd <;> first | exact False.elim h | skip
      rename_i a
      dsimp only at h
      cases em : m a with
      | none => rw [em] at h; exact False.elim h
      | some ob =>
        rw [em] at h
        cases ob <;> first | exact False.elim h | skip
        obtain ⟨_, u, hu, kv, rfl, hr⟩ := r.mo a _ em
        exact call_listD hc pins s σ H _ us Q I rr ⟨a, kv, rfl, .inl hu, newL_ok r h k (kr_keysV hr)⟩
def dTupOf : DSp := fun ds m Q => match ds with
  | [.tup xs] => Q (.tup xs) m
  | [.ktup xs] => Q (.ktup xs) m
  | [d] => match asL m d with
    | some xs => Q (.tup xs) m
    | none => False
  | _ => False
theorem cd_tup (hK : X.K = G.K) : CallR X (.type "tuple") (LC G dTupOf) := by
  intro pins s σ H vs us Q I rr h
  obtain ⟨F, m, ds, Q0, r, rv, h, k⟩ := h
  unfold dTupOf at h
  split at h
  · obtain ⟨v, rfl, rd⟩ := rv.one_inv
    cases rd with
    | tup hs hr => exact call_tuple_of pins s σ H _ us Q I rr ⟨_, _, rfl, .inr ⟨by rw [hK]; exact SqT.of (r.ex _ _ hs), k _ _ _ _ _ h (Ex.refl F) r (.tup hs hr)⟩⟩
  · obtain ⟨v, rfl, rd⟩ := rv.one_inv
    cases rd with
    | ktup hs hr => exact call_tuple_of pins s σ H _ us Q I rr ⟨_, _, rfl, .inr ⟨by rw [hK]; exact Ex.sqT ex_none hs, k _ _ _ _ _ h (Ex.refl F) r (.ktup hs hr)⟩⟩
  · obtain ⟨v, rfl, rd⟩ := rv.one_inv
    rename_i d _ _
    cases ea : asL m d with
    | none => rw [ea] at h; exact False.elim h
    | some xs =>
      rw [ea] at h
      obtain ⟨a, ws, rfl, hs, hr⟩ := asL_ok r rd ea
      exact call_tuple_of pins s σ H _ us Q I rr ⟨a, ws, rfl, .inl ⟨by rw [hK]; exact hs, newT_ok r h k hr⟩⟩
  · exact False.elim h
def insI (x : Int) : List Int → List Int
  | [] => [x]
  | y :: r => if x ≤ y then x :: y :: r else y :: insI x r
def sortI : List Int → List Int
  | [] => []
  | x :: r => insI x (sortI r)
theorem insI_perm (x : Int) : ∀ ns : List Int, (insI x ns).Perm (x :: ns)
  | [] => .refl _
  | y :: r => by
    unfold insI
    split
    · exact .refl _
    · exact ((insI_perm x r).cons y).trans (.swap x y r)
theorem sortI_perm : ∀ ns : List Int, (sortI ns).Perm ns
  | [] => .refl _
  | x :: r => (insI_perm x _).trans ((sortI_perm r).cons x)
theorem insI_sorted (x : Int) : ∀ ns : List Int, ns.Pairwise (· ≤ ·) → (insI x ns).Pairwise (· ≤ ·)
  | [], _ => List.pairwise_singleton _ _
  | y :: r, h => by
    rw [List.pairwise_cons] at h
    unfold insI
    split
    · rename_i hle
      refine List.pairwise_cons.mpr ⟨fun z hz => ?_, List.pairwise_cons.mpr h⟩
      rcases List.mem_cons.mp hz with rfl | hz
      · exact hle
      · exact Int.le_trans hle (h.1 z hz)
    · rename_i hle
      refine List.pairwise_cons.mpr ⟨fun z hz => ?_, insI_sorted x r h.2⟩
      rcases List.mem_cons.mp ((insI_perm x r).mem_iff.mp hz) with rfl | hz
      · omega
      · exact h.1 z hz
theorem sortI_sorted : ∀ ns : List Int, (sortI ns).Pairwise (· ≤ ·)
  | [] => .nil
  | x :: r => insI_sorted x _ (sortI_sorted r)
theorem sorted_unique : ∀ {as bs : List Int}, as.Perm bs → as.Pairwise (· ≤ ·) → bs.Pairwise (· ≤ ·) → as = bs
  | [], bs, h, _, _ => by rw [List.nil_perm.mp h]
  | a :: as, [], h, _, _ => absurd h.length_eq (by simp)
  | a :: as, b :: bs, h, h1, h2 => by
    rw [List.pairwise_cons] at h1 h2
    have e1 : a ≤ b := by
      have := h.mem_iff.mpr (List.mem_cons_self (a := b) (l := bs))
      rcases List.mem_cons.mp this with rfl | z
      · exact Int.le_refl _
      · exact h1.1 b z
    have e2 : b ≤ a := by
      have := h.mem_iff.mp (List.mem_cons_self (a := a) (l := as))
      rcases List.mem_cons.mp this with rfl | z
      · exact Int.le_refl _
      · exact h2.1 a z
    have e : a = b := by omega
    subst e
    rw [sorted_unique (h.cons_inv) h1.2 h2.2]
theorem sortI_of {ns ms : List Int} (h : ms.Perm ns) (s : ms.Pairwise (· ≤ ·)) : ms = sortI ns := sorted_unique (h.trans (sortI_perm ns).symm) s (sortI_sorted ns)
/-- the keys of a dict that are ints, texts -/
def keysI? : List (Key × DV) → Option (List Int)
  | [] => some []
  | (.inl i, _) :: r => (keysI? r).map (i :: ·)
  | _ => none
theorem keysI_ok : ∀ {kvs : List (Key × DV)} {ns : List Int}, keysI? kvs = some ns → kvs.map (·.1) = ns.map Sum.inl
  | [], _, h => by cases h; rfl
  | (.inl i, _) :: r, _, h => by
    simp only [keysI?] at h
    cases e : keysI? r with
    | none => rw [e] at h; cases h
    | some ms => rw [e] at h; cases h; rw [List.map_cons, keysI_ok e]; rfl
  | (.inr i, _) :: r, _, h => by cases h
def keysS? : List (Key × DV) → Option (List Str)
  | [] => some []
  | (.inr i, _) :: r => (keysS? r).map (i :: ·)
  | _ => none
theorem keysS_ok : ∀ {kvs : List (Key × DV)} {ns : List Str}, keysS? kvs = some ns → kvs.map (·.1) = ns.map Sum.inr
  | [], _, h => by cases h; rfl
  | (.inr i, _) :: r, _, h => by
    simp only [keysS?] at h
    cases e : keysS? r with
    | none => rw [e] at h; cases h
    | some ms => rw [e] at h; cases h; rw [List.map_cons, keysS_ok e]; rfl
  | (.inl i, _) :: r, _, h => by cases h
/-- sorted of ints (a list, a dict's keys), of texts -/
def dSorted (mu : Bool) : DSp := fun ds m Q => match ds with
  | [d] => match asL m d with
    | some xs => match ints? xs with
      | some ns => newL mu ((sortI ns).map DV.int) m Q
      | none => match strs? xs with
        | some ns => ns.length < 64 ∧ ∀ ys : List Str, ys.Perm ns → sortedS ys = true → newL mu (ys.map DV.str) m Q
        | none => False
    | none => match d with
      | .ref p => match m p with
        | some (.dct kvs) => kvs.length < 64 ∧ match keysI? kvs with
          | some ns => newL mu ((sortI ns).map DV.int) m Q
          | none => match keysS? kvs with
            | some ns => ∀ ys : List Str, ys.Perm ns → sortedS ys = true → newL mu (ys.map DV.str) m Q
            | none => False
        | _ => False
      | _ => False
  | _ => False
theorem cd_sorted (hK : X.K = G.K) (hc : X.calm = true) (mu : Bool) : CallR X (.builtin "sorted") (LC G (dSorted mu)) := by
  intro pins s σ H vs us Q I rr h
  obtain ⟨F, m, ds, Q0, r, rv, h, k⟩ := h
  match ds, h with
  | [d], h =>
    obtain ⟨v, rfl, rd⟩ := rv.one_inv
    unfold dSorted at h
    dsimp only at h
    cases ea : asL m d with
    | some xs =>
      rw [ea] at h
      dsimp only at h
      obtain ⟨a, ws, rfl, hs, hr⟩ := asL_ok r rd ea
      cases ei : ints? xs with
      | some ns =>
        rw [ei] at h
        have := ints_ok hr ei
        subst this
        refine cr_sortedI pins s σ H _ us Q I rr ⟨a, ns, rfl, by rw [hK]; exact hs, fun ns' p hp hs' hn => ?_⟩
        rw [sortI_of hp hs']
        exact newL_ok r h k (VRs.of_ints _) p hn
      | none =>
        rw [ei] at h
        dsimp only at h
        cases es : strs? xs with
        | none => rw [es] at h; exact False.elim h
        | some ns =>
          rw [es] at h
          have := strs_ok hr es
          subst this
          exact cr_sortedS pins s σ H _ us Q I rr ⟨a, ns, rfl, by rw [hK]; exact hs, h.1, fun ns' p hp hs' hn => newL_ok r (h.2 ns' hp hs') k (vrs_strs _) p hn⟩
    | none =>
      rw [ea] at h
      dsimp only at h
      cases rd <;> first | exact False.elim h | skip
      rename_i a
      dsimp only at h
      cases em : m a with
      | none => rw [em] at h; exact False.elim h
      | some ob =>
        rw [em] at h
        cases ob <;> first | exact False.elim h | skip
        rename_i kvs
        obtain ⟨_, u, hu, kv, rfl, hr⟩ := r.mo a _ em
        obtain ⟨h64, h⟩ := h
        cases ei : keysI? kvs with
        | some ns =>
          rw [ei] at h
          have hk := (KR.keys hr).trans (keysI_ok ei)
          have hl : ns.length < 64 := by
            have := congrArg List.length (keysI_ok ei)
            simp at this
            omega
          refine call_sortedDI hc pins s σ H _ us Q I rr ⟨a, kv, ns, rfl, .inl hu, hk, hl, fun ys p hp hs' hn => ?_⟩
          rw [sortI_of hp hs']
          exact newL_ok r h k (VRs.of_ints _) p hn
        | none =>
          rw [ei] at h
          dsimp only at h
          cases es : keysS? kvs with
          | none => rw [es] at h; exact False.elim h
          | some ns =>
            rw [es] at h
            have hk := (KR.keys hr).trans (keysS_ok es)
            have hl : ns.length < 64 := by
              have := congrArg List.length (keysS_ok es)
              simp at this
              omega
            exact call_sortedD hc pins s σ H _ us Q I rr ⟨a, kv, ns, rfl, .inl hu, hk, hl, fun ys p hp hs' hn => newL_ok r (h ys hp hs') k (vrs_strs _) p hn⟩
/-- sorted(set(l)) -/
def rSetOfI (K : PySem.W.Frag) (w : World) : List V → Hp → VK → Prop := fun vs H Q => ∃ (l : Addr) (ns : List Int), vs = [V.ref l] ∧ SqL K H l (ns.map V.int) ∧ ns.length < 1000 ∧ ∀ p c, H p = none → c ≤ ns.length → Q (.ref p) (upd H p (SetO w p (fun j => decide (j ∈ ns)) c))
theorem cr_setOfI (hc : X.calm = true) : CallR X (.type "set") (rSetOfI X.K X.w) := by
  intro pins s σ H vs us Q I rr h
  obtain ⟨l, ns, rfl, hs, hl, q⟩ := h
  obtain ⟨its, rv, pl, hz⟩ := I.list hs
  obtain ⟨u, rfl, ru⟩ := vals1 rr
  cases ru
  refine call_set_listI ns (I.ok.hd hc) pl.isList (by simpa using intsAre_vals rv) (by unfold scanBound; omega) fun h' tk c R hcle hk => ?_
  refine ⟨.ref _, _, I.laid (t' := tk) hk (Nat.le_refl _) (setO_new (P := X.prog) R), rfl, q _ c I.fresh hcle⟩
def ddI : List Int → List Int
  | [] => []
  | x :: r => if x ∈ r then ddI r else x :: ddI r
theorem ddI_mem {z : Int} : ∀ {ns : List Int}, z ∈ ddI ns ↔ z ∈ ns
  | [] => .rfl
  | x :: r => by
    unfold ddI
    split
    · rename_i h
      rw [ddI_mem, List.mem_cons]
      exact ⟨.inr, fun z => z.elim (fun e => e ▸ h) id⟩
    · rw [List.mem_cons, List.mem_cons, ddI_mem]
theorem ddI_nodup : ∀ ns : List Int, (ddI ns).Nodup
  | [] => .nil
  | x :: r => by
    unfold ddI
    split
    · exact ddI_nodup r
    · rename_i h
      exact List.nodup_cons.mpr ⟨fun z => h (ddI_mem.mp z), ddI_nodup r⟩
def sortU (ns : List Int) : List Int := sortI (ddI ns)
theorem sortU_mem {z : Int} {ns : List Int} : z ∈ sortU ns ↔ z ∈ ns := ((sortI_perm _).mem_iff).trans ddI_mem
theorem sortU_lt (ns : List Int) : (sortU ns).Pairwise (· < ·) := by
  have h1 := sortI_sorted (ddI ns)
  have h2 : (sortI (ddI ns)).Nodup := (sortI_perm _).nodup_iff.mpr (ddI_nodup ns)
  have h3 := List.pairwise_and_iff.mpr ⟨h1, h2⟩
  exact h3.imp fun {a b} h => by have := h.1; have := h.2; omega
theorem lt_unique : ∀ {as bs : List Int}, as.Pairwise (· < ·) → bs.Pairwise (· < ·) → (∀ z, z ∈ as ↔ z ∈ bs) → as = bs := fun {as bs} h1 h2 h => by
  have n1 : as.Nodup := h1.imp fun {a b} h => by omega
  have n2 : bs.Nodup := h2.imp fun {a b} h => by omega
  exact sorted_unique ((List.perm_ext_iff_of_nodup n1 n2).mpr h) (h1.imp fun {a b} h => by omega) (h2.imp fun {a b} h => by omega)
def dSortU (mu : Bool) (w : DE) : DE := fun δ m Q => w δ m fun d m1 => match asL m1 d with
  | some xs => match ints? xs with
    | some ns => ns.length < 64 ∧ newL mu ((sortU ns).map DV.int) m1 Q
    | none => False
  | none => False
theorem qe_sortU {p2 pos2 : Pos} (hK : X.K = G.K) (hc : X.calm = true) (mu : Bool) (hg : Gl X "sorted") (hm : X.mg "sorted" = none) (hg2 : Gl X "set") (hm2 : X.mg "set" = none) (he : PE X e (LE G w))
    (hs : starEach [e] X.env = (false, eval e X.env) :: starEach [] X.env := by rfl) (hs2 : starEach [.Call (.Name "set" p2) [e] [] pos2] X.env = (false, eval (.Call (.Name "set" p2) [e] [] pos2) X.env) :: starEach [] X.env := by rfl) :
    PE X (.Call (.Name "sorted" p) [.Call (.Name "set" p2) [e] [] pos2] [] pos) (LE G (dSortU mu w)) :=
  PE.imp (pe_callB (cr_sortedSet hc) hg hm boot_sorted (pa_cons (pe_callTy (cr_setOfI hc) hg2 hm2 boot_set (pa_cons he pa_nil hs) (by decide) (by decide) hs (by rfl)) pa_nil hs2) (by decide) (by decide) hs2 (by rfl)) fun σ H Q h => by
    obtain ⟨F, m, δ, Q0, r, sr, h, k⟩ := h
    refine ⟨F, m, δ, _, r, sr, h, fun d m1 v F1 H1 h1 e1 r1 v1 => ?_⟩
    cases ea : asL m1 d with
    | none => rw [ea] at h1; exact False.elim h1
    | some xs =>
      rw [ea] at h1
      dsimp only at h1
      cases ei : ints? xs with
      | none => rw [ei] at h1; exact False.elim h1
      | some ns =>
        rw [ei] at h1
        obtain ⟨a, ws, rfl, hs, hr⟩ := asL_ok r1 v1 ea
        have := ints_ok hr ei
        subst this
        refine ⟨a, ns, rfl, by rw [hK]; exact hs, by omega, fun p c hp hcle => ⟨p, _, c, rfl, upd_same, by omega, fun ms q hlt hmem hlen hq => ?_⟩⟩
        have e2 : ms = sortU ns := lt_unique hlt (sortU_lt ns) fun z => by rw [hmem z, sortU_mem]; simp
        subst e2
        have r2 : Rel G F1 m1 (upd H1 p (SetO X.w p (fun j => decide (j ∈ ns)) c)) := r1.grow (Ex.new hp)
        exact newL_ok r2 h1.2 (k.mono e1) (VRs.of_ints _) q hq
inductive Ty0 | non | bl | int | str | lst | tup | dct
  deriving DecidableEq
def Ty0.name : Ty0 → String
  | .non => "NoneType" | .bl => "bool" | .int => "int" | .str => "str" | .lst => "list" | .tup => "tuple" | .dct => "dict"
def isA : Ty0 → Ty0 → Bool
  | .bl, .int => true
  | a, b => decide (a = b)
theorem kit_isA (a b : Ty0) (hb : b ≠ .non) : kitB a.name b.name = some (isA a b) := by
  cases b <;> first | exact absurd rfl hb | skip
  all_goals (cases a <;> decide +kernel)
def tyD (m : Sto) : DV → Option Ty0
  | .non => some .non | .bl _ => some .bl | .int _ => some .int | .str _ => some .str
  | .lst _ => some .lst | .klst _ => some .lst | .tup _ => some .tup | .ktup _ => some .tup
  | .ref p => match m p with
    | some (.lst _) => some .lst
    | some (.dct _) => some .dct
    | some (.dcT _) => some .dct
    | some (.lck _ _ _) => some .dct
    | _ => none
theorem tyx_l {K : PySem.W.Frag} {H : Hp} {a : Addr} {vs : List V} (h : SqL K H a vs) : TyX K H (.ref a) (.type "list") := by
  rcases h with (h | ⟨o, h⟩) | ⟨o, its, n, hk, hc, _⟩
  · exact .base (.lst h)
  · exact .base (.frz h)
  · exact .kList hk hc
theorem tyx_t {K : PySem.W.Frag} {H : Hp} {a : Addr} {vs : List V} (h : SqT K H a vs) : TyX K H (.ref a) (.type "tuple") := by
  rcases h with (h | ⟨o, h⟩) | ⟨o, its, n, hk, hc, _⟩
  · exact .base (.tup h)
  · exact .fTuple h
  · exact .kTuple hk hc
theorem tyd_ok {F H : Hp} {m : Sto} {v : V} {d : DV} {t : Ty0} (r : Rel G F m H) (rv : VR G.K F v d) (h : tyD m d = some t) : TyX G.K H v (.type t.name) := by
  cases rv with
  | non => cases h; exact .base .non
  | bl b => cases h; exact .base (.bl b)
  | int b => cases h; exact .base (.int b)
  | str b => cases h; exact .base (.str b)
  | lst hs hr => cases h; exact tyx_l (.inl (r.ex.rd hs))
  | tup hs hr => cases h; exact tyx_t (SqT.of (r.ex _ _ hs))
  | ktup hs hr => cases h; exact tyx_t (Ex.sqT ex_none hs)
  | klst hs hr => cases h; exact tyx_l (Ex.sqL ex_none hs)
  | ref a =>
    unfold tyD at h
    dsimp only at h
    cases e : m a with
    | none => rw [e] at h; cases h
    | some o =>
      rw [e] at h
      cases o <;> first | (cases h; done) | skip
      · obtain ⟨_, u, hu, vs, rfl, hr⟩ := r.mo a _ e
        cases h; exact .base (.lst hu)
      · obtain ⟨_, u, hu, vs, rfl, hr⟩ := r.mo a _ e
        cases h; exact .base (.dK hu)
      · obtain ⟨_, u, hu, vs, rfl, hr⟩ := r.mo a _ e
        cases h; exact .base (.dT hu)
      · obtain ⟨_, u, hu, rfl, hr⟩ := r.mo a _ e
        cases h; exact .fDict hu
def wIsi (ts : List Ty0) (w : DE) : DE := fun δ m Q => w δ m fun d m1 => match tyD m1 d with
  | some t => Q (.bl (ts.any (isA t))) m1
  | none => False
theorem qe_isi {x2 : Str} {p2 : Pos} {t : Ty0} (hK : X.K = G.K) (ht : t ≠ .non) (hg : Gl X "isinstance") (hm : X.mg "isinstance" = none) (hg2 : Gl X x2) (hm2 : X.mg x2 = none) (hv : bootBuiltins x2 = some (.type t.name)) (he : PE X e (LE G w))
    (hn2 : x2 ≠ "__name__" := by decide) (hd2 : (x2 == ("__debug__" : Str)) = false := by decide)
    (hs : starEach [e, .Name x2 p2] X.env = (false, eval e X.env) :: starEach [.Name x2 p2] X.env := by rfl) (hs2 : starEach [.Name x2 p2] X.env = (false, eval (.Name x2 p2) X.env) :: starEach [] X.env := by rfl) (hpl : (backTo pos (starEach [.Name x2 p2] X.env)).any (·.1) = false := by rfl) :
    PE X (.Call (.Name "isinstance" p) [e, .Name x2 p2] [] pos) (LE G (wIsi [t] w)) :=
  PE.imp (pe_callB call_isi hg hm boot_isinstance (pa_cons he (pa_cons (pe_bltn (v := .ty t.name) hg2 hm2 hv rfl hn2 hd2) pa_nil hs2) hs) (by decide) (by decide) hs hpl) fun σ H Q h => by
    obtain ⟨F, m, δ, Q0, r, sr, h, k⟩ := h
    refine ⟨F, m, δ, _, r, sr, h, fun d m1 v F1 H1 h1 e1 r1 v1 => ?_⟩
    cases et : tyD m1 d with
    | none => rw [et] at h1; exact False.elim h1
    | some u =>
      rw [et] at h1
      refine ⟨v, .ty t.name, _, _, isA u t, rfl, .ty _, by rw [hK]; exact tyd_ok r1 v1 et, kit_ty (kit_isA u t ht), k _ _ _ _ _ ?_ e1 r1 (.bl _)⟩
      have e2 : [t].any (isA u) = isA u t := by simp
      rw [← e2]; exact h1
theorem qe_isi2 {x2 x3 : Str} {p2 p3 pt : Pos} {kt : Nat} {t t' : Ty0} (hK : X.K = G.K) (ht : t ≠ .non) (ht' : t' ≠ .non) (hg : Gl X "isinstance") (hm : X.mg "isinstance" = none) (hg2 : Gl X x2) (hm2 : X.mg x2 = none) (hv : bootBuiltins x2 = some (.type t.name))
    (hg3 : Gl X x3) (hm3 : X.mg x3 = none) (hv3 : bootBuiltins x3 = some (.type t'.name)) (he : PE X e (LE G w))
    (hn2 : x2 ≠ "__name__" := by decide) (hd2 : (x2 == ("__debug__" : Str)) = false := by decide) (hn3 : x3 ≠ "__name__" := by decide) (hd3 : (x3 == ("__debug__" : Str)) = false := by decide)
    (hs : starEach [e, .Tuple [.Name x2 p2, .Name x3 p3] kt pt] X.env = (false, eval e X.env) :: starEach [.Tuple [.Name x2 p2, .Name x3 p3] kt pt] X.env := by rfl)
    (hs2 : starEach [.Tuple [.Name x2 p2, .Name x3 p3] kt pt] X.env = (false, eval (.Tuple [.Name x2 p2, .Name x3 p3] kt pt) X.env) :: starEach [] X.env := by rfl) (hpl : (backTo pos (starEach [.Tuple [.Name x2 p2, .Name x3 p3] kt pt] X.env)).any (·.1) = false := by rfl)
    (hs3 : starEach [.Name x2 p2, .Name x3 p3] X.env = (false, eval (.Name x2 p2) X.env) :: starEach [.Name x3 p3] X.env := by rfl) (hs4 : starEach [.Name x3 p3] X.env = (false, eval (.Name x3 p3) X.env) :: starEach [] X.env := by rfl) :
    PE X (.Call (.Name "isinstance" p) [e, .Tuple [.Name x2 p2, .Name x3 p3] kt pt] [] pos) (LE G (wIsi [t, t'] w)) :=
  PE.imp (pe_callB call_isiT hg hm boot_isinstance (pa_cons he (pa_cons (pe_tup (pa_cons (pe_bltn (v := .ty t.name) hg2 hm2 hv rfl hn2 hd2) (pa_cons (pe_bltn (v := .ty t'.name) hg3 hm3 hv3 rfl hn3 hd3) pa_nil hs4) hs3)) pa_nil hs2) hs) (by decide) (by decide) hs hpl) fun σ H Q h => by
    obtain ⟨F, m, δ, Q0, r, sr, h, k⟩ := h
    refine ⟨F, m, δ, _, r, sr, h, fun d m1 v F1 H1 h1 e1 r1 v1 => ?_⟩
    cases et : tyD m1 d with
    | none => rw [et] at h1; exact False.elim h1
    | some u =>
      rw [et] at h1
      refine ⟨(by show 2 ≤ sizeLine; decide), fun q hq => ⟨v, q, _, .type u.name, _, [t, t'].any (isA u), rfl, upd_same, .cons (.ty _) (.cons (.ty _) .nil), ?_, ?_, ?_⟩⟩
      · have := tyd_ok (r1.grow (Ex.new (o := .tup [V.ty t.name, V.ty t'.name]) hq)) v1 et
        rw [hK]; exact this
      · cases hb : isA u t with
        | true =>
          refine kitAny_cons (kit_ty (kit_isA u t ht)) (fun z => absurd (hb.symm.trans z) (by decide)) fun _ => ?_
          simp [hb]
        | false =>
          have : [t, t'].any (isA u) = isA u t' := by simp [hb]
          rw [this]
          cases hb' : isA u t' with
          | true => exact kitAny_cons (kit_ty (kit_isA u t ht)) (fun _ => kitAny_cons (kit_ty (kit_isA u t' ht')) (fun z => absurd (hb'.symm.trans z) (by decide)) fun _ => rfl) fun z => absurd (hb.symm.trans z) (by decide)
          | false => exact kitAny_cons (kit_ty (kit_isA u t ht)) (fun _ => kitAny_cons (kit_ty (kit_isA u t' ht')) (fun _ => kitAny_nil) fun z => absurd (hb'.symm.trans z) (by decide)) fun z => absurd (hb.symm.trans z) (by decide)
      · exact k _ _ _ _ _ h1 e1 (r1.grow (Ex.new hq)) (.bl _)
end
end DL
namespace DL
open PySem PySem.Spec PyProof.Rows L2
abbrev DM := DV → List DV → Sto → DK → Prop
def LM (G : Gam) (R : DM) : V → List V → Hp → VK → Prop := fun x vs H Q => ∃ F m d ds Q0, Rel G F m H ∧ VR G.K F x d ∧ VRs G.K F vs ds ∧ R d ds m Q0 ∧ Kt G F Q0 Q
/-- the value is of the type -/
def ofTy (m : Sto) (t : Ty0) (d : DV) : Prop := tyD m d = some t ∧ match d with
  | .ref p => match m p with
    | some (.lck _ _ _) => False
    | _ => True
  | _ => True
theorem ofTy_l {G : Gam} {F H : Hp} {m : Sto} {v : V} {d : DV} (r : Rel G F m H) (rv : VR G.K F v d) (h : ofTy m .lst d) : tyV G.K "list" v H := by
  obtain ⟨h, _⟩ := h
  cases rv <;> first | (exfalso; simp [tyD] at h; done) | skip
  · rename_i a _
    unfold tyD at h
    dsimp only at h
    cases e : m a with
    | none => rw [e] at h; cases h
    | some o =>
      rw [e] at h
      cases o <;> first | (cases h; done) | skip
      obtain ⟨_, u, hu, vs, rfl, hr⟩ := r.mo a _ e
      exact .inl ⟨rfl, _, SqL.of hu⟩
  · exact .inl ⟨rfl, _, .inl (r.ex.rd (by assumption))⟩
  · exact .inl ⟨rfl, _, Ex.sqL ex_none (by assumption)⟩
theorem ofTy_d {G : Gam} {F H : Hp} {m : Sto} {v : V} {d : DV} (r : Rel G F m H) (rv : VR G.K F v d) (h : ofTy m .dct d) : tyV G.K "dict" v H := by
  obtain ⟨h, h2⟩ := h
  cases rv <;> first | (exfalso; simp [tyD] at h; done) | skip
  rename_i a
  unfold tyD at h
  dsimp only at h h2
  cases e : m a with
  | none => rw [e] at h; cases h
  | some o =>
    rw [e] at h h2
    cases o <;> first | (cases h; done) | (exact False.elim h2) | skip
    · obtain ⟨_, u, hu, vs, rfl, hr⟩ := r.mo a _ e
      exact .inr (.inr (.inl ⟨rfl, .inl ⟨_, hu⟩⟩))
    · obtain ⟨_, u, hu, vs, rfl, hr⟩ := r.mo a _ e
      exact .inr (.inr (.inl ⟨rfl, .inr ⟨_, hu⟩⟩))
theorem ofTy_s {G : Gam} {F H : Hp} {m : Sto} {v : V} {d : DV} (r : Rel G F m H) (rv : VR G.K F v d) (h : ofTy m .str d) : tyV G.K "str" v H := by
  obtain ⟨h, _⟩ := h
  cases rv <;> first | (exfalso; simp [tyD] at h; done) | rfl | skip
  rename_i a _
  unfold tyD at h
  dsimp only at h
  cases e : m a with
  | none => rw [e] at h; cases h
  | some o =>
    rw [e] at h
    cases o <;> cases h
theorem ofTy_ok {G : Gam} {F H : Hp} {m : Sto} {v : V} {d : DV} {t : Ty0} (ht : t = .lst ∨ t = .dct ∨ t = .str) (r : Rel G F m H) (rv : VR G.K F v d) (h : ofTy m t d) : tyV G.K t.name v H := by
  rcases ht with rfl | rfl | rfl
  · exact ofTy_l r rv h
  · exact ofTy_d r rv h
  · exact ofTy_s r rv h
def wM (t : Ty0) (R : DM) (w : DE) (wl : DA) : DE := fun δ m Q => w δ m fun d m1 => ofTy m1 t d ∧ wl δ m1 fun ds m2 => R d ds m2 Q
section
variable {X : Cx} {G : Gam} {k : Nat} {o e : Expr} {es : List Expr} {name : Str} {apos cpos pos : Pos} {R : DM} {wl : DA} {w : DE} {t : Ty0} {id : String}
theorem qe_m (hK : X.K = G.K) (ht : t = .lst ∨ t = .dct ∨ t = .str) (pa : PlainAttrs t.name) (slot : Slot t.name name id) (hty : typeOf (.builtin id) = pure (.type "method_descriptor")) (hm : MtR X id (LM G R)) (ho : PE X o (LE G w)) (ha : PA X (e :: es) (LA G wl))
    (hbase : attributeBase o name X.env (eval o X.env) = eval o X.env := by rfl)
    (hfew : ((backTo cpos (starEach (e :: es) X.env)).all (fun x => !x.1) && (backToKw cpos (keywordEach [] X.env)).all (fun x => x.1.isSome)
      && decide ((e :: es).length + ([] : List Keyword).length + (if ([] : List Keyword).isEmpty then 0 else 1) < 30)) = true := by rfl)
    (hline : (apos.endLine == cpos.line) = true := by rfl) (hs : starEach (e :: es) X.env = (false, eval e X.env) :: starEach es X.env := by rfl) (hplain : (backTo cpos (starEach es X.env)).any (·.1) = false := by rfl) :
    PE X (.Call (.Attribute o name apos) (e :: es) [] cpos) (LE G (wM t R w wl)) :=
  PE.imp (pe_bm pa slot hty hm ho ha hbase hfew hline hs hplain) fun σ H Q h => by
    obtain ⟨F, m, δ, Q0, r, s, h, k⟩ := h
    exact ⟨F, m, δ, _, r, s, h, fun d m1 v F1 H1 ⟨h1, h2⟩ e1 r1 v1 => ⟨by rw [hK]; exact ofTy_ok ht r1 v1 h1, F1, m1, δ, _, r1, s.mono e1, h2, fun ds m2 vs F2 H2 h3 e2 r2 v2 => ⟨F2, m2, d, ds, Q0, r2, v1.mono e2, v2, h3, k.mono (e1.trans e2)⟩⟩⟩
theorem qe_m0 (hK : X.K = G.K) (ht : t = .lst ∨ t = .dct ∨ t = .str) (pa : PlainAttrs t.name) (slot : Slot t.name name id) (hty : typeOf (.builtin id) = pure (.type "method_descriptor")) (hm : MtR X id (LM G R)) (ho : PE X o (LE G w))
    (hbase : attributeBase o name X.env (eval o X.env) = eval o X.env := by rfl) (hline : (apos.endLine == cpos.line) = true := by rfl) :
    PE X (.Call (.Attribute o name apos) [] [] cpos) (LE G (wM t R w wNil)) :=
  PE.imp (pe_bm0 pa slot hty hm ho hbase hline) fun σ H Q h => by
    obtain ⟨F, m, δ, Q0, r, s, h, k⟩ := h
    exact ⟨F, m, δ, _, r, s, h, fun d m1 v F1 H1 ⟨h1, h2⟩ e1 r1 v1 => ⟨by rw [hK]; exact ofTy_ok ht r1 v1 h1, F1, m1, d, [], Q0, r1, v1, .nil, h2, k.mono e1⟩⟩
/-- the list at p in the store -/
def ownL (m : Sto) (d : DV) (Q : Addr → List DV → Prop) : Prop := match d with
  | .ref p => match m p with
    | some (.lst xs) => Q p xs
    | _ => False
  | _ => False
theorem ownL_ok {F H : Hp} {m : Sto} {v : V} {d : DV} {Q : Addr → List DV → Prop} (r : Rel G F m H) (rv : VR G.K F v d) (h : ownL m d Q) : ∃ a xs vs, v = .ref a ∧ m a = some (.lst xs) ∧ H a = some (.lst vs) ∧ VRs G.K F vs xs ∧ Q a xs := by
  cases rv <;> first | exact False.elim h | skip
  rename_i a
  unfold ownL at h
  dsimp only at h
  cases e : m a with
  | none => rw [e] at h; exact False.elim h
  | some ob =>
    rw [e] at h
    cases ob <;> first | exact False.elim h | skip
    obtain ⟨_, u, hu, vs, rfl, hr⟩ := r.mo a _ e
    exact ⟨a, _, vs, rfl, e, hu, hr, h⟩
def mAppend : DM := fun d ds m Q => match ds with
  | [y] => ownL m d fun p xs => xs.length < sizeLine ∧ Q .non (put m p (.lst (xs ++ [y])))
  | _ => False
theorem md_append : MtR X "list.append" (LM G mAppend) := by
  intro pins s σ H x vs v us Q I rx rv h
  obtain ⟨F, m, d, ds, Q0, r, r1, r2, h, k⟩ := h
  match ds, h with
  | [y], h =>
    obtain ⟨z, rfl, rz⟩ := r2.one_inv
    obtain ⟨a, xs, ws, rfl, e, hu, hr, hl, h⟩ := ownL_ok r r1 h
    exact mt_append pins s σ H _ _ v us Q I rx rv ⟨a, ws, z, rfl, rfl, hu, by rw [hr.length]; exact hl, k _ _ _ _ _ h (Ex.refl F) (r.write e ⟨_, rfl, hr.append (VRs.one rz)⟩) .non⟩
def asR (m : Sto) : DV → Option (List DV)
  | .klst _ => none
  | d => asL m d
theorem rd_lst {F H : Hp} {m : Sto} {v : V} {d : DV} {xs : List DV} (r : Rel G F m H) (rv : VR G.K F v d) (h : asR m d = some xs) : ∃ a vs, v = .ref a ∧ Rd H a (.lst vs) ∧ VRs G.K F vs xs := by
  cases rv with
  | @lst a vs ds hs hr =>
    cases h
    exact ⟨a, vs, rfl, r.ex.rd hs, hr⟩
  | ref a =>
    simp only [asR, asL] at h
    cases e : m a with
    | none => rw [e] at h; cases h
    | some o =>
      rw [e] at h
      cases o with
      | lst ys =>
        cases h
        obtain ⟨_, u, hu, vs, rfl, hr⟩ := r.mo a _ e
        exact ⟨a, vs, rfl, .inl hu, hr⟩
      | _ => cases h
  | _ => cases h
/-- l.extend(b): b a list -/
theorem mt_extendR : MtR X "list.extend" (fun x vs H Q => ∃ l b xs zs, x = .ref l ∧ vs = [.ref b] ∧ H l = some (.lst xs) ∧ Rd H b (.lst zs) ∧ xs.length + zs.length ≤ sizeLine ∧ Q .non (upd H l (.lst (xs ++ zs)))) := by
  intro pins s σ H x vs v us Q I rx rv h
  obtain ⟨l, b, xs, zs, rfl, rfl, hH, hB, hz, q⟩ := h
  cases rx
  obtain ⟨u, rfl, ru⟩ := rv.one
  cases ru
  obtain ⟨z, its, n, r, hl, e⟩ := I.lstM hH
  obtain ⟨z2, its2, n2, r2, e2⟩ := hB.ok I.hok
  have hl2 := r2.length
  have hsz : its.toArray.size + its2.toArray.size ≤ sizeLine := by rw [List.size_toArray, List.size_toArray]; omega
  have hlong : ¬ (!its.toArray.isEmpty && Builtin.List.listTooLong (its.toArray.size + its2.toArray.size)) = true := by
    rw [notLongL hsz, Bool.and_false]
    exact Bool.false_ne_true
  refine call_meets F.slot_list_extend ⟨_, e, rfl⟩ F.entry_list_extend (F.args_list_extend_2 _ _)
    (AutoSeq1.list_extend_list_list_0 l its.toArray n b its2.toArray n2 hlong (by rw [List.size_toArray]; omega) (by omega)) ⟨e, e2, ?_⟩
  refine ⟨.non, _, I.lset (its' := its ++ its2) hH e (by simp) (r.append r2) ?_, rfl, q⟩
  rw [List.length_append]
  omega
def mExtend : DM := fun d ds m Q => match ds with
  | [y] => ownL m d fun p xs => match asR m y with
    | some ys => xs.length + ys.length ≤ sizeLine ∧ Q .non (put m p (.lst (xs ++ ys)))
    | none => False
  | _ => False
theorem md_extend : MtR X "list.extend" (LM G mExtend) := by
  intro pins s σ H x vs v us Q I rx rv h
  obtain ⟨F, m, d, ds, Q0, r, r1, r2, h, k⟩ := h
  match ds, h with
  | [y], h =>
    obtain ⟨z, rfl, rz⟩ := r2.one_inv
    obtain ⟨a, xs, ws, rfl, e, hu, hr, h⟩ := ownL_ok r r1 h
    cases ey : asR m y with
    | none => rw [ey] at h; exact False.elim h
    | some ys =>
      rw [ey] at h
      obtain ⟨b, zs, rfl, hb, hrb⟩ := rd_lst r rz ey
      exact mt_extendR pins s σ H _ _ v us Q I rx rv ⟨a, b, ws, zs, rfl, rfl, hu, hb, by rw [hr.length, hrb.length]; exact h.1, k _ _ _ _ _ h.2 (Ex.refl F) (r.write e ⟨_, rfl, hr.append hrb⟩) .non⟩
def mPop : DM := fun d ds m Q => match ds with
  | [] => ownL m d fun p xs => match xs[xs.length - 1]? with
    | some y => Q y (put m p (.lst xs.dropLast))
    | none => False
  | [.int i] => ownL m d fun p xs => -(2 ^ 63) ≤ i ∧ i < 2 ^ 63 ∧ match ixN xs.length i with
    | some j => match xs[j]? with
      | some y => Q y (put m p (.lst (xs.eraseIdx j)))
      | none => False
    | none => False
  | _ => False
theorem VRs.dropLast {K : PySem.W.Frag} {F : Hp} : ∀ {vs : List V} {ds : List DV}, VRs K F vs ds → VRs K F vs.dropLast ds.dropLast
  | _, _, .nil => .nil
  | _, _, .cons h .nil => .nil
  | _, _, .cons h (.cons h2 t) => .cons h (VRs.dropLast (.cons h2 t))
theorem VRs.eraseIdx {K : PySem.W.Frag} {F : Hp} : ∀ {vs : List V} {ds : List DV} (i : Nat), VRs K F vs ds → VRs K F (vs.eraseIdx i) (ds.eraseIdx i)
  | _, _, _, .nil => .nil
  | _, _, 0, .cons h t => t
  | _, _, i + 1, .cons h t => .cons h (VRs.eraseIdx i t)
theorem md_pop : MtR X "list.pop" (LM G mPop) := by
  intro pins s σ H x vs v us Q I rx rv h
  obtain ⟨F, m, d, ds, Q0, r, r1, r2, h, k⟩ := h
  unfold mPop at h
  split at h
  · cases r2
    obtain ⟨a, xs, ws, rfl, e, hu, hr, h⟩ := ownL_ok r r1 h
    cases ey : xs[xs.length - 1]? with
    | none => rw [ey] at h; exact False.elim h
    | some y =>
      rw [ey] at h
      obtain ⟨u, hu', ru⟩ := hr.get ey
      exact mt_pop pins s σ H _ _ v us Q I rx rv ⟨a, ws, u, rfl, rfl, hu, by rw [hr.length]; exact hu', k _ _ _ _ _ h (Ex.refl F) (r.write e ⟨_, rfl, hr.dropLast⟩) ru⟩
  · obtain ⟨z, rfl, rz⟩ := r2.one_inv
    cases rz
    rename_i i
    obtain ⟨a, xs, ws, rfl, e, hu, hr, h1, h2, h⟩ := ownL_ok r r1 h
    cases ej : ixN xs.length i with
    | none => rw [ej] at h; exact False.elim h
    | some j =>
      rw [ej] at h
      dsimp only at h
      cases ey : xs[j]? with
      | none => rw [ey] at h; exact False.elim h
      | some y =>
        rw [ey] at h
        obtain ⟨u, hu', ru⟩ := hr.get ey
        exact mt_popAt pins s σ H _ _ v us Q I rx rv ⟨a, ws, i, j, u, rfl, rfl, hu, h1, h2, by rw [hr.length]; exact (ixN_seq ej).1, hu', k _ _ _ _ _ h (Ex.refl F) (r.write e ⟨_, rfl, hr.eraseIdx j⟩) ru⟩
  · exact False.elim h
end
def wipeD (δ : Slots) : List Nat → Slots
  | [] => δ
  | v :: vs => (wipeD δ vs).set v none
theorem SR.wipe {K : PySem.W.Frag} {F : Hp} {σ : L2.St} {δ : Slots} (h : SR K F σ δ) : ∀ vs : List Nat, SR K F (L2.wipe σ vs) (wipeD δ vs)
  | [] => h
  | v :: vs => by
    have ih := SR.wipe h vs
    refine ⟨by simp [L2.wipe, wipeD, ih.len], fun i d q => ?_⟩
    by_cases e : v = i
    · subst e
      unfold wipeD at q
      by_cases hl : v < (wipeD δ vs).length
      · rw [List.getElem?_set_self hl] at q; cases q
      · rw [List.getElem?_eq_none (by simp; omega)] at q; cases q
    · unfold wipeD at q
      rw [List.getElem?_set_ne e] at q
      obtain ⟨w, a, b⟩ := ih.at_ i d q
      exact ⟨w, by unfold L2.wipe; rw [List.getElem?_set_ne e]; exact a, b⟩
theorem wipe_in {σ : L2.St} {i : Nat} : ∀ {vs : List Nat}, i ∈ vs → (L2.wipe σ vs)[i]? = if i < σ.length then some none else none
  | v :: vs, h => by
    unfold L2.wipe
    by_cases e : v = i
    · subst e
      by_cases hl : v < σ.length
      · rw [if_pos hl, List.getElem?_set_self (by rw [wipe_length]; exact hl)]
      · rw [if_neg hl, List.getElem?_eq_none (by rw [List.length_set, wipe_length]; omega)]
    · rw [List.getElem?_set_ne e]
      exact wipe_in ((List.mem_cons.mp h).resolve_left fun z => e z.symm)
theorem wipe_chg {σ σ' : L2.St} {gv vs : List Nat} (hg : ∀ i ∈ gv, i ∈ vs) (c : ChgIn gv (L2.wipe σ vs) σ') : L2.wipe σ' vs = L2.wipe σ vs := by
  apply List.ext_getElem?
  intro i
  by_cases hi : i ∈ vs
  · rw [wipe_in hi, wipe_in hi, c.1, wipe_length]
  · rw [wipe_out hi, c.2 i fun z => hi (hg i z)]
/-- the tests of a comprehension -/
def wYes : DT := fun _ m Q => Q true m
theorem qts_nil {X : Cx} {G : Gam} : PTs X [] (LT G wYes) := by
  refine ⟨fun pins s σ H Q I h => pts_nil.run pins s σ H Q I ?_⟩
  obtain ⟨F, m, δ, Q0, r, s', h, k⟩ := h
  exact k _ _ _ _ h (Ex.refl F) r
theorem qts_one {X : Cx} {G : Gam} {c : Expr} {w : DT} (h : PT X c (LT G w)) : PTs X [c] (LT G w) := pts_one h
def lcGo (it : DIt) (g : DG) (tt : DT) (te : DE) (δ : Slots) (D : Addr) (fin : List DV → Sto → Prop) : List DV → List DV → Sto → Prop
  | [], acc, m => it.st m ∧ m D = some (.lst acc) ∧ it.fin m (fin acc)
  | x :: r, acc, m => it.st m ∧ g x δ m fun δ2 m2 => tt δ2 m2 fun b m3 =>
    if b = true then te δ2 m3 fun y m4 => m4 D = some (.lst acc) ∧ acc.length < sizeLine ∧ lcGo it g tt te δ D fin r (acc ++ [y]) (put m4 D (.lst (acc ++ [y])))
    else lcGo it g tt te δ D fin r acc m3
def lcFin (mu : Bool) (D : Addr) (Q : DK) : List DV → Sto → Prop := fun acc m => if mu = true then Q (.ref D) m else Q (.lst acc) (rmv m D)
def wLc (mu : Bool) (wi : DI) (g : DG) (tt : DT) (te : DE) (vs : List Nat) : DE := fun δ m Q => wi δ m fun it m1 => ∀ D, m1 D = none → lcGo it g tt te (wipeD δ vs) D (lcFin mu D Q) it.items [] (put m1 D (.lst []))
theorem le_lc {X : Cx} {G : Gam} {mu : Bool} {wi : DI} {g : DG} {tt : DT} {te : DE} {gv vs : List Nat} {σ : L2.St} {H : Hp} {Q : VK} (hg : ∀ i ∈ gv, i ∈ vs) (h : LE G (wLc mu wi g tt te vs) σ H Q) : tLc (LI X G wi) (LG G gv g) (LT G tt) (LE G te) vs σ H (UnlV X Q) := by
  obtain ⟨F, m, δ, Q0, r, s, h, k⟩ := h
  refine ⟨F, m, δ, _, r, s, h, fun it m1 F1 H1 J q e1 r1 ok hn D hD => ?_⟩
  have q0 := q D (r1.freeM hD)
  have r2 : Rel G F1 (put m1 D (.lst [])) (upd H1 D (.lst [])) := r1.newM hD ⟨[], rfl, .nil⟩
  refine ⟨fun i n H' => n = it.items.length - i ∧ i ≤ it.items.length ∧ ∃ F' m' acc, Ex F1 F' ∧ Rel G F' m' H' ∧ lcGo it g tt te (wipeD δ vs) D (lcFin mu D Q0) (it.items.drop i) acc m', ⟨_, rfl, Nat.zero_le _, F1, _, [], Ex.refl F1, r2, q0⟩, ?_⟩
  rintro i n H' ⟨rfl, hle, F', m', acc, e', r', w'⟩
  cases ed : it.items.drop i with
  | nil =>
    rw [ed] at w'
    obtain ⟨w1, w2, w3⟩ := w'
    refine .inl ⟨(ok i F' m' H' e' r' w1).2 (getElem_drop_nil ed), ?_⟩
    have hpD : ∀ pk, it.lk = some pk → pk.1 ≠ D := fun pk hpk z => by
      obtain ⟨p, o, kv, kvs⟩ := pk
      have w3' := w3
      unfold DIt.fin at w3'
      rw [hpk] at w3'
      have := w3'.1
      simp only at z
      rw [z, w2] at this
      cases this
    unfold DIt.fin at w3
    have body : ∀ m2 H2, m2 D = some (.lst acc) → Rel G F' m2 H2 → lcFin mu D Q0 acc m2 → Q (.ref D) H2 := fun m2 H2 hm rr hq => by
      unfold lcFin at hq
      cases mu with
      | true => exact k _ _ _ _ _ hq (e1.trans e') rr (.ref D)
      | false =>
        obtain ⟨hF, u, hu, us, rfl, hr⟩ := rr.mo D _ hm
        exact k _ _ _ _ _ hq ((e1.trans e').trans (Ex.new hF)) (rr.freeze hm hu) (.lst (.inl upd_same) (hr.mono (Ex.new hF)))
    cases hlk : it.lk with
    | none =>
      rw [hlk] at w3
      exact .inl (body _ _ w2 r' w3)
    | some pk =>
      rw [hlk] at w3
      obtain ⟨p, o, kv, kvs⟩ := pk
      obtain ⟨e5, w3⟩ := w3
      obtain ⟨_, u, hu, rfl, hr⟩ := r'.mo p _ e5
      have hne : D ≠ p := fun z => hpD _ hlk z.symm
      exact .inr ⟨p, o, .dK kv, hu, hn _ hlk, body _ _ (by rw [put_ne hne]; exact w2) (r'.write (o := .dct kvs) e5 ⟨kv, rfl, hr⟩) w3⟩
  | cons x rest =>
    rw [ed] at w'
    obtain ⟨hx, hd⟩ := getElem_drop_cons ed
    obtain ⟨w1, w2⟩ := w'
    obtain ⟨go, yl⟩ := (ok i F' m' H' e' r' w1).1 x hx
    have hlt : i < it.items.length := by
      obtain ⟨z, _⟩ := List.getElem?_eq_some_iff.mp hx
      exact z
    refine .inr ⟨go, fun H2 => ∃ F2 m2 acc, Ex F1 F2 ∧ Rel G F2 m2 H2 ∧ lcGo it g tt te (wipeD δ vs) D (lcFin mu D Q0) rest acc m2, fun H2 q2 => ⟨_, (by omega : it.items.length - (i + 1) < it.items.length - i), rfl, hlt, by rw [hd]; exact q2⟩, fun y H2 hy => ?_⟩
    obtain ⟨F2, e2, r2', v2⟩ := yl y H2 hy
    refine ⟨F2, m', wipeD δ vs, x, _, r2', (s.mono ((e1.trans e').trans e2)).wipe vs, v2, w2, fun δ3 m3 σ3 F3 H3 h3 e3 r3 s3 c3 => ⟨wipe_chg hg c3, F3, m3, δ3, _, r3, s3, h3, fun b m4 F4 H4 h4 e4 r4 => ?_⟩⟩
    have e14 : Ex F1 F4 := ((e'.trans e2).trans e3).trans e4
    cases b with
    | false => exact ⟨F4, m4, acc, e14, r4, h4⟩
    | true =>
      refine ⟨F4, m4, δ3, _, r4, s3.mono e4, h4, fun d m5 z F5 H5 h5 e5 r5 v5 => ?_⟩
      obtain ⟨h6, h7, h8⟩ := h5
      obtain ⟨_, u, hu, us, rfl, hr⟩ := r5.mo D _ h6
      exact ⟨us, hu, by rw [hr.length]; exact h7, F5, _, _, e14.trans e5, r5.write (o := .lst (acc ++ [d])) h6 ⟨_, rfl, hr.append (VRs.one v5)⟩, h8⟩
section
variable {X : Cx} {G : Gam} {k : Nat} {elt tg iter : Expr} {ifs : List Expr} {scope : Scope} {own : List (Str × Nat)} {pos : Pos} {wi : DI} {g : DG} {tt : DT} {te tk tv : DE} {gv : List Nat}
theorem qe_lc (dx : DX X G k) (mu : Bool) (hi : PI X tg iter (LI X G wi)) (ok : BlkOk X.N X.env.scope scope own) (hgv : ∀ i ∈ gv, i ∈ own.map (·.2))
    (hg : ∀ (s : Shared) (H : Hp) (C : Addr) (cl : List (Str × Addr)) (fp : List Addr), PG (X.blk s H scope (compEnvC scope cl C X.env) fp) tg (LG G gv g)) (ht : ∀ (s : Shared) (H : Hp) (C : Addr) (cl : List (Str × Addr)) (fp : List Addr), PTs (X.blk s H scope (compEnvC scope cl C X.env) fp) ifs (LT G tt))
    (he : ∀ (s : Shared) (H : Hp) (C : Addr) (cl : List (Str × Addr)) (fp : List Addr), PE (X.blk s H scope (compEnvC scope cl C X.env) fp) elt (LE G te)) (hs : ∀ x, foldedSetIterable iter X.env x = pure x := by intro _; rfl) :
    PE X (.ListComp elt [⟨tg, iter, ifs, 0⟩] scope pos) (LE G (wLc mu wi g tt te (own.map (·.2)))) :=
  PE.imp (PE.unl (pe_lc dx.calm dx.nd hi ok hg ht he hs)) fun _ _ _ h => le_lc hgv h
/-- x = [..] on one line -/
theorem qs_lc {i : Nat} {y : Str} {py spos : Pos} (dx : DX X G k) (mu : Bool) (hy : X.N[i]? = some y) (hyl : X.env.scope.names.lookup y = some .local) (hsw : swapsWith (.ListComp elt [⟨tg, iter, ifs, 0⟩] scope pos) (some (.Name y py)) spos.line X.env = pure true)
    (hi : PI X tg iter (LI X G wi)) (ok : BlkOk X.N X.env.scope scope own) (hgv : ∀ i ∈ gv, i ∈ own.map (·.2))
    (hg : ∀ (s : Shared) (H : Hp) (C : Addr) (cl : List (Str × Addr)) (fp : List Addr), PG (X.blk s H scope (compEnvC scope cl C X.env) fp) tg (LG G gv g)) (ht : ∀ (s : Shared) (H : Hp) (C : Addr) (cl : List (Str × Addr)) (fp : List Addr), PTs (X.blk s H scope (compEnvC scope cl C X.env) fp) ifs (LT G tt))
    (he : ∀ (s : Shared) (H : Hp) (C : Addr) (cl : List (Str × Addr)) (fp : List Addr), PE (X.blk s H scope (compEnvC scope cl C X.env) fp) elt (LE G te)) (hs : ∀ x, foldedSetIterable iter X.env x = pure x := by intro _; rfl) :
    PS X (.Assign [.Name y py] (.ListComp elt [⟨tg, iter, ifs, 0⟩] scope pos) spos) (LS G (wAsg (wLc mu wi g tt te (own.map (·.2))) (gN i))) :=
  PS.imp (PS.unl (ps_setLc dx.calm dx.nd hy hyl hsw hi ok hg ht he hs)) fun D σ H h => by
    obtain ⟨F, m, δ, D0, r, s, h, k⟩ := h
    have h' : LE G (wLc mu wi g tt te (own.map (·.2))) σ H fun v H' => D.nx (σ.set i (some v)) H' := ⟨F, m, δ, _, r, s, h, fun d m1 v F1 H1 h1 e1 r1 v1 => k.nx _ _ _ _ _ h1 e1 r1 ((s.mono e1).set i v1)⟩
    have h2 := le_lc (X := X) hgv h'
    exact h2
/-- a dict by a comprehension -/
def dcGo (it : DIt) (g : DG) (tt : DT) (tk tv : DE) (δ : Slots) (D : Addr) (fin : Sto → Prop) : List DV → List (Key × DV) → Sto → Prop
  | [], acc, m => it.st m ∧ m D = some (.dct acc) ∧ it.fin m fin
  | x :: r, acc, m => it.st m ∧ g x δ m fun δ2 m2 => tt δ2 m2 fun b m3 =>
    if b = true then tk δ2 m3 fun y m4 => tv δ2 m4 fun z m5 => match dK? y with
      | some key => m5 D = some (.dct acc) ∧ acc.length < sizeLine ∧ dcGo it g tt tk tv δ D fin r (putD acc key z) (put m5 D (.dct (putD acc key z)))
      | none => False
    else dcGo it g tt tk tv δ D fin r acc m3
end
end DL
namespace DL
open PySem PySem.Spec PyProof.Rows L2
theorem law_callG {P : Program} {w : World} {K : PySem.W.Frag} {mg mb : Str → Option Value} {CX : CXT} {k : Nat} {fa a : Addr} {fd : FuncData} {x : Str} {sp : Sp} {s₁ : Shared} {vs : List Value} {ns : List Int}
    (KX : K.In s₁.heap) (hns : s₁.heap.Ns mainGlobals mg) (hb : s₁.heap.Ns builtinsNs mb) (hbb : ∀ x : Str, x ≠ "__name__" → mb x = bootBuiltins x) (hlim : s₁.heap.NoLimit) (hg : s₁.gens = #[])
    (ha : s₁.heap.get? a = some { cls := .type "list", data := .seq vs.toArray }) (hi : IntsAre vs ns) (hl : ns.length ≤ sizeLine) (hr : Room k callerA)
    (F : ∀ base : Heap, K.In base → base.Ns mainGlobals mg → FnG P w K mg base CX k fa fd [x] sp) (hbind : ∀ (s : Shared) (u : Value), BindsTo s fd ⟨[u], []⟩ [(x, u)])
    (hsp : ∀ H : Hp, Only H → SqL K H a (ns.map V.int) → sp [.ref a] H (fun v _ => v = .bl true) fun _ _ _ => False)
    (hCX : ∀ H e s', CX [] H s₁ (fun _ _ _ => False) e s' → False) :
    codeAny (model P w) callerA (.call (.ref fa) ⟨[.ref a], []⟩) (fun r s' => r = .ok (.ret (.bool true)) ∧ OldK s₁.heap s'.heap ∧ s'.os = s₁.os ∧ AllBare s'.gens) s₁ := by
  have rv := vals_ints hi
  have lenV := hi.length
  -- from an abstract heap in which nothing but the script may be tracked
  have core : ∀ H : Hp, Only H → SqL K H a (ns.map V.int) → HOk P w H s₁.heap → (∀ b, H b ≠ none → b = a) → (H a ≠ none → K.lookup a = none) →
      codeAny (model P w) callerA (.call (.ref fa) ⟨[.ref a], []⟩) (fun r s' => r = .ok (.ret (.bool true)) ∧ OldK s₁.heap s'.heap ∧ s'.os = s₁.os ∧ AllBare s'.gens) s₁ := by
    intro H hO hS hok hA hK
    have base_of : ∀ {b : Addr} {o : Obj}, s₁.heap.get? b = some o → H b = none → (hidT s₁.heap H).get? b = some o := fun e n => hidT_get e n
    have noA : ∀ {b : Addr} {o : Obj} {es : Array DictEntry} {ep : Nat}, s₁.heap.get? b = some o → o.data = .dict es ep → H b = none := fun {b o es ep} e d => by
      cases q : H b with
      | none => rfl
      | some u =>
        have e' : b = a := hA b (by rw [q]; simp)
        subst e'
        rw [ha] at e; cases e
        have d' : Data.seq vs.toArray _ = Data.dict es ep := d
        cases d'
    have nsK : ∀ {b : Addr} {m : Str → Option Value}, s₁.heap.Ns b m → (hidT s₁.heap H).Ns b m := fun {b m} ⟨o, es, ep, e, d, r⟩ => ⟨o, es, ep, base_of e (noA e d), d, r⟩
    have hKb : K.In (hidT s₁.heap H) := fun b o e => base_of (KX b o e) (by
      cases q : H b with
      | none => rfl
      | some u =>
        have e' : b = a := hA b (by rw [q]; simp)
        subst e'
        rw [hK (by rw [q]; simp)] at e; cases e)
    have hM : Mod K mg (hidT s₁.heap H) := ⟨hKb, nsK hns, ⟨mb, nsK hb, hbb⟩, let ⟨mc, h1, h2⟩ := hlim; ⟨mc, nsK h1, h2⟩⟩
    have e0 : Env0 P w K mg (hidT s₁.heap H) callerA [] s₁ H := ⟨rfl, hM, fun b o e => of_hidT e, Nat.le_of_eq (hidT_size _ _), trivial, fun b hb => absurd (show b ∈ ([] : List Addr) from hb) (by simp), hok, .of_eq hg⟩
    refine codeAny_mono ((F _ hKb (nsK hns)).run callerA [] s₁ H ⟨[.ref a], []⟩ [.ref a] [.ref a] _ _ hr rfl e0 (hbind s₁ (.ref a)) (.cons rfl .nil) (hsp H hO hS)) fun r s' h => ?_
    cases r with
    | error e => exact (hCX H e s' h).elim
    | ok fl =>
      cases fl with
      | next => exact False.elim h
      | brk => exact False.elim h
      | cont => exact False.elim h
      | ret u =>
        obtain ⟨v, H', os, bare, un, hok', r', q⟩ := h
        have q' : v = .bl true := q
        subst q'
        obtain rfl : u = Value.bool true := r'
        refine ⟨rfl, OldK.of_keep fun b o e => ?_, os, bare⟩
        cases q : H b with
        | none => exact un.keep b o e q (by intro z; exact absurd (show b ∈ ([] : List Addr) from z) (by simp)) (by simp)
        | some u =>
          rcases hO b with z | ⟨ob, xs, z⟩
          · rw [q] at z; cases z
          · have z2 := un.frzs b ob _ z
            obtain ⟨e1, _⟩ := hok b _ z
            obtain ⟨e2, _⟩ := hok' b _ z2
            rw [e] at e1; cases e1
            exact e2
  cases hk : K.lookup a with
  | some o =>
    -- the script is one of the module's own objects
    have e := KX a o hk
    rw [ha] at e
    cases e
    refine core (fun _ => none) (fun _ => .inl rfl) (.inr ⟨_, vs.toArray, _, hk, rfl, rfl, rfl, by rw [List.size_toArray, lenV]; exact hl, by simpa using rv⟩) (fun b u z => by have z' : (none : Option HO) = some u := z; cases z') (fun b z => absurd rfl z) fun z => absurd rfl z
  | none =>
    refine core (fun b => if b = a then some (.frz { cls := .type "list", data := .seq vs.toArray } (.lst (ns.map V.int))) else none) (fun b => ?_) (.inl (.inr ⟨{ cls := .type "list", data := .seq vs.toArray }, if_pos rfl⟩)) (fun b u z => ?_) (fun b z => ?_) fun _ => hk
    · by_cases hb : b = a
      · exact .inr ⟨_, _, if_pos hb⟩
      · exact .inl (if_neg hb)
    · by_cases hb : b = a
      · have z' := (if_pos hb).symm.trans z
        cases z'
        subst hb
        exact ⟨ha, by rw [List.length_map]; exact hl, vs, _, rv, ha⟩
      · have z' := (if_neg hb).symm.trans z
        cases z'
    · by_cases hb : b = a
      · exact hb
      · exact absurd (if_neg hb) z
theorem walk_ofG {l : PySem.W.OpenLaw} {n k : Nat} {q : Program} {loose : List Str} {XP : (Str → Option Value) → Heap → Prop} {YP : World → Heap → Prop} {d : DefRec} {CX : CXT} {x : Str}
    (hn : l.most = some n) (hn2 : n ≤ sizeLine) (hdf : d.params.defaults = []) (hr : Room k callerA)
    (F : ∀ (w : World) (mg : Str → Option Value) (fa : Addr) (h : Heap), YP w h → h.Ns mainGlobals mg → mg d.name = some (.ref fa) →
      ∃ (K : PySem.W.Frag) (fd : FuncData) (sp : Sp), K.In h ∧ (∀ (s : Shared) (u : Value), BindsTo s fd ⟨[u], []⟩ [(x, u)]) ∧
        (∀ (H : Hp) (a : Addr) (ns : List Int), ns.length ≤ n → (∀ z ∈ ns, Builtin.Int.intBits z ≤ 1048576) → Only H → SqL K H a (ns.map V.int) → sp [.ref a] H (fun v _ => v = .bl true) fun _ _ _ => False) ∧
        ∀ base : Heap, K.In base → base.Ns mainGlobals mg → FnG l.prog w K mg base CX k fa fd [x] sp)
    (hCX : ∀ (H : Hp) (s : Shared) (e : Value) (s' : Shared), CX [] H s (fun _ _ _ => False) e s' → False) :
    PySem.W.WalkO q loose XP YP l.row.toRowW d [] (fun f vs => PySem.call f vs) := by
  refine Att.attach_callB hn hdf fun w s₀ s₁ mg mb fa o pm cd doc a vs ns G Y ho hd hcd hmg hobj hints hlen hbits hg => ?_
  obtain ⟨K, fd, sp, KX, hb, hsp, hF⟩ := F w mg fa _ Y G.T.g hmg
  exact law_callG KX G.T.g G.T.b G.T.builtins G.T.nolimit hg hobj hints (Nat.le_trans hlen hn2) hr hF hb (fun H hO hS => hsp H a ns hlen hbits hO hS) fun H e s' => hCX H s₁ e s'
section
variable {P : Program} {w : World} {K : PySem.W.Frag} {mg : Str → Option Value} {base : Heap} {G : Gam} {x qual : Str} {params : Arguments} {body : List Stmt} {scope : Scope} {dvs : List V} {kws : List (Str × V)} {f : Addr} {fd : FuncData} {N ps : List Str} {k : Nat}
theorem dx_cx (hK : K = G.K) {A : Around} {outer : List Env} {s : Shared} {H : Hp} {E : XK} {cdv : Value} (hnd : N.Nodup) (hr : Room k (A.deeper (envOfC qual scope s.heap.objs.size f cdv))) (hg : A.guards = some []) : DX (cxOf CX0 P w K mg base N qual scope f cdv A outer s H E).nox G k where
  K := hK
  room := hr
  gd := hg
  calm := rfl
  pas := PassesOwn.never
  nd := hnd
theorem DX.blk {X : Cx} {k : Nat} (d : DX X G k) (s : Shared) (H : Hp) (sc : Scope) (ce : Env) (fp : List Addr) : DX (X.blk s H sc ce fp) G k where
  K := d.K
  room := d.room
  gd := d.gd
  calm := d.calm
  pas := PassesOwn.never
  nd := d.nd
theorem okD {W : DS} (F : FunD K x qual params body scope dvs kws f fd) (S : FnScope N ps scope)
    (hbody : ∀ (cdv : Value) (A : Around) (outer : List Env) (s : Shared) (H : Hp) (E : XK), Room k (A.deeper (envOfC qual scope s.heap.objs.size f cdv)) → A.guards = some [] →
      PSs (cxOf CX0 P w K mg base N qual scope f cdv A outer s H E).nox body (LS G W)) : FnG P w K mg base CX0 (k + 1) f fd ps (spL G (arD ps.length (runD N.length W))) := by
  obtain ⟨oc, od, dV, kV, doc, pm, an, cdv, ct, osl, rfl, lk, hcd, _, _⟩ := F.ex
  exact fn_ofG lk hcd S (fun vs H Q E h => spL_len h) fun A outer s H vs Q E hr hG hsp => ⟨_, (hbody cdv A outer s H E hr hG).nox, runD_ok hsp⟩
/-- a def as its callers know it -/
structure FD (P : Program) (w : World) (K : PySem.W.Frag) (mg : Str → Option Value) (base : Heap) (G : Gam) (k : Nat) (f : Addr) (fd : FuncData) (ps : List Str) (S : DSp) : Prop where
  ok : FnG P w K mg base CX0 k f fd ps (spL G S)
  kp : PySem.W.keepIn K (.ref f) = true
  bd : Binds K fd ps []
theorem FD.mk' {W : DS} (F : FunD K x qual params body scope [] [] f fd) (S : FnScope N ps scope)
    (hb : ∀ (kV doc pm : Value) (an : Option Addr) (cdv ct : Value) (us : List Value), us.length = ps.length → bindArgs (PySem.W.fnOf x qual params body scope .none kV doc pm an cdv ct) ⟨us, []⟩ = pure (ps.zip us))
    (hbody : ∀ (cdv : Value) (A : Around) (outer : List Env) (s : Shared) (H : Hp) (E : XK), Room k (A.deeper (envOfC qual scope s.heap.objs.size f cdv)) → A.guards = some [] →
      PSs (cxOf CX0 P w K mg base N qual scope f cdv A outer s H E).nox body (LS G W)) : FD P w K mg base G (k + 1) f fd ps (arD ps.length (runD N.length W)) :=
  ⟨okD F S hbody, F.kp, F.bindsN hb⟩
theorem FD.zero (F : FunD K x qual params body scope [] [] f fd)
    (hb : ∀ (kV doc pm : Value) (an : Option Addr) (cdv ct : Value) (us : List Value), us.length = ps.length → bindArgs (PySem.W.fnOf x qual params body scope .none kV doc pm an cdv ct) ⟨us, []⟩ = pure (ps.zip us)) : FD P w K mg base G k f fd ps (fun _ _ _ => False) :=
  ⟨⟨fun vs H Q E h => by obtain ⟨_, _, _, _, _, _, h, _⟩ := h; exact False.elim h, fun A outer s H args us vs Q E _ _ _ _ _ h => by obtain ⟨_, _, _, _, _, _, h, _⟩ := h; exact False.elim h⟩, F.kp, F.bindsN hb⟩
end
section
variable {X : Cx} {G : Gam} {j k : Nat} {f C : Addr} {c : Nat} {fd : FuncData} {ps ks : List Str} {S : DSp} {x m : Str} {p pos apos : Pos} {e o : Expr} {es : List Expr} {w : DE} {wa : DA}
theorem qf_call (F : FD X.prog X.w X.K X.mg X.base G k f fd ps S) (dx : DX X G j) (hj : k ≤ j) (hg : Gl X x) (hm : X.mg x = some (.ref f)) (ha : PA X (e :: es) (LA G wa)) (hdb : (x == ("__debug__" : Str)) = false := by decide)
    (he : starEach (e :: es) X.env = (false, eval e X.env) :: starEach es X.env := by rfl) (hpl : (backTo pos (starEach es X.env)).any (·.1) = false := by rfl) : PE X (.Call (.Name x p) (e :: es) [] pos) (LE G (wCall S [] wa)) :=
  qe_call F.ok dx hj hg hm F.kp F.bd .nil (fun _ => .nil) ha hdb he hpl
theorem qf_call0 (F : FD X.prog X.w X.K X.mg X.base G k f fd ps S) (dx : DX X G j) (hj : k ≤ j) (hg : Gl X x) (hm : X.mg x = some (.ref f)) (hdb : (x == ("__debug__" : Str)) = false := by decide) : PE X (.Call (.Name x p) [] [] pos) (LE G (wCall S [] wNil)) :=
  qe_call0 F.ok dx hj hg hm F.kp F.bd .nil (fun _ => .nil) hdb
theorem qf_meth {pl : Sem Bool} (F : FD X.prog X.w X.K X.mg X.base G k f fd ps S) (dx : DX X G j) (hj : k ≤ j) (he : PE X o (LE G w)) (cl : Cls X.K C) (hC : G.cls c = C) (hn : ∀ i, G.fld i ≠ m) (hm : Meth X.K C m f)
    (ha : PA X (e :: es) (LA G wa)) (hst : starEach (e :: es) X.env = (false, eval e X.env) :: starEach es X.env := by rfl) (hpl : (backTo pos (starEach es X.env)).any (·.1) = false := by rfl)
    (ht : eval (.Call (.Attribute o m apos) (e :: es) [] pos) X.env = (do
      let ov ← eval o X.env
      standAt apos.atName
      let (f, first) ← holding [ov] (getMethod ov m pl)
      callWith pos f first (backTo pos (starEach (e :: es) X.env)) (backToKw pos (keywordEach [] X.env))) := by rfl) : PE X (.Call (.Attribute o m apos) (e :: es) [] pos) (LE G (wMeth c S [] w wa)) :=
  qe_meth (pl := pl) he cl hC hn hm F.ok dx hj F.bd .nil (fun _ => .nil) ha hst hpl ht
theorem qf_meth0 {pl : Sem Bool} (F : FD X.prog X.w X.K X.mg X.base G k f fd ps S) (dx : DX X G j) (hj : k ≤ j) (he : PE X o (LE G w)) (cl : Cls X.K C) (hC : G.cls c = C) (hn : ∀ i, G.fld i ≠ m) (hm : Meth X.K C m f)
    (ht : eval (.Call (.Attribute o m apos) [] [] pos) X.env = (do
      let ov ← eval o X.env
      standAt apos.atName
      let (f, first) ← holding [ov] (getMethod ov m pl)
      callWith pos f first (backTo pos (starEach [] X.env)) (backToKw pos (keywordEach [] X.env))) := by rfl) : PE X (.Call (.Attribute o m apos) [] [] pos) (LE G (wMeth c S [] w wNil)) :=
  qe_meth0 (pl := pl) he cl hC hn hm F.ok dx hj F.bd .nil (fun _ => .nil) ht
theorem qf_make (F : FD X.prog X.w X.K X.mg X.base G k f fd ps S) (M : Mk X.K C f) (dx : DX X G j) (hj : k + 1 ≤ j) (hC : G.cls c = C) (hg : Gl X x) (hm : X.mg x = some (.ref C)) (ha : PA X (e :: es) (LA G wa)) (hdb : (x == ("__debug__" : Str)) = false := by decide)
    (he : starEach (e :: es) X.env = (false, eval e X.env) :: starEach es X.env := by rfl) (hpl : (backTo pos (starEach es X.env)).any (·.1) = false := by rfl) : PE X (.Call (.Name x p) (e :: es) [] pos) (LE G (wMake c S [] wa)) :=
  qe_make M hC F.ok dx hj hg hm F.bd .nil (fun _ => .nil) ha hdb he hpl
theorem qf_make0 (F : FD X.prog X.w X.K X.mg X.base G k f fd ps S) (M : Mk X.K C f) (dx : DX X G j) (hj : k + 1 ≤ j) (hC : G.cls c = C) (hg : Gl X x) (hm : X.mg x = some (.ref C)) (hdb : (x == ("__debug__" : Str)) = false := by decide) : PE X (.Call (.Name x p) [] [] pos) (LE G (wMake c S [] wNil)) :=
  qe_make0 M hC F.ok dx hj hg hm F.bd .nil (fun _ => .nil) hdb
end
def fldOf (names : List Str) (i : Nat) : Str := match names[i]? with
  | some x => x
  | none => ⟨#[0, i]⟩
def okNames (names : List Str) : Bool := decide names.Nodup && names.all fun x => x.cps[0]? != some 0
theorem fldOf_inj {names : List Str} (h : okNames names = true) : ∀ i j, fldOf names i = fldOf names j → i = j := by
  unfold okNames at h
  rw [Bool.and_eq_true] at h
  obtain ⟨h1, h2⟩ := h
  have h1 := of_decide_eq_true h1
  have h2 : ∀ x ∈ names, x.cps[0]? ≠ some 0 := fun x hx => by
    have := List.all_eq_true.mp h2 x hx
    simpa using this
  intro i j e
  unfold fldOf at e
  cases ei : names[i]? with
  | none =>
    cases ej : names[j]? with
    | none =>
      rw [ei, ej] at e
      injection e with e
      simpa using e
    | some y =>
      rw [ei, ej] at e
      have hy := List.mem_of_getElem? ej
      have e : (⟨#[0, i]⟩ : Str) = y := e
      exact absurd (by rw [← e]; rfl) (h2 y hy)
  | some x =>
    cases ej : names[j]? with
    | none =>
      rw [ei, ej] at e
      have hx := List.mem_of_getElem? ei
      have e : x = (⟨#[0, j]⟩ : Str) := e
      exact absurd (by rw [e]; rfl) (h2 x hx)
    | some y =>
      rw [ei, ej] at e
      have e : x = y := e
      subst e
      have li := (List.getElem?_eq_some_iff.mp ei)
      obtain ⟨hi, ei⟩ := li
      obtain ⟨hj, ej⟩ := List.getElem?_eq_some_iff.mp ej
      have key := List.pairwise_iff_getElem.mp h1
      rcases Nat.lt_trichotomy i j with h | h | h
      · exact absurd (ei.trans ej.symm) (key i j hi hj h)
      · exact h
      · exact absurd (ej.trans ei.symm) (key j i hj hi h)
theorem fldOf_ne {names : List Str} {m : Str} (h : (!names.contains m && m.cps[0]? != some 0) = true) : ∀ i, fldOf names i ≠ m := by
  rw [Bool.and_eq_true] at h
  obtain ⟨h1, h2⟩ := h
  intro i e
  unfold fldOf at e
  cases ei : names[i]? with
  | none =>
    rw [ei] at e
    dsimp only at e
    subst e
    simp at h2
  | some x =>
    rw [ei] at e
    have e : x = m := e
    subst e
    have := List.mem_of_getElem? ei
    simp at h1
    exact h1 this
end DL
namespace DL
open PySem PySem.Spec PyProof.Rows L2
def blkB (N : List Str) (sc scope : Scope) (own : List (Str × Nat)) : Bool :=
  decide (scope.kind = .function) && (scope.names.all (fun y => decide (scope.names.lookup y.1 = some y.2)) && (own.all (fun p => decide (N[p.2]? = some p.1)) &&
    (scope.names.all (fun y => decide (y.2 ≠ .free) || (decide (sc.names.lookup y.1 = some .cell) || decide (sc.names.lookup y.1 = some .free))) &&
      scope.names.all (fun y => !(decide (y.2 = .local) || decide (y.2 = .cell)) || (decide (y.1 ∈ own.map (·.1)) || decide (y.1 ∉ N))))))
theorem blk_of {N : List Str} {sc scope : Scope} {own : List (Str × Nat)} (h : blkB N sc scope own = true) : BlkOk N sc scope own := by
  unfold blkB at h
  simp only [Bool.and_eq_true] at h
  obtain ⟨h1, h2, h3, h4, h5⟩ := h
  refine ⟨of_decide_eq_true h1, fun y hy => of_decide_eq_true (List.all_eq_true.mp h2 y hy), fun p hp => of_decide_eq_true (List.all_eq_true.mp h3 p hp), fun y hy e => ?_, fun y hy e => ?_⟩
  · have := List.all_eq_true.mp h4 y hy
    simp only [Bool.or_eq_true, decide_eq_true_eq] at this
    rcases this with z | z
    · exact absurd e z
    · exact z
  · have := List.all_eq_true.mp h5 y hy
    simp only [Bool.or_eq_true, Bool.not_eq_true', decide_eq_true_eq] at this
    rcases this with z | z
    · rcases e with e | e <;> simp [e] at z
    · exact z
/-- the values of a call put in the parameters' order -/
def pick (idx : List Nat) {α : Type} (us ws : List α) : List α := idx.filterMap fun i => (us ++ ws)[i]?
theorem pick_vals {idx : List Nat} {vs zs : List V} {us ws : List Value} (h : Vals vs us) (g : Vals zs ws) : Vals (pick idx vs zs) (pick idx us ws) := by
  have r := h.append g
  unfold pick
  induction idx with
  | nil => exact .nil
  | cons i is ih =>
    rw [List.filterMap_cons, List.filterMap_cons]
    cases e : (vs ++ zs)[i]? with
    | none => rw [Vals.none_of r e]; exact ih
    | some x =>
      obtain ⟨u, hu, ru⟩ := r.get e
      rw [hu]; exact .cons ru ih
theorem pick_vrs {idx : List Nat} (K : PySem.W.Frag) (F : Hp) {vs zs : List V} {ds es : List DV} (h : VRs K F vs ds) (g : VRs K F zs es) : VRs K F (pick idx vs zs) (pick idx ds es) := by
  have r := h.append g
  unfold pick
  induction idx with
  | nil => exact .nil
  | cons i is ih =>
    rw [List.filterMap_cons, List.filterMap_cons]
    cases e : (ds ++ es)[i]? with
    | none =>
      have : (vs ++ zs)[i]? = none := List.getElem?_eq_none (by rw [r.length]; exact List.getElem?_eq_none_iff.mp e)
      rw [this]; exact ih
    | some x =>
      obtain ⟨u, hu, ru⟩ := r.get e
      rw [hu]; exact .cons ru ih
section
variable {X : Cx} {G : Gam} {k j : Nat} {e e2 : Expr} {es : List Expr} {kws : List Keyword} {x : Str} {p pos p2 pos2 : Pos} {w w2 : DE} {wl wk : DA}
def wDict0 : DE := fun _ m Q => ∀ p, m p = none → Q (.ref p) (put m p (.dct []))
theorem qe_dict0 : PE X (.Dict [] [] pos) (LE G wDict0) :=
  PE.imp pe_dnewK fun σ H Q h => by
    obtain ⟨F, m, δ, Q0, r, s, h, k⟩ := h
    exact fun p hp => k _ _ _ _ _ (h p (r.freeM hp)) (Ex.refl F) (r.newM hp ⟨[], rfl, .nil⟩) (.ref p)
def wDc (wi : DI) (g : DG) (tt : DT) (tk tv : DE) (vs : List Nat) : DE := fun δ m Q => wi δ m fun it m1 => ∀ D, m1 D = none → dcGo it g tt tk tv (wipeD δ vs) D (fun m' => Q (.ref D) m') it.items [] (put m1 D (.dct []))
variable {elt tg iter kx vx : Expr} {ifs : List Expr} {scope : Scope} {own : List (Str × Nat)} {wi : DI} {g : DG} {tt : DT} {tk tv : DE} {gv : List Nat}
theorem putD_keys {κ : Type} [DecidableEq κ] (kvs : List (κ × DV)) (key : κ) (d : DV) : (putD kvs key d).map (·.1) = if key ∈ kvs.map (·.1) then kvs.map (·.1) else kvs.map (·.1) ++ [key] := by
  induction kvs with
  | nil => simp [putD]
  | cons q r ih =>
    obtain ⟨i, e⟩ := q
    by_cases z : i = key
    · subst z; simp [putD]
    · simp only [putD, if_neg z, List.map_cons, ih, List.mem_cons]
      have z' : ¬ key = i := fun w => z w.symm
      by_cases y : key ∈ r.map (·.1)
      · rw [if_pos y, if_pos (.inr y)]
      · rw [if_neg y, if_neg (by rintro (w | w); exact z' w; exact y w)]
        rfl
theorem putD_nodup {κ : Type} [DecidableEq κ] {kvs : List (κ × DV)} {key : κ} {d : DV} (h : (kvs.map (·.1)).Nodup) : ((putD kvs key d).map (·.1)).Nodup := by
  rw [putD_keys]
  split
  · exact h
  · rename_i hn
    rw [List.nodup_append]
    refine ⟨h, List.nodup_cons.mpr ⟨List.not_mem_nil, .nil⟩, fun a ha b hb => ?_⟩
    rw [List.mem_singleton] at hb
    subst hb
    exact fun z => hn (z ▸ ha)
theorem le_dc {vs : List Nat} {σ : L2.St} {H : Hp} {Q : VK} (hg : ∀ i ∈ gv, i ∈ vs) (h : LE G (wDc wi g tt tk tv vs) σ H Q) : tDc (LI X G wi) (LG G gv g) (LT G tt) (LE G tk) (LE G tv) vs σ H (UnlV X Q) := by
  obtain ⟨F, m, δ, Q0, r, s, h, k⟩ := h
  refine ⟨F, m, δ, _, r, s, h, fun it m1 F1 H1 J q e1 r1 ok hn D hD => ?_⟩
  have q0 := q D (r1.freeM hD)
  have r2 : Rel G F1 (put m1 D (.dct [])) (upd H1 D (.dK [])) := r1.newM hD ⟨[], rfl, .nil⟩
  refine ⟨fun i n H' => n = it.items.length - i ∧ i ≤ it.items.length ∧ ∃ F' m' acc, Ex F1 F' ∧ Rel G F' m' H' ∧ (acc.map (·.1)).Nodup ∧ dcGo it g tt tk tv (wipeD δ vs) D (fun m' => Q0 (.ref D) m') (it.items.drop i) acc m', ⟨_, rfl, Nat.zero_le _, F1, _, [], Ex.refl F1, r2, .nil, q0⟩, ?_⟩
  rintro i n H' ⟨rfl, hle, F', m', acc, e', r', hkv, w'⟩
  cases ed : it.items.drop i with
  | nil =>
    rw [ed] at w'
    obtain ⟨w1, w2, w3⟩ := w'
    refine .inl ⟨(ok i F' m' H' e' r' w1).2 (getElem_drop_nil ed), ?_⟩
    exact fin_ok (N := fun H => Q (.ref D) H) r' hn w3 fun m2 H2 h2 rr => k _ _ _ _ _ h2 (e1.trans e') rr (.ref D)
  | cons x rest =>
    rw [ed] at w'
    obtain ⟨hx, hd⟩ := getElem_drop_cons ed
    obtain ⟨w1, w2⟩ := w'
    obtain ⟨go, yl⟩ := (ok i F' m' H' e' r' w1).1 x hx
    have hlt : i < it.items.length := by
      obtain ⟨z, _⟩ := List.getElem?_eq_some_iff.mp hx
      exact z
    refine .inr ⟨go, fun H2 => ∃ F2 m2 acc, Ex F1 F2 ∧ Rel G F2 m2 H2 ∧ (acc.map (·.1)).Nodup ∧ dcGo it g tt tk tv (wipeD δ vs) D (fun m' => Q0 (.ref D) m') rest acc m2, fun H2 q2 => ⟨_, (by omega : it.items.length - (i + 1) < it.items.length - i), rfl, hlt, by rw [hd]; exact q2⟩, fun y H2 hy => ?_⟩
    obtain ⟨F2, e2, r2', v2⟩ := yl y H2 hy
    refine ⟨F2, m', wipeD δ vs, x, _, r2', (s.mono ((e1.trans e').trans e2)).wipe vs, v2, w2, fun δ3 m3 σ3 F3 H3 h3 e3 r3 s3 c3 => ⟨wipe_chg hg c3, F3, m3, δ3, _, r3, s3, h3, fun b m4 F4 H4 h4 e4 r4 => ?_⟩⟩
    have e14 : Ex F1 F4 := ((e'.trans e2).trans e3).trans e4
    cases b with
    | false => exact ⟨F4, m4, acc, e14, r4, hkv, h4⟩
    | true =>
      refine ⟨F4, m4, δ3, _, r4, s3.mono e4, h4, fun dk m5 zk F5 H5 h5 e5 r5 v5 => ⟨F5, m5, δ3, _, r5, (s3.mono e4).mono e5, h5, fun d m6 z F6 H6 h6 e6 r6 v6 => ?_⟩⟩
      cases ek : dK? dk with
      | none => rw [ek] at h6; exact False.elim h6
      | some key =>
        rw [ek] at h6
        obtain ⟨h7, h8, h9⟩ := h6
        obtain ⟨_, u, hu, kv, rfl, hr⟩ := r6.mo D _ h7
        have hnd : (kv.map (·.1)).Nodup := by rw [KR.keys hr]; exact hkv
        exact ⟨kv, key, vr_key v5 ek, hu, by rw [KR.length hr]; exact h8, F6, _, _, (e14.trans e5).trans e6, r6.write (o := .dct (putD acc key d)) h7 ⟨_, rfl, KR.put hr hnd key v6⟩, putD_nodup hkv, h9⟩
theorem qe_dc (dx : DX X G k) (hi : PI X tg iter (LI X G wi)) (ok : BlkOk X.N X.env.scope scope own) (hgv : ∀ i ∈ gv, i ∈ own.map (·.2))
    (hg : ∀ (s : Shared) (H : Hp) (C : Addr) (cl : List (Str × Addr)) (fp : List Addr), PG (X.blk s H scope (compEnvC scope cl C X.env) fp) tg (LG G gv g)) (ht : ∀ (s : Shared) (H : Hp) (C : Addr) (cl : List (Str × Addr)) (fp : List Addr), PTs (X.blk s H scope (compEnvC scope cl C X.env) fp) ifs (LT G tt))
    (hk : ∀ (s : Shared) (H : Hp) (C : Addr) (cl : List (Str × Addr)) (fp : List Addr), PE (X.blk s H scope (compEnvC scope cl C X.env) fp) kx (LE G tk)) (he : ∀ (s : Shared) (H : Hp) (C : Addr) (cl : List (Str × Addr)) (fp : List Addr), PE (X.blk s H scope (compEnvC scope cl C X.env) fp) vx (LE G tv))
    (hs : ∀ x, foldedSetIterable iter X.env x = pure x := by intro _; rfl) : PE X (.DictComp kx vx [⟨tg, iter, ifs, 0⟩] scope pos) (LE G (wDc wi g tt tk tv (own.map (·.2)))) :=
  PE.imp (PE.unl (pe_dc dx.calm dx.nd hi ok hg ht hk he hs)) fun _ _ _ h => le_dc hgv h
def rgl (mu : Bool) (i j : Int) (m : Sto) (Q : DK) : Prop := RgOk i j ∧ newL mu (rgD i (j - i).toNat) m Q
theorem vrs_rg {K : PySem.W.Frag} {F : Hp} (i j : Int) : VRs K F (rgV i j) (rgD i (j - i).toNat) := by
  unfold rgV rgD
  generalize List.range (j - i).toNat = l
  induction l with
  | nil => exact .nil
  | cons a r ih => exact .cons (.int _) ih
def wLRg1 (mu : Bool) (t : DA) : DE := fun δ m Q => t δ m fun ds m1 => match ds with
  | [.int j] => rgl mu 0 j m1 Q
  | _ => False
def wLRg2 (mu : Bool) (t : DA) : DE := fun δ m Q => t δ m fun ds m1 => match ds with
  | [.int i, .int j] => rgl mu i j m1 Q
  | _ => False
theorem qe_lrg1 (hc : X.calm = true) (mu : Bool) (hg : Gl X "list") (hm : X.mg "list" = none) (hg2 : Gl X "range") (hm2 : X.mg "range" = none) (he : PE X e (LE G w)) (na : starEach [e] X.env = (false, eval e X.env) :: starEach [] X.env := by rfl)
    (na2 : starEach [.Call (.Name "range" p2) [e] [] pos2] X.env = (false, eval (.Call (.Name "range" p2) [e] [] pos2) X.env) :: starEach [] X.env := by rfl) : PE X (.Call (.Name "list" p) [.Call (.Name "range" p2) [e] [] pos2] [] pos) (LE G (wLRg1 mu (wCons w wNil))) :=
  PE.imp (pe_listRg hc hg hm (prg_1 hg2 hm2 he na) na2) fun σ H Q h => by
    obtain ⟨F, m, δ, Q0, r, s, h, k⟩ := h
    refine ⟨F, m, δ, _, r, s, h, fun d m1 v F1 H1 h1 e1 r1 v1 => ?_⟩
    cases v1 <;> first | exact False.elim h1 | skip
    exact ⟨_, rfl, h1.1, newL_ok r1 h1.2 (k.mono e1) (vrs_rg _ _)⟩
theorem qe_lrg2 (hc : X.calm = true) (mu : Bool) (hg : Gl X "list") (hm : X.mg "list" = none) (hg2 : Gl X "range") (hm2 : X.mg "range" = none) (he : PE X e (LE G w)) (he2 : PE X e2 (LE G w2)) (na : starEach [e, e2] X.env = (false, eval e X.env) :: starEach [e2] X.env := by rfl) (nb : starEach [e2] X.env = (false, eval e2 X.env) :: starEach [] X.env := by rfl)
    (hp : (backTo pos2 (starEach [e2] X.env)).any (·.1) = false := by rfl)
    (na2 : starEach [.Call (.Name "range" p2) [e, e2] [] pos2] X.env = (false, eval (.Call (.Name "range" p2) [e, e2] [] pos2) X.env) :: starEach [] X.env := by rfl) : PE X (.Call (.Name "list" p) [.Call (.Name "range" p2) [e, e2] [] pos2] [] pos) (LE G (wLRg2 mu (wCons w (wCons w2 wNil)))) :=
  PE.imp (pe_listRg hc hg hm (prg_2 hg2 hm2 he he2 na nb hp) na2) fun σ H Q h => by
    obtain ⟨F, m, δ, Q0, r, s, h, k⟩ := h
    refine ⟨F, m, δ, _, r, s, h, fun d m1 v F1 H1 h1 e1 r1 v1 => ⟨F1, m1, δ, _, r1, s.mono e1, h1, fun d2 m2 v2 F2 H2 h2 e2 r2 q2 => ?_⟩⟩
    cases v1 <;> cases q2 <;> first | exact ⟨_, _, rfl, rfl, h2.1, newL_ok r2 h2.2 (k.mono (e1.trans e2)) (vrs_rg _ _)⟩ | exact False.elim h2
variable {K : PySem.W.Frag} {qual : Str} {params : Arguments} {body : List Stmt} {f : Addr} {fd : FuncData} {ps ks : List Str} {n : Nat} {S : DSp} {scp : Scope}
theorem kbn (F : FunD K x qual params body scp [] [] f fd) (g : {α : Type} → List α → List α → List α) (hrel : ∀ {vs zs : List V} {us ws : List Value}, Vals vs us → Vals zs ws → Vals (g vs zs) (g us ws))
    (h : ∀ (kV doc pm : Value) (an : Option Addr) (cdv ct : Value) (us ws : List Value), us.length = n → ws.length = ks.length → bindArgs (PySem.W.fnOf x qual params body scp .none kV doc pm an cdv ct) ⟨us, ks.zip ws⟩ = pure (ps.zip (g us ws))) :
    KBn K fd ps n ks (fun us ws => g us ws) (fun vs zs => g vs zs) := by
  obtain ⟨oc, od, dV, kV, doc, pm, an, cdv, ct, osl, rfl, lk, hcd, hD, hK⟩ := F.ex
  rcases hD with ⟨_, rfl⟩ | ⟨e, _⟩
  · exact ⟨fun s us ws _ h1 h2 => .of_eq (h kV doc pm an cdv ct us ws h1 h2), hrel⟩
  · exact absurd rfl e
theorem run_fnN {fx : Addr} {kk : Nat} {pins : List (Addr × Obj)} {σ : L2.St} {H : Hp} {s : Shared} {Q : VK} {us ws : List Value} {vs zs : List V} {sp : Sp} {gg : List Value → List Value → List Value} {gV : List V → List V → List V} (F : FnG X.prog X.w X.K X.mg X.base CX0 kk fx fd ps sp) (hr : Room kk X.A) (hG : X.A.guards = some []) (hb : KBn X.K fd ps n ks gg gV)
    (I : Inv X pins σ H s) (r : Vals vs us) (rz : Vals zs ws) (hn : vs.length = n) (hz : zs.length = ks.length) (h : sp (gV vs zs) H Q E0) : wpAny (model X.prog X.w) X.A (call (.ref fx) us (ks.zip ws)) (EP X pins σ Q) X.xe s := by
  have r2 := hb.rel r rz
  refine wpAny_call (codeAny_mono (F.run X.A X.stack s H ⟨us, ks.zip ws⟩ (gg us ws) (gV vs zs) Q E0 hr hG I.env0 (hb.to s us ws I.kIn (by rw [← r.length]; exact hn) (by rw [← rz.length]; exact hz)) r2 h) fun r s' hq => ?_)
  cases r with
  | error e => exact False.elim hq
  | ok fl =>
    cases fl with
    | ret u => exact I.after hq
    | next => exact False.elim hq
    | brk => exact False.elim hq
    | cont => exact False.elim hq
def wCallN (n m : Nat) (S : DSp) (gD : List DV → List DV → List DV) (t tk : DA) : DE := fun δ mm Q => t δ mm fun ds m1 => tk δ m1 fun es m2 => ds.length = n ∧ es.length = m ∧ S (gD ds es) m2 Q
theorem qf_callK {gg : {α : Type} → List α → List α → List α} (F : FD X.prog X.w X.K X.mg X.base G k f fd ps S) (hb : KBn X.K fd ps n ks (fun us ws => gg us ws) (fun vs zs => gg vs zs)) (hgd : ∀ F vs ds ws es, VRs G.K F vs ds → VRs G.K F ws es → VRs G.K F (gg vs ws) (gg ds es)) (dx : DX X G j) (hj : k ≤ j) (hg : Gl X x) (hm : X.mg x = some (.ref f))
    (ha : PA X (e :: es) (LA G wl)) (hkw : PK X kws (LA G wk)) (hall : (backToKw pos (keywordEach kws X.env)).all (·.1.isSome) = true := by rfl) (hks : (backToKw pos (keywordEach kws X.env)).filterMap (·.1) = ks := by rfl)
    (hdb : (x == ("__debug__" : Str)) = false := by decide) (he : starEach (e :: es) X.env = (false, eval e X.env) :: starEach es X.env := by rfl)
    (hpl : ((backTo pos (starEach (e :: es) X.env)).any (·.1) || (backToKw pos (keywordEach kws X.env)).any (·.1.isNone)) = false := by rfl) :
    PE X (.Call (.Name x p) (e :: es) kws pos) (LE G (wCallN n ks.length S (fun ds es => gg ds es) wl wk)) := by
  refine ⟨fun pins s σ H Q I h => ?_⟩
  obtain ⟨F0, m, δ, Q0, r, sr, h, kk⟩ := h
  refine wpAny_Call_Name_kw (ld_glob I hg hm ?_ hdb)
  refine PySem.W.callWith_KW (h₀ := X.base) I.ok.mod.kin F.kp hall (thn (ha.run pos pins s σ H (fun vs H1 => ∃ F1 m1 ds, Ex F0 F1 ∧ Rel G F1 m1 H1 ∧ VRs G.K F1 vs ds ∧ wk δ m1 fun es m2 => ds.length = n ∧ es.length = ks.length ∧ S (gg ds es) m2 Q0) I ⟨F0, m, δ, _, r, sr, h, fun ds m1 vs F1 H1 h1 e1 r1 v1 => ⟨F1, m1, ds, e1, r1, v1, h1⟩⟩) fun us s1 ⟨vs, H1, I1, rr, F1, m1, ds, e1, r1, v1, q⟩ => ?_) hpl he
  refine thn (hkw.run pos pins s1 σ H1 (fun zs H2 => ∃ F2 m2 es, Ex F1 F2 ∧ Rel G F2 m2 H2 ∧ VRs G.K F2 zs es ∧ ds.length = n ∧ es.length = ks.length ∧ S (gg ds es) m2 Q0) I1 ⟨F1, m1, δ, _, r1, sr.mono e1, q, fun es m2 zs F2 H2 h2 e2 r2 v2 => ⟨F2, m2, es, e2, r2, v2, h2⟩⟩) fun ws s2 ⟨zs, H2, I2, rz, F2, m2, es', e2, r2, v2, h3, h4, h5⟩ => ⟨I2.kIn, ?_⟩
  rw [hks]
  exact run_fnN F.ok (dx.room.mono hj) dx.gd hb I2 rr rz (by rw [v1.length]; exact h3) (by rw [v2.length]; exact h4) ⟨F2, m2, _, Q0, r2, hgd _ _ _ _ _ (v1.mono e2) v2, h5, kk.mono (e1.trans e2)⟩
theorem qf_callK0 {gg : {α : Type} → List α → List α → List α} (F : FD X.prog X.w X.K X.mg X.base G k f fd ps S) (hb : KBn X.K fd ps 0 ks (fun us ws => gg us ws) (fun vs zs => gg vs zs)) (hgd : ∀ F vs ds ws es, VRs G.K F vs ds → VRs G.K F ws es → VRs G.K F (gg vs ws) (gg ds es)) (dx : DX X G j) (hj : k ≤ j) (hg : Gl X x) (hm : X.mg x = some (.ref f))
    (hkw : PK X kws (LA G wk)) (hall : (backToKw pos (keywordEach kws X.env)).all (·.1.isSome) = true := by rfl) (hks : (backToKw pos (keywordEach kws X.env)).filterMap (·.1) = ks := by rfl)
    (hdb : (x == ("__debug__" : Str)) = false := by decide)
    (hpl : ((backTo pos (starEach [] X.env)).any (·.1) || (backToKw pos (keywordEach kws X.env)).any (·.1.isNone)) = false := by rfl) :
    PE X (.Call (.Name x p) [] kws pos) (LE G (wCallN 0 ks.length S (fun ds es => gg ds es) wNil wk)) := by
  refine ⟨fun pins s σ H Q I h => ?_⟩
  obtain ⟨F0, m, δ, Q0, r, sr, h, kk⟩ := h
  refine wpAny_Call_Name_kw (ld_glob I hg hm ?_ hdb)
  refine PySem.W.callWith_KW0 (h₀ := X.base) I.ok.mod.kin F.kp hall ?_ hpl
  refine thn (hkw.run pos pins s σ H (fun zs H2 => ∃ F2 m2 es, Ex F0 F2 ∧ Rel G F2 m2 H2 ∧ VRs G.K F2 zs es ∧ ([] : List DV).length = 0 ∧ es.length = ks.length ∧ S (gg [] es) m2 Q0) I ⟨F0, m, δ, _, r, sr, h, fun es m2 zs F2 H2 h2 e2 r2 v2 => ⟨F2, m2, es, e2, r2, v2, h2⟩⟩) fun ws s2 ⟨zs, H2, I2, rz, F2, m2, es', e2, r2, v2, h3, h4, h5⟩ => ⟨I2.kIn, ?_⟩
  rw [hks]
  exact run_fnN (us := []) (vs := []) F.ok (dx.room.mono hj) dx.gd hb I2 .nil rz rfl (by rw [v2.length]; exact h4) ⟨F2, m2, _, Q0, r2, hgd _ _ _ _ _ .nil v2, h5, kk.mono e2⟩
end
end DL
namespace DL
open PySem PySem.Spec PyProof.Rows L2
abbrev Sub (m m' : Sto) : Prop := ∀ a o, m a = some o → m' a = some o
theorem Sub.refl (m : Sto) : Sub m m := fun _ _ h => h
theorem Sub.trans {a b c : Sto} (h : Sub a b) (g : Sub b c) : Sub a c := fun x o e => g x o (h x o e)
theorem Sub.put {m : Sto} {p : Addr} {o : MO} (h : m p = none) : Sub m (put m p o) := fun a u e => by
  rw [put_ne fun z => by rw [z, h] at e; cases e]
  exact e
theorem Sub.put2 {m m' : Sto} {p : Addr} {o : MO} (h : m p = none) (s : Sub m m') : Sub m (DL.put m' p o) := fun a u e => by
  rw [put_ne fun z => by rw [z, h] at e; cases e]
  exact s a u e
theorem Sub.rmv {m m' : Sto} {p : Addr} (h : m p = none) (s : Sub m m') : Sub m (DL.rmv m' p) := fun a u e => by
  rw [rmv_ne fun z => by rw [z, h] at e; cases e]
  exact s a u e
/-- w gives v; the store may grow meanwhile -/
def PuE (w : DE) (δ : Slots) (m : Sto) (v : DV) : Prop := ∀ m' (Q : DK), Sub m m' → (∀ m2, Sub m' m2 → Q v m2) → w δ m' Q
def PuT (t : DT) (δ : Slots) (m : Sto) (b : Bool) : Prop := ∀ m' (Q : Bool → Sto → Prop), Sub m m' → (∀ m2, Sub m' m2 → Q b m2) → t δ m' Q
def PuA (t : DA) (δ : Slots) (m : Sto) (ds : List DV) : Prop := ∀ m' (Q : List DV → Sto → Prop), Sub m m' → (∀ m2, Sub m' m2 → Q ds m2) → t δ m' Q
def PuS (S : DSp) (ds : List DV) (m : Sto) (v : DV) : Prop := ∀ m' (Q : DK), Sub m m' → (∀ m2, Sub m' m2 → Q v m2) → S ds m' Q
def Pu2 (R : D2) (x y : DV) (m : Sto) (v : DV) : Prop := ∀ m' (Q : DK), Sub m m' → (∀ m2, Sub m' m2 → Q v m2) → R x y m' Q
/-- goes on with a state of N, or gives back a value of R -/
def PuX (w : DS) (δ : Slots) (m : Sto) (N : Slots → Prop) (R : DV → Prop) : Prop := ∀ (D : DEnds) m', Sub m m' → (∀ δ' m2, Sub m' m2 → N δ' → D.nx δ' m2) → (∀ v m2, Sub m' m2 → R v → D.rt v m2) → w D δ m'
section
variable {w wa wb : DE} {t u : DT} {ta : DA} {S : DSp} {R2 : D2} {δ : Slots} {m m' : Sto} {v x y : DV} {b c : Bool} {ds dds : List DV} {N M : Slots → Prop} {R : DV → Prop} {s s' : DS}
theorem PuE.mono (h : PuE w δ m v) (g : Sub m m') : PuE w δ m' v := fun m1 Q h1 q => h m1 Q (g.trans h1) q
theorem PuT.mono (h : PuT t δ m b) (g : Sub m m') : PuT t δ m' b := fun m1 Q h1 q => h m1 Q (g.trans h1) q
theorem PuS.mono (h : PuS S ds m v) (g : Sub m m') : PuS S ds m' v := fun m1 Q h1 q => h m1 Q (g.trans h1) q
theorem pu_var {i : Nat} (h : δ[i]? = some (some v)) : PuE (wVar i) δ m v := fun m' Q _ q => by unfold wVar; rw [h]; exact q m' (.refl _)
theorem pu_c : PuE (wC v) δ m v := fun m' Q _ q => q m' (.refl _)
theorem pu_op (ha : PuE wa δ m x) (hb : PuE wb δ m y) (h : Pu2 R2 x y m v) : PuE (wOp R2 wa wb) δ m v := fun m' Q s q => ha m' _ s fun m1 s1 => hb m1 _ (s.trans s1) fun m2 s2 => h m2 Q ((s.trans s1).trans s2) fun m3 s3 => q m3 ((s1.trans s2).trans s3)
theorem pu_if (ht : PuT t δ m b) (ha : b = true → PuE wa δ m v) (hb : b = false → PuE wb δ m v) : PuE (wIf t wa wb) δ m v := fun m' Q s q => ht m' _ s fun m1 s1 => by
  cases b with
  | true => exact ha rfl m1 Q (s.trans s1) fun m2 s2 => q m2 (s1.trans s2)
  | false => exact hb rfl m1 Q (s.trans s1) fun m2 s2 => q m2 (s1.trans s2)
theorem pa_nil : PuA wNil δ m [] := fun m' Q _ q => q m' (.refl _)
theorem pa_cons (ha : PuE wa δ m x) (hr : PuA ta δ m ds) : PuA (wCons wa ta) δ m (x :: ds) := fun m' Q s q => ha m' _ s fun m1 s1 => hr m1 _ (s.trans s1) fun m2 s2 => q m2 (s1.trans s2)
theorem pu_tup (h : PuA ta δ m ds) (hl : ds.length ≤ sizeLine) : PuE (wTup ta) δ m (.tup ds) := fun m' Q s q => h m' _ s fun m1 s1 => ⟨hl, q m1 s1⟩
theorem pu_lst (h : PuA ta δ m ds) (hl : ds.length ≤ sizeLine) : PuE (wLst false ta) δ m (.lst ds) := fun m' Q s q => h m' _ s fun m1 s1 => ⟨hl, q m1 s1⟩
theorem pu_call (h : PuA ta δ m ds) (hs : PuS S (ds ++ dds) m v) : PuE (wCall S dds ta) δ m v := fun m' Q s q => h m' _ s fun m1 s1 => hs m1 Q (s.trans s1) fun m2 s2 => q m2 (s1.trans s2)
theorem pu_b {R0 : DSp} (h : PuA ta δ m ds) (hs : PuS R0 ds m v) : PuE (wB R0 ta) δ m v := fun m' Q s q => h m' _ s fun m1 s1 => hs m1 Q (s.trans s1) fun m2 s2 => q m2 (s1.trans s2)
theorem pu_meth {k : Nat} {p : Addr} {fs : List (Nat × DV)} (hw : PuE w δ m (.ref p)) (hp : m p = some (.ins k fs)) (h : PuA ta δ m ds) (hs : PuS S (.ref p :: (ds ++ dds)) m v) : PuE (wMeth k S dds w ta) δ m v := fun m' Q s q =>
  hw m' _ s fun m1 s1 => ⟨by unfold hasF; simp only [(s.trans s1) p _ hp], h m1 _ (s.trans s1) fun m2 s2 => hs m2 Q ((s.trans s1).trans s2) fun m3 s3 => q m3 ((s1.trans s2).trans s3)⟩
theorem pu_fld {k i : Nat} {p : Addr} {fs : List (Nat × DV)} (hw : PuE w δ m (.ref p)) (hp : m p = some (.ins k fs)) (hl : lookN fs i = some v) : PuE (wFld k i w) δ m v := fun m' Q s q =>
  hw m' _ s fun m1 s1 => by unfold fldD; simp only [(s.trans s1) p _ hp, hl]; exact ⟨trivial, q m1 s1⟩
theorem pt_bl (h : PuE w δ m (.bl b)) : PuT (wBl w) δ m b := fun m' Q s q => h m' _ s q
theorem pt_tru (h : PuE w δ m (.bl b)) : PuT (wTru w) δ m b := fun m' Q s q => h m' _ s q
theorem pt_not (h : PuT t δ m b) : PuT (wNotT t) δ m (!b) := fun m' Q s q => h m' _ s q
theorem pt_and (h : PuT t δ m b) (g : b = true → PuT u δ m c) : PuT (wAndT t u) δ m (b && c) := fun m' Q s q => h m' _ s fun m1 s1 => by
  cases b with
  | true => exact g rfl m1 Q (s.trans s1) fun m2 s2 => q m2 (s1.trans s2)
  | false => exact q m1 s1
theorem pt_or (h : PuT t δ m b) (g : b = false → PuT u δ m c) : PuT (wOrT t u) δ m (b || c) := fun m' Q s q => h m' _ s fun m1 s1 => by
  cases b with
  | true => exact q m1 s1
  | false => exact g rfl m1 Q (s.trans s1) fun m2 s2 => q m2 (s1.trans s2)
theorem pt_yes : PuT wYes δ m true := fun m' Q s q => q m' (.refl _)
theorem pu_not (h : PuE w δ m (.bl b)) : PuE (wNot w) δ m (.bl (!b)) := fun m' Q s q => h m' _ s q
theorem pu_and (h : PuE wa δ m (.bl b)) (g : b = true → PuE wb δ m (.bl c)) : PuE (wAnd wa wb) δ m (.bl (b && c)) := fun m' Q s q => h m' _ s fun m1 s1 => by
  show (if b = true then wb δ m1 Q else Q (.bl b) m1)
  cases b with
  | true => exact g rfl m1 Q (s.trans s1) fun m2 s2 => q m2 (s1.trans s2)
  | false => exact q m1 s1
theorem pu_or (h : PuE wa δ m (.bl b)) (g : b = false → PuE wb δ m (.bl c)) : PuE (wOr wa wb) δ m (.bl (b || c)) := fun m' Q s q => h m' _ s fun m1 s1 => by
  show (if b = true then Q (.bl b) m1 else wb δ m1 Q)
  cases b with
  | true => exact q m1 s1
  | false => exact g rfl m1 Q (s.trans s1) fun m2 s2 => q m2 (s1.trans s2)
theorem PuX.mono (h : PuX s δ m N R) (g : Sub m m') : PuX s δ m' N R := fun D m1 h1 => h D m1 (g.trans h1)
theorem px_next (h : N δ) : PuX wNext δ m N R := fun D m' s hn hr => hn δ m' (.refl _) h
theorem px_seq (h : PuX s δ m M R) (g : ∀ δ', M δ' → PuX s' δ' m N R) : PuX (wSeq s s') δ m N R := fun D m' sb hn hr => h _ m' sb (fun δ' m1 s1 hm => g δ' hm D m1 (sb.trans s1) (fun δ2 m2 s2 => hn δ2 m2 (s1.trans s2)) fun v m2 s2 => hr v m2 (s1.trans s2)) hr
theorem px_ret (h : PuE w δ m v) (hr : R v) : PuX (wRet w) δ m N R := fun D m' s hn hR => h m' _ s fun m1 s1 => hR v m1 s1 hr
theorem px_if (h : PuT t δ m b) (ha : b = true → PuX s δ m N R) (hb : b = false → PuX s' δ m N R) : PuX (wIfS t s s') δ m N R := fun D m' sb hn hr => h m' _ sb fun m1 s1 => by
  cases b with
  | true => exact ha rfl D m1 (sb.trans s1) (fun δ2 m2 s2 => hn δ2 m2 (s1.trans s2)) fun v m2 s2 => hr v m2 (s1.trans s2)
  | false => exact hb rfl D m1 (sb.trans s1) (fun δ2 m2 s2 => hn δ2 m2 (s1.trans s2)) fun v m2 s2 => hr v m2 (s1.trans s2)
theorem px_set {i : Nat} (h : PuE w δ m v) (hn : N (δ.set i (some v))) : PuX (wAsg w (gN i)) δ m N R := fun D m' s hN hR => h m' _ s fun m1 s1 => hN _ m1 s1 hn
theorem px_par {i j : Nat} (h : PuA ta δ m [x, y]) (hn : N ((δ.set i (some x)).set j (some y))) : PuX (wPar i j ta) δ m N R := fun D m' s hN hR => h m' _ s fun m1 s1 => hN _ m1 s1 hn
/-- a loop that only reads: W tells what is left -/
theorem px_while (W : Nat → Slots → Prop) {n : Nat} (h0 : W n δ)
    (hs : ∀ n δ, W n δ → ∃ b, PuT t δ m b ∧ (b = true → PuX s δ m (fun δ' => ∃ n', n' < n ∧ W n' δ') R) ∧ (b = false → N δ)) : PuX (wWhile t s) δ m N R := fun D m' sb hn hr => by
  refine ⟨fun k δ' m1 => Sub m' m1 ∧ W k δ', ⟨n, .refl _, h0⟩, ?_⟩
  rintro k δ' m1 ⟨s1, hw⟩
  obtain ⟨b, ht, htr, hfa⟩ := hs k δ' hw
  refine ht _ _ (sb.trans s1) fun m2 s2 => ?_
  cases b with
  | true =>
    rw [if_pos rfl]
    exact htr rfl _ _ ((sb.trans s1).trans s2) (fun δ3 m3 s3 ⟨n', hn', w3⟩ => ⟨n', hn', (s1.trans s2).trans s3, w3⟩) fun v m3 s3 => hr v m3 ((s1.trans s2).trans s3)
  | false =>
    rw [if_neg Bool.false_ne_true]
    exact hn _ m2 (s1.trans s2) (hfa rfl)
/-- a walk over what stays as it is -/
def PuI (wi : DI) (δ : Slots) (m : Sto) (xs : List DV) : Prop := ∀ m' (K : DIt → Sto → Prop), Sub m m' → (∀ (it : DIt) m1, Sub m' m1 → it.items = xs → it.lk = none → (∀ m2, Sub m m2 → it.st m2) → K it m1) → wi δ m' K
theorem asQ_sub {d : DV} {xs : List DV} (h : asQ m d = some xs) (s : Sub m m') : asQ m' d = some xs := by
  cases d with
  | ref p =>
    unfold asQ asL at h ⊢
    dsimp only at h ⊢
    cases e : m p with
    | none => rw [e] at h; cases h
    | some o => rw [e] at h; rw [s p o e]; exact h
  | _ => exact h
theorem pi_any (h : PuE w δ m x) {xs : List DV} (hx : asQ m x = some xs) : PuI (iAny w) δ m xs := fun m' K s k => h m' _ s fun m1 s1 => by
  unfold itOf
  rw [asQ_sub hx (s.trans s1)]
  exact k _ m1 s1 rfl rfl fun m2 s2 => asQ_sub hx s2
theorem px_for {wi : DI} {g : DG} {xs : List DV} (hi : PuI wi δ m xs) (I : Nat → Slots → Prop) (h0 : I 0 δ)
    (hs : ∀ i y δ, xs[i]? = some y → I i δ → ∃ δ1, (∀ m' Q, Q δ1 m' → g y δ m' Q) ∧ PuX s δ1 m (I (i + 1)) R) (he : ∀ δ, I xs.length δ → N δ) : PuX (wFor wi g s) δ m N R := fun D m' sb hn hr =>
  hi m' _ sb fun it m1 s1 hit hlk hst => by
    have hfin : ∀ (m2 : Sto) (k : Sto → Prop), k m2 → it.fin m2 k := fun m2 k hk => by unfold DIt.fin; rw [hlk]; exact hk
    have key : ∀ (ys : List DV) (i : Nat) (δ : Slots) (m2 : Sto), Sub m1 m2 → xs.drop i = ys → i ≤ xs.length → I i δ → forGo it g s D ys δ m2 := fun ys => by
      induction ys with
      | nil =>
        intro i δ m2 s2 hd hle hI
        have : i = xs.length := by
          have := List.drop_eq_nil_iff.mp hd
          omega
        subst this
        exact ⟨hst m2 ((sb.trans s1).trans s2), hfin _ _ (hn _ m2 (s1.trans s2) (he δ hI))⟩
      | cons y r ih =>
        intro i δ m2 s2 hd hle hI
        obtain ⟨h1, h2⟩ := getElem_drop_cons hd
        have hlt : i < xs.length := (List.getElem?_eq_some_iff.mp h1).1
        obtain ⟨δ1, hg, hb⟩ := hs i y δ h1 hI
        exact ⟨hst m2 ((sb.trans s1).trans s2), hg _ _ (hb _ m2 ((sb.trans s1).trans s2) (fun δ' m3 s3 hI' => ih (i + 1) δ' m3 (s2.trans s3) h2 hlt hI') fun v m3 s3 hv => hfin _ _ (hr v m3 ((s1.trans s2).trans s3) hv))⟩
    rw [hit]
    exact key xs 0 δ m1 (.refl _) rfl (Nat.zero_le _) h0
/-- a def that only reads -/
theorem ps_run {n k : Nat} (hl : ds.length = n) (h : PuX s (startD k ds) m (fun _ => False) (fun z => z = v)) : PuS (arD n (runD k s)) ds m v := fun m' Q sb q =>
  ⟨hl, h _ m' sb (fun _ _ _ z => False.elim z) fun z m2 s2 hz => by subst hz; exact q m2 s2⟩
def lcF (p : DV → Bool) (f : DV → DV) : List DV → List DV
  | [] => []
  | x :: r => if p x = true then f x :: lcF p f r else lcF p f r
theorem lcF_map (p : DV → Bool) (f : DV → DV) (xs : List DV) : lcF p f xs = (xs.filter p).map f := by
  induction xs with
  | nil => rfl
  | cons x r ih =>
    unfold lcF
    rw [ih, List.filter_cons]
    split <;> rfl
theorem lcF_length (p : DV → Bool) (f : DV → DV) (xs : List DV) : (lcF p f xs).length ≤ xs.length := by
  rw [lcF_map, List.length_map]
  exact List.length_filter_le _ _
theorem lc_go {it : DIt} {g : DG} {tt : DT} {te : DE} {δv : Slots} {D : Addr} {fin : List DV → Sto → Prop} {mb : Sto} {p : DV → Bool} {f : DV → DV} (hD : mb D = none) (hlk : it.lk = none) (hst : ∀ m2, Sub mb m2 → it.st m2)
    (h : ∀ y, y ∈ it.items → ∃ δ1, (∀ m' Q, Q δ1 m' → g y δv m' Q) ∧ PuT tt δ1 mb (p y) ∧ (p y = true → PuE te δ1 mb (f y))) :
    ∀ (ys : List DV) (acc : List DV) (m1 : Sto), (∀ y ∈ ys, y ∈ it.items) → acc.length + ys.length ≤ sizeLine → Sub mb m1 → m1 D = some (.lst acc) → (∀ m2, Sub mb m2 → m2 D = some (.lst (acc ++ lcF p f ys)) → fin (acc ++ lcF p f ys) m2) →
      lcGo it g tt te δv D fin ys acc m1
  | [], acc, m1, _, _, sb, e1, hf => by
    rw [show lcF p f [] = [] from rfl, List.append_nil] at hf
    refine ⟨hst _ sb, e1, ?_⟩
    unfold DIt.fin
    rw [hlk]; exact hf m1 sb e1
  | y :: r, acc, m1, hm, hl, sb, e1, hf => by
    obtain ⟨δ1, hg, ht, he⟩ := h y (hm y List.mem_cons_self)
    rw [List.length_cons] at hl
    refine ⟨hst _ sb, hg _ _ (ht _ _ sb fun m2 s2 => ?_)⟩
    by_cases hp : p y = true
    · rw [if_pos hp]
      refine he hp _ _ (sb.trans s2) fun m3 s3 => ⟨s3 _ _ (s2 _ _ e1), by omega, ?_⟩
      refine lc_go hD hlk hst h r (acc ++ [f y]) _ (fun z hz => hm z (List.mem_cons_of_mem _ hz)) (by simp only [List.length_append, List.length_singleton]; omega) (Sub.put2 hD ((sb.trans s2).trans s3)) put_same ?_
      have e : lcF p f (y :: r) = f y :: lcF p f r := if_pos hp
      rw [e] at hf
      rw [List.append_assoc]; exact hf
    · rw [if_neg hp]
      have e : lcF p f (y :: r) = lcF p f r := if_neg hp
      rw [e] at hf
      exact lc_go hD hlk hst h r acc m2 (fun z hz => hm z (List.mem_cons_of_mem _ hz)) (by omega) (sb.trans s2) (s2 _ _ e1) hf
theorem pu_lc {wi : DI} {g : DG} {tt : DT} {te : DE} {vs : List Nat} {xs : List DV} (p : DV → Bool) (f : DV → DV) (hi : PuI wi δ m xs) (hl : xs.length ≤ sizeLine)
    (h : ∀ y ∈ xs, ∃ δ1, (∀ m' Q, Q δ1 m' → g y (wipeD δ vs) m' Q) ∧ PuT tt δ1 m (p y) ∧ (p y = true → PuE te δ1 m (f y))) : PuE (wLc false wi g tt te vs) δ m (.lst (lcF p f xs)) := fun m' Q sb q =>
  hi m' _ sb fun it m1 s1 hit hlk hst D hD => by
    rw [hit]
    refine lc_go (mb := m1) (p := p) (f := f) hD hlk (fun m2 s2 => hst m2 ((sb.trans s1).trans s2)) (by
      rw [hit]
      intro y hy
      obtain ⟨δ1, h1, h2, h3⟩ := h y hy
      exact ⟨δ1, h1, h2.mono (sb.trans s1), fun z => (h3 z).mono (sb.trans s1)⟩) xs [] _ (fun y hy => by rw [hit]; exact hy) (by simpa using hl) (Sub.put hD) put_same fun m2 s2 e2 => ?_
    rw [List.nil_append]
    unfold lcFin
    rw [if_neg Bool.false_ne_true]
    exact q _ (s1.trans (Sub.rmv hD s2))
/-- .. over ints -/
theorem filter_int (p : Int → Bool) (f : Int → DV) (ns : List Int) : lcF (fun d => match d with | .int y => p y | _ => false) (fun d => match d with | .int y => f y | _ => .non) (ns.map DV.int) = (ns.filter p).map f := by
  induction ns with
  | nil => rfl
  | cons a r ih =>
    rw [List.map_cons, List.filter_cons]
    unfold lcF
    dsimp only
    rw [ih]
    split <;> rfl
theorem pu_lcI {wi : DI} {i : Nat} {tt : DT} {te : DE} {ns : List Int} (p : Int → Bool) (f : Int → DV) (hi : PuI wi δ m (ns.map DV.int)) (hl : ns.length ≤ sizeLine)
    (h : ∀ y ∈ ns, PuT tt ((wipeD δ [i]).set i (some (.int y))) m (p y) ∧ (p y = true → PuE te ((wipeD δ [i]).set i (some (.int y))) m (f y))) : PuE (wLc false wi (gN i) tt te [i]) δ m (.lst ((ns.filter p).map f)) := by
  rw [← filter_int]
  refine pu_lc _ _ hi (by rw [List.length_map]; exact hl) fun y hy => ?_
  obtain ⟨z, hz, rfl⟩ := List.mem_map.mp hy
  exact ⟨_, fun m' Q q => q, (h z hz).1, (h z hz).2⟩
/-- a new list of a comprehension that stays an object -/
theorem lc_own {wi : DI} {i : Nat} {tt : DT} {te : DE} {ns : List Int} (p : Int → Bool) (f : Int → DV) (hi : PuI wi δ m (ns.map DV.int)) (hl : ns.length ≤ sizeLine)
    (h : ∀ y ∈ ns, PuT tt ((wipeD δ [i]).set i (some (.int y))) m (p y) ∧ (p y = true → PuE te ((wipeD δ [i]).set i (some (.int y))) m (f y))) {m' : Sto} {Q : DK} (sb : Sub m m') (q : ∀ D m2, Sub m' m2 → m' D = none → m2 D = some (.lst ((ns.filter p).map f)) → Q (.ref D) m2) : wLc true wi (gN i) tt te [i] δ m' Q :=
  hi m' _ sb fun it m1 s1 hit hlk hst D hD => by
    have hD0 : m' D = none := by
      cases e : m' D with
      | none => rfl
      | some o => rw [s1 D o e] at hD; cases hD
    rw [hit]
    refine lc_go (mb := m1) (p := fun d => match d with | .int y => p y | _ => false) (f := fun d => match d with | .int y => f y | _ => .non) hD hlk (fun m2 s2 => hst m2 ((sb.trans s1).trans s2)) (by
      rw [hit]
      intro y hy
      obtain ⟨z, hz, rfl⟩ := List.mem_map.mp hy
      exact ⟨_, fun m' Q q => q, (h z hz).1.mono (sb.trans s1), fun e => ((h z hz).2 e).mono (sb.trans s1)⟩) (ns.map DV.int) [] _ (fun y hy => by rw [hit]; exact hy) (by simpa using hl) (Sub.put hD) put_same fun m2 s2 e2 => ?_
    rw [List.nil_append, filter_int] at e2 ⊢
    unfold lcFin
    rw [if_pos rfl]
    exact q D m2 (s1.trans s2) hD0 e2
theorem asQ_data {d : DV} {xs : List DV} (h : asQ (fun _ => none) d = some xs) : asQ m d = some xs := asQ_sub h fun a o e => by cases e
theorem fr_for {wi : DI} {g : DG} {tb : DS} {xs : List DV} {D : DEnds} (hi : PuI wi δ m xs) (sb : Sub m m') (I : Nat → Slots → Sto → Prop) (h0 : ∀ m1, Sub m' m1 → I 0 δ m1) (hI : ∀ i δ m1, I i δ m1 → Sub m m1)
    (hs : ∀ i y δ m1, xs[i]? = some y → I i δ m1 → ∃ δ1, (∀ m Q, Q δ1 m → g y δ m Q) ∧ ∀ D' : DEnds, (∀ δ m, I (i + 1) δ m → D'.nx δ m) → (∀ v m, D.rt v m → D'.rt v m) → (∀ δ m, D.nx δ m → D'.bk δ m) → (∀ δ m, I (i + 1) δ m → D'.ct δ m) → tb D' δ1 m1)
    (he : ∀ δ m1, I xs.length δ m1 → D.nx δ m1) : wFor wi g tb D δ m' :=
  hi m' _ sb fun it m1 s1 hit hlk hst => by
    have hfin : ∀ (m2 : Sto) (k : Sto → Prop), k m2 → it.fin m2 k := fun m2 k hk => by unfold DIt.fin; rw [hlk]; exact hk
    have key : ∀ (ys : List DV) (i : Nat) (δ : Slots) (m2 : Sto), xs.drop i = ys → i ≤ xs.length → I i δ m2 → forGo it g tb D ys δ m2 := fun ys => by
      induction ys with
      | nil =>
        intro i δ m2 hd hle hII
        have : i = xs.length := by
          have := List.drop_eq_nil_iff.mp hd
          omega
        subst this
        exact ⟨hst m2 (hI _ _ _ hII), hfin _ _ (he δ m2 hII)⟩
      | cons y r ih =>
        intro i δ m2 hd hle hII
        obtain ⟨h1, h2⟩ := getElem_drop_cons hd
        have hlt : i < xs.length := (List.getElem?_eq_some_iff.mp h1).1
        obtain ⟨δ1, hg, hb⟩ := hs i y δ m2 h1 hII
        exact ⟨hst m2 (hI _ _ _ hII), hg _ _ (hb _ (fun δ' m3 h3 => ih (i + 1) δ' m3 h2 hlt h3) (fun v m3 h3 => hfin _ _ h3) (fun δ' m3 h3 => hfin _ _ h3) fun δ' m3 h3 => ih (i + 1) δ' m3 h2 hlt h3)⟩
    rw [hit]
    exact key xs 0 δ m1 rfl (Nat.zero_le _) (h0 m1 s1)
section
variable {D : DEnds} {Q : DK} {QA : List DV → Sto → Prop} {QT : Bool → Sto → Prop} {g : DG} {mu : Bool} {i j : Nat} {d : DV} {R1 : DM} {ty : Ty0}
theorem go_seq (h : s { D with nx := s' D } δ m) : wSeq s s' D δ m := h
theorem go_asg (h : w δ m fun d m1 => g d δ m1 D.nx) : wAsg w g D δ m := h
theorem go_set (h : w δ m fun d m1 => D.nx (δ.set i (some d)) m1) : wAsg w (gN i) D δ m := h
theorem go_par (h : ta δ m fun ds m1 => match ds with
  | [a, b] => D.nx ((δ.set i (some a)).set j (some b)) m1
  | _ => False) : wPar i j ta D δ m := h
theorem go_drop (h : w δ m fun _ m1 => D.nx δ m1) : wDrop w D δ m := h
theorem go_ret (h : w δ m D.rt) : wRet w D δ m := h
theorem go_next (h : D.nx δ m) : wNext D δ m := h
theorem go_if (h : t δ m fun b m1 => if b = true then s D δ m1 else s' D δ m1) : wIfS t s s' D δ m := h
theorem go_nil (h : QA [] m) : wNil δ m QA := h
theorem go_cons (h : wa δ m fun d m1 => ta δ m1 fun ds m2 => QA (d :: ds) m2) : wCons wa ta δ m QA := h
theorem go_var (hd : δ[i]? = some (some d)) (h : Q d m) : wVar i δ m Q := by unfold wVar; rw [hd]; exact h
theorem go_c (h : Q d m) : wC d δ m Q := h
theorem go_lst (h : ta δ m fun ds m1 => ds.length ≤ sizeLine ∧ newL mu ds m1 Q) : wLst mu ta δ m Q := h
theorem go_tup (h : ta δ m fun ds m1 => ds.length ≤ sizeLine ∧ Q (.tup ds) m1) : wTup ta δ m Q := h
theorem go_m (h : w δ m fun d m1 => ofTy m1 ty d ∧ ta δ m1 fun ds m2 => R1 d ds m2 Q) : wM ty R1 w ta δ m Q := h
theorem go_op (h : wa δ m fun x m1 => wb δ m1 fun y m2 => R2 x y m2 Q) : wOp R2 wa wb δ m Q := h
theorem go_call (h : ta δ m fun ds m1 => S (ds ++ dds) m1 Q) : wCall S dds ta δ m Q := h
theorem go_b {R0 : DSp} (h : ta δ m fun ds m1 => R0 ds m1 Q) : wB R0 ta δ m Q := h
theorem go_bl (h : w δ m fun d m1 => match d with
  | .bl b => QT b m1
  | _ => False) : wBl w δ m QT := h
theorem go_and (h : t δ m fun b m1 => if b = true then u δ m1 QT else QT false m1) : wAndT t u δ m QT := h
theorem go_while (W : Nat → Slots → Sto → Prop) {n : Nat} (h0 : W n δ m) (hs : ∀ n δ m, W n δ m → t δ m fun b m1 => if b = true then s { nx := fun δ' m' => ∃ n', n' < n ∧ W n' δ' m', rt := D.rt, bk := D.nx, ct := fun δ' m' => ∃ n', n' < n ∧ W n' δ' m' } δ m1 else D.nx δ m1) : wWhile t s D δ m := ⟨W, ⟨n, h0⟩, hs⟩
theorem go_varZ {p : Addr} {xs : List DV} (hd : δ[i]? = some (some (.ref p))) (hp : m p = some (.lst xs)) (h : Q (.lst xs) (DL.rmv m p)) : wVarZ i δ m Q := by
  unfold wVarZ
  rw [hd]
  show frzL (.ref p) m Q
  unfold frzL
  simp only [hp]
  exact h
theorem go_new (h : ∀ p, m p = none → Q (.ref p) (DL.put m p (.lst ds))) : newL true ds m Q := h
end
end
end DL
namespace DL
open PySem PySem.Spec PyProof.Rows L2
def dRepr : DSp := fun ds m Q => match ds with
  | [d] => ∃ p, asPy m d = some p ∧ SeqAt.shaped p = true ∧ p.showable = true ∧ p.shown.length ≤ sizeLine ∧ Q (.str p.shown) m
  | _ => False
theorem cd_repr {X : Cx} {G : Gam} (hK : X.K = G.K) (hg : X.A.guards = some []) (hu : X.A.units + 65 < cLine) : CallR X (.builtin "repr") (LC G dRepr) := by
  intro pins s σ H vs us Q I rr h
  obtain ⟨F, m, ds, Q0, r, rv, h, k⟩ := h
  unfold dRepr at h
  split at h
  · obtain ⟨v, rfl, rd⟩ := rv.one_inv
    obtain ⟨p, h1, h2, h3, h4, q⟩ := h
    have pa := asPy_ok r rd h1
    obtain ⟨u, rfl, ru⟩ := vals1 rr
    obtain ⟨as, r1⟩ := Dp.reads I p v u (by rw [hK]; exact pa) ru
    have fin := k _ _ _ _ _ q (Ex.refl F) r (.str p.shown)
    have hd := SeqAt.depth_of_shaped h2
    have hnd := PyData.hasDict_of_canLay p (SeqAt.canLay_of_shaped h2)
    clear rd pa ru
    cases r1 with
    | none => exact PySem.P.repr_of_none ⟨.str _, H, I.tok _, ⟨_, rfl⟩, by simpa only [PyData.shown] using fin⟩
    | bool b => exact PySem.P.repr_of_bool ⟨.str _, H, I.tok _, ⟨_, rfl⟩, by simpa only [PyData.shown] using fin⟩
    | int i t => exact PySem.P.repr_of_int (by simpa [PyData.showable] using h3) ⟨.str _, H, I.tok _, ⟨_, rfl⟩, by simpa only [PyData.shown] using fin⟩
    | str x t => exact PySem.P.repr_of_str ⟨.str _, H, I.tok _, ⟨_, rfl⟩, by simpa only [PyData.shown] using fin⟩ (by simpa only [PyData.shown] using h4)
    | list g1 g2 g3 g4 => exact repr_of_reads' (.list g1 g2 g3 g4) h3 (fun z => by rw [hnd] at z; cases z) hg (by omega) (fun _ _ e => e) (fun h' u tk hk => ⟨.str _, H, I.kept hk, ⟨_, rfl⟩, fin⟩) h4
    | tuple g1 g2 g3 g4 => exact repr_of_reads' (.tuple g1 g2 g3 g4) h3 (fun z => by rw [hnd] at z; cases z) hg (by omega) (fun _ _ e => e) (fun h' u tk hk => ⟨.str _, H, I.kept hk, ⟨_, rfl⟩, fin⟩) h4
    | dict g1 g2 g3 g4 g5 => simp [PyData.hasDict] at hnd
  · exact False.elim h
theorem funD_fd {K : PySem.W.Frag} {x qual : Str} {params : Arguments} {body : List Stmt} {scope : Scope} {dvs : List V} {kws : List (Str × V)} {f : Addr} {fd fd2 : FuncData} (F : FunD K x qual params body scope dvs kws f fd) (F2 : FunD K x qual params body scope dvs kws f fd2) : fd = fd2 := by
  obtain ⟨_, _, _, _, _, _, _, _, _, _, _, h, _⟩ := F.ex
  obtain ⟨_, _, _, _, _, _, _, _, _, _, _, h2, _⟩ := F2.ex
  rw [h] at h2
  cases h2
  rfl
end DL
namespace DL
open PySem PySem.Spec PyProof.Rows L2
/-- x in y: y a list, both data of any depth -/
def dInX (neg : Bool) : D2 := fun x y m Q => ∃ d ds, asPy m x = some d ∧ asPy m y = some (.list ds) ∧ SeqAt.shaped d = true ∧ SeqAt.shaped (.list ds) = true ∧ Q (.bl (xor neg (ds.any fun z => PyData.eqv z d))) m
theorem od_inX {X : Cx} {G : Gam} (hK : X.K = G.K) (hu : X.A.units + 65 < cLine) (neg : Bool) {op : CmpOp} (ho : op = if neg = true then .NotIn else .In) : OpR X (compareOp op) (LR2 G (dInX neg)) := by
  intro pins s σ H x y v u Q I rx ry h
  obtain ⟨F, m, d1, d2, Q0, r, v1, v2, h, k⟩ := h
  obtain ⟨a, b, ha, hb, sa, sb, q⟩ := h
  have pa := asPy_ok r v1 ha
  have pb := asPy_ok r v2 hb
  cases neg with
  | true =>
    subst ho
    have q' : Q0 (.bl (!(b.any fun z => PyData.eqv z a))) m := by cases z : b.any (fun z => PyData.eqv z a) <;> (rw [z] at q; exact q)
    exact op_notInD hu pins s σ H x y v u Q I rx ry ⟨a, b, by rw [hK]; exact pa, by rw [hK]; exact pb, sa, sb, k _ _ _ _ _ q' (Ex.refl F) r (.bl _)⟩
  | false =>
    subst ho
    have q' : Q0 (.bl (b.any fun z => PyData.eqv z a)) m := by cases z : b.any (fun z => PyData.eqv z a) <;> (rw [z] at q; exact q)
    exact op_inD hu pins s σ H x y v u Q I rx ry ⟨a, b, by rw [hK]; exact pa, by rw [hK]; exact pb, sa, sb, k _ _ _ _ _ q' (Ex.refl F) r (.bl _)⟩
/-- str of an int, of a text, of a list or tuple of data -/
def dStrOf : DSp := fun ds m Q => match ds with
  | [.int i] => i.natAbs.log2 < 1920 ∧ Q (.str (toString i)) m
  | [.str x] => Q (.str x) m
  | [d] => ∃ p, asPy m d = some p ∧ (∃ ps, p = .list ps ∨ p = .tuple ps) ∧ p.canLay0 = true ∧ p.depth ≤ 60 ∧ p.showable = true ∧ p.shown.length ≤ sizeLine ∧ Q (.str p.shown) m
  | _ => False
theorem cd_str {X : Cx} {G : Gam} (hK : X.K = G.K) (hg : X.A.guards = some []) (hu : X.A.units + 65 < cLine) : CallR X (.type "str") (LC G dStrOf) := by
  intro pins s σ H vs us Q I rr h
  obtain ⟨F, m, ds, Q0, r, rv, h, k⟩ := h
  unfold dStrOf at h
  split at h
  · obtain ⟨v, rfl, rd⟩ := rv.one_inv
    obtain ⟨hb, q⟩ := h
    cases rd
    exact call_str_int pins s σ H _ us Q I rr ⟨_, rfl, hb, k _ _ _ _ _ q (Ex.refl F) r (.str _)⟩
  · obtain ⟨v, rfl, rd⟩ := rv.one_inv
    cases rd
    exact SkE.call_str_str pins s σ H _ us Q I rr ⟨_, rfl, k _ _ _ _ _ h (Ex.refl F) r (.str _)⟩
  · obtain ⟨v, rfl, rd⟩ := rv.one_inv
    obtain ⟨p, h1, hp, h2, hd, h3, h4, q⟩ := h
    have pa := asPy_ok r rd h1
    obtain ⟨u, rfl, ru⟩ := vals1 rr
    obtain ⟨as, r1⟩ := Dp.reads I p v u (by rw [hK]; exact pa) ru
    have fin := k _ _ _ _ _ q (Ex.refl F) r (.str p.shown)
    have hnd := PyData.hasDict_of_canLay p h2
    clear rd pa ru
    obtain ⟨ps, rfl | rfl⟩ := hp
    · cases r1 with
      | list g1 g2 g3 g4 => exact str_of_reads (.list g1 g2 g3 g4) h3 (fun z => by rw [hnd] at z; cases z) hg (by omega) (fun _ _ e => e) (fun h' u tk hk => ⟨.str _, H, I.kept hk, ⟨_, rfl⟩, fin⟩) h4
    · cases r1 with
      | tuple g1 g2 g3 g4 => exact str_of_reads (.tuple g1 g2 g3 g4) h3 (fun z => by rw [hnd] at z; cases z) hg (by omega) (fun _ _ e => e) (fun h' u tk hk => ⟨.str _, H, I.kept hk, ⟨_, rfl⟩, fin⟩) h4
  · exact False.elim h
section
variable {X : Cx} {G : Gam} {mu : Bool} {w wk : DE} {e st : Expr} {pos p2 : Pos} {te : TE} {tk : TO}
theorem pe_rev (he : PE X e te) (hk : PO X (some st) tk) (ht : ∀ (v r : Value), letTemporaryGo e v r = pure () := by intros; with_unfolding_all rfl) : PE X (.Subscript e (.Slice none none (some st) p2) pos) (fun σ H Q => te σ H fun x H1 => tk σ H1 fun o H2 => o = some (-1) ∧ ∃ a xs, x = .ref a ∧ SqL X.K H2 a xs ∧ ∀ p, H2 p = none → Q (.ref p) (upd H2 p (.lst xs.reverse))) := by
  refine ⟨fun pins s σ H Q I h => ?_⟩
  refine Subscript_ (thn (he.run pins s σ H _ I h) fun v s1 ⟨x, H1, I1, r1, q1⟩ => ?_)
  refine wpAny_Slice ?_
  rw [evalPart_none]
  refine wpAny_pure ?_
  refine wpAny_pure ?_
  refine thn (hk.run pins s1 σ H1 _ I1 q1) fun vk s3 ⟨o, H3, I3, pk, q3⟩ => ?_
  obtain ⟨rfl, a, xs, rfl, hx, q⟩ := q3
  cases r1
  have I4 : Inv X pins σ H3 { s3 with heap := s3.heap.push { cls := .type "slice", data := .fields #[.none, .none, vk] } } := I3.kept (t' := s3.toks) fun b ob q => Heap.get?_push_of_some _ q
  obtain ⟨its, rv, hl, hz⟩ := I4.list hx
  have hlen := rv.length
  show wpAny (model X.prog X.w) X.A (subscriptTail e (.Slice none none (some st) p2) (.ref a) (.ref s3.heap.objs.size)) (EP X pins σ Q) X.xe { s3 with heap := s3.heap.push { cls := .type "slice", data := .fields #[.none, .none, vk] } }
  refine subscriptTail_ops (ops := [.ref a, .ref s3.heap.objs.size]) hl.isList.typeIs slot_list_getitem.lookup ?_ rfl (ht _)
  refine wpAny_getItem_list_slice hl.isList (Heap.IsSliceOf.new ..) .none .none pk (by decide) ?_ (by rw [List.size_toArray] <;> omega)
  rw [PySem.W.krv_pick]
  refine ⟨.ref _, _, I4.laid (t' := s3.toks) (o := .lst xs.reverse) (fun b ob q => Heap.get?_push_of_some _ q) (Nat.le_refl _) ?_, rfl, q _ (I4.hok.fresh (Nat.le_refl _))⟩
  exact ⟨by rw [List.length_reverse]; exact hz, _, 0, rv.reverse, Heap.get?_push_size _ rfl⟩
theorem VRs.rev {K : PySem.W.Frag} {F : Hp} : ∀ {vs : List V} {ds : List DV}, VRs K F vs ds → VRs K F vs.reverse ds.reverse
  | _, _, .nil => .nil
  | _, _, .cons r t => by rw [List.reverse_cons, List.reverse_cons]; exact (VRs.rev t).append (.cons r .nil)
def wRev (mu : Bool) (w wk : DE) : DE := fun δ m Q => w δ m fun d m1 => wPart (some wk) δ m1 fun o m2 => o = some (-1) ∧ ∃ xs, asL m2 d = some xs ∧ newL mu xs.reverse m2 Q
theorem qe_rev (hK : X.K = G.K) (mu : Bool) (he : PE X e (LE G w)) (hk : PO X (some st) (LO G (some wk))) (ht : ∀ (v r : Value), letTemporaryGo e v r = pure () := by intros; with_unfolding_all rfl) : PE X (.Subscript e (.Slice none none (some st) p2) pos) (LE G (wRev mu w wk)) := by
  refine PE.imp (pe_rev he hk ht) fun σ H Q h => ?_
  obtain ⟨F, m, δ, Q0, r, s, h, k⟩ := h
  refine ⟨F, m, δ, _, r, s, h, fun d1 m1 x F1 H1 h1 e1 r1 v1 => ⟨F1, m1, δ, fun o m2 => o = some (-1) ∧ ∃ xs, asL m2 d1 = some xs ∧ newL mu xs.reverse m2 Q0, r1, s.mono e1, h1, fun o m2 F2 H2 h2 e2 r2 => ?_⟩⟩
  · obtain ⟨h3, xs, h4, h5⟩ := h2
    obtain ⟨a, vs, rfl, ha, ra⟩ := asL_ok r2 (v1.mono e2) h4
    exact ⟨h3, a, vs, rfl, by rw [hK]; exact ha, newL_ok r2 h5 (k.mono (e1.trans e2)) ra.rev⟩
end
end DL
namespace SrtH
open PySem PySem.Spec PyProof.Rows L2 SrtO
def IsHead (h : Heap) (v : Value) (x : Int) : Prop := ∃ a o t its n, v = .ref a ∧ h.get? a = some o ∧ o.cls = .type "tuple" ∧ o.data = .seq (List.toArray (Value.int x t :: its)) n
theorem IsHead.keeps {h h' : Heap} {v : Value} {x : Int} (p : IsHead h v x) (k : ∀ b o, h.get? b = some o → o.cls = .type "tuple" → h'.get? b = some o) : IsHead h' v x := by
  obtain ⟨a, o, t, its, n, e, ho, hc, hd⟩ := p
  exact ⟨a, o, t, its, n, e, k _ _ ho hc, hc, hd⟩
section
variable {prog : Program} {w : World} {A : Around} {s : Shared} {E : Value → Shared → Prop}
theorem swo_int (k : Value → Int) : Swo fun v u => decide (k v < k u) := by
  refine ⟨fun x y h => decide_eq_false ?_, fun x y z h1 h2 => decide_eq_false ?_⟩
  · have := of_decide_eq_true h
    omega
  · have := of_decide_eq_false h1
    have := of_decide_eq_false h2
    omega
theorem lex_same {b : Bool} {Q : Bool → Shared → Prop} (h : Q false s) : ∀ (l : List Value) (i : Nat), PySem.W.KatLex prog w A b false Q (l.zip l) i s
  | [], i => PySem.W.kat_nil h
  | v :: l, i => PySem.W.kat_cons (SeqAt.EqAt.same v prog w _ _ (PySem.W.kat_yes (lex_same h l (i + 1))))
theorem head_cmp {vs : List Value} {k : Value → Int} (hp : ∀ v ∈ vs, IsHead s.heap v (k v)) (inj : ∀ v ∈ vs, ∀ u ∈ vs, k v = k u → v = u) : Cmp prog w A s (tuples' true) (fun p => p.1 ∈ vs) (lt2 fun v u => decide (k v < k u)) := by
  intro p q hm hm'
  show wpAny (model prog w) A (keyLt' (tuples' true) p.1 q.1) (fun r s' => s' = s ∧ r = decide (k p.1 < k q.1)) (fun _ _ => False) s
  by_cases e : k p.1 = k q.1
  · have same := inj _ hm _ hm' e
    obtain ⟨a, o, t, its, n, ev, ho, hc, hd⟩ := hp _ hm
    rw [← same, ev]
    refine PySem.W.kat_lt ho hd ho hd ?_
    have e2 : decide ((List.toArray (Value.int (k p.1) t :: its)).size < (List.toArray (Value.int (k p.1) t :: its)).size) = false := decide_eq_false (Nat.lt_irrefl _)
    rw [e2]
    refine lex_same ⟨rfl, ?_⟩ _ 0
    rw [← ev]
    exact (decide_eq_false (Int.lt_irrefl _)).symm
  · obtain ⟨a, o, t, its, n, ev, ho, hc, hd⟩ := hp _ hm
    obtain ⟨a', o', t', its', n', ev', ho', hc', hd'⟩ := hp _ hm'
    generalize k p.1 = x at e hd ⊢
    generalize k q.1 = x' at e hd' ⊢
    rw [ev, ev']
    refine PySem.W.kat_lt ho hd ho' hd' ?_
    show PySem.W.KatLex prog w A true _ _ ((.int x t, .int x' t') :: (its.zip its')) 0 s
    refine PySem.W.kat_cons (SeqAt.EqAt.int_int x t x' t' prog w _ _ ?_)
    have e3 : (x == x') = false := by simpa using e
    rw [e3]
    exact PySem.W.kat_no (oneLt_int ⟨rfl, rfl⟩)
theorem firsts {h : Heap} {k : Value → Int} : ∀ {vs : List Value}, (∀ v ∈ vs, IsHead h v (k v)) → ∃ fs : List Value, PySem.W.KatTups h vs fs ∧ fs.length = vs.length ∧ ∀ f ∈ fs, ∃ x t, f = Value.int x t
  | [], _ => ⟨[], PySem.W.KatTups.nil, rfl, fun _ hm => by simp at hm⟩
  | v :: vs, hp => by
    obtain ⟨fs, h1, h2, h3⟩ := firsts (vs := vs) fun v' hm => hp v' (List.mem_cons_of_mem _ hm)
    obtain ⟨a, o, t, its, n, e, ho, hc, hd⟩ := hp v List.mem_cons_self
    refine ⟨.int (k v) t :: fs, ⟨⟨a, o, _, n, e, ho, hc, hd, rfl⟩, h1⟩, by rw [List.length_cons, List.length_cons, h2], fun f hf => ?_⟩
    rcases List.mem_cons.mp hf with rfl | hf
    · exact ⟨_, _, rfl⟩
    · exact h3 f hf
theorem heads_sortable {a : Addr} {vs : List Value} {k : Value → Int} (h0 : 0 < vs.length) (hp : ∀ v ∈ vs, IsHead s.heap v (k v)) (inj : ∀ v ∈ vs, ∀ u ∈ vs, k v = k u → v = u) (ha : ∀ o, s.heap.get? a = some o → o.cls ≠ .type "tuple") : SortableO prog w A s a vs fun v u => decide (k v < k u) := by
  intro h' keep
  have hp' : ∀ v ∈ vs, IsHead h' v (k v) := fun v hm => (hp v hm).keeps fun b o e c => keep b o (fun z => by subst z; exact ha o e c) e
  obtain ⟨fs, h1, h2, h3⟩ := firsts hp'
  refine ⟨tuples' true, fun Q E hq => ?_, head_cmp hp' inj⟩
  refine PySem.W.kat_kind (T := .type "int") h1 (by omega) (fun f hm => ?_) (by rfl) ?_
  · obtain ⟨x, t, rfl⟩ := h3 f hm
    exact PySem.W.Looks.now
  · have e : (Value.type "int" != Value.type "tuple") = true := by first | decide +kernel | rfl | decide
    rw [e]
    exact hq
theorem sorted_heads {l : Addr} {vs : List Value} {k : Value → Int} {Q : Value → Shared → Prop} (hl : s.heap.IsList l vs.toArray) (hz : vs.length ≤ sizeLine) (hp : ∀ v ∈ vs, IsHead s.heap v (k v)) (inj : ∀ v ∈ vs, ∀ u ∈ vs, k v = k u → v = u)
    (h : ∀ (h' : Heap) (d : Addr) (out : List Value), Srtd (fun v u => decide (k v < k u)) out → Stb (fun v u => decide (k v < k u)) out vs → (∀ b o, s.heap.get? b = some o → h'.get? b = some o) → s.heap.objs.size ≤ d → (∃ n, h'.get? d = some (seqObj "list" out.toArray n)) → Q (.ref d) { s with heap := h' }) :
    wpAny (model prog w) A (call (.builtin "sorted") [.ref l]) Q E s := by
  refine sorted_ord (swo_int k) hl hz (fun h2 h₁ a ha kk => ?_) fun out hs hb => ?_
  · refine heads_sortable (s := { s with heap := h₁ }) (by omega) (fun v hm => (hp v hm).keeps fun b o e _ => (kk b o e).2) inj fun o e => ?_
    have e' : some o = some (seqObj "list" vs.toArray 0) := e.symm.trans ha
    cases e'
    intro c
    exact absurd (Value.type.inj c) (by decide)
  · exact h _ _ out hs hb (fun b o e => sortedAll_old e) (Nat.le_succ _) (sortedAll_at s.heap vs out.toArray)
end
def rSortedH (K : PySem.W.Frag) : List V → Hp → VK → Prop := fun vs H Q => ∃ (a : Addr) (xs : List V) (k : V → Int), vs = [V.ref a] ∧ SqL K H a xs ∧ (∀ x ∈ xs, ∃ t rest, x = V.ref t ∧ H t = some (.tup (.int (k x) :: rest))) ∧ (∀ x ∈ xs, ∀ y ∈ xs, k x = k y → x = y) ∧
  ∀ ys p, ys.Perm xs → ys.Pairwise (fun x y => k x ≤ k y) → H p = none → Q (.ref p) (upd H p (.lst ys))
theorem cr_sortedH {X : Cx} : CallR X (.builtin "sorted") (rSortedH X.K) := by
  intro pins s σ H vs us Q I r h
  obtain ⟨a, xs, k, rfl, hs, hx, inj, q⟩ := h
  obtain ⟨its, rv, hl, hz⟩ := I.list hs
  obtain ⟨u, rfl, ru⟩ := vals1 r
  obtain rfl : u = Value.ref a := ru
  obtain ⟨e1, e2⟩ := refs_back rv fun x m => by
    obtain ⟨t, _, e, _⟩ := hx x m
    exact ⟨t, e⟩
  refine sorted_heads (k := fun u => k (backV u)) hl.isList (by rw [← rv.length]; exact hz) (fun v hv => ?_) (fun v hv u hu he => ?_) fun h' d out h1 h2 kp hd hn => ?_
  · obtain ⟨t, rfl⟩ := e2 v hv
    have hm : V.ref t ∈ xs := by rw [e1]; exact List.mem_map.mpr ⟨_, hv, rfl⟩
    obtain ⟨t', rest, e, ht⟩ := hx _ hm
    cases e
    obtain ⟨_, its2, r2, o, ho, hc, n, hd⟩ := I.hok _ _ ht
    cases r2 with
    | cons ri rr =>
      obtain ⟨t1, rfl⟩ := ri
      exact ⟨t, o, t1, _, n, rfl, ho, hc, hd⟩
  · obtain ⟨t, rfl⟩ := e2 v hv
    obtain ⟨t', rfl⟩ := e2 u hu
    have := inj (V.ref t) (by rw [e1]; exact List.mem_map.mpr ⟨_, hv, rfl⟩) (V.ref t') (by rw [e1]; exact List.mem_map.mpr ⟨_, hu, rfl⟩) he
    cases this
    rfl
  · have h3 : ∀ u ∈ out, ∃ a, u = Value.ref a := fun u hu => e2 u (h2.perm.mem_iff.mp hu)
    obtain ⟨n, hn⟩ := hn
    have hb : (out.map backV).Perm xs := by
      rw [e1]
      exact h2.perm.map backV
    refine ⟨.ref d, upd H d (.lst (out.map backV)), I.laid (t' := s.toks) kp hd ⟨?_, out, n, vals_back h3, hn⟩, rfl, q _ d hb ?_ (I.hok.fresh hd)⟩
    · rw [hb.length_eq]
      exact hz
    · rw [List.pairwise_map]
      refine List.Pairwise.imp (fun {x y} z => ?_) h1
      have := of_decide_eq_false z
      omega
end SrtH
namespace DL
open PySem PySem.Spec PyProof.Rows L2
def headK : DV → Int
  | .tup (.int n :: _) => n
  | _ => 0
def isHead : DV → Bool
  | .tup (.int _ :: _) => true
  | _ => false
/-- sorted: the new list is told -/
def dSortH (mu : Bool) : DSp := fun ds m Q => match ds with
  | [d] => ∃ xs ys, asL m d = some xs ∧ xs.all isHead = true ∧ ys.Perm xs ∧ (ys.map headK).Pairwise (· < ·) ∧ newL mu ys m Q
  | _ => False
theorem perm_key_eq : ∀ {as bs : List DV}, as.Perm bs → (as.map headK).Pairwise (· < ·) → (bs.map headK).Pairwise (· < ·) → as = bs
  | [], bs, h, _, _ => (List.Perm.eq_nil h.symm).symm
  | a :: as, [], h, _, _ => absurd h.length_eq (by simp)
  | a :: as, b :: bs, h, ha, hb => by
    rw [List.map_cons, List.pairwise_cons] at ha hb
    have e : a = b := by
      have h1 : a ∈ b :: bs := h.mem_iff.mp List.mem_cons_self
      have h2 : b ∈ a :: as := h.mem_iff.mpr List.mem_cons_self
      rcases List.mem_cons.mp h1 with e | h1
      · exact e
      · rcases List.mem_cons.mp h2 with e | h2
        · exact e.symm
        · have := hb.1 _ (List.mem_map.mpr ⟨a, h1, rfl⟩)
          have := ha.1 _ (List.mem_map.mpr ⟨b, h2, rfl⟩)
          omega
    subst e
    rw [perm_key_eq h.cons_inv ha.2 hb.2]
theorem vrs_perm {K : PySem.W.Frag} {F : Hp} {vs ws : List V} (p : ws.Perm vs) : ∀ {xs : List DV}, VRs K F vs xs → ∃ ys, VRs K F ws ys ∧ ys.Perm xs := by
  induction p with
  | nil => intro xs h; exact ⟨xs, h, .refl _⟩
  | cons v p ih =>
    intro xs h
    cases h with
    | cons r t =>
      obtain ⟨ys, h1, h2⟩ := ih t
      exact ⟨_, .cons r h1, h2.cons _⟩
  | swap a b l =>
    intro xs h
    cases h with
    | cons r t => cases t with
      | cons r2 t2 => exact ⟨_, .cons r2 (.cons r t2), .swap _ _ _⟩
  | trans p1 p2 ih1 ih2 =>
    intro xs h
    obtain ⟨ys, h1, h2⟩ := ih2 h
    obtain ⟨zs, h3, h4⟩ := ih1 h1
    exact ⟨zs, h3, h4.trans h2⟩
def kF (F : Hp) : V → Int
  | .ref a => match F a with
    | some (.tup (.int n :: _)) => n
    | _ => 0
  | _ => 0
theorem head_vr {K : PySem.W.Frag} {F : Hp} {v : V} {d : DV} (h : VR K F v d) (hd : isHead d = true) : kF F v = headK d ∧ ∃ t rest, v = V.ref t ∧ F t = some (.tup (.int (kF F v) :: rest)) := by
  cases h with
  | @tup a vs ds hf hr =>
    cases hr with
    | nil => cases hd
    | cons r t =>
      cases r with
      | int i =>
        have e : kF F (.ref a) = i := by unfold kF; dsimp only; rw [hf]
        exact ⟨e, a, _, rfl, by rw [e]; exact hf⟩
      | _ => cases hd
  | _ => cases hd
theorem vrs_keys {K : PySem.W.Frag} {F : Hp} : ∀ {vs : List V} {ds : List DV}, VRs K F vs ds → ds.all isHead = true → vs.map (kF F) = ds.map headK
  | _, _, .nil, _ => rfl
  | _, _, .cons r t, h => by
    rw [List.all_cons, Bool.and_eq_true] at h
    rw [List.map_cons, List.map_cons, (head_vr r h.1).1, vrs_keys t h.2]
theorem key_inj {α : Type} {k : α → Int} : ∀ {xs : List α}, (xs.map k).Nodup → ∀ x ∈ xs, ∀ y ∈ xs, k x = k y → x = y
  | [], _, x, hx, _, _, _ => by cases hx
  | a :: xs, h, x, hx, y, hy, e => by
    rw [List.map_cons, List.nodup_cons] at h
    rcases List.mem_cons.mp hx with e1 | h1 <;> rcases List.mem_cons.mp hy with e2 | h2
    · rw [e1, e2]
    · exact absurd (List.mem_map.mpr ⟨y, h2, (e1 ▸ e).symm⟩) h.1
    · exact absurd (List.mem_map.mpr ⟨x, h1, (e2 ▸ e)⟩) h.1
    · exact key_inj h.2 x h1 y h2 e
theorem cd_sortH {X : Cx} {G : Gam} (hK : X.K = G.K) (mu : Bool) : CallR X (.builtin "sorted") (LC G (dSortH mu)) := by
  intro pins s σ H vs us Q I rr h
  obtain ⟨F, m, ds, Q0, r, rv, h, k⟩ := h
  unfold dSortH at h
  split at h
  · obtain ⟨v, rfl, rd⟩ := rv.one_inv
    obtain ⟨xs, ys, hx, hh, hp, hs, q⟩ := h
    obtain ⟨a, ws, rfl, ha, ra⟩ := asL_ok r rd hx
    have ks := vrs_keys ra hh
    have nd : (ws.map (kF F)).Nodup := by
      rw [ks]
      have : (ys.map headK).Nodup := hs.imp fun {a b} h => by omega
      exact (hp.map headK).nodup_iff.mp this
    refine SrtH.cr_sortedH pins s σ H _ us Q I rr ⟨a, ws, kF F, rfl, by rw [hK]; exact ha, fun x hxm => ?_, key_inj nd, fun zs p hz hsz hpn => ?_⟩
    · obtain ⟨i, hi⟩ := List.getElem?_of_mem hxm
      obtain ⟨d, h1, h2⟩ := ra.getV hi
      obtain ⟨_, t, rest, e1, e2⟩ := head_vr h2 (List.all_eq_true.mp hh d (List.mem_of_getElem? h1))
      exact ⟨t, rest, e1, r.ex _ _ e2⟩
    · obtain ⟨ys2, v2, p2⟩ := vrs_perm hz ra
      have hh2 : ys2.all isHead = true := List.all_eq_true.mpr fun d hd => List.all_eq_true.mp hh d (p2.mem_iff.mp hd)
      have k2 := vrs_keys v2 hh2
      have nd2 : (zs.map (kF F)).Nodup := (hz.map _).nodup_iff.mpr nd
      have lt2 : (ys2.map headK).Pairwise (· < ·) := by
        rw [← k2]
        have h1 : (zs.map (kF F)).Pairwise (· ≤ ·) := List.pairwise_map.mpr hsz
        exact (List.pairwise_and_iff.mpr ⟨h1, nd2⟩).imp fun {a b} h => by have := h.1; have := h.2; omega
      have e : ys2 = ys := perm_key_eq (p2.trans hp.symm) lt2 hs
      subst e
      exact newL_ok r q k v2 p hpn
  · exact False.elim h
end DL
namespace Law
open PySem PySem.Spec PyProof.Rows L2 DL
def top (i : Nat) : Stmt := (PySem.Challenge.pw_treethaw_k35_known_families).main.body.getD i (.Pass ⟨0, 0, 0, 0⟩)
def names : List Str := ["own_rows"]
def gm (K : PySem.W.Frag) : Gam := ⟨K, fun i => match i with | 0 => He.ga K "Kin" | _ => 0, fldOf names⟩
theorem inj0 {K : PySem.W.Frag} : (gm K).Inj := fldOf_inj (by kernel_rfl)
abbrev st_Kin_init0 : Stmt := inClass (top 3) 0
abbrev st_Kin_numbers : Stmt := inClass (top 3) 1
abbrev st_Kin_has : Stmt := inClass (top 3) 2
abbrev st_Kin_parent : Stmt := inClass (top 3) 3
abbrev st_Kin_session : Stmt := inClass (top 3) 4
abbrev st_Kin_group : Stmt := inClass (top 3) 5
abbrev st_Kin_adopts : Stmt := inClass (top 3) 6
abbrev st_Kin_ended : Stmt := inClass (top 3) 7
abbrev st_Kin_is_root : Stmt := inClass (top 3) 8
abbrev st_Kin_sessions : Stmt := inClass (top 3) 11
abbrev st_Kin_groups : Stmt := inClass (top 3) 12
abbrev st_Kin_members : Stmt := inClass (top 3) 13
abbrev st_Kin_group_members : Stmt := inClass (top 3) 14
abbrev st_Kin_is_top : Stmt := inClass (top 3) 15
abbrev st_Kin_tops : Stmt := inClass (top 3) 16
abbrev st_Kin_further_tops : Stmt := inClass (top 3) 17
abbrev st_Kin_adopter_above : Stmt := inClass (top 3) 18
abbrev st_Kin_branch : Stmt := inClass (top 3) 19
abbrev st_Kin_lost_sessions : Stmt := inClass (top 3) 20
abbrev st_Kin_lost_groups : Stmt := inClass (top 3) 21
abbrev st_Kin_lost_groups_in : Stmt := inClass (top 3) 22
abbrev st_Kin_reaches_leader : Stmt := inClass (top 3) 23
abbrev st_Kin_bearers : Stmt := inClass (top 3) 24
abbrev st_is_number : Stmt := top 5
abbrev st_torn_in_session : Stmt := top 6
abbrev st_is_torn_group : Stmt := top 7
abbrev st_needed : Stmt := top 8
abbrev st_rings : Stmt := top 9
abbrev st_bar : Stmt := top 10
abbrev st_shows_bar : Stmt := top 11
abbrev st_needs_more : Stmt := top 12
abbrev st_helpers : Stmt := top 13
abbrev st__law_box : Stmt := top 15
abbrev st__law_take : Stmt := top 16
abbrev st__law_pick : Stmt := top 17
abbrev st__law_same : Stmt := top 18
abbrev st__law_image : Stmt := top 19
abbrev st__law_free : Stmt := top 20
abbrev st__law_barred : Stmt := top 21
abbrev st__law_led_right : Stmt := top 22
abbrev st__law_lost_right : Stmt := top 23
abbrev st__law_rings_right : Stmt := top 24
abbrev st__law_right : Stmt := top 25
abbrev st_law : Stmt := top 26
structure Cxt (K : PySem.W.Frag) (mg : Str → Option Value) : Prop where
  F_Kin_init0 : ∃ fd, FunD K "__init__" "Kin.__init__" (defArgs st_Kin_init0) (defBody st_Kin_init0) (defScope st_Kin_init0) [] [] (He.fAd K ("Kin", some "__init__")) fd
  F_Kin_numbers : ∃ fd, FunD K "numbers" "Kin.numbers" (defArgs st_Kin_numbers) (defBody st_Kin_numbers) (defScope st_Kin_numbers) [] [] (He.fAd K ("Kin", some "numbers")) fd
  F_Kin_has : ∃ fd, FunD K "has" "Kin.has" (defArgs st_Kin_has) (defBody st_Kin_has) (defScope st_Kin_has) [] [] (He.fAd K ("Kin", some "has")) fd
  F_Kin_parent : ∃ fd, FunD K "parent" "Kin.parent" (defArgs st_Kin_parent) (defBody st_Kin_parent) (defScope st_Kin_parent) [] [] (He.fAd K ("Kin", some "parent")) fd
  F_Kin_session : ∃ fd, FunD K "session" "Kin.session" (defArgs st_Kin_session) (defBody st_Kin_session) (defScope st_Kin_session) [] [] (He.fAd K ("Kin", some "session")) fd
  F_Kin_group : ∃ fd, FunD K "group" "Kin.group" (defArgs st_Kin_group) (defBody st_Kin_group) (defScope st_Kin_group) [] [] (He.fAd K ("Kin", some "group")) fd
  F_Kin_adopts : ∃ fd, FunD K "adopts" "Kin.adopts" (defArgs st_Kin_adopts) (defBody st_Kin_adopts) (defScope st_Kin_adopts) [] [] (He.fAd K ("Kin", some "adopts")) fd
  F_Kin_ended : ∃ fd, FunD K "ended" "Kin.ended" (defArgs st_Kin_ended) (defBody st_Kin_ended) (defScope st_Kin_ended) [] [] (He.fAd K ("Kin", some "ended")) fd
  F_Kin_is_root : ∃ fd, FunD K "is_root" "Kin.is_root" (defArgs st_Kin_is_root) (defBody st_Kin_is_root) (defScope st_Kin_is_root) [] [] (He.fAd K ("Kin", some "is_root")) fd
  F_Kin_sessions : ∃ fd, FunD K "sessions" "Kin.sessions" (defArgs st_Kin_sessions) (defBody st_Kin_sessions) (defScope st_Kin_sessions) [] [] (He.fAd K ("Kin", some "sessions")) fd
  F_Kin_groups : ∃ fd, FunD K "groups" "Kin.groups" (defArgs st_Kin_groups) (defBody st_Kin_groups) (defScope st_Kin_groups) [] [] (He.fAd K ("Kin", some "groups")) fd
  F_Kin_members : ∃ fd, FunD K "members" "Kin.members" (defArgs st_Kin_members) (defBody st_Kin_members) (defScope st_Kin_members) [] [] (He.fAd K ("Kin", some "members")) fd
  F_Kin_group_members : ∃ fd, FunD K "group_members" "Kin.group_members" (defArgs st_Kin_group_members) (defBody st_Kin_group_members) (defScope st_Kin_group_members) [] [] (He.fAd K ("Kin", some "group_members")) fd
  F_Kin_is_top : ∃ fd, FunD K "is_top" "Kin.is_top" (defArgs st_Kin_is_top) (defBody st_Kin_is_top) (defScope st_Kin_is_top) [] [] (He.fAd K ("Kin", some "is_top")) fd
  F_Kin_tops : ∃ fd, FunD K "tops" "Kin.tops" (defArgs st_Kin_tops) (defBody st_Kin_tops) (defScope st_Kin_tops) [] [] (He.fAd K ("Kin", some "tops")) fd
  F_Kin_further_tops : ∃ fd, FunD K "further_tops" "Kin.further_tops" (defArgs st_Kin_further_tops) (defBody st_Kin_further_tops) (defScope st_Kin_further_tops) [] [] (He.fAd K ("Kin", some "further_tops")) fd
  F_Kin_adopter_above : ∃ fd, FunD K "adopter_above" "Kin.adopter_above" (defArgs st_Kin_adopter_above) (defBody st_Kin_adopter_above) (defScope st_Kin_adopter_above) [] [] (He.fAd K ("Kin", some "adopter_above")) fd
  F_Kin_branch : ∃ fd, FunD K "branch" "Kin.branch" (defArgs st_Kin_branch) (defBody st_Kin_branch) (defScope st_Kin_branch) [] [] (He.fAd K ("Kin", some "branch")) fd
  F_Kin_lost_sessions : ∃ fd, FunD K "lost_sessions" "Kin.lost_sessions" (defArgs st_Kin_lost_sessions) (defBody st_Kin_lost_sessions) (defScope st_Kin_lost_sessions) [] [] (He.fAd K ("Kin", some "lost_sessions")) fd
  F_Kin_lost_groups : ∃ fd, FunD K "lost_groups" "Kin.lost_groups" (defArgs st_Kin_lost_groups) (defBody st_Kin_lost_groups) (defScope st_Kin_lost_groups) [] [] (He.fAd K ("Kin", some "lost_groups")) fd
  F_Kin_lost_groups_in : ∃ fd, FunD K "lost_groups_in" "Kin.lost_groups_in" (defArgs st_Kin_lost_groups_in) (defBody st_Kin_lost_groups_in) (defScope st_Kin_lost_groups_in) [] [] (He.fAd K ("Kin", some "lost_groups_in")) fd
  F_Kin_reaches_leader : ∃ fd, FunD K "reaches_leader" "Kin.reaches_leader" (defArgs st_Kin_reaches_leader) (defBody st_Kin_reaches_leader) (defScope st_Kin_reaches_leader) [] [] (He.fAd K ("Kin", some "reaches_leader")) fd
  F_Kin_bearers : ∃ fd, FunD K "bearers" "Kin.bearers" (defArgs st_Kin_bearers) (defBody st_Kin_bearers) (defScope st_Kin_bearers) [] [] (He.fAd K ("Kin", some "bearers")) fd
  F_is_number : ∃ fd, FunD K "is_number" "is_number" (defArgs st_is_number) (defBody st_is_number) (defScope st_is_number) [] [] (He.fAd K ("is_number", none)) fd
  F_torn_in_session : ∃ fd, FunD K "torn_in_session" "torn_in_session" (defArgs st_torn_in_session) (defBody st_torn_in_session) (defScope st_torn_in_session) [] [] (He.fAd K ("torn_in_session", none)) fd
  F_is_torn_group : ∃ fd, FunD K "is_torn_group" "is_torn_group" (defArgs st_is_torn_group) (defBody st_is_torn_group) (defScope st_is_torn_group) [] [] (He.fAd K ("is_torn_group", none)) fd
  F_needed : ∃ fd, FunD K "needed" "needed" (defArgs st_needed) (defBody st_needed) (defScope st_needed) [] [] (He.fAd K ("needed", none)) fd
  F_rings : ∃ fd, FunD K "rings" "rings" (defArgs st_rings) (defBody st_rings) (defScope st_rings) [] [] (He.fAd K ("rings", none)) fd
  F_bar : ∃ fd, FunD K "bar" "bar" (defArgs st_bar) (defBody st_bar) (defScope st_bar) [] [] (He.fAd K ("bar", none)) fd
  F_shows_bar : ∃ fd, FunD K "shows_bar" "shows_bar" (defArgs st_shows_bar) (defBody st_shows_bar) (defScope st_shows_bar) [] [] (He.fAd K ("shows_bar", none)) fd
  F_needs_more : ∃ fd, FunD K "needs_more" "needs_more" (defArgs st_needs_more) (defBody st_needs_more) (defScope st_needs_more) [] [] (He.fAd K ("needs_more", none)) fd
  F_helpers : ∃ fd, FunD K "helpers" "helpers" (defArgs st_helpers) (defBody st_helpers) (defScope st_helpers) [] [] (He.fAd K ("helpers", none)) fd
  F__law_box : ∃ fd, FunD K "_law_box" "_law_box" (defArgs st__law_box) (defBody st__law_box) (defScope st__law_box) [] [] (He.fAd K ("_law_box", none)) fd
  F__law_take : ∃ fd, FunD K "_law_take" "_law_take" (defArgs st__law_take) (defBody st__law_take) (defScope st__law_take) [] [] (He.fAd K ("_law_take", none)) fd
  F__law_pick : ∃ fd, FunD K "_law_pick" "_law_pick" (defArgs st__law_pick) (defBody st__law_pick) (defScope st__law_pick) [] [] (He.fAd K ("_law_pick", none)) fd
  F__law_same : ∃ fd, FunD K "_law_same" "_law_same" (defArgs st__law_same) (defBody st__law_same) (defScope st__law_same) [] [] (He.fAd K ("_law_same", none)) fd
  F__law_image : ∃ fd, FunD K "_law_image" "_law_image" (defArgs st__law_image) (defBody st__law_image) (defScope st__law_image) [] [] (He.fAd K ("_law_image", none)) fd
  F__law_free : ∃ fd, FunD K "_law_free" "_law_free" (defArgs st__law_free) (defBody st__law_free) (defScope st__law_free) [] [] (He.fAd K ("_law_free", none)) fd
  F__law_barred : ∃ fd, FunD K "_law_barred" "_law_barred" (defArgs st__law_barred) (defBody st__law_barred) (defScope st__law_barred) [] [] (He.fAd K ("_law_barred", none)) fd
  F__law_led_right : ∃ fd, FunD K "_law_led_right" "_law_led_right" (defArgs st__law_led_right) (defBody st__law_led_right) (defScope st__law_led_right) [] [] (He.fAd K ("_law_led_right", none)) fd
  F__law_lost_right : ∃ fd, FunD K "_law_lost_right" "_law_lost_right" (defArgs st__law_lost_right) (defBody st__law_lost_right) (defScope st__law_lost_right) [] [] (He.fAd K ("_law_lost_right", none)) fd
  F__law_rings_right : ∃ fd, FunD K "_law_rings_right" "_law_rings_right" (defArgs st__law_rings_right) (defBody st__law_rings_right) (defScope st__law_rings_right) [] [] (He.fAd K ("_law_rings_right", none)) fd
  F__law_right : ∃ fd, FunD K "_law_right" "_law_right" (defArgs st__law_right) (defBody st__law_right) (defScope st__law_right) [] [] (He.fAd K ("_law_right", none)) fd
  F_law : ∃ fd, FunD K "law" "law" (defArgs st_law) (defBody st_law) (defScope st_law) [] [] (He.fAd K ("law", none)) fd
  n_abs : mg "abs" = none
  n_all : mg "all" = none
  n_bool : mg "bool" = none
  n_int : mg "int" = none
  n_isinstance : mg "isinstance" = none
  n_len : mg "len" = none
  n_list : mg "list" = none
  n_min : mg "min" = none
  n_range : mg "range" = none
  n_set : mg "set" = none
  n_sorted : mg "sorted" = none
  n_str : mg "str" = none
  n_tuple : mg "tuple" = none
  n_zip : mg "zip" = none
  cls_Kin : Cls K (He.ga K "Kin")
  g_Kin : mg "Kin" = some (.ref (He.ga K "Kin"))
  g__law_barred : mg "_law_barred" = some (.ref (He.fAd K ("_law_barred", none)))
  g__law_box : mg "_law_box" = some (.ref (He.fAd K ("_law_box", none)))
  g__law_free : mg "_law_free" = some (.ref (He.fAd K ("_law_free", none)))
  g__law_image : mg "_law_image" = some (.ref (He.fAd K ("_law_image", none)))
  g__law_led_right : mg "_law_led_right" = some (.ref (He.fAd K ("_law_led_right", none)))
  g__law_lost_right : mg "_law_lost_right" = some (.ref (He.fAd K ("_law_lost_right", none)))
  g__law_right : mg "_law_right" = some (.ref (He.fAd K ("_law_right", none)))
  g__law_rings_right : mg "_law_rings_right" = some (.ref (He.fAd K ("_law_rings_right", none)))
  g__law_same : mg "_law_same" = some (.ref (He.fAd K ("_law_same", none)))
  g__law_take : mg "_law_take" = some (.ref (He.fAd K ("_law_take", none)))
  g_bar : mg "bar" = some (.ref (He.fAd K ("bar", none)))
  g_helpers : mg "helpers" = some (.ref (He.fAd K ("helpers", none)))
  g_is_number : mg "is_number" = some (.ref (He.fAd K ("is_number", none)))
  g_is_torn_group : mg "is_torn_group" = some (.ref (He.fAd K ("is_torn_group", none)))
  g_needed : mg "needed" = some (.ref (He.fAd K ("needed", none)))
  g_needs_more : mg "needs_more" = some (.ref (He.fAd K ("needs_more", none)))
  g_rings : mg "rings" = some (.ref (He.fAd K ("rings", none)))
  g_shows_bar : mg "shows_bar" = some (.ref (He.fAd K ("shows_bar", none)))
  g_torn_in_session : mg "torn_in_session" = some (.ref (He.fAd K ("torn_in_session", none)))
  i_FIRST : ∃ t, mg "FIRST" = some (.int 1 t)
  m_Kin_adopter_above : Meth K (He.ga K "Kin") "adopter_above" (He.fAd K ("Kin", some "adopter_above"))
  m_Kin_adopts : Meth K (He.ga K "Kin") "adopts" (He.fAd K ("Kin", some "adopts"))
  m_Kin_bearers : Meth K (He.ga K "Kin") "bearers" (He.fAd K ("Kin", some "bearers"))
  m_Kin_branch : Meth K (He.ga K "Kin") "branch" (He.fAd K ("Kin", some "branch"))
  m_Kin_ended : Meth K (He.ga K "Kin") "ended" (He.fAd K ("Kin", some "ended"))
  m_Kin_further_tops : Meth K (He.ga K "Kin") "further_tops" (He.fAd K ("Kin", some "further_tops"))
  m_Kin_group : Meth K (He.ga K "Kin") "group" (He.fAd K ("Kin", some "group"))
  m_Kin_group_members : Meth K (He.ga K "Kin") "group_members" (He.fAd K ("Kin", some "group_members"))
  m_Kin_groups : Meth K (He.ga K "Kin") "groups" (He.fAd K ("Kin", some "groups"))
  m_Kin_has : Meth K (He.ga K "Kin") "has" (He.fAd K ("Kin", some "has"))
  m_Kin_is_root : Meth K (He.ga K "Kin") "is_root" (He.fAd K ("Kin", some "is_root"))
  m_Kin_is_top : Meth K (He.ga K "Kin") "is_top" (He.fAd K ("Kin", some "is_top"))
  m_Kin_lost_groups : Meth K (He.ga K "Kin") "lost_groups" (He.fAd K ("Kin", some "lost_groups"))
  m_Kin_lost_groups_in : Meth K (He.ga K "Kin") "lost_groups_in" (He.fAd K ("Kin", some "lost_groups_in"))
  m_Kin_lost_sessions : Meth K (He.ga K "Kin") "lost_sessions" (He.fAd K ("Kin", some "lost_sessions"))
  m_Kin_members : Meth K (He.ga K "Kin") "members" (He.fAd K ("Kin", some "members"))
  m_Kin_numbers : Meth K (He.ga K "Kin") "numbers" (He.fAd K ("Kin", some "numbers"))
  m_Kin_parent : Meth K (He.ga K "Kin") "parent" (He.fAd K ("Kin", some "parent"))
  m_Kin_reaches_leader : Meth K (He.ga K "Kin") "reaches_leader" (He.fAd K ("Kin", some "reaches_leader"))
  m_Kin_session : Meth K (He.ga K "Kin") "session" (He.fAd K ("Kin", some "session"))
  m_Kin_sessions : Meth K (He.ga K "Kin") "sessions" (He.fAd K ("Kin", some "sessions"))
  m_Kin_tops : Meth K (He.ga K "Kin") "tops" (He.fAd K ("Kin", some "tops"))
  mk_Kin : Mk K (He.ga K "Kin") (He.fAd K ("Kin", some "__init__"))
  na_Kin_own_rows : NoAttr K (He.ga K "Kin") "own_rows"
variable {P : Program} {w : World} {K : PySem.W.Frag} {mg : Str → Option Value} {base : Heap}
def w_Kin_init0 : DS := wSetF 0 0 (wVar 0) (wDc (iAny (wOp dIx (wVar 1) (wC (.int 0)))) (gN 2) (wYes) (wOp dIx (wVar 2) (wC (.int 0))) (wVar 2) [2])
def S_Kin_init0 : DSp := arD 2 (runD 3 w_Kin_init0)
theorem sc_Kin_init0 : FnScope ["self", "image", "row"] ["self", "image"] (defScope st_Kin_init0) := ⟨rfl, rfl, rfl, by decide +kernel, rfl, by decide +kernel, by decide +kernel⟩
theorem ok_Kin_init0 (cx : Cxt K mg) : ∃ fd, FD P w K mg base (gm K) 1 (He.fAd K ("Kin", some "__init__")) fd ["self", "image"] S_Kin_init0 ∧ FunD K "__init__" "Kin.__init__" (defArgs st_Kin_init0) (defBody st_Kin_init0) (defScope st_Kin_init0) [] [] (He.fAd K ("Kin", some "__init__")) fd := by
  obtain ⟨fd, F⟩ := cx.F_Kin_init0
  refine ⟨fd, FD.mk' F sc_Kin_init0 (fun _ _ _ _ _ _ us hl => match us, hl with | [_, _], _ => rfl) fun cdv A outer s H E hr hg => ?_, F⟩
  have dx := dx_cx (P := P) (w := w) (K := K) (mg := mg) (base := base) (G := gm K) (outer := outer) (H := H) (E := E) rfl sc_Kin_init0.nd hr hg
  exact (qss_one (qs_fld (c := 0) (i := 0) inj0 rfl cx.cls_Kin cx.na_Kin_own_rows (qe_var (i := 0) rfl (.inl rfl)) (qe_dc (own := [("row", 2)]) dx (qi_any dx.K (pd_ix dx.K dx.u1 (qe_var (i := 1) rfl (.inl rfl)) qe_int nofun)) (blk_of (by kernel_rfl)) (by decide) (fun _ _ _ _ _ => (qg_name (i := 2) (DX.blk dx _ _ _ _ _).nd rfl (.inl rfl) (.inr rfl))) (fun _ _ _ _ _ => qts_nil) (fun _ _ _ _ _ => (pd_ix (DX.blk dx _ _ _ _ _).K (DX.blk dx _ _ _ _ _).u1 (qe_var (i := 2) rfl (.inl rfl)) qe_int nofun)) (fun _ _ _ _ _ => (qe_var (i := 2) rfl (.inl rfl))))))
def w_Kin_numbers : DS := wRet (wB (dSorted false) (wCons (wFld 0 0 (wVar 0)) (wNil)))
def S_Kin_numbers : DSp := arD 1 (runD 1 w_Kin_numbers)
theorem sc_Kin_numbers : FnScope ["self"] ["self"] (defScope st_Kin_numbers) := ⟨rfl, rfl, rfl, by decide +kernel, rfl, by decide +kernel, by decide +kernel⟩
theorem ok_Kin_numbers (cx : Cxt K mg) : ∃ fd, FD P w K mg base (gm K) 1 (He.fAd K ("Kin", some "numbers")) fd ["self"] S_Kin_numbers ∧ FunD K "numbers" "Kin.numbers" (defArgs st_Kin_numbers) (defBody st_Kin_numbers) (defScope st_Kin_numbers) [] [] (He.fAd K ("Kin", some "numbers")) fd := by
  obtain ⟨fd, F⟩ := cx.F_Kin_numbers
  refine ⟨fd, FD.mk' F sc_Kin_numbers (fun _ _ _ _ _ _ us hl => match us, hl with | [_], _ => rfl) fun cdv A outer s H E hr hg => ?_, F⟩
  have dx := dx_cx (P := P) (w := w) (K := K) (mg := mg) (base := base) (G := gm K) (outer := outer) (H := H) (E := E) rfl sc_Kin_numbers.nd hr hg
  exact (qss_one (qs_ret (qe_callB (cd_sorted dx.K dx.calm false) rfl cx.n_sorted boot_sorted (qa_cons (qe_fld (c := 0) (i := 0) inj0 rfl cx.cls_Kin cx.na_Kin_own_rows (qe_var (i := 0) rfl (.inl rfl))) qa_nil))))
def w_Kin_has : DS := wRet (wOp (dIn false) (wVar 1) (wFld 0 0 (wVar 0)))
def S_Kin_has : DSp := arD 2 (runD 2 w_Kin_has)
theorem sc_Kin_has : FnScope ["self", "number"] ["self", "number"] (defScope st_Kin_has) := ⟨rfl, rfl, rfl, by decide +kernel, rfl, by decide +kernel, by decide +kernel⟩
theorem ok_Kin_has (cx : Cxt K mg) : ∃ fd, FD P w K mg base (gm K) 1 (He.fAd K ("Kin", some "has")) fd ["self", "number"] S_Kin_has ∧ FunD K "has" "Kin.has" (defArgs st_Kin_has) (defBody st_Kin_has) (defScope st_Kin_has) [] [] (He.fAd K ("Kin", some "has")) fd := by
  obtain ⟨fd, F⟩ := cx.F_Kin_has
  refine ⟨fd, FD.mk' F sc_Kin_has (fun _ _ _ _ _ _ us hl => match us, hl with | [_, _], _ => rfl) fun cdv A outer s H E hr hg => ?_, F⟩
  have dx := dx_cx (P := P) (w := w) (K := K) (mg := mg) (base := base) (G := gm K) (outer := outer) (H := H) (E := E) rfl sc_Kin_has.nd hr hg
  exact (qss_one (qs_ret (pd_cmp (od_in dx.K dx.u1 false rfl) (qe_var (i := 1) rfl (.inl rfl)) (qe_fld (c := 0) (i := 0) inj0 rfl cx.cls_Kin cx.na_Kin_own_rows (qe_var (i := 0) rfl (.inl rfl))) (by rfl))))
def w_Kin_parent : DS := wSeq (wAsg (wOp dIx (wOp dIx (wFld 0 0 (wVar 0)) (wVar 1)) (wC (.int 1))) (gN 2)) (wRet (wIf (wBl (wOp (dIsN false) (wVar 2) (wC .non))) (wC (.int 1)) (wVar 2)))
def S_Kin_parent : DSp := arD 2 (runD 3 w_Kin_parent)
theorem sc_Kin_parent : FnScope ["self", "number", "found"] ["self", "number"] (defScope st_Kin_parent) := ⟨rfl, rfl, rfl, by decide +kernel, rfl, by decide +kernel, by decide +kernel⟩
theorem ok_Kin_parent (cx : Cxt K mg) : ∃ fd, FD P w K mg base (gm K) 1 (He.fAd K ("Kin", some "parent")) fd ["self", "number"] S_Kin_parent ∧ FunD K "parent" "Kin.parent" (defArgs st_Kin_parent) (defBody st_Kin_parent) (defScope st_Kin_parent) [] [] (He.fAd K ("Kin", some "parent")) fd := by
  obtain ⟨fd, F⟩ := cx.F_Kin_parent
  obtain ⟨t_FIRST, h_FIRST⟩ := cx.i_FIRST
  refine ⟨fd, FD.mk' F sc_Kin_parent (fun _ _ _ _ _ _ us hl => match us, hl with | [_, _], _ => rfl) fun cdv A outer s H E hr hg => ?_, F⟩
  have dx := dx_cx (P := P) (w := w) (K := K) (mg := mg) (base := base) (G := gm K) (outer := outer) (H := H) (E := E) rfl sc_Kin_parent.nd hr hg
  exact (qss_cons (qs_set (i := 2) dx.nd rfl (.inl rfl) (pd_ix dx.K dx.u1 (pd_ix dx.K dx.u1 (qe_fld (c := 0) (i := 0) inj0 rfl cx.cls_Kin cx.na_Kin_own_rows (qe_var (i := 0) rfl (.inl rfl))) (qe_var (i := 1) rfl (.inl rfl)) nofun) qe_int nofun) (by rfl) (.inl rfl)) (qss_one (qs_ret (qe_if (qt_cmp (od_isN false rfl) (qe_var (i := 2) rfl (.inl rfl)) qe_non (nomark _)) (qe_glob (v := .int 1) rfl h_FIRST ⟨_, rfl⟩ fun _ => .int 1) (qe_var (i := 2) rfl (.inl rfl))))))
def w_Kin_session : DS := wRet (wIf (wBl (wOp (dEq false) (wVar 1) (wC (.int 1)))) (wC (.int 1)) (wOp dIx (wOp dIx (wFld 0 0 (wVar 0)) (wVar 1)) (wC (.int 2))))
def S_Kin_session : DSp := arD 2 (runD 2 w_Kin_session)
theorem sc_Kin_session : FnScope ["self", "number"] ["self", "number"] (defScope st_Kin_session) := ⟨rfl, rfl, rfl, by decide +kernel, rfl, by decide +kernel, by decide +kernel⟩
theorem ok_Kin_session (cx : Cxt K mg) : ∃ fd, FD P w K mg base (gm K) 1 (He.fAd K ("Kin", some "session")) fd ["self", "number"] S_Kin_session ∧ FunD K "session" "Kin.session" (defArgs st_Kin_session) (defBody st_Kin_session) (defScope st_Kin_session) [] [] (He.fAd K ("Kin", some "session")) fd := by
  obtain ⟨fd, F⟩ := cx.F_Kin_session
  obtain ⟨t_FIRST, h_FIRST⟩ := cx.i_FIRST
  refine ⟨fd, FD.mk' F sc_Kin_session (fun _ _ _ _ _ _ us hl => match us, hl with | [_, _], _ => rfl) fun cdv A outer s H E hr hg => ?_, F⟩
  have dx := dx_cx (P := P) (w := w) (K := K) (mg := mg) (base := base) (G := gm K) (outer := outer) (H := H) (E := E) rfl sc_Kin_session.nd hr hg
  exact (qss_one (qs_ret (qe_if (qt_cmp (od_eq dx.K dx.u65 false rfl) (qe_var (i := 1) rfl (.inl rfl)) (qe_glob (v := .int 1) rfl h_FIRST ⟨_, rfl⟩ fun _ => .int 1) (nomark _)) (qe_glob (v := .int 1) rfl h_FIRST ⟨_, rfl⟩ fun _ => .int 1) (pd_ix dx.K dx.u1 (pd_ix dx.K dx.u1 (qe_fld (c := 0) (i := 0) inj0 rfl cx.cls_Kin cx.na_Kin_own_rows (qe_var (i := 0) rfl (.inl rfl))) (qe_var (i := 1) rfl (.inl rfl)) nofun) qe_int nofun))))
def w_Kin_group : DS := wRet (wOp dIx (wOp dIx (wFld 0 0 (wVar 0)) (wVar 1)) (wC (.int 3)))
def S_Kin_group : DSp := arD 2 (runD 2 w_Kin_group)
theorem sc_Kin_group : FnScope ["self", "number"] ["self", "number"] (defScope st_Kin_group) := ⟨rfl, rfl, rfl, by decide +kernel, rfl, by decide +kernel, by decide +kernel⟩
theorem ok_Kin_group (cx : Cxt K mg) : ∃ fd, FD P w K mg base (gm K) 1 (He.fAd K ("Kin", some "group")) fd ["self", "number"] S_Kin_group ∧ FunD K "group" "Kin.group" (defArgs st_Kin_group) (defBody st_Kin_group) (defScope st_Kin_group) [] [] (He.fAd K ("Kin", some "group")) fd := by
  obtain ⟨fd, F⟩ := cx.F_Kin_group
  refine ⟨fd, FD.mk' F sc_Kin_group (fun _ _ _ _ _ _ us hl => match us, hl with | [_, _], _ => rfl) fun cdv A outer s H E hr hg => ?_, F⟩
  have dx := dx_cx (P := P) (w := w) (K := K) (mg := mg) (base := base) (G := gm K) (outer := outer) (H := H) (E := E) rfl sc_Kin_group.nd hr hg
  exact (qss_one (qs_ret (pd_ix dx.K dx.u1 (pd_ix dx.K dx.u1 (qe_fld (c := 0) (i := 0) inj0 rfl cx.cls_Kin cx.na_Kin_own_rows (qe_var (i := 0) rfl (.inl rfl))) (qe_var (i := 1) rfl (.inl rfl)) nofun) qe_int nofun)))
def w_Kin_adopts : DS := wRet (wOr (wOp (dEq false) (wVar 1) (wC (.int 1))) (wOp dIx (wOp dIx (wFld 0 0 (wVar 0)) (wVar 1)) (wC (.int 4))))
def S_Kin_adopts : DSp := arD 2 (runD 2 w_Kin_adopts)
theorem sc_Kin_adopts : FnScope ["self", "number"] ["self", "number"] (defScope st_Kin_adopts) := ⟨rfl, rfl, rfl, by decide +kernel, rfl, by decide +kernel, by decide +kernel⟩
theorem ok_Kin_adopts (cx : Cxt K mg) : ∃ fd, FD P w K mg base (gm K) 1 (He.fAd K ("Kin", some "adopts")) fd ["self", "number"] S_Kin_adopts ∧ FunD K "adopts" "Kin.adopts" (defArgs st_Kin_adopts) (defBody st_Kin_adopts) (defScope st_Kin_adopts) [] [] (He.fAd K ("Kin", some "adopts")) fd := by
  obtain ⟨fd, F⟩ := cx.F_Kin_adopts
  obtain ⟨t_FIRST, h_FIRST⟩ := cx.i_FIRST
  refine ⟨fd, FD.mk' F sc_Kin_adopts (fun _ _ _ _ _ _ us hl => match us, hl with | [_, _], _ => rfl) fun cdv A outer s H E hr hg => ?_, F⟩
  have dx := dx_cx (P := P) (w := w) (K := K) (mg := mg) (base := base) (G := gm K) (outer := outer) (H := H) (E := E) rfl sc_Kin_adopts.nd hr hg
  exact (qss_one (qs_ret (qe_or dx.K (pd_cmp (od_eq dx.K dx.u65 false rfl) (qe_var (i := 1) rfl (.inl rfl)) (qe_glob (v := .int 1) rfl h_FIRST ⟨_, rfl⟩ fun _ => .int 1) (nomark _)) (qe_one (pd_ix dx.K dx.u1 (pd_ix dx.K dx.u1 (qe_fld (c := 0) (i := 0) inj0 rfl cx.cls_Kin cx.na_Kin_own_rows (qe_var (i := 0) rfl (.inl rfl))) (qe_var (i := 1) rfl (.inl rfl)) nofun) qe_int nofun)))))
def w_Kin_ended : DS := wRet (wOp (dEq false) (wOp dIx (wOp dIx (wFld 0 0 (wVar 0)) (wVar 1)) (wC (.int 5))) (wC (.str "ended")))
def S_Kin_ended : DSp := arD 2 (runD 2 w_Kin_ended)
theorem sc_Kin_ended : FnScope ["self", "number"] ["self", "number"] (defScope st_Kin_ended) := ⟨rfl, rfl, rfl, by decide +kernel, rfl, by decide +kernel, by decide +kernel⟩
theorem ok_Kin_ended (cx : Cxt K mg) : ∃ fd, FD P w K mg base (gm K) 1 (He.fAd K ("Kin", some "ended")) fd ["self", "number"] S_Kin_ended ∧ FunD K "ended" "Kin.ended" (defArgs st_Kin_ended) (defBody st_Kin_ended) (defScope st_Kin_ended) [] [] (He.fAd K ("Kin", some "ended")) fd := by
  obtain ⟨fd, F⟩ := cx.F_Kin_ended
  refine ⟨fd, FD.mk' F sc_Kin_ended (fun _ _ _ _ _ _ us hl => match us, hl with | [_, _], _ => rfl) fun cdv A outer s H E hr hg => ?_, F⟩
  have dx := dx_cx (P := P) (w := w) (K := K) (mg := mg) (base := base) (G := gm K) (outer := outer) (H := H) (E := E) rfl sc_Kin_ended.nd hr hg
  exact (qss_one (qs_ret (pd_cmp (od_eq dx.K dx.u65 false rfl) (pd_ix dx.K dx.u1 (pd_ix dx.K dx.u1 (qe_fld (c := 0) (i := 0) inj0 rfl cx.cls_Kin cx.na_Kin_own_rows (qe_var (i := 0) rfl (.inl rfl))) (qe_var (i := 1) rfl (.inl rfl)) nofun) qe_int nofun) qe_str (nomark _))))
def w_Kin_is_root : DS := wRet (wOp (dIsN false) (wOp dIx (wOp dIx (wFld 0 0 (wVar 0)) (wVar 1)) (wC (.int 1))) (wC .non))
def S_Kin_is_root : DSp := arD 2 (runD 2 w_Kin_is_root)
theorem sc_Kin_is_root : FnScope ["self", "number"] ["self", "number"] (defScope st_Kin_is_root) := ⟨rfl, rfl, rfl, by decide +kernel, rfl, by decide +kernel, by decide +kernel⟩
theorem ok_Kin_is_root (cx : Cxt K mg) : ∃ fd, FD P w K mg base (gm K) 1 (He.fAd K ("Kin", some "is_root")) fd ["self", "number"] S_Kin_is_root ∧ FunD K "is_root" "Kin.is_root" (defArgs st_Kin_is_root) (defBody st_Kin_is_root) (defScope st_Kin_is_root) [] [] (He.fAd K ("Kin", some "is_root")) fd := by
  obtain ⟨fd, F⟩ := cx.F_Kin_is_root
  refine ⟨fd, FD.mk' F sc_Kin_is_root (fun _ _ _ _ _ _ us hl => match us, hl with | [_, _], _ => rfl) fun cdv A outer s H E hr hg => ?_, F⟩
  have dx := dx_cx (P := P) (w := w) (K := K) (mg := mg) (base := base) (G := gm K) (outer := outer) (H := H) (E := E) rfl sc_Kin_is_root.nd hr hg
  exact (qss_one (qs_ret (pd_cmp (od_isN false rfl) (pd_ix dx.K dx.u1 (pd_ix dx.K dx.u1 (qe_fld (c := 0) (i := 0) inj0 rfl cx.cls_Kin cx.na_Kin_own_rows (qe_var (i := 0) rfl (.inl rfl))) (qe_var (i := 1) rfl (.inl rfl)) nofun) qe_int nofun) qe_non (nomark _))))
def w_Kin_sessions : DS := wRet (dSortU false (wLc false (iAny (wMeth 0 S_Kin_numbers [] (wVar 0) wNil)) (gN 1) (wYes) (wMeth 0 S_Kin_session [] (wVar 0) (wCons (wVar 1) (wNil))) [1]))
def S_Kin_sessions : DSp := arD 1 (runD 2 w_Kin_sessions)
theorem sc_Kin_sessions : FnScope ["self", "number"] ["self"] (defScope st_Kin_sessions) := ⟨rfl, rfl, rfl, by decide +kernel, rfl, by decide +kernel, by decide +kernel⟩
theorem ok_Kin_sessions (cx : Cxt K mg) : ∃ fd, FD P w K mg base (gm K) 2 (He.fAd K ("Kin", some "sessions")) fd ["self"] S_Kin_sessions ∧ FunD K "sessions" "Kin.sessions" (defArgs st_Kin_sessions) (defBody st_Kin_sessions) (defScope st_Kin_sessions) [] [] (He.fAd K ("Kin", some "sessions")) fd := by
  obtain ⟨fd, F⟩ := cx.F_Kin_sessions
  obtain ⟨fd_Kin_numbers, k_Kin_numbers, F_Kin_numbers⟩ := ok_Kin_numbers (P := P) (w := w) (base := base) cx
  obtain ⟨fd_Kin_session, k_Kin_session, F_Kin_session⟩ := ok_Kin_session (P := P) (w := w) (base := base) cx
  refine ⟨fd, FD.mk' F sc_Kin_sessions (fun _ _ _ _ _ _ us hl => match us, hl with | [_], _ => rfl) fun cdv A outer s H E hr hg => ?_, F⟩
  have dx := dx_cx (P := P) (w := w) (K := K) (mg := mg) (base := base) (G := gm K) (outer := outer) (H := H) (E := E) rfl sc_Kin_sessions.nd hr hg
  exact (qss_one (qs_ret (qe_sortU dx.K dx.calm false rfl cx.n_sorted rfl cx.n_set (qe_lc (own := [("number", 1)]) dx false (qi_any dx.K (qf_meth0 (pl := _) k_Kin_numbers dx (by decide) (qe_var (i := 0) rfl (.inr (.inl rfl))) cx.cls_Kin rfl (fldOf_ne (by kernel_rfl)) cx.m_Kin_numbers)) (blk_of (by kernel_rfl)) (by decide) (fun _ _ _ _ _ => (qg_name (i := 1) (DX.blk dx _ _ _ _ _).nd rfl (.inl rfl) (.inr rfl))) (fun _ _ _ _ _ => qts_nil) (fun _ _ _ _ _ => (qf_meth (pl := _) k_Kin_session (DX.blk dx _ _ _ _ _) (by decide) (qe_var (i := 0) rfl (.inr (.inl rfl))) cx.cls_Kin rfl (fldOf_ne (by kernel_rfl)) cx.m_Kin_session (qa_cons (qe_var (i := 1) rfl (.inl rfl)) qa_nil)))))))
def w_Kin_groups : DS := wRet (dSortU false (wLc false (iAny (wMeth 0 S_Kin_numbers [] (wVar 0) wNil)) (gN 1) (wYes) (wMeth 0 S_Kin_group [] (wVar 0) (wCons (wVar 1) (wNil))) [1]))
def S_Kin_groups : DSp := arD 1 (runD 2 w_Kin_groups)
theorem sc_Kin_groups : FnScope ["self", "number"] ["self"] (defScope st_Kin_groups) := ⟨rfl, rfl, rfl, by decide +kernel, rfl, by decide +kernel, by decide +kernel⟩
theorem ok_Kin_groups (cx : Cxt K mg) : ∃ fd, FD P w K mg base (gm K) 2 (He.fAd K ("Kin", some "groups")) fd ["self"] S_Kin_groups ∧ FunD K "groups" "Kin.groups" (defArgs st_Kin_groups) (defBody st_Kin_groups) (defScope st_Kin_groups) [] [] (He.fAd K ("Kin", some "groups")) fd := by
  obtain ⟨fd, F⟩ := cx.F_Kin_groups
  obtain ⟨fd_Kin_group, k_Kin_group, F_Kin_group⟩ := ok_Kin_group (P := P) (w := w) (base := base) cx
  obtain ⟨fd_Kin_numbers, k_Kin_numbers, F_Kin_numbers⟩ := ok_Kin_numbers (P := P) (w := w) (base := base) cx
  refine ⟨fd, FD.mk' F sc_Kin_groups (fun _ _ _ _ _ _ us hl => match us, hl with | [_], _ => rfl) fun cdv A outer s H E hr hg => ?_, F⟩
  have dx := dx_cx (P := P) (w := w) (K := K) (mg := mg) (base := base) (G := gm K) (outer := outer) (H := H) (E := E) rfl sc_Kin_groups.nd hr hg
  exact (qss_one (qs_ret (qe_sortU dx.K dx.calm false rfl cx.n_sorted rfl cx.n_set (qe_lc (own := [("number", 1)]) dx false (qi_any dx.K (qf_meth0 (pl := _) k_Kin_numbers dx (by decide) (qe_var (i := 0) rfl (.inr (.inl rfl))) cx.cls_Kin rfl (fldOf_ne (by kernel_rfl)) cx.m_Kin_numbers)) (blk_of (by kernel_rfl)) (by decide) (fun _ _ _ _ _ => (qg_name (i := 1) (DX.blk dx _ _ _ _ _).nd rfl (.inl rfl) (.inr rfl))) (fun _ _ _ _ _ => qts_nil) (fun _ _ _ _ _ => (qf_meth (pl := _) k_Kin_group (DX.blk dx _ _ _ _ _) (by decide) (qe_var (i := 0) rfl (.inr (.inl rfl))) cx.cls_Kin rfl (fldOf_ne (by kernel_rfl)) cx.m_Kin_group (qa_cons (qe_var (i := 1) rfl (.inl rfl)) qa_nil)))))))
def w_Kin_members : DS := wRet (wLc false (iAny (wMeth 0 S_Kin_numbers [] (wVar 0) wNil)) (gN 2) (wBl (wOp (dEq false) (wMeth 0 S_Kin_session [] (wVar 0) (wCons (wVar 2) (wNil))) (wVar 1))) (wVar 2) [2])
def S_Kin_members : DSp := arD 2 (runD 3 w_Kin_members)
theorem sc_Kin_members : FnScope ["self", "session", "number"] ["self", "session"] (defScope st_Kin_members) := ⟨rfl, rfl, rfl, by decide +kernel, rfl, by decide +kernel, by decide +kernel⟩
theorem ok_Kin_members (cx : Cxt K mg) : ∃ fd, FD P w K mg base (gm K) 2 (He.fAd K ("Kin", some "members")) fd ["self", "session"] S_Kin_members ∧ FunD K "members" "Kin.members" (defArgs st_Kin_members) (defBody st_Kin_members) (defScope st_Kin_members) [] [] (He.fAd K ("Kin", some "members")) fd := by
  obtain ⟨fd, F⟩ := cx.F_Kin_members
  obtain ⟨fd_Kin_numbers, k_Kin_numbers, F_Kin_numbers⟩ := ok_Kin_numbers (P := P) (w := w) (base := base) cx
  obtain ⟨fd_Kin_session, k_Kin_session, F_Kin_session⟩ := ok_Kin_session (P := P) (w := w) (base := base) cx
  refine ⟨fd, FD.mk' F sc_Kin_members (fun _ _ _ _ _ _ us hl => match us, hl with | [_, _], _ => rfl) fun cdv A outer s H E hr hg => ?_, F⟩
  have dx := dx_cx (P := P) (w := w) (K := K) (mg := mg) (base := base) (G := gm K) (outer := outer) (H := H) (E := E) rfl sc_Kin_members.nd hr hg
  exact (qss_one (qs_ret (qe_lc (own := [("number", 2)]) dx false (qi_any dx.K (qf_meth0 (pl := _) k_Kin_numbers dx (by decide) (qe_var (i := 0) rfl (.inr (.inl rfl))) cx.cls_Kin rfl (fldOf_ne (by kernel_rfl)) cx.m_Kin_numbers)) (blk_of (by kernel_rfl)) (by decide) (fun _ _ _ _ _ => (qg_name (i := 2) (DX.blk dx _ _ _ _ _).nd rfl (.inl rfl) (.inr rfl))) (fun _ _ _ _ _ => (qts_one (qt_cmp (od_eq (DX.blk dx _ _ _ _ _).K (DX.blk dx _ _ _ _ _).u65 false rfl) (qf_meth (pl := _) k_Kin_session (DX.blk dx _ _ _ _ _) (by decide) (qe_var (i := 0) rfl (.inr (.inl rfl))) cx.cls_Kin rfl (fldOf_ne (by kernel_rfl)) cx.m_Kin_session (qa_cons (qe_var (i := 2) rfl (.inl rfl)) qa_nil)) (qe_var (i := 1) rfl (.inr (.inl rfl))) (nomark _)))) (fun _ _ _ _ _ => (qe_var (i := 2) rfl (.inl rfl))))))
def w_Kin_group_members : DS := wRet (wLc false (iAny (wMeth 0 S_Kin_numbers [] (wVar 0) wNil)) (gN 2) (wBl (wOp (dEq false) (wMeth 0 S_Kin_group [] (wVar 0) (wCons (wVar 2) (wNil))) (wVar 1))) (wVar 2) [2])
def S_Kin_group_members : DSp := arD 2 (runD 3 w_Kin_group_members)
theorem sc_Kin_group_members : FnScope ["self", "group", "number"] ["self", "group"] (defScope st_Kin_group_members) := ⟨rfl, rfl, rfl, by decide +kernel, rfl, by decide +kernel, by decide +kernel⟩
theorem ok_Kin_group_members (cx : Cxt K mg) : ∃ fd, FD P w K mg base (gm K) 2 (He.fAd K ("Kin", some "group_members")) fd ["self", "group"] S_Kin_group_members ∧ FunD K "group_members" "Kin.group_members" (defArgs st_Kin_group_members) (defBody st_Kin_group_members) (defScope st_Kin_group_members) [] [] (He.fAd K ("Kin", some "group_members")) fd := by
  obtain ⟨fd, F⟩ := cx.F_Kin_group_members
  obtain ⟨fd_Kin_group, k_Kin_group, F_Kin_group⟩ := ok_Kin_group (P := P) (w := w) (base := base) cx
  obtain ⟨fd_Kin_numbers, k_Kin_numbers, F_Kin_numbers⟩ := ok_Kin_numbers (P := P) (w := w) (base := base) cx
  refine ⟨fd, FD.mk' F sc_Kin_group_members (fun _ _ _ _ _ _ us hl => match us, hl with | [_, _], _ => rfl) fun cdv A outer s H E hr hg => ?_, F⟩
  have dx := dx_cx (P := P) (w := w) (K := K) (mg := mg) (base := base) (G := gm K) (outer := outer) (H := H) (E := E) rfl sc_Kin_group_members.nd hr hg
  exact (qss_one (qs_ret (qe_lc (own := [("number", 2)]) dx false (qi_any dx.K (qf_meth0 (pl := _) k_Kin_numbers dx (by decide) (qe_var (i := 0) rfl (.inr (.inl rfl))) cx.cls_Kin rfl (fldOf_ne (by kernel_rfl)) cx.m_Kin_numbers)) (blk_of (by kernel_rfl)) (by decide) (fun _ _ _ _ _ => (qg_name (i := 2) (DX.blk dx _ _ _ _ _).nd rfl (.inl rfl) (.inr rfl))) (fun _ _ _ _ _ => (qts_one (qt_cmp (od_eq (DX.blk dx _ _ _ _ _).K (DX.blk dx _ _ _ _ _).u65 false rfl) (qf_meth (pl := _) k_Kin_group (DX.blk dx _ _ _ _ _) (by decide) (qe_var (i := 0) rfl (.inr (.inl rfl))) cx.cls_Kin rfl (fldOf_ne (by kernel_rfl)) cx.m_Kin_group (qa_cons (qe_var (i := 2) rfl (.inl rfl)) qa_nil)) (qe_var (i := 1) rfl (.inr (.inl rfl))) (nomark _)))) (fun _ _ _ _ _ => (qe_var (i := 2) rfl (.inl rfl))))))
def w_Kin_is_top : DS := wRet (wOr (wMeth 0 S_Kin_is_root [] (wVar 0) (wCons (wVar 1) (wNil))) (wOp (dEq true) (wMeth 0 S_Kin_session [] (wVar 0) (wCons (wMeth 0 S_Kin_parent [] (wVar 0) (wCons (wVar 1) (wNil))) (wNil))) (wMeth 0 S_Kin_session [] (wVar 0) (wCons (wVar 1) (wNil)))))
def S_Kin_is_top : DSp := arD 2 (runD 2 w_Kin_is_top)
theorem sc_Kin_is_top : FnScope ["self", "number"] ["self", "number"] (defScope st_Kin_is_top) := ⟨rfl, rfl, rfl, by decide +kernel, rfl, by decide +kernel, by decide +kernel⟩
theorem ok_Kin_is_top (cx : Cxt K mg) : ∃ fd, FD P w K mg base (gm K) 2 (He.fAd K ("Kin", some "is_top")) fd ["self", "number"] S_Kin_is_top ∧ FunD K "is_top" "Kin.is_top" (defArgs st_Kin_is_top) (defBody st_Kin_is_top) (defScope st_Kin_is_top) [] [] (He.fAd K ("Kin", some "is_top")) fd := by
  obtain ⟨fd, F⟩ := cx.F_Kin_is_top
  obtain ⟨fd_Kin_is_root, k_Kin_is_root, F_Kin_is_root⟩ := ok_Kin_is_root (P := P) (w := w) (base := base) cx
  obtain ⟨fd_Kin_parent, k_Kin_parent, F_Kin_parent⟩ := ok_Kin_parent (P := P) (w := w) (base := base) cx
  obtain ⟨fd_Kin_session, k_Kin_session, F_Kin_session⟩ := ok_Kin_session (P := P) (w := w) (base := base) cx
  refine ⟨fd, FD.mk' F sc_Kin_is_top (fun _ _ _ _ _ _ us hl => match us, hl with | [_, _], _ => rfl) fun cdv A outer s H E hr hg => ?_, F⟩
  have dx := dx_cx (P := P) (w := w) (K := K) (mg := mg) (base := base) (G := gm K) (outer := outer) (H := H) (E := E) rfl sc_Kin_is_top.nd hr hg
  exact (qss_one (qs_ret (qe_or dx.K (qf_meth (pl := _) k_Kin_is_root dx (by decide) (qe_var (i := 0) rfl (.inl rfl)) cx.cls_Kin rfl (fldOf_ne (by kernel_rfl)) cx.m_Kin_is_root (qa_cons (qe_var (i := 1) rfl (.inl rfl)) qa_nil)) (qe_one (pd_cmp (od_eq dx.K dx.u65 true rfl) (qf_meth (pl := _) k_Kin_session dx (by decide) (qe_var (i := 0) rfl (.inl rfl)) cx.cls_Kin rfl (fldOf_ne (by kernel_rfl)) cx.m_Kin_session (qa_cons (qf_meth (pl := _) k_Kin_parent dx (by decide) (qe_var (i := 0) rfl (.inl rfl)) cx.cls_Kin rfl (fldOf_ne (by kernel_rfl)) cx.m_Kin_parent (qa_cons (qe_var (i := 1) rfl (.inl rfl)) qa_nil)) qa_nil)) (qf_meth (pl := _) k_Kin_session dx (by decide) (qe_var (i := 0) rfl (.inl rfl)) cx.cls_Kin rfl (fldOf_ne (by kernel_rfl)) cx.m_Kin_session (qa_cons (qe_var (i := 1) rfl (.inl rfl)) qa_nil)) (nomark _))))))
def w_Kin_tops : DS := wRet (wLc false (iAny (wMeth 0 S_Kin_members [] (wVar 0) (wCons (wVar 1) (wNil)))) (gN 2) (wTru (wMeth 0 S_Kin_is_top [] (wVar 0) (wCons (wVar 2) (wNil)))) (wVar 2) [2])
def S_Kin_tops : DSp := arD 2 (runD 3 w_Kin_tops)
theorem sc_Kin_tops : FnScope ["self", "session", "number"] ["self", "session"] (defScope st_Kin_tops) := ⟨rfl, rfl, rfl, by decide +kernel, rfl, by decide +kernel, by decide +kernel⟩
theorem ok_Kin_tops (cx : Cxt K mg) : ∃ fd, FD P w K mg base (gm K) 3 (He.fAd K ("Kin", some "tops")) fd ["self", "session"] S_Kin_tops ∧ FunD K "tops" "Kin.tops" (defArgs st_Kin_tops) (defBody st_Kin_tops) (defScope st_Kin_tops) [] [] (He.fAd K ("Kin", some "tops")) fd := by
  obtain ⟨fd, F⟩ := cx.F_Kin_tops
  obtain ⟨fd_Kin_is_top, k_Kin_is_top, F_Kin_is_top⟩ := ok_Kin_is_top (P := P) (w := w) (base := base) cx
  obtain ⟨fd_Kin_members, k_Kin_members, F_Kin_members⟩ := ok_Kin_members (P := P) (w := w) (base := base) cx
  refine ⟨fd, FD.mk' F sc_Kin_tops (fun _ _ _ _ _ _ us hl => match us, hl with | [_, _], _ => rfl) fun cdv A outer s H E hr hg => ?_, F⟩
  have dx := dx_cx (P := P) (w := w) (K := K) (mg := mg) (base := base) (G := gm K) (outer := outer) (H := H) (E := E) rfl sc_Kin_tops.nd hr hg
  exact (qss_one (qs_ret (qe_lc (own := [("number", 2)]) dx false (qi_any dx.K (qf_meth (pl := _) k_Kin_members dx (by decide) (qe_var (i := 0) rfl (.inr (.inl rfl))) cx.cls_Kin rfl (fldOf_ne (by kernel_rfl)) cx.m_Kin_members (qa_cons (qe_var (i := 1) rfl (.inl rfl)) qa_nil))) (blk_of (by kernel_rfl)) (by decide) (fun _ _ _ _ _ => (qg_name (i := 2) (DX.blk dx _ _ _ _ _).nd rfl (.inl rfl) (.inr rfl))) (fun _ _ _ _ _ => (qts_one (qt_truth (DX.blk dx _ _ _ _ _).K (qf_meth (pl := _) k_Kin_is_top (DX.blk dx _ _ _ _ _) (by decide) (qe_var (i := 0) rfl (.inr (.inl rfl))) cx.cls_Kin rfl (fldOf_ne (by kernel_rfl)) cx.m_Kin_is_top (qa_cons (qe_var (i := 2) rfl (.inl rfl)) qa_nil))))) (fun _ _ _ _ _ => (qe_var (i := 2) rfl (.inl rfl))))))
def w_Kin_further_tops : DS := wRet (wLc false (iAny (wMeth 0 S_Kin_tops [] (wVar 0) (wCons (wVar 1) (wNil)))) (gN 2) (wBl (wOp (dEq true) (wVar 2) (wVar 1))) (wVar 2) [2])
def S_Kin_further_tops : DSp := arD 2 (runD 3 w_Kin_further_tops)
theorem sc_Kin_further_tops : FnScope ["self", "session", "number"] ["self", "session"] (defScope st_Kin_further_tops) := ⟨rfl, rfl, rfl, by decide +kernel, rfl, by decide +kernel, by decide +kernel⟩
theorem ok_Kin_further_tops (cx : Cxt K mg) : ∃ fd, FD P w K mg base (gm K) 4 (He.fAd K ("Kin", some "further_tops")) fd ["self", "session"] S_Kin_further_tops ∧ FunD K "further_tops" "Kin.further_tops" (defArgs st_Kin_further_tops) (defBody st_Kin_further_tops) (defScope st_Kin_further_tops) [] [] (He.fAd K ("Kin", some "further_tops")) fd := by
  obtain ⟨fd, F⟩ := cx.F_Kin_further_tops
  obtain ⟨fd_Kin_tops, k_Kin_tops, F_Kin_tops⟩ := ok_Kin_tops (P := P) (w := w) (base := base) cx
  refine ⟨fd, FD.mk' F sc_Kin_further_tops (fun _ _ _ _ _ _ us hl => match us, hl with | [_, _], _ => rfl) fun cdv A outer s H E hr hg => ?_, F⟩
  have dx := dx_cx (P := P) (w := w) (K := K) (mg := mg) (base := base) (G := gm K) (outer := outer) (H := H) (E := E) rfl sc_Kin_further_tops.nd hr hg
  exact (qss_one (qs_ret (qe_lc (own := [("number", 2)]) dx false (qi_any dx.K (qf_meth (pl := _) k_Kin_tops dx (by decide) (qe_var (i := 0) rfl (.inl rfl)) cx.cls_Kin rfl (fldOf_ne (by kernel_rfl)) cx.m_Kin_tops (qa_cons (qe_var (i := 1) rfl (.inr (.inl rfl))) qa_nil))) (blk_of (by kernel_rfl)) (by decide) (fun _ _ _ _ _ => (qg_name (i := 2) (DX.blk dx _ _ _ _ _).nd rfl (.inl rfl) (.inr rfl))) (fun _ _ _ _ _ => (qts_one (qt_cmp (od_eq (DX.blk dx _ _ _ _ _).K (DX.blk dx _ _ _ _ _).u65 true rfl) (qe_var (i := 2) rfl (.inl rfl)) (qe_var (i := 1) rfl (.inr (.inl rfl))) (nomark _)))) (fun _ _ _ _ _ => (qe_var (i := 2) rfl (.inl rfl))))))
def w_Kin_adopter_above : DS := wSeq (wAsg (wMeth 0 S_Kin_parent [] (wVar 0) (wCons (wVar 1) (wNil))) (gN 2)) (wSeq (wWhile (wNotT (wTru (wMeth 0 S_Kin_adopts [] (wVar 0) (wCons (wVar 2) (wNil))))) (wAsg (wMeth 0 S_Kin_parent [] (wVar 0) (wCons (wVar 2) (wNil))) (gN 2))) (wRet (wVar 2)))
def S_Kin_adopter_above : DSp := arD 2 (runD 3 w_Kin_adopter_above)
theorem sc_Kin_adopter_above : FnScope ["self", "number", "found"] ["self", "number"] (defScope st_Kin_adopter_above) := ⟨rfl, rfl, rfl, by decide +kernel, rfl, by decide +kernel, by decide +kernel⟩
theorem ok_Kin_adopter_above (cx : Cxt K mg) : ∃ fd, FD P w K mg base (gm K) 2 (He.fAd K ("Kin", some "adopter_above")) fd ["self", "number"] S_Kin_adopter_above ∧ FunD K "adopter_above" "Kin.adopter_above" (defArgs st_Kin_adopter_above) (defBody st_Kin_adopter_above) (defScope st_Kin_adopter_above) [] [] (He.fAd K ("Kin", some "adopter_above")) fd := by
  obtain ⟨fd, F⟩ := cx.F_Kin_adopter_above
  obtain ⟨fd_Kin_adopts, k_Kin_adopts, F_Kin_adopts⟩ := ok_Kin_adopts (P := P) (w := w) (base := base) cx
  obtain ⟨fd_Kin_parent, k_Kin_parent, F_Kin_parent⟩ := ok_Kin_parent (P := P) (w := w) (base := base) cx
  refine ⟨fd, FD.mk' F sc_Kin_adopter_above (fun _ _ _ _ _ _ us hl => match us, hl with | [_, _], _ => rfl) fun cdv A outer s H E hr hg => ?_, F⟩
  have dx := dx_cx (P := P) (w := w) (K := K) (mg := mg) (base := base) (G := gm K) (outer := outer) (H := H) (E := E) rfl sc_Kin_adopter_above.nd hr hg
  exact (qss_cons (qs_set (i := 2) dx.nd rfl (.inl rfl) (qf_meth (pl := _) k_Kin_parent dx (by decide) (qe_var (i := 0) rfl (.inl rfl)) cx.cls_Kin rfl (fldOf_ne (by kernel_rfl)) cx.m_Kin_parent (qa_cons (qe_var (i := 1) rfl (.inl rfl)) qa_nil)) (by rfl) (.inl rfl)) (qss_cons (qs_while dx (qt_not (qt_truth dx.K (qf_meth (pl := _) k_Kin_adopts dx (by decide) (qe_var (i := 0) rfl (.inl rfl)) cx.cls_Kin rfl (fldOf_ne (by kernel_rfl)) cx.m_Kin_adopts (qa_cons (qe_var (i := 2) rfl (.inl rfl)) qa_nil)))) (qss_one (qs_set (i := 2) dx.nd rfl (.inl rfl) (qf_meth (pl := _) k_Kin_parent dx (by decide) (qe_var (i := 0) rfl (.inl rfl)) cx.cls_Kin rfl (fldOf_ne (by kernel_rfl)) cx.m_Kin_parent (qa_cons (qe_var (i := 2) rfl (.inl rfl)) qa_nil)) (by rfl) (.inl rfl)))) (qss_one (qs_ret (qe_var (i := 2) rfl (.inl rfl))))))
def w_Kin_branch : DS := wSeq (wAsg (wVar 2) (gN 3)) (wSeq (wWhile (wAndT (wBl (wOp (dEq true) (wVar 3) (wC (.int 1)))) (wBl (wOp (dEq true) (wMeth 0 S_Kin_parent [] (wVar 0) (wCons (wVar 3) (wNil))) (wVar 1)))) (wAsg (wMeth 0 S_Kin_parent [] (wVar 0) (wCons (wVar 3) (wNil))) (gN 3))) (wRet (wIf (wBl (wOp (dEq false) (wVar 3) (wC (.int 1)))) (wC .non) (wVar 3))))
def S_Kin_branch : DSp := arD 3 (runD 4 w_Kin_branch)
theorem sc_Kin_branch : FnScope ["self", "parent", "number", "found"] ["self", "parent", "number"] (defScope st_Kin_branch) := ⟨rfl, rfl, rfl, by decide +kernel, rfl, by decide +kernel, by decide +kernel⟩
theorem ok_Kin_branch (cx : Cxt K mg) : ∃ fd, FD P w K mg base (gm K) 2 (He.fAd K ("Kin", some "branch")) fd ["self", "parent", "number"] S_Kin_branch ∧ FunD K "branch" "Kin.branch" (defArgs st_Kin_branch) (defBody st_Kin_branch) (defScope st_Kin_branch) [] [] (He.fAd K ("Kin", some "branch")) fd := by
  obtain ⟨fd, F⟩ := cx.F_Kin_branch
  obtain ⟨fd_Kin_parent, k_Kin_parent, F_Kin_parent⟩ := ok_Kin_parent (P := P) (w := w) (base := base) cx
  obtain ⟨t_FIRST, h_FIRST⟩ := cx.i_FIRST
  refine ⟨fd, FD.mk' F sc_Kin_branch (fun _ _ _ _ _ _ us hl => match us, hl with | [_, _, _], _ => rfl) fun cdv A outer s H E hr hg => ?_, F⟩
  have dx := dx_cx (P := P) (w := w) (K := K) (mg := mg) (base := base) (G := gm K) (outer := outer) (H := H) (E := E) rfl sc_Kin_branch.nd hr hg
  exact (qss_cons (qs_set (i := 3) dx.nd rfl (.inl rfl) (qe_var (i := 2) rfl (.inl rfl)) (by rfl) (.inl rfl)) (qss_cons (qs_while dx (PW.pt (qw_and (qt_cmp (od_eq dx.K dx.u65 true rfl) (qe_var (i := 3) rfl (.inl rfl)) (qe_glob (v := .int 1) rfl h_FIRST ⟨_, rfl⟩ fun _ => .int 1) (nomark _)) (qw_and1 (qt_cmp (od_eq dx.K dx.u65 true rfl) (qf_meth (pl := _) k_Kin_parent dx (by decide) (qe_var (i := 0) rfl (.inl rfl)) cx.cls_Kin rfl (fldOf_ne (by kernel_rfl)) cx.m_Kin_parent (qa_cons (qe_var (i := 3) rfl (.inl rfl)) qa_nil)) (qe_var (i := 1) rfl (.inl rfl)) (nomark _))))) (qss_one (qs_set (i := 3) dx.nd rfl (.inl rfl) (qf_meth (pl := _) k_Kin_parent dx (by decide) (qe_var (i := 0) rfl (.inl rfl)) cx.cls_Kin rfl (fldOf_ne (by kernel_rfl)) cx.m_Kin_parent (qa_cons (qe_var (i := 3) rfl (.inl rfl)) qa_nil)) (by rfl) (.inl rfl)))) (qss_one (qs_ret (qe_if (qt_cmp (od_eq dx.K dx.u65 false rfl) (qe_var (i := 3) rfl (.inl rfl)) (qe_glob (v := .int 1) rfl h_FIRST ⟨_, rfl⟩ fun _ => .int 1) (nomark _)) qe_non (qe_var (i := 3) rfl (.inl rfl)))))))
def w_Kin_lost_sessions : DS := wRet (wLc true (iAny (wMeth 0 S_Kin_sessions [] (wVar 0) wNil)) (gN 1) (wAndT (wBl (wOp (dEq true) (wVar 1) (wC (.int 1)))) (wNotT (wTru (wMeth 0 S_Kin_has [] (wVar 0) (wCons (wVar 1) (wNil)))))) (wVar 1) [1])
def S_Kin_lost_sessions : DSp := arD 1 (runD 2 w_Kin_lost_sessions)
theorem sc_Kin_lost_sessions : FnScope ["self", "session"] ["self"] (defScope st_Kin_lost_sessions) := ⟨rfl, rfl, rfl, by decide +kernel, rfl, by decide +kernel, by decide +kernel⟩
theorem ok_Kin_lost_sessions (cx : Cxt K mg) : ∃ fd, FD P w K mg base (gm K) 3 (He.fAd K ("Kin", some "lost_sessions")) fd ["self"] S_Kin_lost_sessions ∧ FunD K "lost_sessions" "Kin.lost_sessions" (defArgs st_Kin_lost_sessions) (defBody st_Kin_lost_sessions) (defScope st_Kin_lost_sessions) [] [] (He.fAd K ("Kin", some "lost_sessions")) fd := by
  obtain ⟨fd, F⟩ := cx.F_Kin_lost_sessions
  obtain ⟨fd_Kin_has, k_Kin_has, F_Kin_has⟩ := ok_Kin_has (P := P) (w := w) (base := base) cx
  obtain ⟨fd_Kin_sessions, k_Kin_sessions, F_Kin_sessions⟩ := ok_Kin_sessions (P := P) (w := w) (base := base) cx
  obtain ⟨t_FIRST, h_FIRST⟩ := cx.i_FIRST
  refine ⟨fd, FD.mk' F sc_Kin_lost_sessions (fun _ _ _ _ _ _ us hl => match us, hl with | [_], _ => rfl) fun cdv A outer s H E hr hg => ?_, F⟩
  have dx := dx_cx (P := P) (w := w) (K := K) (mg := mg) (base := base) (G := gm K) (outer := outer) (H := H) (E := E) rfl sc_Kin_lost_sessions.nd hr hg
  exact (qss_one (qs_ret (qe_lc (own := [("session", 1)]) dx true (qi_any dx.K (qf_meth0 (pl := _) k_Kin_sessions dx (by decide) (qe_var (i := 0) rfl (.inr (.inl rfl))) cx.cls_Kin rfl (fldOf_ne (by kernel_rfl)) cx.m_Kin_sessions)) (blk_of (by kernel_rfl)) (by decide) (fun _ _ _ _ _ => (qg_name (i := 1) (DX.blk dx _ _ _ _ _).nd rfl (.inl rfl) (.inr rfl))) (fun _ _ _ _ _ => (qts_one (PW.pt (qw_and (qt_cmp (od_eq (DX.blk dx _ _ _ _ _).K (DX.blk dx _ _ _ _ _).u65 true rfl) (qe_var (i := 1) rfl (.inl rfl)) (qe_glob (v := .int 1) rfl h_FIRST ⟨_, rfl⟩ fun _ => .int 1) (nomark _)) (qw_and1 (qt_not (qt_truth (DX.blk dx _ _ _ _ _).K (qf_meth (pl := _) k_Kin_has (DX.blk dx _ _ _ _ _) (by decide) (qe_var (i := 0) rfl (.inr (.inl rfl))) cx.cls_Kin rfl (fldOf_ne (by kernel_rfl)) cx.m_Kin_has (qa_cons (qe_var (i := 1) rfl (.inl rfl)) qa_nil))))))))) (fun _ _ _ _ _ => (qe_var (i := 1) rfl (.inl rfl))))))
def w_Kin_lost_groups : DS := wSeq (wAsg (wOp (dAdd false) (wLst false (wCons (wC (.int 1)) (wNil))) (wMeth 0 S_Kin_lost_sessions [] (wVar 0) wNil)) (gN 1)) (wRet (wLc true (iAny (wMeth 0 S_Kin_groups [] (wVar 0) wNil)) (gN 2) (wAndT (wBl (wOp (dIn true) (wVar 2) (wVar 1))) (wNotT (wTru (wMeth 0 S_Kin_has [] (wVar 0) (wCons (wVar 2) (wNil)))))) (wVar 2) [2]))
def S_Kin_lost_groups : DSp := arD 1 (runD 3 w_Kin_lost_groups)
theorem sc_Kin_lost_groups : FnScope ["self", "known", "group"] ["self"] (defScope st_Kin_lost_groups) := ⟨rfl, rfl, rfl, by decide +kernel, rfl, by decide +kernel, by decide +kernel⟩
theorem ok_Kin_lost_groups (cx : Cxt K mg) : ∃ fd, FD P w K mg base (gm K) 4 (He.fAd K ("Kin", some "lost_groups")) fd ["self"] S_Kin_lost_groups ∧ FunD K "lost_groups" "Kin.lost_groups" (defArgs st_Kin_lost_groups) (defBody st_Kin_lost_groups) (defScope st_Kin_lost_groups) [] [] (He.fAd K ("Kin", some "lost_groups")) fd := by
  obtain ⟨fd, F⟩ := cx.F_Kin_lost_groups
  obtain ⟨fd_Kin_groups, k_Kin_groups, F_Kin_groups⟩ := ok_Kin_groups (P := P) (w := w) (base := base) cx
  obtain ⟨fd_Kin_has, k_Kin_has, F_Kin_has⟩ := ok_Kin_has (P := P) (w := w) (base := base) cx
  obtain ⟨fd_Kin_lost_sessions, k_Kin_lost_sessions, F_Kin_lost_sessions⟩ := ok_Kin_lost_sessions (P := P) (w := w) (base := base) cx
  obtain ⟨t_FIRST, h_FIRST⟩ := cx.i_FIRST
  refine ⟨fd, FD.mk' F sc_Kin_lost_groups (fun _ _ _ _ _ _ us hl => match us, hl with | [_], _ => rfl) fun cdv A outer s H E hr hg => ?_, F⟩
  have dx := dx_cx (P := P) (w := w) (K := K) (mg := mg) (base := base) (G := gm K) (outer := outer) (H := H) (E := E) rfl sc_Kin_lost_groups.nd hr hg
  exact (qss_cons (qs_set (i := 1) dx.nd rfl (.inr rfl) (pd_op (od_add dx.K false) (qe_lst false (qa_cons (qe_glob (v := .int 1) rfl h_FIRST ⟨_, rfl⟩ fun _ => .int 1) qa_nil)) (qf_meth0 (pl := _) k_Kin_lost_sessions dx (by decide) (qe_var (i := 0) rfl (.inr (.inl rfl))) cx.cls_Kin rfl (fldOf_ne (by kernel_rfl)) cx.m_Kin_lost_sessions)) (by rfl) (.inl rfl)) (qss_one (qs_ret (qe_lc (own := [("group", 2)]) dx true (qi_any dx.K (qf_meth0 (pl := _) k_Kin_groups dx (by decide) (qe_var (i := 0) rfl (.inr (.inl rfl))) cx.cls_Kin rfl (fldOf_ne (by kernel_rfl)) cx.m_Kin_groups)) (blk_of (by kernel_rfl)) (by decide) (fun _ _ _ _ _ => (qg_name (i := 2) (DX.blk dx _ _ _ _ _).nd rfl (.inl rfl) (.inr rfl))) (fun _ _ _ _ _ => (qts_one (PW.pt (qw_and (qt_cmp (od_in (DX.blk dx _ _ _ _ _).K (DX.blk dx _ _ _ _ _).u1 true rfl) (qe_var (i := 2) rfl (.inl rfl)) (qe_var (i := 1) rfl (.inr (.inl rfl))) (by rfl)) (qw_and1 (qt_not (qt_truth (DX.blk dx _ _ _ _ _).K (qf_meth (pl := _) k_Kin_has (DX.blk dx _ _ _ _ _) (by decide) (qe_var (i := 0) rfl (.inr (.inl rfl))) cx.cls_Kin rfl (fldOf_ne (by kernel_rfl)) cx.m_Kin_has (qa_cons (qe_var (i := 2) rfl (.inl rfl)) qa_nil))))))))) (fun _ _ _ _ _ => (qe_var (i := 2) rfl (.inl rfl)))))))
def w_Kin_lost_groups_in : DS := wRet (wLc false (iAny (wMeth 0 S_Kin_lost_groups [] (wVar 0) wNil)) (gN 2) (wBl (wOp (dEq false) (wMeth 0 S_Kin_session [] (wVar 0) (wCons (wOp dIx (wMeth 0 S_Kin_group_members [] (wVar 0) (wCons (wVar 2) (wNil))) (wC (.int 0))) (wNil))) (wVar 1))) (wVar 2) [2])
def S_Kin_lost_groups_in : DSp := arD 2 (runD 3 w_Kin_lost_groups_in)
theorem sc_Kin_lost_groups_in : FnScope ["self", "session", "group"] ["self", "session"] (defScope st_Kin_lost_groups_in) := ⟨rfl, rfl, rfl, by decide +kernel, rfl, by decide +kernel, by decide +kernel⟩
theorem ok_Kin_lost_groups_in (cx : Cxt K mg) : ∃ fd, FD P w K mg base (gm K) 5 (He.fAd K ("Kin", some "lost_groups_in")) fd ["self", "session"] S_Kin_lost_groups_in ∧ FunD K "lost_groups_in" "Kin.lost_groups_in" (defArgs st_Kin_lost_groups_in) (defBody st_Kin_lost_groups_in) (defScope st_Kin_lost_groups_in) [] [] (He.fAd K ("Kin", some "lost_groups_in")) fd := by
  obtain ⟨fd, F⟩ := cx.F_Kin_lost_groups_in
  obtain ⟨fd_Kin_group_members, k_Kin_group_members, F_Kin_group_members⟩ := ok_Kin_group_members (P := P) (w := w) (base := base) cx
  obtain ⟨fd_Kin_lost_groups, k_Kin_lost_groups, F_Kin_lost_groups⟩ := ok_Kin_lost_groups (P := P) (w := w) (base := base) cx
  obtain ⟨fd_Kin_session, k_Kin_session, F_Kin_session⟩ := ok_Kin_session (P := P) (w := w) (base := base) cx
  refine ⟨fd, FD.mk' F sc_Kin_lost_groups_in (fun _ _ _ _ _ _ us hl => match us, hl with | [_, _], _ => rfl) fun cdv A outer s H E hr hg => ?_, F⟩
  have dx := dx_cx (P := P) (w := w) (K := K) (mg := mg) (base := base) (G := gm K) (outer := outer) (H := H) (E := E) rfl sc_Kin_lost_groups_in.nd hr hg
  exact (qss_one (qs_ret (qe_lc (own := [("group", 2)]) dx false (qi_any dx.K (qf_meth0 (pl := _) k_Kin_lost_groups dx (by decide) (qe_var (i := 0) rfl (.inr (.inl rfl))) cx.cls_Kin rfl (fldOf_ne (by kernel_rfl)) cx.m_Kin_lost_groups)) (blk_of (by kernel_rfl)) (by decide) (fun _ _ _ _ _ => (qg_name (i := 2) (DX.blk dx _ _ _ _ _).nd rfl (.inl rfl) (.inr rfl))) (fun _ _ _ _ _ => (qts_one (qt_cmp (od_eq (DX.blk dx _ _ _ _ _).K (DX.blk dx _ _ _ _ _).u65 false rfl) (qf_meth (pl := _) k_Kin_session (DX.blk dx _ _ _ _ _) (by decide) (qe_var (i := 0) rfl (.inr (.inl rfl))) cx.cls_Kin rfl (fldOf_ne (by kernel_rfl)) cx.m_Kin_session (qa_cons (pd_ix (DX.blk dx _ _ _ _ _).K (DX.blk dx _ _ _ _ _).u1 (qf_meth (pl := _) k_Kin_group_members (DX.blk dx _ _ _ _ _) (by decide) (qe_var (i := 0) rfl (.inr (.inl rfl))) cx.cls_Kin rfl (fldOf_ne (by kernel_rfl)) cx.m_Kin_group_members (qa_cons (qe_var (i := 2) rfl (.inl rfl)) qa_nil)) qe_int nofun) qa_nil)) (qe_var (i := 1) rfl (.inr (.inl rfl))) (nomark _)))) (fun _ _ _ _ _ => (qe_var (i := 2) rfl (.inl rfl))))))
def w_Kin_reaches_leader : DS := wSeq (wPar 2 3 (wCons (wMeth 0 S_Kin_session [] (wVar 0) (wCons (wVar 1) (wNil))) (wCons (wMeth 0 S_Kin_parent [] (wVar 0) (wCons (wVar 1) (wNil))) (wNil)))) (wSeq (wWhile (wAndT (wBl (wOp (dIn true) (wVar 3) (wTup (wCons (wC (.int 1)) (wCons (wVar 2) (wNil)))))) (wAndT (wBl (wOp (dEq false) (wMeth 0 S_Kin_session [] (wVar 0) (wCons (wVar 3) (wNil))) (wVar 2))) (wNotT (wTru (wMeth 0 S_Kin_adopts [] (wVar 0) (wCons (wVar 3) (wNil))))))) (wAsg (wMeth 0 S_Kin_parent [] (wVar 0) (wCons (wVar 3) (wNil))) (gN 3))) (wRet (wAnd (wOp (dEq false) (wVar 3) (wVar 2)) (wNot (wMeth 0 S_Kin_adopts [] (wVar 0) (wCons (wVar 2) (wNil)))))))
def S_Kin_reaches_leader : DSp := arD 2 (runD 4 w_Kin_reaches_leader)
theorem sc_Kin_reaches_leader : FnScope ["self", "number", "session", "found"] ["self", "number"] (defScope st_Kin_reaches_leader) := ⟨rfl, rfl, rfl, by decide +kernel, rfl, by decide +kernel, by decide +kernel⟩
theorem ok_Kin_reaches_leader (cx : Cxt K mg) : ∃ fd, FD P w K mg base (gm K) 2 (He.fAd K ("Kin", some "reaches_leader")) fd ["self", "number"] S_Kin_reaches_leader ∧ FunD K "reaches_leader" "Kin.reaches_leader" (defArgs st_Kin_reaches_leader) (defBody st_Kin_reaches_leader) (defScope st_Kin_reaches_leader) [] [] (He.fAd K ("Kin", some "reaches_leader")) fd := by
  obtain ⟨fd, F⟩ := cx.F_Kin_reaches_leader
  obtain ⟨fd_Kin_adopts, k_Kin_adopts, F_Kin_adopts⟩ := ok_Kin_adopts (P := P) (w := w) (base := base) cx
  obtain ⟨fd_Kin_parent, k_Kin_parent, F_Kin_parent⟩ := ok_Kin_parent (P := P) (w := w) (base := base) cx
  obtain ⟨fd_Kin_session, k_Kin_session, F_Kin_session⟩ := ok_Kin_session (P := P) (w := w) (base := base) cx
  obtain ⟨t_FIRST, h_FIRST⟩ := cx.i_FIRST
  refine ⟨fd, FD.mk' F sc_Kin_reaches_leader (fun _ _ _ _ _ _ us hl => match us, hl with | [_, _], _ => rfl) fun cdv A outer s H E hr hg => ?_, F⟩
  have dx := dx_cx (P := P) (w := w) (K := K) (mg := mg) (base := base) (G := gm K) (outer := outer) (H := H) (E := E) rfl sc_Kin_reaches_leader.nd hr hg
  exact (qss_cons (qs_par (i := 2) (j := 3) dx.calm dx.nd rfl rfl (by decide) rfl rfl (qa_cons (qf_meth (pl := _) k_Kin_session dx (by decide) (qe_var (i := 0) rfl (.inl rfl)) cx.cls_Kin rfl (fldOf_ne (by kernel_rfl)) cx.m_Kin_session (qa_cons (qe_var (i := 1) rfl (.inl rfl)) qa_nil)) (qa_cons (qf_meth (pl := _) k_Kin_parent dx (by decide) (qe_var (i := 0) rfl (.inl rfl)) cx.cls_Kin rfl (fldOf_ne (by kernel_rfl)) cx.m_Kin_parent (qa_cons (qe_var (i := 1) rfl (.inl rfl)) qa_nil)) qa_nil))) (qss_cons (qs_while dx (PW.pt (qw_and (qt_cmp (od_in dx.K dx.u1 true rfl) (qe_var (i := 3) rfl (.inl rfl)) (qe_tup (qa_cons (qe_glob (v := .int 1) rfl h_FIRST ⟨_, rfl⟩ fun _ => .int 1) (qa_cons (qe_var (i := 2) rfl (.inl rfl)) qa_nil))) (by rfl)) (qw_and (qt_cmp (od_eq dx.K dx.u65 false rfl) (qf_meth (pl := _) k_Kin_session dx (by decide) (qe_var (i := 0) rfl (.inl rfl)) cx.cls_Kin rfl (fldOf_ne (by kernel_rfl)) cx.m_Kin_session (qa_cons (qe_var (i := 3) rfl (.inl rfl)) qa_nil)) (qe_var (i := 2) rfl (.inl rfl)) (nomark _)) (qw_and1 (qt_not (qt_truth dx.K (qf_meth (pl := _) k_Kin_adopts dx (by decide) (qe_var (i := 0) rfl (.inl rfl)) cx.cls_Kin rfl (fldOf_ne (by kernel_rfl)) cx.m_Kin_adopts (qa_cons (qe_var (i := 3) rfl (.inl rfl)) qa_nil)))))))) (qss_one (qs_set (i := 3) dx.nd rfl (.inl rfl) (qf_meth (pl := _) k_Kin_parent dx (by decide) (qe_var (i := 0) rfl (.inl rfl)) cx.cls_Kin rfl (fldOf_ne (by kernel_rfl)) cx.m_Kin_parent (qa_cons (qe_var (i := 3) rfl (.inl rfl)) qa_nil)) (by rfl) (.inl rfl)))) (qss_one (qs_ret (qe_and dx.K (pd_cmp (od_eq dx.K dx.u65 false rfl) (qe_var (i := 3) rfl (.inl rfl)) (qe_var (i := 2) rfl (.inl rfl)) (nomark _)) (qe_one (qe_not dx.K (qf_meth (pl := _) k_Kin_adopts dx (by decide) (qe_var (i := 0) rfl (.inl rfl)) cx.cls_Kin rfl (fldOf_ne (by kernel_rfl)) cx.m_Kin_adopts (qa_cons (qe_var (i := 2) rfl (.inl rfl)) qa_nil)))))))))
def w_Kin_bearers : DS := wSeq (wAsg (wLc false (iAny (wMeth 0 S_Kin_members [] (wVar 0) (wCons (wVar 1) (wNil)))) (gN 3) (wTru (wMeth 0 S_Kin_ended [] (wVar 0) (wCons (wVar 3) (wNil)))) (wVar 3) [3]) (gN 2)) (wRet (wOp (dAdd false) (wOp (dMul false) (wLst false (wCons (wVar 1) (wNil))) (wB dInt (wCons (wOp (dIn false) (wVar 1) (wVar 2)) (wNil)))) (wLc false (iAny (wVar 2)) (gN 3) (wTru (wMeth 0 S_Kin_reaches_leader [] (wVar 0) (wCons (wVar 3) (wNil)))) (wVar 3) [3])))
def S_Kin_bearers : DSp := arD 2 (runD 4 w_Kin_bearers)
theorem sc_Kin_bearers : FnScope ["self", "session", "ended", "number"] ["self", "session"] (defScope st_Kin_bearers) := ⟨rfl, rfl, rfl, by decide +kernel, rfl, by decide +kernel, by decide +kernel⟩
theorem ok_Kin_bearers (cx : Cxt K mg) : ∃ fd, FD P w K mg base (gm K) 3 (He.fAd K ("Kin", some "bearers")) fd ["self", "session"] S_Kin_bearers ∧ FunD K "bearers" "Kin.bearers" (defArgs st_Kin_bearers) (defBody st_Kin_bearers) (defScope st_Kin_bearers) [] [] (He.fAd K ("Kin", some "bearers")) fd := by
  obtain ⟨fd, F⟩ := cx.F_Kin_bearers
  obtain ⟨fd_Kin_ended, k_Kin_ended, F_Kin_ended⟩ := ok_Kin_ended (P := P) (w := w) (base := base) cx
  obtain ⟨fd_Kin_members, k_Kin_members, F_Kin_members⟩ := ok_Kin_members (P := P) (w := w) (base := base) cx
  obtain ⟨fd_Kin_reaches_leader, k_Kin_reaches_leader, F_Kin_reaches_leader⟩ := ok_Kin_reaches_leader (P := P) (w := w) (base := base) cx
  refine ⟨fd, FD.mk' F sc_Kin_bearers (fun _ _ _ _ _ _ us hl => match us, hl with | [_, _], _ => rfl) fun cdv A outer s H E hr hg => ?_, F⟩
  have dx := dx_cx (P := P) (w := w) (K := K) (mg := mg) (base := base) (G := gm K) (outer := outer) (H := H) (E := E) rfl sc_Kin_bearers.nd hr hg
  exact (qss_cons (qs_lc (own := [("number", 3)]) (i := 2) dx false rfl rfl (sw_true rfl rfl rfl rfl) (qi_any dx.K (qf_meth (pl := _) k_Kin_members dx (by decide) (qe_var (i := 0) rfl (.inr (.inl rfl))) cx.cls_Kin rfl (fldOf_ne (by kernel_rfl)) cx.m_Kin_members (qa_cons (qe_var (i := 1) rfl (.inl rfl)) qa_nil))) (blk_of (by kernel_rfl)) (by decide) (fun _ _ _ _ _ => (qg_name (i := 3) (DX.blk dx _ _ _ _ _).nd rfl (.inl rfl) (.inr rfl))) (fun _ _ _ _ _ => (qts_one (qt_truth (DX.blk dx _ _ _ _ _).K (qf_meth (pl := _) k_Kin_ended (DX.blk dx _ _ _ _ _) (by decide) (qe_var (i := 0) rfl (.inr (.inl rfl))) cx.cls_Kin rfl (fldOf_ne (by kernel_rfl)) cx.m_Kin_ended (qa_cons (qe_var (i := 3) rfl (.inl rfl)) qa_nil))))) (fun _ _ _ _ _ => (qe_var (i := 3) rfl (.inl rfl)))) (qss_one (qs_ret (pd_op (od_add dx.K false) (pd_op (od_mul dx.K false) (qe_lst false (qa_cons (qe_var (i := 1) rfl (.inl rfl)) qa_nil)) (qe_callTy cd_int rfl cx.n_int boot_int (qa_cons (pd_cmp (od_in dx.K dx.u1 false rfl) (qe_var (i := 1) rfl (.inl rfl)) (qe_var (i := 2) rfl (.inl rfl)) (by rfl)) qa_nil))) (qe_lc (own := [("number", 3)]) dx false (qi_any dx.K (qe_var (i := 2) rfl (.inl rfl))) (blk_of (by kernel_rfl)) (by decide) (fun _ _ _ _ _ => (qg_name (i := 3) (DX.blk dx _ _ _ _ _).nd rfl (.inl rfl) (.inr rfl))) (fun _ _ _ _ _ => (qts_one (qt_truth (DX.blk dx _ _ _ _ _).K (qf_meth (pl := _) k_Kin_reaches_leader (DX.blk dx _ _ _ _ _) (by decide) (qe_var (i := 0) rfl (.inr (.inl rfl))) cx.cls_Kin rfl (fldOf_ne (by kernel_rfl)) cx.m_Kin_reaches_leader (qa_cons (qe_var (i := 3) rfl (.inl rfl)) qa_nil))))) (fun _ _ _ _ _ => (qe_var (i := 3) rfl (.inl rfl))))))))
def w_is_number : DS := wRet (wAnd (wIsi [.int] (wVar 0)) (wNot (wIsi [.bl] (wVar 0))))
def S_is_number : DSp := arD 1 (runD 1 w_is_number)
theorem sc_is_number : FnScope ["thing"] ["thing"] (defScope st_is_number) := ⟨rfl, rfl, rfl, by decide +kernel, rfl, by decide +kernel, by decide +kernel⟩
theorem ok_is_number (cx : Cxt K mg) : ∃ fd, FD P w K mg base (gm K) 1 (He.fAd K ("is_number", none)) fd ["thing"] S_is_number ∧ FunD K "is_number" "is_number" (defArgs st_is_number) (defBody st_is_number) (defScope st_is_number) [] [] (He.fAd K ("is_number", none)) fd := by
  obtain ⟨fd, F⟩ := cx.F_is_number
  refine ⟨fd, FD.mk' F sc_is_number (fun _ _ _ _ _ _ us hl => match us, hl with | [_], _ => rfl) fun cdv A outer s H E hr hg => ?_, F⟩
  have dx := dx_cx (P := P) (w := w) (K := K) (mg := mg) (base := base) (G := gm K) (outer := outer) (H := H) (E := E) rfl sc_is_number.nd hr hg
  exact (qss_one (qs_ret (qe_and dx.K (qe_isi (t := .int) dx.K (by decide) rfl cx.n_isinstance rfl cx.n_int boot_int (qe_var (i := 0) rfl (.inl rfl))) (qe_one (qe_not dx.K (qe_isi (t := .bl) dx.K (by decide) rfl cx.n_isinstance rfl cx.n_bool boot_bool (qe_var (i := 0) rfl (.inl rfl))))))))
def w_torn_in_session : DS := wSeq (wAsg (wMeth 0 S_Kin_tops [] (wVar 0) (wCons (wVar 1) (wNil))) (gN 2)) (wSeq (wIfS (wTru (wMeth 0 S_Kin_has [] (wVar 0) (wCons (wVar 1) (wNil)))) (wSeq (wAsg (wIf (wOrT (wBl (wOp (dEq true) (wMeth 0 S_Kin_session [] (wVar 0) (wCons (wVar 1) (wNil))) (wVar 1))) (wBl (wOp (dEq true) (wMeth 0 S_Kin_group [] (wVar 0) (wCons (wVar 1) (wNil))) (wVar 1)))) (wLst false (wCons (wVar 1) (wNil))) (wLst false (wNil))) (gN 3)) (wSeq (wAsg (wMeth 0 S_Kin_adopter_above [] (wVar 0) (wCons (wVar 1) (wNil))) (gN 4)) (wRet (wB (dSorted false) (wCons (wOp (dAdd false) (wVar 3) (wLc false (iAny (wVar 2)) (gN 6) (wAndT (wBl (wOp (dEq true) (wVar 6) (wVar 1))) (wBl (wOp (dEq true) (wMeth 0 S_Kin_parent [] (wVar 0) (wCons (wVar 6) (wNil))) (wVar 4)))) (wVar 6) [6])) (wNil)))))) (wNext)) (wSeq (wIfS (wBl (wOp (dEq false) (wVar 1) (wC (.int 1)))) (wRet (wLc false (iAny (wVar 2)) (gN 6) (wNotT (wTru (wMeth 0 S_Kin_is_root [] (wVar 0) (wCons (wVar 6) (wNil))))) (wVar 6) [6])) (wNext)) (wSeq (wAsg (wMeth 0 S_Kin_parent [] (wVar 0) (wCons (wOp dIx (wVar 2) (wC (.int 0))) (wNil))) (gN 5)) (wRet (wLc false (iAny (wVar 2)) (gN 6) (wOrT (wBl (wOp (dEq true) (wMeth 0 S_Kin_parent [] (wVar 0) (wCons (wVar 6) (wNil))) (wVar 5))) (wNotT (wTru (wMeth 0 S_Kin_adopts [] (wVar 0) (wCons (wVar 5) (wNil)))))) (wVar 6) [6])))))
def S_torn_in_session : DSp := arD 2 (runD 7 w_torn_in_session)
theorem sc_torn_in_session : FnScope ["kin", "session", "tops", "own", "above", "shared", "top"] ["kin", "session"] (defScope st_torn_in_session) := ⟨rfl, rfl, rfl, by decide +kernel, rfl, by decide +kernel, by decide +kernel⟩
theorem ok_torn_in_session (cx : Cxt K mg) : ∃ fd, FD P w K mg base (gm K) 4 (He.fAd K ("torn_in_session", none)) fd ["kin", "session"] S_torn_in_session ∧ FunD K "torn_in_session" "torn_in_session" (defArgs st_torn_in_session) (defBody st_torn_in_session) (defScope st_torn_in_session) [] [] (He.fAd K ("torn_in_session", none)) fd := by
  obtain ⟨fd, F⟩ := cx.F_torn_in_session
  obtain ⟨fd_Kin_adopter_above, k_Kin_adopter_above, F_Kin_adopter_above⟩ := ok_Kin_adopter_above (P := P) (w := w) (base := base) cx
  obtain ⟨fd_Kin_adopts, k_Kin_adopts, F_Kin_adopts⟩ := ok_Kin_adopts (P := P) (w := w) (base := base) cx
  obtain ⟨fd_Kin_group, k_Kin_group, F_Kin_group⟩ := ok_Kin_group (P := P) (w := w) (base := base) cx
  obtain ⟨fd_Kin_has, k_Kin_has, F_Kin_has⟩ := ok_Kin_has (P := P) (w := w) (base := base) cx
  obtain ⟨fd_Kin_is_root, k_Kin_is_root, F_Kin_is_root⟩ := ok_Kin_is_root (P := P) (w := w) (base := base) cx
  obtain ⟨fd_Kin_parent, k_Kin_parent, F_Kin_parent⟩ := ok_Kin_parent (P := P) (w := w) (base := base) cx
  obtain ⟨fd_Kin_session, k_Kin_session, F_Kin_session⟩ := ok_Kin_session (P := P) (w := w) (base := base) cx
  obtain ⟨fd_Kin_tops, k_Kin_tops, F_Kin_tops⟩ := ok_Kin_tops (P := P) (w := w) (base := base) cx
  obtain ⟨t_FIRST, h_FIRST⟩ := cx.i_FIRST
  refine ⟨fd, FD.mk' F sc_torn_in_session (fun _ _ _ _ _ _ us hl => match us, hl with | [_, _], _ => rfl) fun cdv A outer s H E hr hg => ?_, F⟩
  have dx := dx_cx (P := P) (w := w) (K := K) (mg := mg) (base := base) (G := gm K) (outer := outer) (H := H) (E := E) rfl sc_torn_in_session.nd hr hg
  exact (qss_cons (qs_set (i := 2) dx.nd rfl (.inl rfl) (qf_meth (pl := _) k_Kin_tops dx (by decide) (qe_var (i := 0) rfl (.inr (.inl rfl))) cx.cls_Kin rfl (fldOf_ne (by kernel_rfl)) cx.m_Kin_tops (qa_cons (qe_var (i := 1) rfl (.inr (.inl rfl))) qa_nil)) (by rfl) (.inl rfl)) (qss_cons (qs_if (qt_truth dx.K (qf_meth (pl := _) k_Kin_has dx (by decide) (qe_var (i := 0) rfl (.inr (.inl rfl))) cx.cls_Kin rfl (fldOf_ne (by kernel_rfl)) cx.m_Kin_has (qa_cons (qe_var (i := 1) rfl (.inr (.inl rfl))) qa_nil))) (qss_cons (qs_set (i := 3) dx.nd rfl (.inl rfl) (qe_if (PW.pt (qw_or (qt_cmp (od_eq dx.K dx.u65 true rfl) (qf_meth (pl := _) k_Kin_session dx (by decide) (qe_var (i := 0) rfl (.inr (.inl rfl))) cx.cls_Kin rfl (fldOf_ne (by kernel_rfl)) cx.m_Kin_session (qa_cons (qe_var (i := 1) rfl (.inr (.inl rfl))) qa_nil)) (qe_var (i := 1) rfl (.inr (.inl rfl))) (nomark _)) (qw_or1 (qt_cmp (od_eq dx.K dx.u65 true rfl) (qf_meth (pl := _) k_Kin_group dx (by decide) (qe_var (i := 0) rfl (.inr (.inl rfl))) cx.cls_Kin rfl (fldOf_ne (by kernel_rfl)) cx.m_Kin_group (qa_cons (qe_var (i := 1) rfl (.inr (.inl rfl))) qa_nil)) (qe_var (i := 1) rfl (.inr (.inl rfl))) (nomark _))))) (qe_lst false (qa_cons (qe_var (i := 1) rfl (.inr (.inl rfl))) qa_nil)) (qe_lst false qa_nil)) (by rfl) (.inl rfl)) (qss_cons (qs_set (i := 4) dx.nd rfl (.inr rfl) (qf_meth (pl := _) k_Kin_adopter_above dx (by decide) (qe_var (i := 0) rfl (.inr (.inl rfl))) cx.cls_Kin rfl (fldOf_ne (by kernel_rfl)) cx.m_Kin_adopter_above (qa_cons (qe_var (i := 1) rfl (.inr (.inl rfl))) qa_nil)) (by rfl) (.inl rfl)) (qss_one (qs_ret (qe_callB (cd_sorted dx.K dx.calm false) rfl cx.n_sorted boot_sorted (qa_cons (pd_op (od_add dx.K false) (qe_var (i := 3) rfl (.inl rfl)) (qe_lc (own := [("top", 6)]) dx false (qi_any dx.K (qe_var (i := 2) rfl (.inl rfl))) (blk_of (by kernel_rfl)) (by decide) (fun _ _ _ _ _ => (qg_name (i := 6) (DX.blk dx _ _ _ _ _).nd rfl (.inl rfl) (.inr rfl))) (fun _ _ _ _ _ => (qts_one (PW.pt (qw_and (qt_cmp (od_eq (DX.blk dx _ _ _ _ _).K (DX.blk dx _ _ _ _ _).u65 true rfl) (qe_var (i := 6) rfl (.inl rfl)) (qe_var (i := 1) rfl (.inr (.inl rfl))) (nomark _)) (qw_and1 (qt_cmp (od_eq (DX.blk dx _ _ _ _ _).K (DX.blk dx _ _ _ _ _).u65 true rfl) (qf_meth (pl := _) k_Kin_parent (DX.blk dx _ _ _ _ _) (by decide) (qe_var (i := 0) rfl (.inr (.inl rfl))) cx.cls_Kin rfl (fldOf_ne (by kernel_rfl)) cx.m_Kin_parent (qa_cons (qe_var (i := 6) rfl (.inl rfl)) qa_nil)) (qe_var (i := 4) rfl (.inr (.inl rfl))) (nomark _))))))) (fun _ _ _ _ _ => (qe_var (i := 6) rfl (.inl rfl))))) qa_nil)))))) qss_nil) (qss_cons (qs_if (qt_cmp (od_eq dx.K dx.u65 false rfl) (qe_var (i := 1) rfl (.inr (.inl rfl))) (qe_glob (v := .int 1) rfl h_FIRST ⟨_, rfl⟩ fun _ => .int 1) (nomark _)) (qss_one (qs_ret (qe_lc (own := [("top", 6)]) dx false (qi_any dx.K (qe_var (i := 2) rfl (.inl rfl))) (blk_of (by kernel_rfl)) (by decide) (fun _ _ _ _ _ => (qg_name (i := 6) (DX.blk dx _ _ _ _ _).nd rfl (.inl rfl) (.inr rfl))) (fun _ _ _ _ _ => (qts_one (qt_not (qt_truth (DX.blk dx _ _ _ _ _).K (qf_meth (pl := _) k_Kin_is_root (DX.blk dx _ _ _ _ _) (by decide) (qe_var (i := 0) rfl (.inr (.inl rfl))) cx.cls_Kin rfl (fldOf_ne (by kernel_rfl)) cx.m_Kin_is_root (qa_cons (qe_var (i := 6) rfl (.inl rfl)) qa_nil)))))) (fun _ _ _ _ _ => (qe_var (i := 6) rfl (.inl rfl)))))) qss_nil) (qss_cons (qs_set (i := 5) dx.nd rfl (.inr rfl) (qf_meth (pl := _) k_Kin_parent dx (by decide) (qe_var (i := 0) rfl (.inr (.inl rfl))) cx.cls_Kin rfl (fldOf_ne (by kernel_rfl)) cx.m_Kin_parent (qa_cons (pd_ix dx.K dx.u1 (qe_var (i := 2) rfl (.inl rfl)) qe_int nofun) qa_nil)) (by rfl) (.inl rfl)) (qss_one (qs_ret (qe_lc (own := [("top", 6)]) dx false (qi_any dx.K (qe_var (i := 2) rfl (.inl rfl))) (blk_of (by kernel_rfl)) (by decide) (fun _ _ _ _ _ => (qg_name (i := 6) (DX.blk dx _ _ _ _ _).nd rfl (.inl rfl) (.inr rfl))) (fun _ _ _ _ _ => (qts_one (PW.pt (qw_or (qt_cmp (od_eq (DX.blk dx _ _ _ _ _).K (DX.blk dx _ _ _ _ _).u65 true rfl) (qf_meth (pl := _) k_Kin_parent (DX.blk dx _ _ _ _ _) (by decide) (qe_var (i := 0) rfl (.inr (.inl rfl))) cx.cls_Kin rfl (fldOf_ne (by kernel_rfl)) cx.m_Kin_parent (qa_cons (qe_var (i := 6) rfl (.inl rfl)) qa_nil)) (qe_var (i := 5) rfl (.inr (.inl rfl))) (nomark _)) (qw_or1 (qt_not (qt_truth (DX.blk dx _ _ _ _ _).K (qf_meth (pl := _) k_Kin_adopts (DX.blk dx _ _ _ _ _) (by decide) (qe_var (i := 0) rfl (.inr (.inl rfl))) cx.cls_Kin rfl (fldOf_ne (by kernel_rfl)) cx.m_Kin_adopts (qa_cons (qe_var (i := 5) rfl (.inr (.inl rfl))) qa_nil))))))))) (fun _ _ _ _ _ => (qe_var (i := 6) rfl (.inl rfl))))))))))
def w_is_torn_group : DS := wSeq (wAsg (dSortU false (wLc false (iAny (wMeth 0 S_Kin_group_members [] (wVar 0) (wCons (wVar 1) (wNil)))) (gN 3) (wYes) (wMeth 0 S_Kin_session [] (wVar 0) (wCons (wVar 3) (wNil))) [3])) (gN 2)) (wSeq (wIfS (wOrT (wBl (wOp (dRel fun i j => decide (j < i)) (wB dLen (wCons (wVar 2) (wNil))) (wC (.int 1)))) (wAndT (wTru (wMeth 0 S_Kin_has [] (wVar 0) (wCons (wVar 1) (wNil)))) (wBl (wOp (dEq true) (wMeth 0 S_Kin_session [] (wVar 0) (wCons (wVar 1) (wNil))) (wOp dIx (wVar 2) (wC (.int 0))))))) (wRet (wC (.bl true))) (wNext)) (wRet (wAnd (wOp (dEq true) (wVar 1) (wOp dIx (wVar 2) (wC (.int 0)))) (wOr (wOp (dEq false) (wVar 1) (wC (.int 1))) (wOp (dIn false) (wVar 1) (wMeth 0 S_Kin_sessions [] (wVar 0) wNil))))))
def S_is_torn_group : DSp := arD 2 (runD 4 w_is_torn_group)
theorem sc_is_torn_group : FnScope ["kin", "group", "sessions", "number"] ["kin", "group"] (defScope st_is_torn_group) := ⟨rfl, rfl, rfl, by decide +kernel, rfl, by decide +kernel, by decide +kernel⟩
theorem ok_is_torn_group (cx : Cxt K mg) : ∃ fd, FD P w K mg base (gm K) 3 (He.fAd K ("is_torn_group", none)) fd ["kin", "group"] S_is_torn_group ∧ FunD K "is_torn_group" "is_torn_group" (defArgs st_is_torn_group) (defBody st_is_torn_group) (defScope st_is_torn_group) [] [] (He.fAd K ("is_torn_group", none)) fd := by
  obtain ⟨fd, F⟩ := cx.F_is_torn_group
  obtain ⟨fd_Kin_group_members, k_Kin_group_members, F_Kin_group_members⟩ := ok_Kin_group_members (P := P) (w := w) (base := base) cx
  obtain ⟨fd_Kin_has, k_Kin_has, F_Kin_has⟩ := ok_Kin_has (P := P) (w := w) (base := base) cx
  obtain ⟨fd_Kin_session, k_Kin_session, F_Kin_session⟩ := ok_Kin_session (P := P) (w := w) (base := base) cx
  obtain ⟨fd_Kin_sessions, k_Kin_sessions, F_Kin_sessions⟩ := ok_Kin_sessions (P := P) (w := w) (base := base) cx
  obtain ⟨t_FIRST, h_FIRST⟩ := cx.i_FIRST
  refine ⟨fd, FD.mk' F sc_is_torn_group (fun _ _ _ _ _ _ us hl => match us, hl with | [_, _], _ => rfl) fun cdv A outer s H E hr hg => ?_, F⟩
  have dx := dx_cx (P := P) (w := w) (K := K) (mg := mg) (base := base) (G := gm K) (outer := outer) (H := H) (E := E) rfl sc_is_torn_group.nd hr hg
  exact (qss_cons (qs_set (i := 2) dx.nd rfl (.inl rfl) (qe_sortU dx.K dx.calm false rfl cx.n_sorted rfl cx.n_set (qe_lc (own := [("number", 3)]) dx false (qi_any dx.K (qf_meth (pl := _) k_Kin_group_members dx (by decide) (qe_var (i := 0) rfl (.inr (.inl rfl))) cx.cls_Kin rfl (fldOf_ne (by kernel_rfl)) cx.m_Kin_group_members (qa_cons (qe_var (i := 1) rfl (.inl rfl)) qa_nil))) (blk_of (by kernel_rfl)) (by decide) (fun _ _ _ _ _ => (qg_name (i := 3) (DX.blk dx _ _ _ _ _).nd rfl (.inl rfl) (.inr rfl))) (fun _ _ _ _ _ => qts_nil) (fun _ _ _ _ _ => (qf_meth (pl := _) k_Kin_session (DX.blk dx _ _ _ _ _) (by decide) (qe_var (i := 0) rfl (.inr (.inl rfl))) cx.cls_Kin rfl (fldOf_ne (by kernel_rfl)) cx.m_Kin_session (qa_cons (qe_var (i := 3) rfl (.inl rfl)) qa_nil))))) (by rfl) (.inl rfl)) (qss_cons (qs_if (PW.pt (qw_or (qt_cmp (od_rel op_gt) (qe_callB (cd_len dx.K) rfl cx.n_len boot_len (qa_cons (qe_var (i := 2) rfl (.inl rfl)) qa_nil)) qe_int (nomark _)) (qw_or1 (PW.pt (qw_and (qt_truth dx.K (qf_meth (pl := _) k_Kin_has dx (by decide) (qe_var (i := 0) rfl (.inr (.inl rfl))) cx.cls_Kin rfl (fldOf_ne (by kernel_rfl)) cx.m_Kin_has (qa_cons (qe_var (i := 1) rfl (.inl rfl)) qa_nil))) (qw_and1 (qt_cmp (od_eq dx.K dx.u65 true rfl) (qf_meth (pl := _) k_Kin_session dx (by decide) (qe_var (i := 0) rfl (.inr (.inl rfl))) cx.cls_Kin rfl (fldOf_ne (by kernel_rfl)) cx.m_Kin_session (qa_cons (qe_var (i := 1) rfl (.inl rfl)) qa_nil)) (pd_ix dx.K dx.u1 (qe_var (i := 2) rfl (.inl rfl)) qe_int nofun) (nomark _)))))))) (qss_one (qs_ret qe_bl)) qss_nil) (qss_one (qs_ret (qe_and dx.K (pd_cmp (od_eq dx.K dx.u65 true rfl) (qe_var (i := 1) rfl (.inl rfl)) (pd_ix dx.K dx.u1 (qe_var (i := 2) rfl (.inl rfl)) qe_int nofun) (nomark _)) (qe_one (qe_or dx.K (pd_cmp (od_eq dx.K dx.u65 false rfl) (qe_var (i := 1) rfl (.inl rfl)) (qe_glob (v := .int 1) rfl h_FIRST ⟨_, rfl⟩ fun _ => .int 1) (nomark _)) (qe_one (pd_cmp (od_in dx.K dx.u1 false rfl) (qe_var (i := 1) rfl (.inl rfl)) (qf_meth0 (pl := _) k_Kin_sessions dx (by decide) (qe_var (i := 0) rfl (.inr (.inl rfl))) cx.cls_Kin rfl (fldOf_ne (by kernel_rfl)) cx.m_Kin_sessions) (by rfl))))))))))
def w_needed : DS := wSeq (wAsg (wMeth 0 S_Kin_session [] (wVar 0) (wCons (wVar 1) (wNil))) (gN 2)) (wSeq (wIfS (wOrT (wNotT (wTru (wMeth 0 S_Kin_has [] (wVar 0) (wCons (wVar 2) (wNil))))) (wOrT (wBl (wOp (dEq false) (wVar 1) (wVar 2))) (wNotT (wTru (wMeth 0 S_Kin_is_top [] (wVar 0) (wCons (wVar 1) (wNil))))))) (wRet (wC .non)) (wNext)) (wRet (wMeth 0 S_Kin_branch [] (wVar 0) (wCons (wMeth 0 S_Kin_parent [] (wVar 0) (wCons (wVar 1) (wNil))) (wCons (wVar 2) (wNil))))))
def S_needed : DSp := arD 2 (runD 3 w_needed)
theorem sc_needed : FnScope ["kin", "number", "session"] ["kin", "number"] (defScope st_needed) := ⟨rfl, rfl, rfl, by decide +kernel, rfl, by decide +kernel, by decide +kernel⟩
theorem ok_needed (cx : Cxt K mg) : ∃ fd, FD P w K mg base (gm K) 3 (He.fAd K ("needed", none)) fd ["kin", "number"] S_needed ∧ FunD K "needed" "needed" (defArgs st_needed) (defBody st_needed) (defScope st_needed) [] [] (He.fAd K ("needed", none)) fd := by
  obtain ⟨fd, F⟩ := cx.F_needed
  obtain ⟨fd_Kin_branch, k_Kin_branch, F_Kin_branch⟩ := ok_Kin_branch (P := P) (w := w) (base := base) cx
  obtain ⟨fd_Kin_has, k_Kin_has, F_Kin_has⟩ := ok_Kin_has (P := P) (w := w) (base := base) cx
  obtain ⟨fd_Kin_is_top, k_Kin_is_top, F_Kin_is_top⟩ := ok_Kin_is_top (P := P) (w := w) (base := base) cx
  obtain ⟨fd_Kin_parent, k_Kin_parent, F_Kin_parent⟩ := ok_Kin_parent (P := P) (w := w) (base := base) cx
  obtain ⟨fd_Kin_session, k_Kin_session, F_Kin_session⟩ := ok_Kin_session (P := P) (w := w) (base := base) cx
  refine ⟨fd, FD.mk' F sc_needed (fun _ _ _ _ _ _ us hl => match us, hl with | [_, _], _ => rfl) fun cdv A outer s H E hr hg => ?_, F⟩
  have dx := dx_cx (P := P) (w := w) (K := K) (mg := mg) (base := base) (G := gm K) (outer := outer) (H := H) (E := E) rfl sc_needed.nd hr hg
  exact (qss_cons (qs_set (i := 2) dx.nd rfl (.inl rfl) (qf_meth (pl := _) k_Kin_session dx (by decide) (qe_var (i := 0) rfl (.inl rfl)) cx.cls_Kin rfl (fldOf_ne (by kernel_rfl)) cx.m_Kin_session (qa_cons (qe_var (i := 1) rfl (.inl rfl)) qa_nil)) (by rfl) (.inl rfl)) (qss_cons (qs_if (PW.pt (qw_or (qt_not (qt_truth dx.K (qf_meth (pl := _) k_Kin_has dx (by decide) (qe_var (i := 0) rfl (.inl rfl)) cx.cls_Kin rfl (fldOf_ne (by kernel_rfl)) cx.m_Kin_has (qa_cons (qe_var (i := 2) rfl (.inl rfl)) qa_nil)))) (qw_or (qt_cmp (od_eq dx.K dx.u65 false rfl) (qe_var (i := 1) rfl (.inl rfl)) (qe_var (i := 2) rfl (.inl rfl)) (nomark _)) (qw_or1 (qt_not (qt_truth dx.K (qf_meth (pl := _) k_Kin_is_top dx (by decide) (qe_var (i := 0) rfl (.inl rfl)) cx.cls_Kin rfl (fldOf_ne (by kernel_rfl)) cx.m_Kin_is_top (qa_cons (qe_var (i := 1) rfl (.inl rfl)) qa_nil)))))))) (qss_one (qs_ret qe_non)) qss_nil) (qss_one (qs_ret (qf_meth (pl := _) k_Kin_branch dx (by decide) (qe_var (i := 0) rfl (.inl rfl)) cx.cls_Kin rfl (fldOf_ne (by kernel_rfl)) cx.m_Kin_branch (qa_cons (qf_meth (pl := _) k_Kin_parent dx (by decide) (qe_var (i := 0) rfl (.inl rfl)) cx.cls_Kin rfl (fldOf_ne (by kernel_rfl)) cx.m_Kin_parent (qa_cons (qe_var (i := 1) rfl (.inl rfl)) qa_nil)) (qa_cons (qe_var (i := 2) rfl (.inl rfl)) qa_nil)))))))
def w_rings : DS := wSeq (wAsg (wLst true (wNil)) (gN 1)) (wSeq (wFor (iAny (wMeth 0 S_Kin_numbers [] (wVar 0) wNil)) (gN 2) (wSeq (wPar 3 4 (wCons (wLst true (wCons (wVar 2) (wNil))) (wCons (wCall S_needed [] (wCons (wVar 0) (wCons (wVar 2) (wNil)))) (wNil)))) (wSeq (wWhile (wAndT (wBl (wOp (dIsN true) (wVar 4) (wC .non))) (wBl (wOp (dIn true) (wVar 4) (wVar 3)))) (wSeq (wDrop (wM .lst mAppend (wVar 3) (wCons (wVar 4) (wNil)))) (wAsg (wCall S_needed [] (wCons (wVar 0) (wCons (wVar 4) (wNil)))) (gN 4)))) (wIfS (wAndT (wBl (wOp (dEq false) (wVar 4) (wVar 2))) (wBl (wOp (dEq false) (wVar 2) (wB dMin (wCons (wVar 3) (wNil)))))) (wDrop (wM .lst mAppend (wVar 1) (wCons (wVarZ 3) wNil))) (wNext))))) (wRet (wVarZ 1)))
def S_rings : DSp := arD 1 (runD 5 w_rings)
theorem sc_rings : FnScope ["kin", "found", "number", "row", "later"] ["kin"] (defScope st_rings) := ⟨rfl, rfl, rfl, by decide +kernel, rfl, by decide +kernel, by decide +kernel⟩
theorem ok_rings (cx : Cxt K mg) : ∃ fd, FD P w K mg base (gm K) 4 (He.fAd K ("rings", none)) fd ["kin"] S_rings ∧ FunD K "rings" "rings" (defArgs st_rings) (defBody st_rings) (defScope st_rings) [] [] (He.fAd K ("rings", none)) fd := by
  obtain ⟨fd, F⟩ := cx.F_rings
  obtain ⟨fd_Kin_numbers, k_Kin_numbers, F_Kin_numbers⟩ := ok_Kin_numbers (P := P) (w := w) (base := base) cx
  obtain ⟨fd_needed, k_needed, F_needed⟩ := ok_needed (P := P) (w := w) (base := base) cx
  refine ⟨fd, FD.mk' F sc_rings (fun _ _ _ _ _ _ us hl => match us, hl with | [_], _ => rfl) fun cdv A outer s H E hr hg => ?_, F⟩
  have dx := dx_cx (P := P) (w := w) (K := K) (mg := mg) (base := base) (G := gm K) (outer := outer) (H := H) (E := E) rfl sc_rings.nd hr hg
  exact (qss_cons (qs_set (i := 1) dx.nd rfl (.inl rfl) (qe_lst true qa_nil) (by rfl) (.inl rfl)) (qss_cons (qs_for dx (qi_any dx.K (qf_meth0 (pl := _) k_Kin_numbers dx (by decide) (qe_var (i := 0) rfl (.inl rfl)) cx.cls_Kin rfl (fldOf_ne (by kernel_rfl)) cx.m_Kin_numbers)) (qg_name (i := 2) dx.nd rfl (.inl rfl) (.inl rfl)) (qss_cons (qs_par (i := 3) (j := 4) dx.calm dx.nd rfl rfl (by decide) rfl rfl (qa_cons (qe_lst true (qa_cons (qe_var (i := 2) rfl (.inl rfl)) qa_nil)) (qa_cons (qf_call k_needed dx (by decide) rfl cx.g_needed (qa_cons (qe_var (i := 0) rfl (.inl rfl)) (qa_cons (qe_var (i := 2) rfl (.inl rfl)) qa_nil))) qa_nil))) (qss_cons (qs_while dx (PW.pt (qw_and (qt_cmp (od_isN true rfl) (qe_var (i := 4) rfl (.inl rfl)) qe_non (nomark _)) (qw_and1 (qt_cmp (od_in dx.K dx.u1 true rfl) (qe_var (i := 4) rfl (.inl rfl)) (qe_var (i := 3) rfl (.inl rfl)) (by rfl))))) (qss_cons (qs_expr (qe_m (t := .lst) dx.K (.inl rfl) PySem.F.plainAttrs_list PySem.F.slot_list_append PySem.F.type_list_append md_append (qe_var (i := 3) rfl (.inl rfl)) (qa_cons (qe_var (i := 4) rfl (.inl rfl)) qa_nil))) (qss_one (qs_set (i := 4) dx.nd rfl (.inl rfl) (qf_call k_needed dx (by decide) rfl cx.g_needed (qa_cons (qe_var (i := 0) rfl (.inl rfl)) (qa_cons (qe_var (i := 4) rfl (.inl rfl)) qa_nil))) (by rfl) (.inl rfl))))) (qss_one (qs_if (PW.pt (qw_and (qt_cmp (od_eq dx.K dx.u65 false rfl) (qe_var (i := 4) rfl (.inl rfl)) (qe_var (i := 2) rfl (.inl rfl)) (nomark _)) (qw_and1 (qt_cmp (od_eq dx.K dx.u65 false rfl) (qe_var (i := 2) rfl (.inl rfl)) (qe_callB (cd_min dx.K dx.calm) rfl cx.n_min boot_min (qa_cons (qe_var (i := 3) rfl (.inl rfl)) qa_nil)) (nomark _))))) (qss_one (qs_expr (qe_m (t := .lst) dx.K (.inl rfl) PySem.F.plainAttrs_list PySem.F.slot_list_append PySem.F.type_list_append md_append (qe_var (i := 1) rfl (.inl rfl)) (qa_cons (qe_varZ (i := 3) rfl (.inl rfl)) qa_nil)))) qss_nil))))) (qss_one (qs_ret (qe_varZ (i := 1) rfl (.inl rfl))))))
def w_bar : DS := wSeq (wAsg (wMake 0 S_Kin_init0 [] (wCons (wVar 0) (wNil))) (gN 1)) (wSeq (wFor (iAny (wMeth 0 S_Kin_sessions [] (wVar 1) wNil)) (gN 2) (wSeq (wAsg (wCall S_torn_in_session [] (wCons (wVar 1) (wCons (wVar 2) (wNil)))) (gN 3)) (wIfS (wBl (wOp (dRel fun i j => decide (j < i)) (wB dLen (wCons (wVar 3) (wNil))) (wC (.int 0)))) (wRet (wTup (wCons (wC (.str "session")) (wCons (wVar 2) (wCons (wOp dIx (wVar 3) (wC (.int 0))) (wNil)))))) (wNext)))) (wSeq (wFor (iAny (wMeth 0 S_Kin_groups [] (wVar 1) wNil)) (gN 4) (wIfS (wTru (wCall S_is_torn_group [] (wCons (wVar 1) (wCons (wVar 4) (wNil))))) (wRet (wTup (wCons (wC (.str "group")) (wCons (wVar 4) (wNil))))) (wNext))) (wSeq (wAsg (wCall S_rings [] (wCons (wVar 1) (wNil))) (gN 5)) (wRet (wIf (wBl (wOp (dRel fun i j => decide (j < i)) (wB dLen (wCons (wVar 5) (wNil))) (wC (.int 0)))) (wTup (wCons (wC (.str "ring")) (wCons (wOp dIx (wVar 5) (wC (.int 0))) (wNil)))) (wC .non))))))
def S_bar : DSp := arD 1 (runD 6 w_bar)
theorem sc_bar : FnScope ["image", "kin", "session", "torn", "group", "found"] ["image"] (defScope st_bar) := ⟨rfl, rfl, rfl, by decide +kernel, rfl, by decide +kernel, by decide +kernel⟩
theorem ok_bar (cx : Cxt K mg) : ∃ fd, FD P w K mg base (gm K) 5 (He.fAd K ("bar", none)) fd ["image"] S_bar ∧ FunD K "bar" "bar" (defArgs st_bar) (defBody st_bar) (defScope st_bar) [] [] (He.fAd K ("bar", none)) fd := by
  obtain ⟨fd, F⟩ := cx.F_bar
  obtain ⟨fd_Kin_init0, k_Kin_init0, F_Kin_init0⟩ := ok_Kin_init0 (P := P) (w := w) (base := base) cx
  obtain ⟨fd_Kin_groups, k_Kin_groups, F_Kin_groups⟩ := ok_Kin_groups (P := P) (w := w) (base := base) cx
  obtain ⟨fd_Kin_sessions, k_Kin_sessions, F_Kin_sessions⟩ := ok_Kin_sessions (P := P) (w := w) (base := base) cx
  obtain ⟨fd_is_torn_group, k_is_torn_group, F_is_torn_group⟩ := ok_is_torn_group (P := P) (w := w) (base := base) cx
  obtain ⟨fd_rings, k_rings, F_rings⟩ := ok_rings (P := P) (w := w) (base := base) cx
  obtain ⟨fd_torn_in_session, k_torn_in_session, F_torn_in_session⟩ := ok_torn_in_session (P := P) (w := w) (base := base) cx
  refine ⟨fd, FD.mk' F sc_bar (fun _ _ _ _ _ _ us hl => match us, hl with | [_], _ => rfl) fun cdv A outer s H E hr hg => ?_, F⟩
  have dx := dx_cx (P := P) (w := w) (K := K) (mg := mg) (base := base) (G := gm K) (outer := outer) (H := H) (E := E) rfl sc_bar.nd hr hg
  exact (qss_cons (qs_set (i := 1) dx.nd rfl (.inl rfl) (qf_make k_Kin_init0 cx.mk_Kin dx (by decide) rfl rfl cx.g_Kin (qa_cons (qe_var (i := 0) rfl (.inl rfl)) qa_nil)) (by rfl) (.inl rfl)) (qss_cons (qs_for dx (qi_any dx.K (qf_meth0 (pl := _) k_Kin_sessions dx (by decide) (qe_var (i := 1) rfl (.inl rfl)) cx.cls_Kin rfl (fldOf_ne (by kernel_rfl)) cx.m_Kin_sessions)) (qg_name (i := 2) dx.nd rfl (.inl rfl) (.inl rfl)) (qss_cons (qs_set (i := 3) dx.nd rfl (.inl rfl) (qf_call k_torn_in_session dx (by decide) rfl cx.g_torn_in_session (qa_cons (qe_var (i := 1) rfl (.inl rfl)) (qa_cons (qe_var (i := 2) rfl (.inl rfl)) qa_nil))) (by rfl) (.inl rfl)) (qss_one (qs_if (qt_cmp (od_rel op_gt) (qe_callB (cd_len dx.K) rfl cx.n_len boot_len (qa_cons (qe_var (i := 3) rfl (.inl rfl)) qa_nil)) qe_int (nomark _)) (qss_one (qs_ret (qe_tup (qa_cons qe_str (qa_cons (qe_var (i := 2) rfl (.inl rfl)) (qa_cons (pd_ix dx.K dx.u1 (qe_var (i := 3) rfl (.inl rfl)) qe_int nofun) qa_nil)))))) qss_nil)))) (qss_cons (qs_for dx (qi_any dx.K (qf_meth0 (pl := _) k_Kin_groups dx (by decide) (qe_var (i := 1) rfl (.inl rfl)) cx.cls_Kin rfl (fldOf_ne (by kernel_rfl)) cx.m_Kin_groups)) (qg_name (i := 4) dx.nd rfl (.inl rfl) (.inl rfl)) (qss_one (qs_if (qt_truth dx.K (qf_call k_is_torn_group dx (by decide) rfl cx.g_is_torn_group (qa_cons (qe_var (i := 1) rfl (.inl rfl)) (qa_cons (qe_var (i := 4) rfl (.inl rfl)) qa_nil)))) (qss_one (qs_ret (qe_tup (qa_cons qe_str (qa_cons (qe_var (i := 4) rfl (.inl rfl)) qa_nil))))) qss_nil))) (qss_cons (qs_set (i := 5) dx.nd rfl (.inl rfl) (qf_call k_rings dx (by decide) rfl cx.g_rings (qa_cons (qe_var (i := 1) rfl (.inl rfl)) qa_nil)) (by rfl) (.inl rfl)) (qss_one (qs_ret (qe_if (qt_cmp (od_rel op_gt) (qe_callB (cd_len dx.K) rfl cx.n_len boot_len (qa_cons (qe_var (i := 5) rfl (.inl rfl)) qa_nil)) qe_int (nomark _)) (qe_tup (qa_cons qe_str (qa_cons (pd_ix dx.K dx.u1 (qe_var (i := 5) rfl (.inl rfl)) qe_int nofun) qa_nil))) qe_non)))))))
def w_shows_bar : DS := wSeq (wAsg (wMake 0 S_Kin_init0 [] (wCons (wVar 0) (wNil))) (gN 2)) (wSeq (wIfS (wOrT (wNotT (wTru (wIsi [.tup] (wVar 1)))) (wOrT (wBl (wOp (dRel fun i j => decide (i < j)) (wB dLen (wCons (wVar 1) (wNil))) (wC (.int 2)))) (wNotT (wTru (wIsi [.str] (wOp dIx (wVar 1) (wC (.int 0)))))))) (wRet (wC (.bl false))) (wNext)) (wSeq (wIfS (wBl (wOp (dEq false) (wOp dIx (wVar 1) (wC (.int 0))) (wC (.str "ring")))) (wSeq (wIfS (wOrT (wBl (wOp (dEq true) (wB dLen (wCons (wVar 1) (wNil))) (wC (.int 2)))) (wOrT (wNotT (wTru (wIsi [.lst] (wOp dIx (wVar 1) (wC (.int 1)))))) (wNotT (wTru (wB dAll (wCons (wLc false (iAny (wOp dIx (wVar 1) (wC (.int 1)))) (gN 3) (wYes) (wCall S_is_number [] (wCons (wVar 3) (wNil))) [3]) (wNil))))))) (wRet (wC (.bl false))) (wNext)) (wRet (wOp (dInX false) (wOp dIx (wVar 1) (wC (.int 1))) (wCall S_rings [] (wCons (wVar 2) (wNil)))))) (wNext)) (wSeq (wIfS (wNotT (wTru (wB dAll (wCons (wLc false (iAny (wSl false (wVar 1) (some (wC (.int 1))) none)) (gN 3) (wYes) (wCall S_is_number [] (wCons (wVar 3) (wNil))) [3]) (wNil))))) (wRet (wC (.bl false))) (wNext)) (wSeq (wIfS (wBl (wOp (dEq false) (wOp dIx (wVar 1) (wC (.int 0))) (wC (.str "session")))) (wRet (wAnd (wOp (dEq false) (wB dLen (wCons (wVar 1) (wNil))) (wC (.int 3))) (wAnd (wOp (dIn false) (wOp dIx (wVar 1) (wC (.int 1))) (wMeth 0 S_Kin_sessions [] (wVar 2) wNil)) (wOp (dIn false) (wOp dIx (wVar 1) (wC (.int 2))) (wCall S_torn_in_session [] (wCons (wVar 2) (wCons (wOp dIx (wVar 1) (wC (.int 1))) (wNil)))))))) (wNext)) (wRet (wAnd (wOp (dEq false) (wOp dIx (wVar 1) (wC (.int 0))) (wC (.str "group"))) (wAnd (wOp (dEq false) (wB dLen (wCons (wVar 1) (wNil))) (wC (.int 2))) (wAnd (wOp (dIn false) (wOp dIx (wVar 1) (wC (.int 1))) (wMeth 0 S_Kin_groups [] (wVar 2) wNil)) (wCall S_is_torn_group [] (wCons (wVar 2) (wCons (wOp dIx (wVar 1) (wC (.int 1))) (wNil))))))))))))
def S_shows_bar : DSp := arD 2 (runD 4 w_shows_bar)
theorem sc_shows_bar : FnScope ["image", "thing", "kin", "part"] ["image", "thing"] (defScope st_shows_bar) := ⟨rfl, rfl, rfl, by decide +kernel, rfl, by decide +kernel, by decide +kernel⟩
theorem ok_shows_bar (cx : Cxt K mg) : ∃ fd, FD P w K mg base (gm K) 5 (He.fAd K ("shows_bar", none)) fd ["image", "thing"] S_shows_bar ∧ FunD K "shows_bar" "shows_bar" (defArgs st_shows_bar) (defBody st_shows_bar) (defScope st_shows_bar) [] [] (He.fAd K ("shows_bar", none)) fd := by
  obtain ⟨fd, F⟩ := cx.F_shows_bar
  obtain ⟨fd_Kin_init0, k_Kin_init0, F_Kin_init0⟩ := ok_Kin_init0 (P := P) (w := w) (base := base) cx
  obtain ⟨fd_Kin_groups, k_Kin_groups, F_Kin_groups⟩ := ok_Kin_groups (P := P) (w := w) (base := base) cx
  obtain ⟨fd_Kin_sessions, k_Kin_sessions, F_Kin_sessions⟩ := ok_Kin_sessions (P := P) (w := w) (base := base) cx
  obtain ⟨fd_is_number, k_is_number, F_is_number⟩ := ok_is_number (P := P) (w := w) (base := base) cx
  obtain ⟨fd_is_torn_group, k_is_torn_group, F_is_torn_group⟩ := ok_is_torn_group (P := P) (w := w) (base := base) cx
  obtain ⟨fd_rings, k_rings, F_rings⟩ := ok_rings (P := P) (w := w) (base := base) cx
  obtain ⟨fd_torn_in_session, k_torn_in_session, F_torn_in_session⟩ := ok_torn_in_session (P := P) (w := w) (base := base) cx
  refine ⟨fd, FD.mk' F sc_shows_bar (fun _ _ _ _ _ _ us hl => match us, hl with | [_, _], _ => rfl) fun cdv A outer s H E hr hg => ?_, F⟩
  have dx := dx_cx (P := P) (w := w) (K := K) (mg := mg) (base := base) (G := gm K) (outer := outer) (H := H) (E := E) rfl sc_shows_bar.nd hr hg
  exact (qss_cons (qs_set (i := 2) dx.nd rfl (.inl rfl) (qf_make k_Kin_init0 cx.mk_Kin dx (by decide) rfl rfl cx.g_Kin (qa_cons (qe_var (i := 0) rfl (.inl rfl)) qa_nil)) (by rfl) (.inl rfl)) (qss_cons (qs_if (PW.pt (qw_or (qt_not (qt_truth dx.K (qe_isi (t := .tup) dx.K (by decide) rfl cx.n_isinstance rfl cx.n_tuple boot_tuple (qe_var (i := 1) rfl (.inl rfl))))) (qw_or (qt_cmp (od_rel op_lt) (qe_callB (cd_len dx.K) rfl cx.n_len boot_len (qa_cons (qe_var (i := 1) rfl (.inl rfl)) qa_nil)) qe_int (nomark _)) (qw_or1 (qt_not (qt_truth dx.K (qe_isi (t := .str) dx.K (by decide) rfl cx.n_isinstance rfl cx.n_str boot_str (pd_ix dx.K dx.u1 (qe_var (i := 1) rfl (.inl rfl)) qe_int nofun)))))))) (qss_one (qs_ret qe_bl)) qss_nil) (qss_cons (qs_if (qt_cmp (od_eq dx.K dx.u65 false rfl) (pd_ix dx.K dx.u1 (qe_var (i := 1) rfl (.inl rfl)) qe_int nofun) qe_str (nomark _)) (qss_cons (qs_if (PW.pt (qw_or (qt_cmp (od_eq dx.K dx.u65 true rfl) (qe_callB (cd_len dx.K) rfl cx.n_len boot_len (qa_cons (qe_var (i := 1) rfl (.inl rfl)) qa_nil)) qe_int (nomark _)) (qw_or (qt_not (qt_truth dx.K (qe_isi (t := .lst) dx.K (by decide) rfl cx.n_isinstance rfl cx.n_list boot_list (pd_ix dx.K dx.u1 (qe_var (i := 1) rfl (.inl rfl)) qe_int nofun)))) (qw_or1 (qt_not (qt_truth dx.K (qe_callB (cd_all dx.K dx.calm) rfl cx.n_all boot_all (qa_cons (qe_lc (own := [("part", 3)]) dx false (qi_any dx.K (pd_ix dx.K dx.u1 (qe_var (i := 1) rfl (.inl rfl)) qe_int nofun)) (blk_of (by kernel_rfl)) (by decide) (fun _ _ _ _ _ => (qg_name (i := 3) (DX.blk dx _ _ _ _ _).nd rfl (.inl rfl) (.inr rfl))) (fun _ _ _ _ _ => qts_nil) (fun _ _ _ _ _ => (qf_call k_is_number (DX.blk dx _ _ _ _ _) (by decide) rfl cx.g_is_number (qa_cons (qe_var (i := 3) rfl (.inl rfl)) qa_nil)))) qa_nil)))))))) (qss_one (qs_ret qe_bl)) qss_nil) (qss_one (qs_ret (pd_cmp (od_inX dx.K dx.u65 false rfl) (pd_ix dx.K dx.u1 (qe_var (i := 1) rfl (.inl rfl)) qe_int nofun) (qf_call k_rings dx (by decide) rfl cx.g_rings (qa_cons (qe_var (i := 2) rfl (.inl rfl)) qa_nil)) (by rfl))))) qss_nil) (qss_cons (qs_if (qt_not (qt_truth dx.K (qe_callB (cd_all dx.K dx.calm) rfl cx.n_all boot_all (qa_cons (qe_lc (own := [("part", 3)]) dx false (qi_any dx.K (pd_sl (mu := false) dx.K (qe_var (i := 1) rfl (.inl rfl)) (po_some' qe_int) po_none')) (blk_of (by kernel_rfl)) (by decide) (fun _ _ _ _ _ => (qg_name (i := 3) (DX.blk dx _ _ _ _ _).nd rfl (.inl rfl) (.inr rfl))) (fun _ _ _ _ _ => qts_nil) (fun _ _ _ _ _ => (qf_call k_is_number (DX.blk dx _ _ _ _ _) (by decide) rfl cx.g_is_number (qa_cons (qe_var (i := 3) rfl (.inl rfl)) qa_nil)))) qa_nil)))) (qss_one (qs_ret qe_bl)) qss_nil) (qss_cons (qs_if (qt_cmp (od_eq dx.K dx.u65 false rfl) (pd_ix dx.K dx.u1 (qe_var (i := 1) rfl (.inl rfl)) qe_int nofun) qe_str (nomark _)) (qss_one (qs_ret (qe_and dx.K (pd_cmp (od_eq dx.K dx.u65 false rfl) (qe_callB (cd_len dx.K) rfl cx.n_len boot_len (qa_cons (qe_var (i := 1) rfl (.inl rfl)) qa_nil)) qe_int (nomark _)) (qe_and dx.K (pd_cmp (od_in dx.K dx.u1 false rfl) (pd_ix dx.K dx.u1 (qe_var (i := 1) rfl (.inl rfl)) qe_int nofun) (qf_meth0 (pl := _) k_Kin_sessions dx (by decide) (qe_var (i := 2) rfl (.inl rfl)) cx.cls_Kin rfl (fldOf_ne (by kernel_rfl)) cx.m_Kin_sessions) (by rfl)) (qe_one (pd_cmp (od_in dx.K dx.u1 false rfl) (pd_ix dx.K dx.u1 (qe_var (i := 1) rfl (.inl rfl)) qe_int nofun) (qf_call k_torn_in_session dx (by decide) rfl cx.g_torn_in_session (qa_cons (qe_var (i := 2) rfl (.inl rfl)) (qa_cons (pd_ix dx.K dx.u1 (qe_var (i := 1) rfl (.inl rfl)) qe_int nofun) qa_nil))) (by rfl))))))) qss_nil) (qss_one (qs_ret (qe_and dx.K (pd_cmp (od_eq dx.K dx.u65 false rfl) (pd_ix dx.K dx.u1 (qe_var (i := 1) rfl (.inl rfl)) qe_int nofun) qe_str (nomark _)) (qe_and dx.K (pd_cmp (od_eq dx.K dx.u65 false rfl) (qe_callB (cd_len dx.K) rfl cx.n_len boot_len (qa_cons (qe_var (i := 1) rfl (.inl rfl)) qa_nil)) qe_int (nomark _)) (qe_and dx.K (pd_cmp (od_in dx.K dx.u1 false rfl) (pd_ix dx.K dx.u1 (qe_var (i := 1) rfl (.inl rfl)) qe_int nofun) (qf_meth0 (pl := _) k_Kin_groups dx (by decide) (qe_var (i := 2) rfl (.inl rfl)) cx.cls_Kin rfl (fldOf_ne (by kernel_rfl)) cx.m_Kin_groups) (by rfl)) (qe_one (qf_call k_is_torn_group dx (by decide) rfl cx.g_is_torn_group (qa_cons (qe_var (i := 2) rfl (.inl rfl)) (qa_cons (pd_ix dx.K dx.u1 (qe_var (i := 1) rfl (.inl rfl)) qe_int nofun) qa_nil))))))))))))))
def w_needs_more : DS := wSeq (wIfS (wOrT (wNotT (wTru (wMeth 0 S_Kin_has [] (wVar 0) (wCons (wVar 1) (wNil))))) (wBl (wOp (dEq false) (wB dLen (wCons (wMeth 0 S_Kin_further_tops [] (wVar 0) (wCons (wVar 1) (wNil))) (wNil))) (wC (.int 0))))) (wRet (wC (.bl false))) (wNext)) (wRet (wAnd (wOp (dEq false) (wB dLen (wCons (wMeth 0 S_Kin_lost_groups_in [] (wVar 0) (wCons (wVar 1) (wNil))) (wNil))) (wC (.int 0))) (wOp (dEq false) (wB dLen (wCons (wMeth 0 S_Kin_bearers [] (wVar 0) (wCons (wVar 1) (wNil))) (wNil))) (wC (.int 0)))))
def S_needs_more : DSp := arD 2 (runD 2 w_needs_more)
theorem sc_needs_more : FnScope ["kin", "session"] ["kin", "session"] (defScope st_needs_more) := ⟨rfl, rfl, rfl, by decide +kernel, rfl, by decide +kernel, by decide +kernel⟩
theorem ok_needs_more (cx : Cxt K mg) : ∃ fd, FD P w K mg base (gm K) 6 (He.fAd K ("needs_more", none)) fd ["kin", "session"] S_needs_more ∧ FunD K "needs_more" "needs_more" (defArgs st_needs_more) (defBody st_needs_more) (defScope st_needs_more) [] [] (He.fAd K ("needs_more", none)) fd := by
  obtain ⟨fd, F⟩ := cx.F_needs_more
  obtain ⟨fd_Kin_bearers, k_Kin_bearers, F_Kin_bearers⟩ := ok_Kin_bearers (P := P) (w := w) (base := base) cx
  obtain ⟨fd_Kin_further_tops, k_Kin_further_tops, F_Kin_further_tops⟩ := ok_Kin_further_tops (P := P) (w := w) (base := base) cx
  obtain ⟨fd_Kin_has, k_Kin_has, F_Kin_has⟩ := ok_Kin_has (P := P) (w := w) (base := base) cx
  obtain ⟨fd_Kin_lost_groups_in, k_Kin_lost_groups_in, F_Kin_lost_groups_in⟩ := ok_Kin_lost_groups_in (P := P) (w := w) (base := base) cx
  refine ⟨fd, FD.mk' F sc_needs_more (fun _ _ _ _ _ _ us hl => match us, hl with | [_, _], _ => rfl) fun cdv A outer s H E hr hg => ?_, F⟩
  have dx := dx_cx (P := P) (w := w) (K := K) (mg := mg) (base := base) (G := gm K) (outer := outer) (H := H) (E := E) rfl sc_needs_more.nd hr hg
  exact (qss_cons (qs_if (PW.pt (qw_or (qt_not (qt_truth dx.K (qf_meth (pl := _) k_Kin_has dx (by decide) (qe_var (i := 0) rfl (.inl rfl)) cx.cls_Kin rfl (fldOf_ne (by kernel_rfl)) cx.m_Kin_has (qa_cons (qe_var (i := 1) rfl (.inl rfl)) qa_nil)))) (qw_or1 (qt_cmp (od_eq dx.K dx.u65 false rfl) (qe_callB (cd_len dx.K) rfl cx.n_len boot_len (qa_cons (qf_meth (pl := _) k_Kin_further_tops dx (by decide) (qe_var (i := 0) rfl (.inl rfl)) cx.cls_Kin rfl (fldOf_ne (by kernel_rfl)) cx.m_Kin_further_tops (qa_cons (qe_var (i := 1) rfl (.inl rfl)) qa_nil)) qa_nil)) qe_int (nomark _))))) (qss_one (qs_ret qe_bl)) qss_nil) (qss_one (qs_ret (qe_and dx.K (pd_cmp (od_eq dx.K dx.u65 false rfl) (qe_callB (cd_len dx.K) rfl cx.n_len boot_len (qa_cons (qf_meth (pl := _) k_Kin_lost_groups_in dx (by decide) (qe_var (i := 0) rfl (.inl rfl)) cx.cls_Kin rfl (fldOf_ne (by kernel_rfl)) cx.m_Kin_lost_groups_in (qa_cons (qe_var (i := 1) rfl (.inl rfl)) qa_nil)) qa_nil)) qe_int (nomark _)) (qe_one (pd_cmp (od_eq dx.K dx.u65 false rfl) (qe_callB (cd_len dx.K) rfl cx.n_len boot_len (qa_cons (qf_meth (pl := _) k_Kin_bearers dx (by decide) (qe_var (i := 0) rfl (.inl rfl)) cx.cls_Kin rfl (fldOf_ne (by kernel_rfl)) cx.m_Kin_bearers (qa_cons (qe_var (i := 1) rfl (.inl rfl)) qa_nil)) qa_nil)) qe_int (nomark _)))))))
def w_helpers : DS := wSeq (wAsg (wMake 0 S_Kin_init0 [] (wCons (wVar 0) (wNil))) (gN 1)) (wSeq (wAsg (wLc true (iAny (wMeth 0 S_Kin_sessions [] (wVar 1) wNil)) (gN 3) (wTru (wCall S_needs_more [] (wCons (wVar 1) (wCons (wVar 3) (wNil))))) (wVar 3) [3]) (gN 2)) (wRet (wTup (wCons (wMeth 0 S_Kin_lost_sessions [] (wVar 1) wNil) (wCons (wMeth 0 S_Kin_lost_groups [] (wVar 1) wNil) (wCons (wVar 2) (wNil)))))))
def S_helpers : DSp := arD 1 (runD 4 w_helpers)
theorem sc_helpers : FnScope ["image", "kin", "more", "session"] ["image"] (defScope st_helpers) := ⟨rfl, rfl, rfl, by decide +kernel, rfl, by decide +kernel, by decide +kernel⟩
theorem ok_helpers (cx : Cxt K mg) : ∃ fd, FD P w K mg base (gm K) 7 (He.fAd K ("helpers", none)) fd ["image"] S_helpers ∧ FunD K "helpers" "helpers" (defArgs st_helpers) (defBody st_helpers) (defScope st_helpers) [] [] (He.fAd K ("helpers", none)) fd := by
  obtain ⟨fd, F⟩ := cx.F_helpers
  obtain ⟨fd_Kin_init0, k_Kin_init0, F_Kin_init0⟩ := ok_Kin_init0 (P := P) (w := w) (base := base) cx
  obtain ⟨fd_Kin_lost_groups, k_Kin_lost_groups, F_Kin_lost_groups⟩ := ok_Kin_lost_groups (P := P) (w := w) (base := base) cx
  obtain ⟨fd_Kin_lost_sessions, k_Kin_lost_sessions, F_Kin_lost_sessions⟩ := ok_Kin_lost_sessions (P := P) (w := w) (base := base) cx
  obtain ⟨fd_Kin_sessions, k_Kin_sessions, F_Kin_sessions⟩ := ok_Kin_sessions (P := P) (w := w) (base := base) cx
  obtain ⟨fd_needs_more, k_needs_more, F_needs_more⟩ := ok_needs_more (P := P) (w := w) (base := base) cx
  refine ⟨fd, FD.mk' F sc_helpers (fun _ _ _ _ _ _ us hl => match us, hl with | [_], _ => rfl) fun cdv A outer s H E hr hg => ?_, F⟩
  have dx := dx_cx (P := P) (w := w) (K := K) (mg := mg) (base := base) (G := gm K) (outer := outer) (H := H) (E := E) rfl sc_helpers.nd hr hg
  exact (qss_cons (qs_set (i := 1) dx.nd rfl (.inr rfl) (qf_make k_Kin_init0 cx.mk_Kin dx (by decide) rfl rfl cx.g_Kin (qa_cons (qe_var (i := 0) rfl (.inl rfl)) qa_nil)) (by rfl) (.inl rfl)) (qss_cons (qs_lc (own := [("session", 3)]) (i := 2) dx true rfl rfl (sw_true rfl rfl rfl rfl) (qi_any dx.K (qf_meth0 (pl := _) k_Kin_sessions dx (by decide) (qe_var (i := 1) rfl (.inr (.inl rfl))) cx.cls_Kin rfl (fldOf_ne (by kernel_rfl)) cx.m_Kin_sessions)) (blk_of (by kernel_rfl)) (by decide) (fun _ _ _ _ _ => (qg_name (i := 3) (DX.blk dx _ _ _ _ _).nd rfl (.inl rfl) (.inr rfl))) (fun _ _ _ _ _ => (qts_one (qt_truth (DX.blk dx _ _ _ _ _).K (qf_call k_needs_more (DX.blk dx _ _ _ _ _) (by decide) rfl cx.g_needs_more (qa_cons (qe_var (i := 1) rfl (.inr (.inl rfl))) (qa_cons (qe_var (i := 3) rfl (.inl rfl)) qa_nil)))))) (fun _ _ _ _ _ => (qe_var (i := 3) rfl (.inl rfl)))) (qss_one (qs_ret (qe_tup (qa_cons (qf_meth0 (pl := _) k_Kin_lost_sessions dx (by decide) (qe_var (i := 1) rfl (.inr (.inl rfl))) cx.cls_Kin rfl (fldOf_ne (by kernel_rfl)) cx.m_Kin_lost_sessions) (qa_cons (qf_meth0 (pl := _) k_Kin_lost_groups dx (by decide) (qe_var (i := 1) rfl (.inr (.inl rfl))) cx.cls_Kin rfl (fldOf_ne (by kernel_rfl)) cx.m_Kin_lost_groups) (qa_cons (qe_var (i := 2) rfl (.inl rfl)) qa_nil))))))))
def w__law_box : DS := wSeq (wAsg (wIf (wBl (wOp (dRel fun i j => decide (i < j)) (wVar 1) (wB dLen (wCons (wVar 0) (wNil))))) (wOp dIx (wVar 0) (wVar 1)) (wC (.int 0))) (gN 2)) (wRet (wLst true (wCons (wOp (dMul false) (wB dAbs (wCons (wVar 2) (wNil))) (wB dInt (wCons (wOp (dRel fun i j => decide (j ≤ i)) (wB dAbs (wCons (wVar 2) (wNil))) (wOp (dPow) (wC (.int 10)) (wC (.int 18)))) (wNil)))) (wCons (wOp (dAdd false) (wOp (dAdd false) (wOp (dMod) (wVar 2) (wC (.int 2147483629))) (wOp (dMul false) (wC (.int 7919)) (wVar 1))) (wC (.int 73))) (wCons (wC (.int 0)) (wNil))))))
def S__law_box : DSp := arD 2 (runD 3 w__law_box)
theorem sc__law_box : FnScope ["_law_script", "_law_k", "_law_cell"] ["_law_script", "_law_k"] (defScope st__law_box) := ⟨rfl, rfl, rfl, by decide +kernel, rfl, by decide +kernel, by decide +kernel⟩
theorem ok__law_box (cx : Cxt K mg) : ∃ fd, FD P w K mg base (gm K) 1 (He.fAd K ("_law_box", none)) fd ["_law_script", "_law_k"] S__law_box ∧ FunD K "_law_box" "_law_box" (defArgs st__law_box) (defBody st__law_box) (defScope st__law_box) [] [] (He.fAd K ("_law_box", none)) fd := by
  obtain ⟨fd, F⟩ := cx.F__law_box
  refine ⟨fd, FD.mk' F sc__law_box (fun _ _ _ _ _ _ us hl => match us, hl with | [_, _], _ => rfl) fun cdv A outer s H E hr hg => ?_, F⟩
  have dx := dx_cx (P := P) (w := w) (K := K) (mg := mg) (base := base) (G := gm K) (outer := outer) (H := H) (E := E) rfl sc__law_box.nd hr hg
  exact (qss_cons (qs_set (i := 2) dx.nd rfl (.inl rfl) (qe_if (qt_cmp (od_rel op_lt) (qe_var (i := 1) rfl (.inl rfl)) (qe_callB (cd_len dx.K) rfl cx.n_len boot_len (qa_cons (qe_var (i := 0) rfl (.inl rfl)) qa_nil)) (nomark _)) (pd_ix dx.K dx.u1 (qe_var (i := 0) rfl (.inl rfl)) (qe_var (i := 1) rfl (.inl rfl)) nofun) qe_int) (by rfl) (.inl rfl)) (qss_one (qs_ret (qe_lst true (qa_cons (pd_op (od_mul dx.K false) (qe_callB cd_abs rfl cx.n_abs boot_abs (qa_cons (qe_var (i := 2) rfl (.inl rfl)) qa_nil)) (qe_callTy cd_int rfl cx.n_int boot_int (qa_cons (pd_cmp (od_rel op_ge) (qe_callB cd_abs rfl cx.n_abs boot_abs (qa_cons (qe_var (i := 2) rfl (.inl rfl)) qa_nil)) (pd_op (od_pow) qe_int qe_int) (nomark _)) qa_nil))) (qa_cons (pd_op (od_add dx.K false) (pd_op (od_add dx.K false) (pd_op (od_mod) (qe_var (i := 2) rfl (.inl rfl)) qe_int) (pd_op (od_mul dx.K false) qe_int (qe_var (i := 1) rfl (.inl rfl)))) qe_int) (qa_cons qe_int qa_nil)))))))
def w__law_take : DS := wSeq (wIfS (wBl (wOp (dRel fun i j => decide (j < i)) (wOp dIx (wVar 0) (wC (.int 0))) (wC (.int 0)))) (wSeq (wAsg (wOp (dMod) (wOp dIx (wVar 0) (wC (.int 0))) (wVar 1)) (gN 2)) (wSeq (wAsg (wOp (dDiv) (wOp dIx (wVar 0) (wC (.int 0))) (wVar 1)) (gSubD (wVar 0) (wC (.int 0)))) (wRet (wVar 2)))) (wNext)) (wSeq (wAsg (wOp (dAdd false) (wOp dIx (wVar 0) (wC (.int 2))) (wC (.int 1))) (gSubD (wVar 0) (wC (.int 2)))) (wSeq (wAsg (wOp (dMod) (wOp (dPow) (wOp (dAdd false) (wOp dIx (wVar 0) (wC (.int 1))) (wOp (dMul false) (wC (.int 48271)) (wOp dIx (wVar 0) (wC (.int 2))))) (wC (.int 5))) (wC (.int 2147483647))) (gN 3)) (wRet (wOp (dMod) (wOp (dDiv) (wOp (dMod) (wOp (dAdd false) (wOp (dMul false) (wVar 3) (wOp (dAdd false) (wOp (dMod) (wVar 3) (wC (.int 30011))) (wC (.int 7)))) (wOp (dMul false) (wOp dIx (wVar 0) (wC (.int 2))) (wC (.int 7919)))) (wC (.int 2147483629))) (wC (.int 64))) (wVar 1)))))
def S__law_take : DSp := arD 2 (runD 4 w__law_take)
theorem sc__law_take : FnScope ["_law_box_here", "_law_below", "_law_found", "_law_once"] ["_law_box_here", "_law_below"] (defScope st__law_take) := ⟨rfl, rfl, rfl, by decide +kernel, rfl, by decide +kernel, by decide +kernel⟩
theorem ok__law_take (cx : Cxt K mg) : ∃ fd, FD P w K mg base (gm K) 1 (He.fAd K ("_law_take", none)) fd ["_law_box_here", "_law_below"] S__law_take ∧ FunD K "_law_take" "_law_take" (defArgs st__law_take) (defBody st__law_take) (defScope st__law_take) [] [] (He.fAd K ("_law_take", none)) fd := by
  obtain ⟨fd, F⟩ := cx.F__law_take
  refine ⟨fd, FD.mk' F sc__law_take (fun _ _ _ _ _ _ us hl => match us, hl with | [_, _], _ => rfl) fun cdv A outer s H E hr hg => ?_, F⟩
  have dx := dx_cx (P := P) (w := w) (K := K) (mg := mg) (base := base) (G := gm K) (outer := outer) (H := H) (E := E) rfl sc__law_take.nd hr hg
  exact (qss_cons (qs_if (qt_cmp (od_rel op_gt) (pd_ix dx.K dx.u1 (qe_var (i := 0) rfl (.inl rfl)) qe_int nofun) qe_int (nomark _)) (qss_cons (qs_set (i := 2) dx.nd rfl (.inl rfl) (pd_op (od_mod) (pd_ix dx.K dx.u1 (qe_var (i := 0) rfl (.inl rfl)) qe_int nofun) (qe_var (i := 1) rfl (.inl rfl))) (by rfl) (.inl rfl)) (qss_cons (qs_asg (pd_op (od_div) (pd_ix dx.K dx.u1 (qe_var (i := 0) rfl (.inl rfl)) qe_int nofun) (qe_var (i := 1) rfl (.inl rfl))) (qg_sub (vs := []) dx (qe_var (i := 0) rfl (.inl rfl)) qe_int)) (qss_one (qs_ret (qe_var (i := 2) rfl (.inl rfl)))))) qss_nil) (qss_cons (qs_asg (pd_op (od_add dx.K false) (pd_ix dx.K dx.u1 (qe_var (i := 0) rfl (.inl rfl)) qe_int nofun) qe_int) (qg_sub (vs := []) dx (qe_var (i := 0) rfl (.inl rfl)) qe_int)) (qss_cons (qs_set (i := 3) dx.nd rfl (.inl rfl) (pd_op (od_mod) (pd_op (od_pow) (pd_op (od_add dx.K false) (pd_ix dx.K dx.u1 (qe_var (i := 0) rfl (.inl rfl)) qe_int nofun) (pd_op (od_mul dx.K false) qe_int (pd_ix dx.K dx.u1 (qe_var (i := 0) rfl (.inl rfl)) qe_int nofun))) qe_int) qe_int) (by rfl) (.inl rfl)) (qss_one (qs_ret (pd_op (od_mod) (pd_op (od_div) (pd_op (od_mod) (pd_op (od_add dx.K false) (pd_op (od_mul dx.K false) (qe_var (i := 3) rfl (.inl rfl)) (pd_op (od_add dx.K false) (pd_op (od_mod) (qe_var (i := 3) rfl (.inl rfl)) qe_int) qe_int)) (pd_op (od_mul dx.K false) (pd_ix dx.K dx.u1 (qe_var (i := 0) rfl (.inl rfl)) qe_int nofun) qe_int)) qe_int) qe_int) (qe_var (i := 1) rfl (.inl rfl))))))))
def w__law_pick : DS := wRet (wOp dIx (wVar 1) (wCall S__law_take [] (wCons (wVar 0) (wCons (wB dLen (wCons (wVar 1) (wNil))) (wNil)))))
def S__law_pick : DSp := arD 2 (runD 2 w__law_pick)
theorem sc__law_pick : FnScope ["_law_box_here", "_law_some"] ["_law_box_here", "_law_some"] (defScope st__law_pick) := ⟨rfl, rfl, rfl, by decide +kernel, rfl, by decide +kernel, by decide +kernel⟩
theorem ok__law_pick (cx : Cxt K mg) : ∃ fd, FD P w K mg base (gm K) 2 (He.fAd K ("_law_pick", none)) fd ["_law_box_here", "_law_some"] S__law_pick ∧ FunD K "_law_pick" "_law_pick" (defArgs st__law_pick) (defBody st__law_pick) (defScope st__law_pick) [] [] (He.fAd K ("_law_pick", none)) fd := by
  obtain ⟨fd, F⟩ := cx.F__law_pick
  obtain ⟨fd__law_take, k__law_take, F__law_take⟩ := ok__law_take (P := P) (w := w) (base := base) cx
  refine ⟨fd, FD.mk' F sc__law_pick (fun _ _ _ _ _ _ us hl => match us, hl with | [_, _], _ => rfl) fun cdv A outer s H E hr hg => ?_, F⟩
  have dx := dx_cx (P := P) (w := w) (K := K) (mg := mg) (base := base) (G := gm K) (outer := outer) (H := H) (E := E) rfl sc__law_pick.nd hr hg
  exact (qss_one (qs_ret (pd_ix dx.K dx.u1 (qe_var (i := 1) rfl (.inl rfl)) (qf_call k__law_take dx (by decide) rfl cx.g__law_take (qa_cons (qe_var (i := 0) rfl (.inl rfl)) (qa_cons (qe_callB (cd_len dx.K) rfl cx.n_len boot_len (qa_cons (qe_var (i := 1) rfl (.inl rfl)) qa_nil)) qa_nil))) nofun)))
def w__law_same (S0 : DSp) : DS := wSeq (wIfS (wTru (wIsi [.lst, .tup] (wVar 1))) (wSeq (wIfS (wOrT (wBl (wOp (dEq true) (wIsi [.lst] (wVar 0)) (wIsi [.lst] (wVar 1)))) (wBl (wOp (dEq true) (wIsi [.tup] (wVar 0)) (wIsi [.tup] (wVar 1))))) (wRet (wC (.bl false))) (wNext)) (wRet (wAnd (wOp (dEq false) (wB dLen (wCons (wVar 0) (wNil))) (wB dLen (wCons (wVar 1) (wNil)))) (wB dAll (wCons (wLc false (iZipD (wCons (wVar 0) (wCons (wVar 1) (wNil)))) (gSeq 2 (gConsD (gN 2) (gConsD (gN 3) (gNilD)))) (wYes) (wCall S0 [] (wCons (wVar 2) (wCons (wVar 3) (wNil)))) [2, 3]) (wNil)))))) (wNext)) (wSeq (wIfS (wOrT (wBl (wOp (dIsN false) (wVar 1) (wC .non))) (wTru (wIsi [.bl, .str] (wVar 1)))) (wRet (wAnd (wOp (dEq false) (wVar 0) (wVar 1)) (wAnd (wOp (dEq false) (wIsi [.bl] (wVar 0)) (wIsi [.bl] (wVar 1))) (wOp (dEq false) (wOp (dIsN false) (wVar 0) (wC .non)) (wOp (dIsN false) (wVar 1) (wC .non)))))) (wNext)) (wRet (wAnd (wIsi [.int] (wVar 0)) (wAnd (wNot (wIsi [.bl] (wVar 0))) (wOp (dEq false) (wVar 0) (wVar 1))))))
def S__law_same : Nat → DSp
  | 0 => fun _ _ _ => False
  | n + 1 => arD 2 (runD 4 (w__law_same (S__law_same n)))
theorem sc__law_same : FnScope ["_law_found", "_law_due", "_law_mine", "_law_its"] ["_law_found", "_law_due"] (defScope st__law_same) := ⟨rfl, rfl, rfl, by decide +kernel, rfl, by decide +kernel, by decide +kernel⟩
theorem ok__law_same (cx : Cxt K mg) : ∃ fd, (∀ n, FD P w K mg base (gm K) (0 + n) (He.fAd K ("_law_same", none)) fd ["_law_found", "_law_due"] (S__law_same n)) ∧ FunD K "_law_same" "_law_same" (defArgs st__law_same) (defBody st__law_same) (defScope st__law_same) [] [] (He.fAd K ("_law_same", none)) fd := by
  obtain ⟨fd, F⟩ := cx.F__law_same
  refine ⟨fd, fun n => ?_, F⟩
  induction n with
  | zero => exact FD.zero F (fun _ _ _ _ _ _ us hl => match us, hl with | [_, _], _ => rfl)
  | succ n k0 =>
    refine FD.mk' F sc__law_same (fun _ _ _ _ _ _ us hl => match us, hl with | [_, _], _ => rfl) fun cdv A outer s H E hr hg => ?_
    have dx := dx_cx (P := P) (w := w) (K := K) (mg := mg) (base := base) (G := gm K) (outer := outer) (H := H) (E := E) rfl sc__law_same.nd hr hg
    exact (qss_cons (qs_if (qt_truth dx.K (qe_isi2 (t := .lst) (t' := .tup) dx.K (by decide) (by decide) rfl cx.n_isinstance rfl cx.n_list boot_list rfl cx.n_tuple boot_tuple (qe_var (i := 1) rfl (.inl rfl)))) (qss_cons (qs_if (PW.pt (qw_or (qt_cmp (od_eq dx.K dx.u65 true rfl) (qe_isi (t := .lst) dx.K (by decide) rfl cx.n_isinstance rfl cx.n_list boot_list (qe_var (i := 0) rfl (.inl rfl))) (qe_isi (t := .lst) dx.K (by decide) rfl cx.n_isinstance rfl cx.n_list boot_list (qe_var (i := 1) rfl (.inl rfl))) (nomark _)) (qw_or1 (qt_cmp (od_eq dx.K dx.u65 true rfl) (qe_isi (t := .tup) dx.K (by decide) rfl cx.n_isinstance rfl cx.n_tuple boot_tuple (qe_var (i := 0) rfl (.inl rfl))) (qe_isi (t := .tup) dx.K (by decide) rfl cx.n_isinstance rfl cx.n_tuple boot_tuple (qe_var (i := 1) rfl (.inl rfl))) (nomark _))))) (qss_one (qs_ret qe_bl)) qss_nil) (qss_one (qs_ret (qe_and dx.K (pd_cmp (od_eq dx.K dx.u65 false rfl) (qe_callB (cd_len dx.K) rfl cx.n_len boot_len (qa_cons (qe_var (i := 0) rfl (.inl rfl)) qa_nil)) (qe_callB (cd_len dx.K) rfl cx.n_len boot_len (qa_cons (qe_var (i := 1) rfl (.inl rfl)) qa_nil)) (nomark _)) (qe_one (qe_callB (cd_all dx.K dx.calm) rfl cx.n_all boot_all (qa_cons (qe_lc (own := [("_law_mine", 2), ("_law_its", 3)]) dx false (qi_zip dx.K rfl cx.n_zip (qa_cons (qe_var (i := 0) rfl (.inl rfl)) (qa_cons (qe_var (i := 1) rfl (.inl rfl)) qa_nil))) (blk_of (by kernel_rfl)) (by decide) (fun _ _ _ _ _ => (qg_tup (n := 2) (DX.blk dx _ _ _ _ _).K (DX.blk dx _ _ _ _ _).calm (qgs_cons (qg_name (i := 2) (DX.blk dx _ _ _ _ _).nd rfl (.inl rfl) (.inr rfl)) (qgs_cons (qg_name (i := 3) (DX.blk dx _ _ _ _ _).nd rfl (.inl rfl) (.inr rfl)) qgs_nil)))) (fun _ _ _ _ _ => qts_nil) (fun _ _ _ _ _ => (qf_call k0 (DX.blk dx _ _ _ _ _) (Nat.le_refl _) rfl cx.g__law_same (qa_cons (qe_var (i := 2) rfl (.inl rfl)) (qa_cons (qe_var (i := 3) rfl (.inl rfl)) qa_nil))))) qa_nil))))))) qss_nil) (qss_cons (qs_if (PW.pt (qw_or (qt_cmp (od_isN false rfl) (qe_var (i := 1) rfl (.inl rfl)) qe_non (nomark _)) (qw_or1 (qt_truth dx.K (qe_isi2 (t := .bl) (t' := .str) dx.K (by decide) (by decide) rfl cx.n_isinstance rfl cx.n_bool boot_bool rfl cx.n_str boot_str (qe_var (i := 1) rfl (.inl rfl))))))) (qss_one (qs_ret (qe_and dx.K (pd_cmp (od_eq dx.K dx.u65 false rfl) (qe_var (i := 0) rfl (.inl rfl)) (qe_var (i := 1) rfl (.inl rfl)) (nomark _)) (qe_and dx.K (pd_cmp (od_eq dx.K dx.u65 false rfl) (qe_isi (t := .bl) dx.K (by decide) rfl cx.n_isinstance rfl cx.n_bool boot_bool (qe_var (i := 0) rfl (.inl rfl))) (qe_isi (t := .bl) dx.K (by decide) rfl cx.n_isinstance rfl cx.n_bool boot_bool (qe_var (i := 1) rfl (.inl rfl))) (nomark _)) (qe_one (pd_cmp (od_eq dx.K dx.u65 false rfl) (pd_cmp (od_isN false rfl) (qe_var (i := 0) rfl (.inl rfl)) qe_non (nomark _)) (pd_cmp (od_isN false rfl) (qe_var (i := 1) rfl (.inl rfl)) qe_non (nomark _)) (nomark _))))))) qss_nil) (qss_one (qs_ret (qe_and dx.K (qe_isi (t := .int) dx.K (by decide) rfl cx.n_isinstance rfl cx.n_int boot_int (qe_var (i := 0) rfl (.inl rfl))) (qe_and dx.K (qe_not dx.K (qe_isi (t := .bl) dx.K (by decide) rfl cx.n_isinstance rfl cx.n_bool boot_bool (qe_var (i := 0) rfl (.inl rfl)))) (qe_one (pd_cmp (od_eq dx.K dx.u65 false rfl) (qe_var (i := 0) rfl (.inl rfl)) (qe_var (i := 1) rfl (.inl rfl)) (nomark _)))))))))
def w__law_image : DS := wSeq (wAsg (wLst true (wNil)) (gN 1)) (wSeq (wFor (iAny (wVar 0)) (gSeq 5 (gConsD (gN 2) (gConsD (gN 3) (gConsD (gN 4) (gConsD (gN 5) (gConsD (gN 6) (gNilD))))))) (wSeq (wAsg (wOp (dRel fun i j => decide (i < j)) (wVar 6) (wC (.int 0))) (gN 7)) (wSeq (wAsg (wTup (wCons (wVar 2) (wCons (wVar 3) (wCons (wVar 4) (wCons (wVar 5) (wCons (wOp (dRel fun i j => decide (j < i)) (wVar 6) (wC (.int 0))) (wCons (wIf (wTru (wVar 7)) (wC (.str "ended")) (wC (.str "runs"))) (wCons (wIf (wTru (wVar 7)) (wC (.int 5)) (wC .non)) (wCons (wC .non) (wNil)))))))))) (gN 8)) (wDrop (wM .lst mAppend (wVar 1) (wCons (wOp (dAdd false) (wVar 8) (wTup (wCons (wIf (wTru (wVar 7)) (wTup (wNil)) (wTup (wCons (wC (.int 0)) (wCons (wC (.int 0)) (wCons (wC (.int 0)) (wCons (wC (.int 0)) (wNil))))))) (wCons (wTup (wNil)) (wNil))))) (wNil))))))) (wRet (wTup (wCons (wB dTupOf (wCons (wB (dSortH false) (wCons (wVar 1) (wNil))) (wNil))) (wCons (wTup (wNil)) (wCons (wTup (wNil)) (wCons (wTup (wNil)) (wCons (wTup (wNil)) (wCons (wTup (wNil)) (wNil))))))))))
def S__law_image : DSp := arD 1 (runD 9 w__law_image)
theorem sc__law_image : FnScope ["_law_rows", "_law_found", "_law_n", "_law_up", "_law_session", "_law_group", "_law_adopts", "_law_ended", "_law_row"] ["_law_rows"] (defScope st__law_image) := ⟨rfl, rfl, rfl, by decide +kernel, rfl, by decide +kernel, by decide +kernel⟩
theorem ok__law_image (cx : Cxt K mg) : ∃ fd, FD P w K mg base (gm K) 1 (He.fAd K ("_law_image", none)) fd ["_law_rows"] S__law_image ∧ FunD K "_law_image" "_law_image" (defArgs st__law_image) (defBody st__law_image) (defScope st__law_image) [] [] (He.fAd K ("_law_image", none)) fd := by
  obtain ⟨fd, F⟩ := cx.F__law_image
  refine ⟨fd, FD.mk' F sc__law_image (fun _ _ _ _ _ _ us hl => match us, hl with | [_], _ => rfl) fun cdv A outer s H E hr hg => ?_, F⟩
  have dx := dx_cx (P := P) (w := w) (K := K) (mg := mg) (base := base) (G := gm K) (outer := outer) (H := H) (E := E) rfl sc__law_image.nd hr hg
  exact (qss_cons (qs_set (i := 1) dx.nd rfl (.inl rfl) (qe_lst true qa_nil) (by rfl) (.inl rfl)) (qss_cons (qs_for dx (qi_any dx.K (qe_var (i := 0) rfl (.inl rfl))) (qg_tup (n := 5) dx.K dx.calm (qgs_cons (qg_name (i := 2) dx.nd rfl (.inl rfl) (.inl rfl)) (qgs_cons (qg_name (i := 3) dx.nd rfl (.inl rfl) (.inl rfl)) (qgs_cons (qg_name (i := 4) dx.nd rfl (.inl rfl) (.inl rfl)) (qgs_cons (qg_name (i := 5) dx.nd rfl (.inl rfl) (.inl rfl)) (qgs_cons (qg_name (i := 6) dx.nd rfl (.inl rfl) (.inl rfl)) qgs_nil)))))) (qss_cons (qs_set (i := 7) dx.nd rfl (.inl rfl) (pd_cmp (od_rel op_lt) (qe_var (i := 6) rfl (.inl rfl)) qe_int (nomark _)) (by rfl) (.inl rfl)) (qss_cons (qs_set (i := 8) dx.nd rfl (.inl rfl) (qe_tup (qa_cons (qe_var (i := 2) rfl (.inl rfl)) (qa_cons (qe_var (i := 3) rfl (.inl rfl)) (qa_cons (qe_var (i := 4) rfl (.inl rfl)) (qa_cons (qe_var (i := 5) rfl (.inl rfl)) (qa_cons (pd_cmp (od_rel op_gt) (qe_var (i := 6) rfl (.inl rfl)) qe_int (nomark _)) (qa_cons (qe_if (qt_truth dx.K (qe_var (i := 7) rfl (.inl rfl))) qe_str qe_str) (qa_cons (qe_if (qt_truth dx.K (qe_var (i := 7) rfl (.inl rfl))) qe_int qe_non) (qa_cons qe_non qa_nil))))))))) (by rfl) (.inl rfl)) (qss_one (qs_expr (qe_m (t := .lst) dx.K (.inl rfl) PySem.F.plainAttrs_list PySem.F.slot_list_append PySem.F.type_list_append md_append (qe_var (i := 1) rfl (.inl rfl)) (qa_cons (pd_op (od_add dx.K false) (qe_var (i := 8) rfl (.inl rfl)) (qe_tup (qa_cons (qe_if (qt_truth dx.K (qe_var (i := 7) rfl (.inl rfl))) (qe_tup qa_nil) (qe_tup (qa_cons qe_int (qa_cons qe_int (qa_cons qe_int (qa_cons qe_int qa_nil)))))) (qa_cons (qe_tup qa_nil) qa_nil)))) qa_nil))))))) (qss_one (qs_ret (qe_tup (qa_cons (qe_callTy (cd_tup dx.K) rfl cx.n_tuple boot_tuple (qa_cons (qe_callB (cd_sortH dx.K false) rfl cx.n_sorted boot_sorted (qa_cons (qe_var (i := 1) rfl (.inl rfl)) qa_nil)) qa_nil)) (qa_cons (qe_tup qa_nil) (qa_cons (qe_tup qa_nil) (qa_cons (qe_tup qa_nil) (qa_cons (qe_tup qa_nil) (qa_cons (qe_tup qa_nil) qa_nil)))))))))))
def w__law_free : DS := wSeq (wFor (iAny (wVar 0)) (gSeq 2 (gConsD (gN 1) (gConsD (gN 2) (gNilD)))) (wSeq (wAsg (wCall S__law_image [] (wCons (wVar 1) (wNil))) (gN 3)) (wIfS (wNotT (wTru (wCall (S__law_same 6) [] (wCons (wLst false (wCons (wCall S_bar [] (wCons (wVar 3) (wNil))) (wCons (wCall S_helpers [] (wCons (wVar 3) (wNil))) (wNil)))) (wCons (wLst false (wCons (wC .non) (wCons (wVar 2) (wNil)))) (wNil)))))) (wRet (wC (.bl false))) (wNext)))) (wRet (wC (.bl true)))
def S__law_free : DSp := arD 1 (runD 4 w__law_free)
theorem sc__law_free : FnScope ["_law_cases", "_law_rows", "_law_due", "_law_image_so"] ["_law_cases"] (defScope st__law_free) := ⟨rfl, rfl, rfl, by decide +kernel, rfl, by decide +kernel, by decide +kernel⟩
theorem ok__law_free (cx : Cxt K mg) : ∃ fd, FD P w K mg base (gm K) 8 (He.fAd K ("_law_free", none)) fd ["_law_cases"] S__law_free ∧ FunD K "_law_free" "_law_free" (defArgs st__law_free) (defBody st__law_free) (defScope st__law_free) [] [] (He.fAd K ("_law_free", none)) fd := by
  obtain ⟨fd, F⟩ := cx.F__law_free
  obtain ⟨fd__law_image, k__law_image, F__law_image⟩ := ok__law_image (P := P) (w := w) (base := base) cx
  obtain ⟨fd__law_same, kr__law_same, F__law_same⟩ := ok__law_same (P := P) (w := w) (base := base) cx
  have k__law_same := kr__law_same 6
  obtain ⟨fd_bar, k_bar, F_bar⟩ := ok_bar (P := P) (w := w) (base := base) cx
  obtain ⟨fd_helpers, k_helpers, F_helpers⟩ := ok_helpers (P := P) (w := w) (base := base) cx
  refine ⟨fd, FD.mk' F sc__law_free (fun _ _ _ _ _ _ us hl => match us, hl with | [_], _ => rfl) fun cdv A outer s H E hr hg => ?_, F⟩
  have dx := dx_cx (P := P) (w := w) (K := K) (mg := mg) (base := base) (G := gm K) (outer := outer) (H := H) (E := E) rfl sc__law_free.nd hr hg
  exact (qss_cons (qs_for dx (qi_any dx.K (qe_var (i := 0) rfl (.inl rfl))) (qg_tup (n := 2) dx.K dx.calm (qgs_cons (qg_name (i := 1) dx.nd rfl (.inl rfl) (.inl rfl)) (qgs_cons (qg_name (i := 2) dx.nd rfl (.inl rfl) (.inl rfl)) qgs_nil))) (qss_cons (qs_set (i := 3) dx.nd rfl (.inl rfl) (qf_call k__law_image dx (by decide) rfl cx.g__law_image (qa_cons (qe_var (i := 1) rfl (.inl rfl)) qa_nil)) (by rfl) (.inl rfl)) (qss_one (qs_if (qt_not (qt_truth dx.K (qf_call k__law_same dx (by decide) rfl cx.g__law_same (qa_cons (qe_lst false (qa_cons (qf_call k_bar dx (by decide) rfl cx.g_bar (qa_cons (qe_var (i := 3) rfl (.inl rfl)) qa_nil)) (qa_cons (qf_call k_helpers dx (by decide) rfl cx.g_helpers (qa_cons (qe_var (i := 3) rfl (.inl rfl)) qa_nil)) qa_nil))) (qa_cons (qe_lst false (qa_cons qe_non (qa_cons (qe_var (i := 2) rfl (.inl rfl)) qa_nil))) qa_nil))))) (qss_one (qs_ret qe_bl)) qss_nil)))) (qss_one (qs_ret qe_bl)))
def w__law_barred : DS := wSeq (wFor (iAny (wVar 0)) (gSeq 2 (gConsD (gN 1) (gConsD (gN 2) (gNilD)))) (wSeq (wAsg (wCall S__law_image [] (wCons (wVar 1) (wNil))) (gN 3)) (wIfS (wNotT (wTru (wCall (S__law_same 6) [] (wCons (wLst false (wCons (wCall S_bar [] (wCons (wVar 3) (wNil))) (wCons (wCall S_shows_bar [] (wCons (wVar 3) (wCons (wVar 2) (wNil)))) (wNil)))) (wCons (wLst false (wCons (wVar 2) (wCons (wC (.bl true)) (wNil)))) (wNil)))))) (wRet (wC (.bl false))) (wNext)))) (wRet (wC (.bl true)))
def S__law_barred : DSp := arD 1 (runD 4 w__law_barred)
theorem sc__law_barred : FnScope ["_law_cases", "_law_rows", "_law_due", "_law_image_so"] ["_law_cases"] (defScope st__law_barred) := ⟨rfl, rfl, rfl, by decide +kernel, rfl, by decide +kernel, by decide +kernel⟩
theorem ok__law_barred (cx : Cxt K mg) : ∃ fd, FD P w K mg base (gm K) 7 (He.fAd K ("_law_barred", none)) fd ["_law_cases"] S__law_barred ∧ FunD K "_law_barred" "_law_barred" (defArgs st__law_barred) (defBody st__law_barred) (defScope st__law_barred) [] [] (He.fAd K ("_law_barred", none)) fd := by
  obtain ⟨fd, F⟩ := cx.F__law_barred
  obtain ⟨fd__law_image, k__law_image, F__law_image⟩ := ok__law_image (P := P) (w := w) (base := base) cx
  obtain ⟨fd__law_same, kr__law_same, F__law_same⟩ := ok__law_same (P := P) (w := w) (base := base) cx
  have k__law_same := kr__law_same 6
  obtain ⟨fd_bar, k_bar, F_bar⟩ := ok_bar (P := P) (w := w) (base := base) cx
  obtain ⟨fd_shows_bar, k_shows_bar, F_shows_bar⟩ := ok_shows_bar (P := P) (w := w) (base := base) cx
  refine ⟨fd, FD.mk' F sc__law_barred (fun _ _ _ _ _ _ us hl => match us, hl with | [_], _ => rfl) fun cdv A outer s H E hr hg => ?_, F⟩
  have dx := dx_cx (P := P) (w := w) (K := K) (mg := mg) (base := base) (G := gm K) (outer := outer) (H := H) (E := E) rfl sc__law_barred.nd hr hg
  exact (qss_cons (qs_for dx (qi_any dx.K (qe_var (i := 0) rfl (.inl rfl))) (qg_tup (n := 2) dx.K dx.calm (qgs_cons (qg_name (i := 1) dx.nd rfl (.inl rfl) (.inl rfl)) (qgs_cons (qg_name (i := 2) dx.nd rfl (.inl rfl) (.inl rfl)) qgs_nil))) (qss_cons (qs_set (i := 3) dx.nd rfl (.inl rfl) (qf_call k__law_image dx (by decide) rfl cx.g__law_image (qa_cons (qe_var (i := 1) rfl (.inl rfl)) qa_nil)) (by rfl) (.inl rfl)) (qss_one (qs_if (qt_not (qt_truth dx.K (qf_call k__law_same dx (by decide) rfl cx.g__law_same (qa_cons (qe_lst false (qa_cons (qf_call k_bar dx (by decide) rfl cx.g_bar (qa_cons (qe_var (i := 3) rfl (.inl rfl)) qa_nil)) (qa_cons (qf_call k_shows_bar dx (by decide) rfl cx.g_shows_bar (qa_cons (qe_var (i := 3) rfl (.inl rfl)) (qa_cons (qe_var (i := 2) rfl (.inl rfl)) qa_nil))) qa_nil))) (qa_cons (qe_lst false (qa_cons (qe_var (i := 2) rfl (.inl rfl)) (qa_cons qe_bl qa_nil))) qa_nil))))) (qss_one (qs_ret qe_bl)) qss_nil)))) (qss_one (qs_ret qe_bl)))
def w__law_led_right : DS := wSeq (wAsg (wVar 0) (gSeq 5 (gConsD (gN 2) (gConsD (gN 3) (gConsD (gN 4) (gConsD (gN 5) (gConsD (gN 6) (gNilD)))))))) (wSeq (wPar3 7 8 9 (wCons (wTup (wCons (wVar 2) (wCons (wC .non) (wCons (wVar 2) (wCons (wVar 2) (wCons (wC (.int 1)) (wNil))))))) (wCons (wTup (wCons (wVar 3) (wCons (wVar 2) (wCons (wVar 3) (wCons (wVar 3) (wCons (wC (.int 0)) (wNil))))))) (wCons (wTup (wCons (wVar 4) (wCons (wVar 2) (wCons (wVar 3) (wCons (wVar 3) (wCons (wC (.int 0)) (wNil))))))) (wNil))))) (wSeq (wAsg (wLst false (wCons (wTup (wCons (wLst false (wCons (wTup (wCons (wVar 2) (wCons (wC .non) (wCons (wC (.int 1)) (wCons (wC (.int 1)) (wCons (wC (.int 0)) (wNil))))))) (wNil))) (wCons (wTup (wCons (wLst false (wNil)) (wCons (wLst false (wNil)) (wCons (wLst false (wNil)) (wNil))))) (wNil)))) (wCons (wTup (wCons (wLst false (wCons (wTup (wCons (wVar 2) (wCons (wC .non) (wCons (wC (.int 1)) (wCons (wC (.int 1)) (wCons (wC (.int 0)) (wNil))))))) (wCons (wTup (wCons (wVar 3) (wCons (wVar 2) (wCons (wVar 3) (wCons (wVar 3) (wCons (wC (.int 1)) (wNil))))))) (wNil)))) (wCons (wTup (wCons (wLst false (wNil)) (wCons (wLst false (wNil)) (wCons (wLst false (wNil)) (wNil))))) (wNil)))) (wNil)))) (gN 10)) (wSeq (wAsg (wOp (dAdd false) (wVar 10) (wLst false (wCons (wTup (wCons (wLst false (wCons (wVar 7) (wCons (wVar 8) (wNil)))) (wCons (wTup (wCons (wLst false (wNil)) (wCons (wLst false (wNil)) (wCons (wLst false (wNil)) (wNil))))) (wNil)))) (wCons (wTup (wCons (wLst false (wCons (wVar 7) (wCons (wVar 8) (wCons (wVar 9) (wNil))))) (wCons (wTup (wCons (wLst false (wNil)) (wCons (wLst false (wNil)) (wCons (wLst false (wCons (wVar 3) (wNil))) (wNil))))) (wNil)))) (wNil))))) (gN 10)) (wSeq (wAsg (wOp (dAdd false) (wVar 10) (wLst false (wCons (wTup (wCons (wLst false (wCons (wVar 7) (wCons (wVar 8) (wCons (wVar 9) (wCons (wTup (wCons (wVar 5) (wCons (wVar 3) (wCons (wVar 3) (wCons (wVar 3) (wCons (wNeg (wC (.int 1))) (wNil))))))) (wNil)))))) (wCons (wTup (wCons (wLst false (wNil)) (wCons (wLst false (wNil)) (wCons (wLst false (wNil)) (wNil))))) (wNil)))) (wCons (wTup (wCons (wLst false (wCons (wVar 7) (wCons (wTup (wCons (wVar 3) (wCons (wVar 2) (wCons (wVar 3) (wCons (wVar 3) (wCons (wNeg (wC (.int 1))) (wNil))))))) (wCons (wVar 9) (wNil))))) (wCons (wTup (wCons (wLst false (wNil)) (wCons (wLst false (wNil)) (wCons (wLst false (wNil)) (wNil))))) (wNil)))) (wNil))))) (gN 10)) (wSeq (wAsg (wOp (dAdd false) (wVar 10) (wLst false (wCons (wTup (wCons (wLst false (wCons (wVar 7) (wCons (wVar 8) (wCons (wTup (wCons (wVar 4) (wCons (wVar 2) (wCons (wVar 3) (wCons (wVar 1) (wCons (wC (.int 0)) (wNil))))))) (wNil))))) (wCons (wTup (wCons (wLst false (wNil)) (wCons (wLst false (wCons (wVar 1) (wNil))) (wCons (wLst false (wNil)) (wNil))))) (wNil)))) (wCons (wTup (wCons (wLst false (wCons (wVar 7) (wCons (wVar 8) (wCons (wVar 9) (wCons (wTup (wCons (wVar 5) (wCons (wVar 3) (wCons (wVar 3) (wCons (wVar 1) (wCons (wC (.int 0)) (wNil))))))) (wNil)))))) (wCons (wTup (wCons (wLst false (wNil)) (wCons (wLst false (wCons (wVar 1) (wNil))) (wCons (wLst false (wNil)) (wNil))))) (wNil)))) (wNil))))) (gN 10)) (wSeq (wAsg (wOp (dAdd false) (wVar 10) (wLst false (wCons (wTup (wCons (wLst false (wCons (wVar 7) (wCons (wTup (wCons (wVar 3) (wCons (wVar 2) (wCons (wVar 3) (wCons (wVar 3) (wCons (wC (.int 1)) (wNil))))))) (wCons (wVar 9) (wCons (wTup (wCons (wVar 5) (wCons (wVar 3) (wCons (wVar 3) (wCons (wVar 3) (wCons (wNeg (wC (.int 1))) (wNil))))))) (wNil)))))) (wCons (wTup (wCons (wLst false (wNil)) (wCons (wLst false (wNil)) (wCons (wLst false (wCons (wVar 3) (wNil))) (wNil))))) (wNil)))) (wNil)))) (gN 10)) (wSeq (wAsg (wOp (dAdd false) (wVar 10) (wLst false (wCons (wTup (wCons (wLst false (wCons (wVar 7) (wCons (wVar 8) (wCons (wVar 9) (wCons (wTup (wCons (wVar 5) (wCons (wVar 3) (wCons (wVar 3) (wCons (wVar 3) (wCons (wC (.int 0)) (wNil))))))) (wCons (wTup (wCons (wVar 6) (wCons (wVar 5) (wCons (wVar 3) (wCons (wVar 3) (wCons (wNeg (wC (.int 1))) (wNil))))))) (wNil))))))) (wCons (wTup (wCons (wLst false (wNil)) (wCons (wLst false (wNil)) (wCons (wLst false (wNil)) (wNil))))) (wNil)))) (wNil)))) (gN 10)) (wSeq (wAsg (wOp (dAdd false) (wVar 10) (wLst false (wCons (wTup (wCons (wLst false (wCons (wVar 7) (wCons (wVar 8) (wCons (wVar 9) (wCons (wTup (wCons (wVar 5) (wCons (wVar 3) (wCons (wVar 3) (wCons (wVar 3) (wCons (wC (.int 1)) (wNil))))))) (wCons (wTup (wCons (wVar 6) (wCons (wVar 5) (wCons (wVar 3) (wCons (wVar 3) (wCons (wNeg (wC (.int 1))) (wNil))))))) (wNil))))))) (wCons (wTup (wCons (wLst false (wNil)) (wCons (wLst false (wNil)) (wCons (wLst false (wCons (wVar 3) (wNil))) (wNil))))) (wNil)))) (wNil)))) (gN 10)) (wSeq (wAsg (wOp (dAdd false) (wVar 10) (wLst false (wCons (wTup (wCons (wLst false (wCons (wVar 7) (wCons (wVar 8) (wCons (wVar 9) (wCons (wTup (wCons (wVar 5) (wCons (wVar 4) (wCons (wVar 3) (wCons (wVar 5) (wCons (wC (.int 0)) (wNil))))))) (wCons (wTup (wCons (wVar 6) (wCons (wVar 4) (wCons (wVar 3) (wCons (wVar 3) (wCons (wNeg (wC (.int 1))) (wNil))))))) (wNil))))))) (wCons (wTup (wCons (wLst false (wNil)) (wCons (wLst false (wNil)) (wCons (wLst false (wCons (wVar 3) (wNil))) (wNil))))) (wNil)))) (wNil)))) (gN 10)) (wSeq (wAsg (wLst false (wCons (wTup (wCons (wLst false (wCons (wTup (wCons (wVar 2) (wCons (wC .non) (wCons (wVar 2) (wCons (wVar 2) (wCons (wC (.int 0)) (wNil))))))) (wCons (wVar 8) (wCons (wVar 9) (wNil))))) (wCons (wTup (wCons (wC (.str "session")) (wCons (wVar 3) (wCons (wVar 4) (wNil))))) (wNil)))) (wCons (wTup (wCons (wLst false (wCons (wVar 7) (wCons (wTup (wCons (wVar 3) (wCons (wVar 2) (wCons (wVar 3) (wCons (wVar 2) (wCons (wC (.int 0)) (wNil))))))) (wNil)))) (wCons (wTup (wCons (wC (.str "session")) (wCons (wVar 3) (wCons (wVar 3) (wNil))))) (wNil)))) (wNil)))) (gN 11)) (wSeq (wAsg (wOp (dAdd false) (wVar 11) (wLst false (wCons (wTup (wCons (wLst false (wCons (wVar 7) (wCons (wTup (wCons (wVar 3) (wCons (wVar 2) (wCons (wVar 2) (wCons (wVar 2) (wCons (wC (.int 1)) (wNil))))))) (wCons (wTup (wCons (wVar 4) (wCons (wVar 3) (wCons (wVar 4) (wCons (wVar 4) (wCons (wC (.int 0)) (wNil))))))) (wCons (wTup (wCons (wVar 5) (wCons (wVar 2) (wCons (wVar 4) (wCons (wVar 4) (wCons (wC (.int 0)) (wNil))))))) (wNil)))))) (wCons (wTup (wCons (wC (.str "session")) (wCons (wVar 4) (wCons (wVar 5) (wNil))))) (wNil)))) (wNil)))) (gN 11)) (wSeq (wAsg (wOp (dAdd false) (wVar 11) (wLst false (wCons (wTup (wCons (wLst false (wCons (wVar 7) (wCons (wTup (wCons (wVar 3) (wCons (wVar 2) (wCons (wC (.int 1)) (wCons (wC (.int 1)) (wCons (wC (.int 0)) (wNil))))))) (wCons (wTup (wCons (wVar 4) (wCons (wVar 3) (wCons (wC (.int 1)) (wCons (wC (.int 1)) (wCons (wC (.int 0)) (wNil))))))) (wNil))))) (wCons (wTup (wCons (wC (.str "session")) (wCons (wC (.int 1)) (wCons (wVar 3) (wNil))))) (wNil)))) (wNil)))) (gN 11)) (wSeq (wAsg (wOp (dAdd false) (wVar 11) (wLst false (wCons (wTup (wCons (wLst false (wCons (wVar 7) (wCons (wTup (wCons (wVar 3) (wCons (wVar 2) (wCons (wVar 2) (wCons (wVar 2) (wCons (wC (.int 0)) (wNil))))))) (wCons (wTup (wCons (wVar 4) (wCons (wVar 3) (wCons (wVar 3) (wCons (wVar 3) (wCons (wC (.int 0)) (wNil))))))) (wNil))))) (wCons (wTup (wCons (wC (.str "session")) (wCons (wVar 3) (wCons (wVar 3) (wNil))))) (wNil)))) (wNil)))) (gN 11)) (wRet (wAnd (wCall S__law_free [] (wCons (wVar 10) (wNil))) (wCall S__law_barred [] (wCons (wVar 11) (wNil))))))))))))))))))
def S__law_led_right : DSp := arD 2 (runD 12 w__law_led_right)
theorem sc__law_led_right : FnScope ["_law_some", "_law_g", "_law_a", "_law_b", "_law_c", "_law_d", "_law_e", "_law_root", "_law_lead", "_law_top", "_law_free_here", "_law_barred_here"] ["_law_some", "_law_g"] (defScope st__law_led_right) := ⟨rfl, rfl, rfl, by decide +kernel, rfl, by decide +kernel, by decide +kernel⟩
theorem ok__law_led_right (cx : Cxt K mg) : ∃ fd, FD P w K mg base (gm K) 9 (He.fAd K ("_law_led_right", none)) fd ["_law_some", "_law_g"] S__law_led_right ∧ FunD K "_law_led_right" "_law_led_right" (defArgs st__law_led_right) (defBody st__law_led_right) (defScope st__law_led_right) [] [] (He.fAd K ("_law_led_right", none)) fd := by
  obtain ⟨fd, F⟩ := cx.F__law_led_right
  obtain ⟨fd__law_barred, k__law_barred, F__law_barred⟩ := ok__law_barred (P := P) (w := w) (base := base) cx
  obtain ⟨fd__law_free, k__law_free, F__law_free⟩ := ok__law_free (P := P) (w := w) (base := base) cx
  refine ⟨fd, FD.mk' F sc__law_led_right (fun _ _ _ _ _ _ us hl => match us, hl with | [_, _], _ => rfl) fun cdv A outer s H E hr hg => ?_, F⟩
  have dx := dx_cx (P := P) (w := w) (K := K) (mg := mg) (base := base) (G := gm K) (outer := outer) (H := H) (E := E) rfl sc__law_led_right.nd hr hg
  exact (qss_cons (qs_asg (qe_var (i := 0) rfl (.inl rfl)) (qg_tup (n := 5) dx.K dx.calm (qgs_cons (qg_name (i := 2) dx.nd rfl (.inl rfl) (.inl rfl)) (qgs_cons (qg_name (i := 3) dx.nd rfl (.inl rfl) (.inl rfl)) (qgs_cons (qg_name (i := 4) dx.nd rfl (.inl rfl) (.inl rfl)) (qgs_cons (qg_name (i := 5) dx.nd rfl (.inl rfl) (.inl rfl)) (qgs_cons (qg_name (i := 6) dx.nd rfl (.inl rfl) (.inl rfl)) qgs_nil))))))) (qss_cons (qs_par3 (i := 7) (j := 8) (l := 9) dx.calm dx.nd rfl rfl rfl (by decide) (by decide) (by decide) rfl rfl rfl (qa_cons (qe_tup (qa_cons (qe_var (i := 2) rfl (.inl rfl)) (qa_cons qe_non (qa_cons (qe_var (i := 2) rfl (.inl rfl)) (qa_cons (qe_var (i := 2) rfl (.inl rfl)) (qa_cons qe_int qa_nil)))))) (qa_cons (qe_tup (qa_cons (qe_var (i := 3) rfl (.inl rfl)) (qa_cons (qe_var (i := 2) rfl (.inl rfl)) (qa_cons (qe_var (i := 3) rfl (.inl rfl)) (qa_cons (qe_var (i := 3) rfl (.inl rfl)) (qa_cons qe_int qa_nil)))))) (qa_cons (qe_tup (qa_cons (qe_var (i := 4) rfl (.inl rfl)) (qa_cons (qe_var (i := 2) rfl (.inl rfl)) (qa_cons (qe_var (i := 3) rfl (.inl rfl)) (qa_cons (qe_var (i := 3) rfl (.inl rfl)) (qa_cons qe_int qa_nil)))))) qa_nil)))) (qss_cons (qs_set (i := 10) dx.nd rfl (.inl rfl) (qe_lst false (qa_cons (qe_tup (qa_cons (qe_lst false (qa_cons (qe_tup (qa_cons (qe_var (i := 2) rfl (.inl rfl)) (qa_cons qe_non (qa_cons qe_int (qa_cons qe_int (qa_cons qe_int qa_nil)))))) qa_nil)) (qa_cons (qe_tup (qa_cons (qe_lst false qa_nil) (qa_cons (qe_lst false qa_nil) (qa_cons (qe_lst false qa_nil) qa_nil)))) qa_nil))) (qa_cons (qe_tup (qa_cons (qe_lst false (qa_cons (qe_tup (qa_cons (qe_var (i := 2) rfl (.inl rfl)) (qa_cons qe_non (qa_cons qe_int (qa_cons qe_int (qa_cons qe_int qa_nil)))))) (qa_cons (qe_tup (qa_cons (qe_var (i := 3) rfl (.inl rfl)) (qa_cons (qe_var (i := 2) rfl (.inl rfl)) (qa_cons (qe_var (i := 3) rfl (.inl rfl)) (qa_cons (qe_var (i := 3) rfl (.inl rfl)) (qa_cons qe_int qa_nil)))))) qa_nil))) (qa_cons (qe_tup (qa_cons (qe_lst false qa_nil) (qa_cons (qe_lst false qa_nil) (qa_cons (qe_lst false qa_nil) qa_nil)))) qa_nil))) qa_nil))) (by rfl) (.inl rfl)) (qss_cons (qs_set (i := 10) dx.nd rfl (.inl rfl) (pd_op (od_add dx.K false) (qe_var (i := 10) rfl (.inl rfl)) (qe_lst false (qa_cons (qe_tup (qa_cons (qe_lst false (qa_cons (qe_var (i := 7) rfl (.inl rfl)) (qa_cons (qe_var (i := 8) rfl (.inl rfl)) qa_nil))) (qa_cons (qe_tup (qa_cons (qe_lst false qa_nil) (qa_cons (qe_lst false qa_nil) (qa_cons (qe_lst false qa_nil) qa_nil)))) qa_nil))) (qa_cons (qe_tup (qa_cons (qe_lst false (qa_cons (qe_var (i := 7) rfl (.inl rfl)) (qa_cons (qe_var (i := 8) rfl (.inl rfl)) (qa_cons (qe_var (i := 9) rfl (.inl rfl)) qa_nil)))) (qa_cons (qe_tup (qa_cons (qe_lst false qa_nil) (qa_cons (qe_lst false qa_nil) (qa_cons (qe_lst false (qa_cons (qe_var (i := 3) rfl (.inl rfl)) qa_nil)) qa_nil)))) qa_nil))) qa_nil)))) (by rfl) (.inl rfl)) (qss_cons (qs_set (i := 10) dx.nd rfl (.inl rfl) (pd_op (od_add dx.K false) (qe_var (i := 10) rfl (.inl rfl)) (qe_lst false (qa_cons (qe_tup (qa_cons (qe_lst false (qa_cons (qe_var (i := 7) rfl (.inl rfl)) (qa_cons (qe_var (i := 8) rfl (.inl rfl)) (qa_cons (qe_var (i := 9) rfl (.inl rfl)) (qa_cons (qe_tup (qa_cons (qe_var (i := 5) rfl (.inl rfl)) (qa_cons (qe_var (i := 3) rfl (.inl rfl)) (qa_cons (qe_var (i := 3) rfl (.inl rfl)) (qa_cons (qe_var (i := 3) rfl (.inl rfl)) (qa_cons (qe_neg qe_int) qa_nil)))))) qa_nil))))) (qa_cons (qe_tup (qa_cons (qe_lst false qa_nil) (qa_cons (qe_lst false qa_nil) (qa_cons (qe_lst false qa_nil) qa_nil)))) qa_nil))) (qa_cons (qe_tup (qa_cons (qe_lst false (qa_cons (qe_var (i := 7) rfl (.inl rfl)) (qa_cons (qe_tup (qa_cons (qe_var (i := 3) rfl (.inl rfl)) (qa_cons (qe_var (i := 2) rfl (.inl rfl)) (qa_cons (qe_var (i := 3) rfl (.inl rfl)) (qa_cons (qe_var (i := 3) rfl (.inl rfl)) (qa_cons (qe_neg qe_int) qa_nil)))))) (qa_cons (qe_var (i := 9) rfl (.inl rfl)) qa_nil)))) (qa_cons (qe_tup (qa_cons (qe_lst false qa_nil) (qa_cons (qe_lst false qa_nil) (qa_cons (qe_lst false qa_nil) qa_nil)))) qa_nil))) qa_nil)))) (by rfl) (.inl rfl)) (qss_cons (qs_set (i := 10) dx.nd rfl (.inl rfl) (pd_op (od_add dx.K false) (qe_var (i := 10) rfl (.inl rfl)) (qe_lst false (qa_cons (qe_tup (qa_cons (qe_lst false (qa_cons (qe_var (i := 7) rfl (.inl rfl)) (qa_cons (qe_var (i := 8) rfl (.inl rfl)) (qa_cons (qe_tup (qa_cons (qe_var (i := 4) rfl (.inl rfl)) (qa_cons (qe_var (i := 2) rfl (.inl rfl)) (qa_cons (qe_var (i := 3) rfl (.inl rfl)) (qa_cons (qe_var (i := 1) rfl (.inl rfl)) (qa_cons qe_int qa_nil)))))) qa_nil)))) (qa_cons (qe_tup (qa_cons (qe_lst false qa_nil) (qa_cons (qe_lst false (qa_cons (qe_var (i := 1) rfl (.inl rfl)) qa_nil)) (qa_cons (qe_lst false qa_nil) qa_nil)))) qa_nil))) (qa_cons (qe_tup (qa_cons (qe_lst false (qa_cons (qe_var (i := 7) rfl (.inl rfl)) (qa_cons (qe_var (i := 8) rfl (.inl rfl)) (qa_cons (qe_var (i := 9) rfl (.inl rfl)) (qa_cons (qe_tup (qa_cons (qe_var (i := 5) rfl (.inl rfl)) (qa_cons (qe_var (i := 3) rfl (.inl rfl)) (qa_cons (qe_var (i := 3) rfl (.inl rfl)) (qa_cons (qe_var (i := 1) rfl (.inl rfl)) (qa_cons qe_int qa_nil)))))) qa_nil))))) (qa_cons (qe_tup (qa_cons (qe_lst false qa_nil) (qa_cons (qe_lst false (qa_cons (qe_var (i := 1) rfl (.inl rfl)) qa_nil)) (qa_cons (qe_lst false qa_nil) qa_nil)))) qa_nil))) qa_nil)))) (by rfl) (.inl rfl)) (qss_cons (qs_set (i := 10) dx.nd rfl (.inl rfl) (pd_op (od_add dx.K false) (qe_var (i := 10) rfl (.inl rfl)) (qe_lst false (qa_cons (qe_tup (qa_cons (qe_lst false (qa_cons (qe_var (i := 7) rfl (.inl rfl)) (qa_cons (qe_tup (qa_cons (qe_var (i := 3) rfl (.inl rfl)) (qa_cons (qe_var (i := 2) rfl (.inl rfl)) (qa_cons (qe_var (i := 3) rfl (.inl rfl)) (qa_cons (qe_var (i := 3) rfl (.inl rfl)) (qa_cons qe_int qa_nil)))))) (qa_cons (qe_var (i := 9) rfl (.inl rfl)) (qa_cons (qe_tup (qa_cons (qe_var (i := 5) rfl (.inl rfl)) (qa_cons (qe_var (i := 3) rfl (.inl rfl)) (qa_cons (qe_var (i := 3) rfl (.inl rfl)) (qa_cons (qe_var (i := 3) rfl (.inl rfl)) (qa_cons (qe_neg qe_int) qa_nil)))))) qa_nil))))) (qa_cons (qe_tup (qa_cons (qe_lst false qa_nil) (qa_cons (qe_lst false qa_nil) (qa_cons (qe_lst false (qa_cons (qe_var (i := 3) rfl (.inl rfl)) qa_nil)) qa_nil)))) qa_nil))) qa_nil))) (by rfl) (.inl rfl)) (qss_cons (qs_set (i := 10) dx.nd rfl (.inl rfl) (pd_op (od_add dx.K false) (qe_var (i := 10) rfl (.inl rfl)) (qe_lst false (qa_cons (qe_tup (qa_cons (qe_lst false (qa_cons (qe_var (i := 7) rfl (.inl rfl)) (qa_cons (qe_var (i := 8) rfl (.inl rfl)) (qa_cons (qe_var (i := 9) rfl (.inl rfl)) (qa_cons (qe_tup (qa_cons (qe_var (i := 5) rfl (.inl rfl)) (qa_cons (qe_var (i := 3) rfl (.inl rfl)) (qa_cons (qe_var (i := 3) rfl (.inl rfl)) (qa_cons (qe_var (i := 3) rfl (.inl rfl)) (qa_cons qe_int qa_nil)))))) (qa_cons (qe_tup (qa_cons (qe_var (i := 6) rfl (.inl rfl)) (qa_cons (qe_var (i := 5) rfl (.inl rfl)) (qa_cons (qe_var (i := 3) rfl (.inl rfl)) (qa_cons (qe_var (i := 3) rfl (.inl rfl)) (qa_cons (qe_neg qe_int) qa_nil)))))) qa_nil)))))) (qa_cons (qe_tup (qa_cons (qe_lst false qa_nil) (qa_cons (qe_lst false qa_nil) (qa_cons (qe_lst false qa_nil) qa_nil)))) qa_nil))) qa_nil))) (by rfl) (.inl rfl)) (qss_cons (qs_set (i := 10) dx.nd rfl (.inl rfl) (pd_op (od_add dx.K false) (qe_var (i := 10) rfl (.inl rfl)) (qe_lst false (qa_cons (qe_tup (qa_cons (qe_lst false (qa_cons (qe_var (i := 7) rfl (.inl rfl)) (qa_cons (qe_var (i := 8) rfl (.inl rfl)) (qa_cons (qe_var (i := 9) rfl (.inl rfl)) (qa_cons (qe_tup (qa_cons (qe_var (i := 5) rfl (.inl rfl)) (qa_cons (qe_var (i := 3) rfl (.inl rfl)) (qa_cons (qe_var (i := 3) rfl (.inl rfl)) (qa_cons (qe_var (i := 3) rfl (.inl rfl)) (qa_cons qe_int qa_nil)))))) (qa_cons (qe_tup (qa_cons (qe_var (i := 6) rfl (.inl rfl)) (qa_cons (qe_var (i := 5) rfl (.inl rfl)) (qa_cons (qe_var (i := 3) rfl (.inl rfl)) (qa_cons (qe_var (i := 3) rfl (.inl rfl)) (qa_cons (qe_neg qe_int) qa_nil)))))) qa_nil)))))) (qa_cons (qe_tup (qa_cons (qe_lst false qa_nil) (qa_cons (qe_lst false qa_nil) (qa_cons (qe_lst false (qa_cons (qe_var (i := 3) rfl (.inl rfl)) qa_nil)) qa_nil)))) qa_nil))) qa_nil))) (by rfl) (.inl rfl)) (qss_cons (qs_set (i := 10) dx.nd rfl (.inl rfl) (pd_op (od_add dx.K false) (qe_var (i := 10) rfl (.inl rfl)) (qe_lst false (qa_cons (qe_tup (qa_cons (qe_lst false (qa_cons (qe_var (i := 7) rfl (.inl rfl)) (qa_cons (qe_var (i := 8) rfl (.inl rfl)) (qa_cons (qe_var (i := 9) rfl (.inl rfl)) (qa_cons (qe_tup (qa_cons (qe_var (i := 5) rfl (.inl rfl)) (qa_cons (qe_var (i := 4) rfl (.inl rfl)) (qa_cons (qe_var (i := 3) rfl (.inl rfl)) (qa_cons (qe_var (i := 5) rfl (.inl rfl)) (qa_cons qe_int qa_nil)))))) (qa_cons (qe_tup (qa_cons (qe_var (i := 6) rfl (.inl rfl)) (qa_cons (qe_var (i := 4) rfl (.inl rfl)) (qa_cons (qe_var (i := 3) rfl (.inl rfl)) (qa_cons (qe_var (i := 3) rfl (.inl rfl)) (qa_cons (qe_neg qe_int) qa_nil)))))) qa_nil)))))) (qa_cons (qe_tup (qa_cons (qe_lst false qa_nil) (qa_cons (qe_lst false qa_nil) (qa_cons (qe_lst false (qa_cons (qe_var (i := 3) rfl (.inl rfl)) qa_nil)) qa_nil)))) qa_nil))) qa_nil))) (by rfl) (.inl rfl)) (qss_cons (qs_set (i := 11) dx.nd rfl (.inl rfl) (qe_lst false (qa_cons (qe_tup (qa_cons (qe_lst false (qa_cons (qe_tup (qa_cons (qe_var (i := 2) rfl (.inl rfl)) (qa_cons qe_non (qa_cons (qe_var (i := 2) rfl (.inl rfl)) (qa_cons (qe_var (i := 2) rfl (.inl rfl)) (qa_cons qe_int qa_nil)))))) (qa_cons (qe_var (i := 8) rfl (.inl rfl)) (qa_cons (qe_var (i := 9) rfl (.inl rfl)) qa_nil)))) (qa_cons (qe_tup (qa_cons qe_str (qa_cons (qe_var (i := 3) rfl (.inl rfl)) (qa_cons (qe_var (i := 4) rfl (.inl rfl)) qa_nil)))) qa_nil))) (qa_cons (qe_tup (qa_cons (qe_lst false (qa_cons (qe_var (i := 7) rfl (.inl rfl)) (qa_cons (qe_tup (qa_cons (qe_var (i := 3) rfl (.inl rfl)) (qa_cons (qe_var (i := 2) rfl (.inl rfl)) (qa_cons (qe_var (i := 3) rfl (.inl rfl)) (qa_cons (qe_var (i := 2) rfl (.inl rfl)) (qa_cons qe_int qa_nil)))))) qa_nil))) (qa_cons (qe_tup (qa_cons qe_str (qa_cons (qe_var (i := 3) rfl (.inl rfl)) (qa_cons (qe_var (i := 3) rfl (.inl rfl)) qa_nil)))) qa_nil))) qa_nil))) (by rfl) (.inl rfl)) (qss_cons (qs_set (i := 11) dx.nd rfl (.inl rfl) (pd_op (od_add dx.K false) (qe_var (i := 11) rfl (.inl rfl)) (qe_lst false (qa_cons (qe_tup (qa_cons (qe_lst false (qa_cons (qe_var (i := 7) rfl (.inl rfl)) (qa_cons (qe_tup (qa_cons (qe_var (i := 3) rfl (.inl rfl)) (qa_cons (qe_var (i := 2) rfl (.inl rfl)) (qa_cons (qe_var (i := 2) rfl (.inl rfl)) (qa_cons (qe_var (i := 2) rfl (.inl rfl)) (qa_cons qe_int qa_nil)))))) (qa_cons (qe_tup (qa_cons (qe_var (i := 4) rfl (.inl rfl)) (qa_cons (qe_var (i := 3) rfl (.inl rfl)) (qa_cons (qe_var (i := 4) rfl (.inl rfl)) (qa_cons (qe_var (i := 4) rfl (.inl rfl)) (qa_cons qe_int qa_nil)))))) (qa_cons (qe_tup (qa_cons (qe_var (i := 5) rfl (.inl rfl)) (qa_cons (qe_var (i := 2) rfl (.inl rfl)) (qa_cons (qe_var (i := 4) rfl (.inl rfl)) (qa_cons (qe_var (i := 4) rfl (.inl rfl)) (qa_cons qe_int qa_nil)))))) qa_nil))))) (qa_cons (qe_tup (qa_cons qe_str (qa_cons (qe_var (i := 4) rfl (.inl rfl)) (qa_cons (qe_var (i := 5) rfl (.inl rfl)) qa_nil)))) qa_nil))) qa_nil))) (by rfl) (.inl rfl)) (qss_cons (qs_set (i := 11) dx.nd rfl (.inl rfl) (pd_op (od_add dx.K false) (qe_var (i := 11) rfl (.inl rfl)) (qe_lst false (qa_cons (qe_tup (qa_cons (qe_lst false (qa_cons (qe_var (i := 7) rfl (.inl rfl)) (qa_cons (qe_tup (qa_cons (qe_var (i := 3) rfl (.inl rfl)) (qa_cons (qe_var (i := 2) rfl (.inl rfl)) (qa_cons qe_int (qa_cons qe_int (qa_cons qe_int qa_nil)))))) (qa_cons (qe_tup (qa_cons (qe_var (i := 4) rfl (.inl rfl)) (qa_cons (qe_var (i := 3) rfl (.inl rfl)) (qa_cons qe_int (qa_cons qe_int (qa_cons qe_int qa_nil)))))) qa_nil)))) (qa_cons (qe_tup (qa_cons qe_str (qa_cons qe_int (qa_cons (qe_var (i := 3) rfl (.inl rfl)) qa_nil)))) qa_nil))) qa_nil))) (by rfl) (.inl rfl)) (qss_cons (qs_set (i := 11) dx.nd rfl (.inl rfl) (pd_op (od_add dx.K false) (qe_var (i := 11) rfl (.inl rfl)) (qe_lst false (qa_cons (qe_tup (qa_cons (qe_lst false (qa_cons (qe_var (i := 7) rfl (.inl rfl)) (qa_cons (qe_tup (qa_cons (qe_var (i := 3) rfl (.inl rfl)) (qa_cons (qe_var (i := 2) rfl (.inl rfl)) (qa_cons (qe_var (i := 2) rfl (.inl rfl)) (qa_cons (qe_var (i := 2) rfl (.inl rfl)) (qa_cons qe_int qa_nil)))))) (qa_cons (qe_tup (qa_cons (qe_var (i := 4) rfl (.inl rfl)) (qa_cons (qe_var (i := 3) rfl (.inl rfl)) (qa_cons (qe_var (i := 3) rfl (.inl rfl)) (qa_cons (qe_var (i := 3) rfl (.inl rfl)) (qa_cons qe_int qa_nil)))))) qa_nil)))) (qa_cons (qe_tup (qa_cons qe_str (qa_cons (qe_var (i := 3) rfl (.inl rfl)) (qa_cons (qe_var (i := 3) rfl (.inl rfl)) qa_nil)))) qa_nil))) qa_nil))) (by rfl) (.inl rfl)) (qss_one (qs_ret (qe_and dx.K (qf_call k__law_free dx (by decide) rfl cx.g__law_free (qa_cons (qe_var (i := 10) rfl (.inl rfl)) qa_nil)) (qe_one (qf_call k__law_barred dx (by decide) rfl cx.g__law_barred (qa_cons (qe_var (i := 11) rfl (.inl rfl)) qa_nil))))))))))))))))))))
def w__law_lost_right : DS := wSeq (wAsg (wVar 0) (gSeq 5 (gConsD (gN 2) (gConsD (gN 3) (gConsD (gN 4) (gConsD (gN 5) (gConsD (gN 6) (gNilD)))))))) (wSeq (wPar 7 8 (wCons (wTup (wCons (wVar 2) (wCons (wC .non) (wCons (wVar 2) (wCons (wVar 2) (wCons (wC (.int 1)) (wNil))))))) (wCons (wTup (wCons (wVar 2) (wCons (wC .non) (wCons (wVar 2) (wCons (wVar 2) (wCons (wC (.int 0)) (wNil))))))) (wNil)))) (wSeq (wAsg (wLst false (wCons (wTup (wCons (wVar 3) (wCons (wVar 2) (wCons (wVar 1) (wCons (wVar 1) (wCons (wC (.int 0)) (wNil))))))) (wCons (wTup (wCons (wVar 4) (wCons (wVar 2) (wCons (wVar 1) (wCons (wVar 1) (wCons (wC (.int 0)) (wNil))))))) (wNil)))) (gN 9)) (wSeq (wAsg (wLst false (wCons (wTup (wCons (wOp (dAdd false) (wLst false (wCons (wVar 7) (wNil))) (wVar 9)) (wCons (wTup (wCons (wLst false (wCons (wVar 1) (wNil))) (wCons (wLst false (wNil)) (wCons (wLst false (wNil)) (wNil))))) (wNil)))) (wCons (wTup (wCons (wLst false (wCons (wTup (wCons (wVar 2) (wCons (wC .non) (wCons (wVar 1) (wCons (wVar 1) (wCons (wC (.int 0)) (wNil))))))) (wCons (wTup (wCons (wVar 3) (wCons (wVar 2) (wCons (wVar 1) (wCons (wVar 1) (wCons (wC (.int 1)) (wNil))))))) (wCons (wTup (wCons (wVar 4) (wCons (wVar 3) (wCons (wVar 1) (wCons (wVar 3) (wCons (wNeg (wC (.int 1))) (wNil))))))) (wNil))))) (wCons (wTup (wCons (wLst false (wCons (wVar 1) (wNil))) (wCons (wLst false (wNil)) (wCons (wLst false (wNil)) (wNil))))) (wNil)))) (wNil)))) (gN 10)) (wSeq (wAsg (wOp (dAdd false) (wVar 10) (wLst false (wCons (wTup (wCons (wOp (dAdd false) (wOp (dAdd false) (wLst false (wCons (wVar 7) (wNil))) (wVar 9)) (wLst false (wCons (wTup (wCons (wVar 5) (wCons (wVar 4) (wCons (wVar 1) (wCons (wVar 1) (wCons (wC (.int 0)) (wNil))))))) (wCons (wTup (wCons (wVar 6) (wCons (wVar 5) (wCons (wVar 6) (wCons (wVar 6) (wCons (wC (.int 0)) (wNil))))))) (wNil))))) (wCons (wTup (wCons (wLst false (wCons (wVar 1) (wNil))) (wCons (wLst false (wNil)) (wCons (wLst false (wNil)) (wNil))))) (wNil)))) (wNil)))) (gN 10)) (wSeq (wAsg (wOp (dAdd false) (wVar 10) (wLst false (wCons (wTup (wCons (wLst false (wCons (wTup (wCons (wVar 2) (wCons (wC .non) (wCons (wC (.int 1)) (wCons (wVar 1) (wCons (wC (.int 0)) (wNil))))))) (wCons (wTup (wCons (wVar 3) (wCons (wVar 2) (wCons (wC (.int 1)) (wCons (wVar 1) (wCons (wC (.int 0)) (wNil))))))) (wNil)))) (wCons (wTup (wCons (wLst false (wNil)) (wCons (wLst false (wCons (wVar 1) (wNil))) (wCons (wLst false (wNil)) (wNil))))) (wNil)))) (wNil)))) (gN 10)) (wSeq (wAsg (wOp (dAdd false) (wVar 10) (wLst false (wCons (wTup (wCons (wLst false (wCons (wTup (wCons (wVar 2) (wCons (wC .non) (wCons (wC (.int 1)) (wCons (wC (.int 1)) (wCons (wC (.int 0)) (wNil))))))) (wCons (wTup (wCons (wVar 3) (wCons (wVar 2) (wCons (wC (.int 1)) (wCons (wVar 2) (wCons (wC (.int 0)) (wNil))))))) (wNil)))) (wCons (wTup (wCons (wLst false (wNil)) (wCons (wLst false (wNil)) (wCons (wLst false (wNil)) (wNil))))) (wNil)))) (wNil)))) (gN 10)) (wSeq (wAsg (wLst false (wCons (wTup (wCons (wOp (dAdd false) (wLst false (wCons (wVar 8) (wNil))) (wVar 9)) (wCons (wTup (wCons (wC (.str "session")) (wCons (wVar 1) (wCons (wVar 3) (wNil))))) (wNil)))) (wNil))) (gN 11)) (wSeq (wAsg (wOp (dAdd false) (wVar 11) (wLst false (wCons (wTup (wCons (wLst false (wCons (wVar 7) (wCons (wOp dIx (wVar 9) (wC (.int 0))) (wCons (wTup (wCons (wVar 4) (wCons (wVar 2) (wCons (wVar 2) (wCons (wVar 2) (wCons (wC (.int 1)) (wNil))))))) (wCons (wTup (wCons (wVar 5) (wCons (wVar 4) (wCons (wVar 1) (wCons (wVar 1) (wCons (wC (.int 0)) (wNil))))))) (wNil)))))) (wCons (wTup (wCons (wC (.str "session")) (wCons (wVar 1) (wCons (wVar 5) (wNil))))) (wNil)))) (wNil)))) (gN 11)) (wSeq (wAsg (wOp (dAdd false) (wVar 11) (wLst false (wCons (wTup (wCons (wLst false (wCons (wTup (wCons (wVar 2) (wCons (wC .non) (wCons (wVar 1) (wCons (wVar 1) (wCons (wC (.int 1)) (wNil))))))) (wCons (wTup (wCons (wVar 3) (wCons (wVar 2) (wCons (wVar 3) (wCons (wVar 3) (wCons (wC (.int 0)) (wNil))))))) (wCons (wTup (wCons (wVar 4) (wCons (wVar 3) (wCons (wVar 1) (wCons (wVar 1) (wCons (wC (.int 0)) (wNil))))))) (wNil))))) (wCons (wTup (wCons (wC (.str "session")) (wCons (wVar 1) (wCons (wVar 4) (wNil))))) (wNil)))) (wNil)))) (gN 11)) (wSeq (wAsg (wOp (dAdd false) (wVar 11) (wLst false (wCons (wTup (wCons (wLst false (wCons (wVar 7) (wCons (wTup (wCons (wVar 3) (wCons (wVar 2) (wCons (wVar 2) (wCons (wVar 2) (wCons (wC (.int 0)) (wNil))))))) (wCons (wTup (wCons (wVar 4) (wCons (wVar 3) (wCons (wVar 1) (wCons (wVar 1) (wCons (wC (.int 0)) (wNil))))))) (wNil))))) (wCons (wTup (wCons (wC (.str "session")) (wCons (wVar 1) (wCons (wVar 4) (wNil))))) (wNil)))) (wNil)))) (gN 11)) (wSeq (wAsg (wTup (wCons (wVar 3) (wCons (wVar 2) (wCons (wVar 3) (wCons (wVar 3) (wCons (wC (.int 0)) (wNil))))))) (gN 12)) (wSeq (wAsg (wOp (dAdd false) (wVar 11) (wLst false (wCons (wTup (wCons (wLst false (wCons (wVar 7) (wCons (wVar 12) (wCons (wTup (wCons (wVar 4) (wCons (wVar 3) (wCons (wVar 3) (wCons (wVar 1) (wCons (wC (.int 0)) (wNil))))))) (wCons (wTup (wCons (wVar 5) (wCons (wVar 2) (wCons (wVar 2) (wCons (wVar 1) (wCons (wC (.int 0)) (wNil))))))) (wNil)))))) (wCons (wTup (wCons (wC (.str "group")) (wCons (wVar 1) (wNil)))) (wNil)))) (wNil)))) (gN 11)) (wSeq (wAsg (wOp (dAdd false) (wVar 11) (wLst false (wCons (wTup (wCons (wLst false (wCons (wVar 7) (wCons (wVar 12) (wCons (wTup (wCons (wVar 4) (wCons (wVar 3) (wCons (wVar 3) (wCons (wVar 3) (wCons (wC (.int 0)) (wNil))))))) (wCons (wTup (wCons (wVar 5) (wCons (wVar 2) (wCons (wVar 2) (wCons (wVar 4) (wCons (wC (.int 0)) (wNil))))))) (wNil)))))) (wCons (wTup (wCons (wC (.str "group")) (wCons (wVar 4) (wNil)))) (wNil)))) (wNil)))) (gN 11)) (wSeq (wAsg (wOp (dAdd false) (wVar 11) (wLst false (wCons (wTup (wCons (wLst false (wCons (wVar 7) (wCons (wVar 12) (wCons (wTup (wCons (wVar 4) (wCons (wVar 2) (wCons (wVar 2) (wCons (wVar 3) (wCons (wC (.int 0)) (wNil))))))) (wNil))))) (wCons (wTup (wCons (wC (.str "group")) (wCons (wVar 3) (wNil)))) (wNil)))) (wCons (wTup (wCons (wLst false (wCons (wVar 7) (wCons (wTup (wCons (wVar 4) (wCons (wVar 2) (wCons (wVar 2) (wCons (wC (.int 1)) (wCons (wC (.int 0)) (wNil))))))) (wNil)))) (wCons (wTup (wCons (wC (.str "group")) (wCons (wC (.int 1)) (wNil)))) (wNil)))) (wNil))))) (gN 11)) (wSeq (wAsg (wOp (dAdd false) (wVar 11) (wLst false (wCons (wTup (wCons (wLst false (wCons (wVar 7) (wCons (wVar 12) (wCons (wTup (wCons (wVar 4) (wCons (wVar 3) (wCons (wVar 3) (wCons (wVar 2) (wCons (wC (.int 0)) (wNil))))))) (wNil))))) (wCons (wTup (wCons (wC (.str "group")) (wCons (wVar 2) (wNil)))) (wNil)))) (wCons (wTup (wCons (wOp (dAdd false) (wOp (dAdd false) (wLst false (wCons (wVar 7) (wNil))) (wVar 9)) (wLst false (wCons (wTup (wCons (wVar 5) (wCons (wVar 2) (wCons (wVar 2) (wCons (wVar 1) (wCons (wC (.int 0)) (wNil))))))) (wNil)))) (wCons (wTup (wCons (wC (.str "group")) (wCons (wVar 1) (wNil)))) (wNil)))) (wNil))))) (gN 11)) (wRet (wAnd (wCall S__law_free [] (wCons (wVar 10) (wNil))) (wCall S__law_barred [] (wCons (wVar 11) (wNil))))))))))))))))))))
def S__law_lost_right : DSp := arD 2 (runD 13 w__law_lost_right)
theorem sc__law_lost_right : FnScope ["_law_some", "_law_g", "_law_a", "_law_b", "_law_c", "_law_d", "_law_e", "_law_root", "_law_plain", "_law_tops", "_law_free_here", "_law_barred_here", "_law_lead"] ["_law_some", "_law_g"] (defScope st__law_lost_right) := ⟨rfl, rfl, rfl, by decide +kernel, rfl, by decide +kernel, by decide +kernel⟩
theorem ok__law_lost_right (cx : Cxt K mg) : ∃ fd, FD P w K mg base (gm K) 9 (He.fAd K ("_law_lost_right", none)) fd ["_law_some", "_law_g"] S__law_lost_right ∧ FunD K "_law_lost_right" "_law_lost_right" (defArgs st__law_lost_right) (defBody st__law_lost_right) (defScope st__law_lost_right) [] [] (He.fAd K ("_law_lost_right", none)) fd := by
  obtain ⟨fd, F⟩ := cx.F__law_lost_right
  obtain ⟨fd__law_barred, k__law_barred, F__law_barred⟩ := ok__law_barred (P := P) (w := w) (base := base) cx
  obtain ⟨fd__law_free, k__law_free, F__law_free⟩ := ok__law_free (P := P) (w := w) (base := base) cx
  refine ⟨fd, FD.mk' F sc__law_lost_right (fun _ _ _ _ _ _ us hl => match us, hl with | [_, _], _ => rfl) fun cdv A outer s H E hr hg => ?_, F⟩
  have dx := dx_cx (P := P) (w := w) (K := K) (mg := mg) (base := base) (G := gm K) (outer := outer) (H := H) (E := E) rfl sc__law_lost_right.nd hr hg
  exact (qss_cons (qs_asg (qe_var (i := 0) rfl (.inl rfl)) (qg_tup (n := 5) dx.K dx.calm (qgs_cons (qg_name (i := 2) dx.nd rfl (.inl rfl) (.inl rfl)) (qgs_cons (qg_name (i := 3) dx.nd rfl (.inl rfl) (.inl rfl)) (qgs_cons (qg_name (i := 4) dx.nd rfl (.inl rfl) (.inl rfl)) (qgs_cons (qg_name (i := 5) dx.nd rfl (.inl rfl) (.inl rfl)) (qgs_cons (qg_name (i := 6) dx.nd rfl (.inl rfl) (.inl rfl)) qgs_nil))))))) (qss_cons (qs_par (i := 7) (j := 8) dx.calm dx.nd rfl rfl (by decide) rfl rfl (qa_cons (qe_tup (qa_cons (qe_var (i := 2) rfl (.inl rfl)) (qa_cons qe_non (qa_cons (qe_var (i := 2) rfl (.inl rfl)) (qa_cons (qe_var (i := 2) rfl (.inl rfl)) (qa_cons qe_int qa_nil)))))) (qa_cons (qe_tup (qa_cons (qe_var (i := 2) rfl (.inl rfl)) (qa_cons qe_non (qa_cons (qe_var (i := 2) rfl (.inl rfl)) (qa_cons (qe_var (i := 2) rfl (.inl rfl)) (qa_cons qe_int qa_nil)))))) qa_nil))) (qss_cons (qs_set (i := 9) dx.nd rfl (.inl rfl) (qe_lst false (qa_cons (qe_tup (qa_cons (qe_var (i := 3) rfl (.inl rfl)) (qa_cons (qe_var (i := 2) rfl (.inl rfl)) (qa_cons (qe_var (i := 1) rfl (.inl rfl)) (qa_cons (qe_var (i := 1) rfl (.inl rfl)) (qa_cons qe_int qa_nil)))))) (qa_cons (qe_tup (qa_cons (qe_var (i := 4) rfl (.inl rfl)) (qa_cons (qe_var (i := 2) rfl (.inl rfl)) (qa_cons (qe_var (i := 1) rfl (.inl rfl)) (qa_cons (qe_var (i := 1) rfl (.inl rfl)) (qa_cons qe_int qa_nil)))))) qa_nil))) (by rfl) (.inl rfl)) (qss_cons (qs_set (i := 10) dx.nd rfl (.inl rfl) (qe_lst false (qa_cons (qe_tup (qa_cons (pd_op (od_add dx.K false) (qe_lst false (qa_cons (qe_var (i := 7) rfl (.inl rfl)) qa_nil)) (qe_var (i := 9) rfl (.inl rfl))) (qa_cons (qe_tup (qa_cons (qe_lst false (qa_cons (qe_var (i := 1) rfl (.inl rfl)) qa_nil)) (qa_cons (qe_lst false qa_nil) (qa_cons (qe_lst false qa_nil) qa_nil)))) qa_nil))) (qa_cons (qe_tup (qa_cons (qe_lst false (qa_cons (qe_tup (qa_cons (qe_var (i := 2) rfl (.inl rfl)) (qa_cons qe_non (qa_cons (qe_var (i := 1) rfl (.inl rfl)) (qa_cons (qe_var (i := 1) rfl (.inl rfl)) (qa_cons qe_int qa_nil)))))) (qa_cons (qe_tup (qa_cons (qe_var (i := 3) rfl (.inl rfl)) (qa_cons (qe_var (i := 2) rfl (.inl rfl)) (qa_cons (qe_var (i := 1) rfl (.inl rfl)) (qa_cons (qe_var (i := 1) rfl (.inl rfl)) (qa_cons qe_int qa_nil)))))) (qa_cons (qe_tup (qa_cons (qe_var (i := 4) rfl (.inl rfl)) (qa_cons (qe_var (i := 3) rfl (.inl rfl)) (qa_cons (qe_var (i := 1) rfl (.inl rfl)) (qa_cons (qe_var (i := 3) rfl (.inl rfl)) (qa_cons (qe_neg qe_int) qa_nil)))))) qa_nil)))) (qa_cons (qe_tup (qa_cons (qe_lst false (qa_cons (qe_var (i := 1) rfl (.inl rfl)) qa_nil)) (qa_cons (qe_lst false qa_nil) (qa_cons (qe_lst false qa_nil) qa_nil)))) qa_nil))) qa_nil))) (by rfl) (.inl rfl)) (qss_cons (qs_set (i := 10) dx.nd rfl (.inl rfl) (pd_op (od_add dx.K false) (qe_var (i := 10) rfl (.inl rfl)) (qe_lst false (qa_cons (qe_tup (qa_cons (pd_op (od_add dx.K false) (pd_op (od_add dx.K false) (qe_lst false (qa_cons (qe_var (i := 7) rfl (.inl rfl)) qa_nil)) (qe_var (i := 9) rfl (.inl rfl))) (qe_lst false (qa_cons (qe_tup (qa_cons (qe_var (i := 5) rfl (.inl rfl)) (qa_cons (qe_var (i := 4) rfl (.inl rfl)) (qa_cons (qe_var (i := 1) rfl (.inl rfl)) (qa_cons (qe_var (i := 1) rfl (.inl rfl)) (qa_cons qe_int qa_nil)))))) (qa_cons (qe_tup (qa_cons (qe_var (i := 6) rfl (.inl rfl)) (qa_cons (qe_var (i := 5) rfl (.inl rfl)) (qa_cons (qe_var (i := 6) rfl (.inl rfl)) (qa_cons (qe_var (i := 6) rfl (.inl rfl)) (qa_cons qe_int qa_nil)))))) qa_nil)))) (qa_cons (qe_tup (qa_cons (qe_lst false (qa_cons (qe_var (i := 1) rfl (.inl rfl)) qa_nil)) (qa_cons (qe_lst false qa_nil) (qa_cons (qe_lst false qa_nil) qa_nil)))) qa_nil))) qa_nil))) (by rfl) (.inl rfl)) (qss_cons (qs_set (i := 10) dx.nd rfl (.inl rfl) (pd_op (od_add dx.K false) (qe_var (i := 10) rfl (.inl rfl)) (qe_lst false (qa_cons (qe_tup (qa_cons (qe_lst false (qa_cons (qe_tup (qa_cons (qe_var (i := 2) rfl (.inl rfl)) (qa_cons qe_non (qa_cons qe_int (qa_cons (qe_var (i := 1) rfl (.inl rfl)) (qa_cons qe_int qa_nil)))))) (qa_cons (qe_tup (qa_cons (qe_var (i := 3) rfl (.inl rfl)) (qa_cons (qe_var (i := 2) rfl (.inl rfl)) (qa_cons qe_int (qa_cons (qe_var (i := 1) rfl (.inl rfl)) (qa_cons qe_int qa_nil)))))) qa_nil))) (qa_cons (qe_tup (qa_cons (qe_lst false qa_nil) (qa_cons (qe_lst false (qa_cons (qe_var (i := 1) rfl (.inl rfl)) qa_nil)) (qa_cons (qe_lst false qa_nil) qa_nil)))) qa_nil))) qa_nil))) (by rfl) (.inl rfl)) (qss_cons (qs_set (i := 10) dx.nd rfl (.inl rfl) (pd_op (od_add dx.K false) (qe_var (i := 10) rfl (.inl rfl)) (qe_lst false (qa_cons (qe_tup (qa_cons (qe_lst false (qa_cons (qe_tup (qa_cons (qe_var (i := 2) rfl (.inl rfl)) (qa_cons qe_non (qa_cons qe_int (qa_cons qe_int (qa_cons qe_int qa_nil)))))) (qa_cons (qe_tup (qa_cons (qe_var (i := 3) rfl (.inl rfl)) (qa_cons (qe_var (i := 2) rfl (.inl rfl)) (qa_cons qe_int (qa_cons (qe_var (i := 2) rfl (.inl rfl)) (qa_cons qe_int qa_nil)))))) qa_nil))) (qa_cons (qe_tup (qa_cons (qe_lst false qa_nil) (qa_cons (qe_lst false qa_nil) (qa_cons (qe_lst false qa_nil) qa_nil)))) qa_nil))) qa_nil))) (by rfl) (.inl rfl)) (qss_cons (qs_set (i := 11) dx.nd rfl (.inl rfl) (qe_lst false (qa_cons (qe_tup (qa_cons (pd_op (od_add dx.K false) (qe_lst false (qa_cons (qe_var (i := 8) rfl (.inl rfl)) qa_nil)) (qe_var (i := 9) rfl (.inl rfl))) (qa_cons (qe_tup (qa_cons qe_str (qa_cons (qe_var (i := 1) rfl (.inl rfl)) (qa_cons (qe_var (i := 3) rfl (.inl rfl)) qa_nil)))) qa_nil))) qa_nil)) (by rfl) (.inl rfl)) (qss_cons (qs_set (i := 11) dx.nd rfl (.inl rfl) (pd_op (od_add dx.K false) (qe_var (i := 11) rfl (.inl rfl)) (qe_lst false (qa_cons (qe_tup (qa_cons (qe_lst false (qa_cons (qe_var (i := 7) rfl (.inl rfl)) (qa_cons (pd_ix dx.K dx.u1 (qe_var (i := 9) rfl (.inl rfl)) qe_int nofun) (qa_cons (qe_tup (qa_cons (qe_var (i := 4) rfl (.inl rfl)) (qa_cons (qe_var (i := 2) rfl (.inl rfl)) (qa_cons (qe_var (i := 2) rfl (.inl rfl)) (qa_cons (qe_var (i := 2) rfl (.inl rfl)) (qa_cons qe_int qa_nil)))))) (qa_cons (qe_tup (qa_cons (qe_var (i := 5) rfl (.inl rfl)) (qa_cons (qe_var (i := 4) rfl (.inl rfl)) (qa_cons (qe_var (i := 1) rfl (.inl rfl)) (qa_cons (qe_var (i := 1) rfl (.inl rfl)) (qa_cons qe_int qa_nil)))))) qa_nil))))) (qa_cons (qe_tup (qa_cons qe_str (qa_cons (qe_var (i := 1) rfl (.inl rfl)) (qa_cons (qe_var (i := 5) rfl (.inl rfl)) qa_nil)))) qa_nil))) qa_nil))) (by rfl) (.inl rfl)) (qss_cons (qs_set (i := 11) dx.nd rfl (.inl rfl) (pd_op (od_add dx.K false) (qe_var (i := 11) rfl (.inl rfl)) (qe_lst false (qa_cons (qe_tup (qa_cons (qe_lst false (qa_cons (qe_tup (qa_cons (qe_var (i := 2) rfl (.inl rfl)) (qa_cons qe_non (qa_cons (qe_var (i := 1) rfl (.inl rfl)) (qa_cons (qe_var (i := 1) rfl (.inl rfl)) (qa_cons qe_int qa_nil)))))) (qa_cons (qe_tup (qa_cons (qe_var (i := 3) rfl (.inl rfl)) (qa_cons (qe_var (i := 2) rfl (.inl rfl)) (qa_cons (qe_var (i := 3) rfl (.inl rfl)) (qa_cons (qe_var (i := 3) rfl (.inl rfl)) (qa_cons qe_int qa_nil)))))) (qa_cons (qe_tup (qa_cons (qe_var (i := 4) rfl (.inl rfl)) (qa_cons (qe_var (i := 3) rfl (.inl rfl)) (qa_cons (qe_var (i := 1) rfl (.inl rfl)) (qa_cons (qe_var (i := 1) rfl (.inl rfl)) (qa_cons qe_int qa_nil)))))) qa_nil)))) (qa_cons (qe_tup (qa_cons qe_str (qa_cons (qe_var (i := 1) rfl (.inl rfl)) (qa_cons (qe_var (i := 4) rfl (.inl rfl)) qa_nil)))) qa_nil))) qa_nil))) (by rfl) (.inl rfl)) (qss_cons (qs_set (i := 11) dx.nd rfl (.inl rfl) (pd_op (od_add dx.K false) (qe_var (i := 11) rfl (.inl rfl)) (qe_lst false (qa_cons (qe_tup (qa_cons (qe_lst false (qa_cons (qe_var (i := 7) rfl (.inl rfl)) (qa_cons (qe_tup (qa_cons (qe_var (i := 3) rfl (.inl rfl)) (qa_cons (qe_var (i := 2) rfl (.inl rfl)) (qa_cons (qe_var (i := 2) rfl (.inl rfl)) (qa_cons (qe_var (i := 2) rfl (.inl rfl)) (qa_cons qe_int qa_nil)))))) (qa_cons (qe_tup (qa_cons (qe_var (i := 4) rfl (.inl rfl)) (qa_cons (qe_var (i := 3) rfl (.inl rfl)) (qa_cons (qe_var (i := 1) rfl (.inl rfl)) (qa_cons (qe_var (i := 1) rfl (.inl rfl)) (qa_cons qe_int qa_nil)))))) qa_nil)))) (qa_cons (qe_tup (qa_cons qe_str (qa_cons (qe_var (i := 1) rfl (.inl rfl)) (qa_cons (qe_var (i := 4) rfl (.inl rfl)) qa_nil)))) qa_nil))) qa_nil))) (by rfl) (.inl rfl)) (qss_cons (qs_set (i := 12) dx.nd rfl (.inl rfl) (qe_tup (qa_cons (qe_var (i := 3) rfl (.inl rfl)) (qa_cons (qe_var (i := 2) rfl (.inl rfl)) (qa_cons (qe_var (i := 3) rfl (.inl rfl)) (qa_cons (qe_var (i := 3) rfl (.inl rfl)) (qa_cons qe_int qa_nil)))))) (by rfl) (.inl rfl)) (qss_cons (qs_set (i := 11) dx.nd rfl (.inl rfl) (pd_op (od_add dx.K false) (qe_var (i := 11) rfl (.inl rfl)) (qe_lst false (qa_cons (qe_tup (qa_cons (qe_lst false (qa_cons (qe_var (i := 7) rfl (.inl rfl)) (qa_cons (qe_var (i := 12) rfl (.inl rfl)) (qa_cons (qe_tup (qa_cons (qe_var (i := 4) rfl (.inl rfl)) (qa_cons (qe_var (i := 3) rfl (.inl rfl)) (qa_cons (qe_var (i := 3) rfl (.inl rfl)) (qa_cons (qe_var (i := 1) rfl (.inl rfl)) (qa_cons qe_int qa_nil)))))) (qa_cons (qe_tup (qa_cons (qe_var (i := 5) rfl (.inl rfl)) (qa_cons (qe_var (i := 2) rfl (.inl rfl)) (qa_cons (qe_var (i := 2) rfl (.inl rfl)) (qa_cons (qe_var (i := 1) rfl (.inl rfl)) (qa_cons qe_int qa_nil)))))) qa_nil))))) (qa_cons (qe_tup (qa_cons qe_str (qa_cons (qe_var (i := 1) rfl (.inl rfl)) qa_nil))) qa_nil))) qa_nil))) (by rfl) (.inl rfl)) (qss_cons (qs_set (i := 11) dx.nd rfl (.inl rfl) (pd_op (od_add dx.K false) (qe_var (i := 11) rfl (.inl rfl)) (qe_lst false (qa_cons (qe_tup (qa_cons (qe_lst false (qa_cons (qe_var (i := 7) rfl (.inl rfl)) (qa_cons (qe_var (i := 12) rfl (.inl rfl)) (qa_cons (qe_tup (qa_cons (qe_var (i := 4) rfl (.inl rfl)) (qa_cons (qe_var (i := 3) rfl (.inl rfl)) (qa_cons (qe_var (i := 3) rfl (.inl rfl)) (qa_cons (qe_var (i := 3) rfl (.inl rfl)) (qa_cons qe_int qa_nil)))))) (qa_cons (qe_tup (qa_cons (qe_var (i := 5) rfl (.inl rfl)) (qa_cons (qe_var (i := 2) rfl (.inl rfl)) (qa_cons (qe_var (i := 2) rfl (.inl rfl)) (qa_cons (qe_var (i := 4) rfl (.inl rfl)) (qa_cons qe_int qa_nil)))))) qa_nil))))) (qa_cons (qe_tup (qa_cons qe_str (qa_cons (qe_var (i := 4) rfl (.inl rfl)) qa_nil))) qa_nil))) qa_nil))) (by rfl) (.inl rfl)) (qss_cons (qs_set (i := 11) dx.nd rfl (.inl rfl) (pd_op (od_add dx.K false) (qe_var (i := 11) rfl (.inl rfl)) (qe_lst false (qa_cons (qe_tup (qa_cons (qe_lst false (qa_cons (qe_var (i := 7) rfl (.inl rfl)) (qa_cons (qe_var (i := 12) rfl (.inl rfl)) (qa_cons (qe_tup (qa_cons (qe_var (i := 4) rfl (.inl rfl)) (qa_cons (qe_var (i := 2) rfl (.inl rfl)) (qa_cons (qe_var (i := 2) rfl (.inl rfl)) (qa_cons (qe_var (i := 3) rfl (.inl rfl)) (qa_cons qe_int qa_nil)))))) qa_nil)))) (qa_cons (qe_tup (qa_cons qe_str (qa_cons (qe_var (i := 3) rfl (.inl rfl)) qa_nil))) qa_nil))) (qa_cons (qe_tup (qa_cons (qe_lst false (qa_cons (qe_var (i := 7) rfl (.inl rfl)) (qa_cons (qe_tup (qa_cons (qe_var (i := 4) rfl (.inl rfl)) (qa_cons (qe_var (i := 2) rfl (.inl rfl)) (qa_cons (qe_var (i := 2) rfl (.inl rfl)) (qa_cons qe_int (qa_cons qe_int qa_nil)))))) qa_nil))) (qa_cons (qe_tup (qa_cons qe_str (qa_cons qe_int qa_nil))) qa_nil))) qa_nil)))) (by rfl) (.inl rfl)) (qss_cons (qs_set (i := 11) dx.nd rfl (.inl rfl) (pd_op (od_add dx.K false) (qe_var (i := 11) rfl (.inl rfl)) (qe_lst false (qa_cons (qe_tup (qa_cons (qe_lst false (qa_cons (qe_var (i := 7) rfl (.inl rfl)) (qa_cons (qe_var (i := 12) rfl (.inl rfl)) (qa_cons (qe_tup (qa_cons (qe_var (i := 4) rfl (.inl rfl)) (qa_cons (qe_var (i := 3) rfl (.inl rfl)) (qa_cons (qe_var (i := 3) rfl (.inl rfl)) (qa_cons (qe_var (i := 2) rfl (.inl rfl)) (qa_cons qe_int qa_nil)))))) qa_nil)))) (qa_cons (qe_tup (qa_cons qe_str (qa_cons (qe_var (i := 2) rfl (.inl rfl)) qa_nil))) qa_nil))) (qa_cons (qe_tup (qa_cons (pd_op (od_add dx.K false) (pd_op (od_add dx.K false) (qe_lst false (qa_cons (qe_var (i := 7) rfl (.inl rfl)) qa_nil)) (qe_var (i := 9) rfl (.inl rfl))) (qe_lst false (qa_cons (qe_tup (qa_cons (qe_var (i := 5) rfl (.inl rfl)) (qa_cons (qe_var (i := 2) rfl (.inl rfl)) (qa_cons (qe_var (i := 2) rfl (.inl rfl)) (qa_cons (qe_var (i := 1) rfl (.inl rfl)) (qa_cons qe_int qa_nil)))))) qa_nil))) (qa_cons (qe_tup (qa_cons qe_str (qa_cons (qe_var (i := 1) rfl (.inl rfl)) qa_nil))) qa_nil))) qa_nil)))) (by rfl) (.inl rfl)) (qss_one (qs_ret (qe_and dx.K (qf_call k__law_free dx (by decide) rfl cx.g__law_free (qa_cons (qe_var (i := 10) rfl (.inl rfl)) qa_nil)) (qe_one (qf_call k__law_barred dx (by decide) rfl cx.g__law_barred (qa_cons (qe_var (i := 11) rfl (.inl rfl)) qa_nil))))))))))))))))))))))
def w__law_rings_right : DS := wSeq (wAsg (wVar 0) (gSeq 5 (gConsD (gN 1) (gConsD (gN 2) (gConsD (gN 3) (gConsD (gN 4) (gConsD (gN 5) (gNilD)))))))) (wSeq (wAsg (wTup (wCons (wVar 1) (wCons (wC .non) (wCons (wVar 1) (wCons (wVar 1) (wCons (wC (.int 1)) (wNil))))))) (gN 6)) (wSeq (wAsg (wLst false (wCons (wVar 6) (wCons (wTup (wCons (wVar 2) (wCons (wVar 1) (wCons (wVar 3) (wCons (wVar 3) (wCons (wC (.int 0)) (wNil))))))) (wCons (wTup (wCons (wVar 3) (wCons (wVar 2) (wCons (wVar 3) (wCons (wVar 3) (wCons (wC (.int 0)) (wNil))))))) (wNil))))) (gN 7)) (wSeq (wAsg (wLst false (wCons (wVar 6) (wCons (wTup (wCons (wVar 2) (wCons (wVar 1) (wCons (wVar 5) (wCons (wVar 5) (wCons (wC (.int 0)) (wNil))))))) (wCons (wTup (wCons (wVar 3) (wCons (wVar 1) (wCons (wVar 4) (wCons (wVar 4) (wCons (wC (.int 0)) (wNil))))))) (wCons (wTup (wCons (wVar 4) (wCons (wVar 2) (wCons (wVar 4) (wCons (wVar 4) (wCons (wC (.int 0)) (wNil))))))) (wCons (wTup (wCons (wVar 5) (wCons (wVar 3) (wCons (wVar 5) (wCons (wVar 5) (wCons (wC (.int 0)) (wNil))))))) (wNil))))))) (gN 8)) (wSeq (wAsg (wLst false (wCons (wTup (wCons (wVar 7) (wCons (wTup (wCons (wC (.str "ring")) (wCons (wLst false (wCons (wVar 2) (wNil))) (wNil)))) (wNil)))) (wCons (wTup (wCons (wVar 8) (wCons (wTup (wCons (wC (.str "ring")) (wCons (wLst false (wCons (wVar 2) (wCons (wVar 3) (wNil)))) (wNil)))) (wNil)))) (wCons (wTup (wCons (wLst false (wCons (wTup (wCons (wVar 1) (wCons (wC .non) (wCons (wVar 2) (wCons (wVar 2) (wCons (wC (.int 0)) (wNil))))))) (wCons (wTup (wCons (wVar 2) (wCons (wVar 1) (wCons (wVar 2) (wCons (wVar 2) (wCons (wC (.int 0)) (wNil))))))) (wNil)))) (wCons (wTup (wCons (wC (.str "ring")) (wCons (wLst false (wCons (wVar 1) (wNil))) (wNil)))) (wNil)))) (wNil))))) (gN 9)) (wSeq (wAsg (wOp (dAdd false) (wVar 9) (wLst false (wCons (wTup (wCons (wLst false (wCons (wTup (wCons (wVar 1) (wCons (wC .non) (wCons (wVar 2) (wCons (wVar 2) (wCons (wC (.int 1)) (wNil))))))) (wCons (wTup (wCons (wVar 2) (wCons (wVar 1) (wCons (wVar 2) (wCons (wVar 2) (wCons (wC (.int 0)) (wNil))))))) (wNil)))) (wCons (wTup (wCons (wC (.str "session")) (wCons (wVar 2) (wCons (wVar 1) (wNil))))) (wNil)))) (wNil)))) (gN 9)) (wSeq (wAsg (wOp (dAdd false) (wVar 9) (wLst false (wCons (wTup (wCons (wLst false (wCons (wVar 6) (wCons (wTup (wCons (wVar 2) (wCons (wVar 1) (wCons (wVar 3) (wCons (wVar 3) (wCons (wC (.int 1)) (wNil))))))) (wCons (wTup (wCons (wVar 3) (wCons (wVar 2) (wCons (wVar 3) (wCons (wVar 3) (wCons (wC (.int 0)) (wNil))))))) (wNil))))) (wCons (wTup (wCons (wC (.str "session")) (wCons (wVar 3) (wCons (wVar 2) (wNil))))) (wNil)))) (wNil)))) (gN 9)) (wSeq (wAsg (wLst false (wCons (wVar 6) (wCons (wTup (wCons (wVar 2) (wCons (wVar 1) (wCons (wC (.int 180)) (wCons (wC (.int 180)) (wCons (wC (.int 0)) (wNil))))))) (wCons (wTup (wCons (wVar 3) (wCons (wVar 1) (wCons (wC (.int 181)) (wCons (wC (.int 181)) (wCons (wC (.int 0)) (wNil))))))) (wCons (wTup (wCons (wVar 4) (wCons (wVar 1) (wCons (wC (.int 182)) (wCons (wC (.int 182)) (wCons (wC (.int 0)) (wNil))))))) (wNil)))))) (gN 10)) (wSeq (wAsg (wOp (dAdd false) (wVar 10) (wLst false (wCons (wTup (wCons (wC (.int 180)) (wCons (wVar 3) (wCons (wC (.int 180)) (wCons (wC (.int 180)) (wCons (wC (.int 0)) (wNil))))))) (wCons (wTup (wCons (wC (.int 181)) (wCons (wVar 4) (wCons (wC (.int 181)) (wCons (wC (.int 181)) (wCons (wC (.int 0)) (wNil))))))) (wCons (wTup (wCons (wC (.int 182)) (wCons (wVar 2) (wCons (wC (.int 182)) (wCons (wC (.int 182)) (wCons (wC (.int 0)) (wNil))))))) (wNil)))))) (gN 10)) (wSeq (wAsg (wOp (dAdd false) (wVar 9) (wLst false (wCons (wTup (wCons (wVar 10) (wCons (wTup (wCons (wC (.str "ring")) (wCons (wLst false (wCons (wVar 2) (wCons (wVar 3) (wCons (wVar 4) (wNil))))) (wNil)))) (wNil)))) (wNil)))) (gN 9)) (wSeq (wAsg (wLst false (wCons (wTup (wCons (wLst false (wCons (wVar 6) (wCons (wTup (wCons (wVar 2) (wCons (wVar 1) (wCons (wVar 4) (wCons (wVar 4) (wCons (wC (.int 0)) (wNil))))))) (wCons (wTup (wCons (wVar 3) (wCons (wVar 1) (wCons (wVar 3) (wCons (wVar 3) (wCons (wC (.int 0)) (wNil))))))) (wCons (wTup (wCons (wVar 4) (wCons (wVar 3) (wCons (wVar 4) (wCons (wVar 4) (wCons (wC (.int 0)) (wNil))))))) (wNil)))))) (wCons (wTup (wCons (wLst false (wNil)) (wCons (wLst false (wNil)) (wCons (wLst false (wCons (wVar 4) (wNil))) (wNil))))) (wNil)))) (wNil))) (gN 11)) (wSeq (wIfS (wOrT (wTru (wCall S_shows_bar [] (wCons (wCall S__law_image [] (wCons (wVar 8) (wNil))) (wCons (wTup (wCons (wC (.str "ring")) (wCons (wLst false (wCons (wVar 3) (wCons (wVar 2) (wNil)))) (wNil)))) (wNil))))) (wTru (wCall S_shows_bar [] (wCons (wCall S__law_image [] (wCons (wVar 10) (wNil))) (wCons (wTup (wCons (wC (.str "ring")) (wCons (wLst false (wCons (wVar 2) (wCons (wVar 4) (wCons (wVar 3) (wNil))))) (wNil)))) (wNil)))))) (wRet (wC (.bl false))) (wNext)) (wRet (wAnd (wCall S__law_barred [] (wCons (wVar 9) (wNil))) (wCall S__law_free [] (wCons (wVar 11) (wNil))))))))))))))))
def S__law_rings_right : DSp := arD 1 (runD 12 w__law_rings_right)
theorem sc__law_rings_right : FnScope ["_law_some", "_law_a", "_law_b", "_law_c", "_law_d", "_law_e", "_law_root", "_law_one", "_law_two", "_law_barred_here", "_law_far", "_law_free_here"] ["_law_some"] (defScope st__law_rings_right) := ⟨rfl, rfl, rfl, by decide +kernel, rfl, by decide +kernel, by decide +kernel⟩
theorem ok__law_rings_right (cx : Cxt K mg) : ∃ fd, FD P w K mg base (gm K) 9 (He.fAd K ("_law_rings_right", none)) fd ["_law_some"] S__law_rings_right ∧ FunD K "_law_rings_right" "_law_rings_right" (defArgs st__law_rings_right) (defBody st__law_rings_right) (defScope st__law_rings_right) [] [] (He.fAd K ("_law_rings_right", none)) fd := by
  obtain ⟨fd, F⟩ := cx.F__law_rings_right
  obtain ⟨fd__law_barred, k__law_barred, F__law_barred⟩ := ok__law_barred (P := P) (w := w) (base := base) cx
  obtain ⟨fd__law_free, k__law_free, F__law_free⟩ := ok__law_free (P := P) (w := w) (base := base) cx
  obtain ⟨fd__law_image, k__law_image, F__law_image⟩ := ok__law_image (P := P) (w := w) (base := base) cx
  obtain ⟨fd_shows_bar, k_shows_bar, F_shows_bar⟩ := ok_shows_bar (P := P) (w := w) (base := base) cx
  refine ⟨fd, FD.mk' F sc__law_rings_right (fun _ _ _ _ _ _ us hl => match us, hl with | [_], _ => rfl) fun cdv A outer s H E hr hg => ?_, F⟩
  have dx := dx_cx (P := P) (w := w) (K := K) (mg := mg) (base := base) (G := gm K) (outer := outer) (H := H) (E := E) rfl sc__law_rings_right.nd hr hg
  exact (qss_cons (qs_asg (qe_var (i := 0) rfl (.inl rfl)) (qg_tup (n := 5) dx.K dx.calm (qgs_cons (qg_name (i := 1) dx.nd rfl (.inl rfl) (.inl rfl)) (qgs_cons (qg_name (i := 2) dx.nd rfl (.inl rfl) (.inl rfl)) (qgs_cons (qg_name (i := 3) dx.nd rfl (.inl rfl) (.inl rfl)) (qgs_cons (qg_name (i := 4) dx.nd rfl (.inl rfl) (.inl rfl)) (qgs_cons (qg_name (i := 5) dx.nd rfl (.inl rfl) (.inl rfl)) qgs_nil))))))) (qss_cons (qs_set (i := 6) dx.nd rfl (.inl rfl) (qe_tup (qa_cons (qe_var (i := 1) rfl (.inl rfl)) (qa_cons qe_non (qa_cons (qe_var (i := 1) rfl (.inl rfl)) (qa_cons (qe_var (i := 1) rfl (.inl rfl)) (qa_cons qe_int qa_nil)))))) (by rfl) (.inl rfl)) (qss_cons (qs_set (i := 7) dx.nd rfl (.inl rfl) (qe_lst false (qa_cons (qe_var (i := 6) rfl (.inl rfl)) (qa_cons (qe_tup (qa_cons (qe_var (i := 2) rfl (.inl rfl)) (qa_cons (qe_var (i := 1) rfl (.inl rfl)) (qa_cons (qe_var (i := 3) rfl (.inl rfl)) (qa_cons (qe_var (i := 3) rfl (.inl rfl)) (qa_cons qe_int qa_nil)))))) (qa_cons (qe_tup (qa_cons (qe_var (i := 3) rfl (.inl rfl)) (qa_cons (qe_var (i := 2) rfl (.inl rfl)) (qa_cons (qe_var (i := 3) rfl (.inl rfl)) (qa_cons (qe_var (i := 3) rfl (.inl rfl)) (qa_cons qe_int qa_nil)))))) qa_nil)))) (by rfl) (.inl rfl)) (qss_cons (qs_set (i := 8) dx.nd rfl (.inl rfl) (qe_lst false (qa_cons (qe_var (i := 6) rfl (.inl rfl)) (qa_cons (qe_tup (qa_cons (qe_var (i := 2) rfl (.inl rfl)) (qa_cons (qe_var (i := 1) rfl (.inl rfl)) (qa_cons (qe_var (i := 5) rfl (.inl rfl)) (qa_cons (qe_var (i := 5) rfl (.inl rfl)) (qa_cons qe_int qa_nil)))))) (qa_cons (qe_tup (qa_cons (qe_var (i := 3) rfl (.inl rfl)) (qa_cons (qe_var (i := 1) rfl (.inl rfl)) (qa_cons (qe_var (i := 4) rfl (.inl rfl)) (qa_cons (qe_var (i := 4) rfl (.inl rfl)) (qa_cons qe_int qa_nil)))))) (qa_cons (qe_tup (qa_cons (qe_var (i := 4) rfl (.inl rfl)) (qa_cons (qe_var (i := 2) rfl (.inl rfl)) (qa_cons (qe_var (i := 4) rfl (.inl rfl)) (qa_cons (qe_var (i := 4) rfl (.inl rfl)) (qa_cons qe_int qa_nil)))))) (qa_cons (qe_tup (qa_cons (qe_var (i := 5) rfl (.inl rfl)) (qa_cons (qe_var (i := 3) rfl (.inl rfl)) (qa_cons (qe_var (i := 5) rfl (.inl rfl)) (qa_cons (qe_var (i := 5) rfl (.inl rfl)) (qa_cons qe_int qa_nil)))))) qa_nil)))))) (by rfl) (.inl rfl)) (qss_cons (qs_set (i := 9) dx.nd rfl (.inl rfl) (qe_lst false (qa_cons (qe_tup (qa_cons (qe_var (i := 7) rfl (.inl rfl)) (qa_cons (qe_tup (qa_cons qe_str (qa_cons (qe_lst false (qa_cons (qe_var (i := 2) rfl (.inl rfl)) qa_nil)) qa_nil))) qa_nil))) (qa_cons (qe_tup (qa_cons (qe_var (i := 8) rfl (.inl rfl)) (qa_cons (qe_tup (qa_cons qe_str (qa_cons (qe_lst false (qa_cons (qe_var (i := 2) rfl (.inl rfl)) (qa_cons (qe_var (i := 3) rfl (.inl rfl)) qa_nil))) qa_nil))) qa_nil))) (qa_cons (qe_tup (qa_cons (qe_lst false (qa_cons (qe_tup (qa_cons (qe_var (i := 1) rfl (.inl rfl)) (qa_cons qe_non (qa_cons (qe_var (i := 2) rfl (.inl rfl)) (qa_cons (qe_var (i := 2) rfl (.inl rfl)) (qa_cons qe_int qa_nil)))))) (qa_cons (qe_tup (qa_cons (qe_var (i := 2) rfl (.inl rfl)) (qa_cons (qe_var (i := 1) rfl (.inl rfl)) (qa_cons (qe_var (i := 2) rfl (.inl rfl)) (qa_cons (qe_var (i := 2) rfl (.inl rfl)) (qa_cons qe_int qa_nil)))))) qa_nil))) (qa_cons (qe_tup (qa_cons qe_str (qa_cons (qe_lst false (qa_cons (qe_var (i := 1) rfl (.inl rfl)) qa_nil)) qa_nil))) qa_nil))) qa_nil)))) (by rfl) (.inl rfl)) (qss_cons (qs_set (i := 9) dx.nd rfl (.inl rfl) (pd_op (od_add dx.K false) (qe_var (i := 9) rfl (.inl rfl)) (qe_lst false (qa_cons (qe_tup (qa_cons (qe_lst false (qa_cons (qe_tup (qa_cons (qe_var (i := 1) rfl (.inl rfl)) (qa_cons qe_non (qa_cons (qe_var (i := 2) rfl (.inl rfl)) (qa_cons (qe_var (i := 2) rfl (.inl rfl)) (qa_cons qe_int qa_nil)))))) (qa_cons (qe_tup (qa_cons (qe_var (i := 2) rfl (.inl rfl)) (qa_cons (qe_var (i := 1) rfl (.inl rfl)) (qa_cons (qe_var (i := 2) rfl (.inl rfl)) (qa_cons (qe_var (i := 2) rfl (.inl rfl)) (qa_cons qe_int qa_nil)))))) qa_nil))) (qa_cons (qe_tup (qa_cons qe_str (qa_cons (qe_var (i := 2) rfl (.inl rfl)) (qa_cons (qe_var (i := 1) rfl (.inl rfl)) qa_nil)))) qa_nil))) qa_nil))) (by rfl) (.inl rfl)) (qss_cons (qs_set (i := 9) dx.nd rfl (.inl rfl) (pd_op (od_add dx.K false) (qe_var (i := 9) rfl (.inl rfl)) (qe_lst false (qa_cons (qe_tup (qa_cons (qe_lst false (qa_cons (qe_var (i := 6) rfl (.inl rfl)) (qa_cons (qe_tup (qa_cons (qe_var (i := 2) rfl (.inl rfl)) (qa_cons (qe_var (i := 1) rfl (.inl rfl)) (qa_cons (qe_var (i := 3) rfl (.inl rfl)) (qa_cons (qe_var (i := 3) rfl (.inl rfl)) (qa_cons qe_int qa_nil)))))) (qa_cons (qe_tup (qa_cons (qe_var (i := 3) rfl (.inl rfl)) (qa_cons (qe_var (i := 2) rfl (.inl rfl)) (qa_cons (qe_var (i := 3) rfl (.inl rfl)) (qa_cons (qe_var (i := 3) rfl (.inl rfl)) (qa_cons qe_int qa_nil)))))) qa_nil)))) (qa_cons (qe_tup (qa_cons qe_str (qa_cons (qe_var (i := 3) rfl (.inl rfl)) (qa_cons (qe_var (i := 2) rfl (.inl rfl)) qa_nil)))) qa_nil))) qa_nil))) (by rfl) (.inl rfl)) (qss_cons (qs_set (i := 10) dx.nd rfl (.inl rfl) (qe_lst false (qa_cons (qe_var (i := 6) rfl (.inl rfl)) (qa_cons (qe_tup (qa_cons (qe_var (i := 2) rfl (.inl rfl)) (qa_cons (qe_var (i := 1) rfl (.inl rfl)) (qa_cons qe_int (qa_cons qe_int (qa_cons qe_int qa_nil)))))) (qa_cons (qe_tup (qa_cons (qe_var (i := 3) rfl (.inl rfl)) (qa_cons (qe_var (i := 1) rfl (.inl rfl)) (qa_cons qe_int (qa_cons qe_int (qa_cons qe_int qa_nil)))))) (qa_cons (qe_tup (qa_cons (qe_var (i := 4) rfl (.inl rfl)) (qa_cons (qe_var (i := 1) rfl (.inl rfl)) (qa_cons qe_int (qa_cons qe_int (qa_cons qe_int qa_nil)))))) qa_nil))))) (by rfl) (.inl rfl)) (qss_cons (qs_set (i := 10) dx.nd rfl (.inl rfl) (pd_op (od_add dx.K false) (qe_var (i := 10) rfl (.inl rfl)) (qe_lst false (qa_cons (qe_tup (qa_cons qe_int (qa_cons (qe_var (i := 3) rfl (.inl rfl)) (qa_cons qe_int (qa_cons qe_int (qa_cons qe_int qa_nil)))))) (qa_cons (qe_tup (qa_cons qe_int (qa_cons (qe_var (i := 4) rfl (.inl rfl)) (qa_cons qe_int (qa_cons qe_int (qa_cons qe_int qa_nil)))))) (qa_cons (qe_tup (qa_cons qe_int (qa_cons (qe_var (i := 2) rfl (.inl rfl)) (qa_cons qe_int (qa_cons qe_int (qa_cons qe_int qa_nil)))))) qa_nil))))) (by rfl) (.inl rfl)) (qss_cons (qs_set (i := 9) dx.nd rfl (.inl rfl) (pd_op (od_add dx.K false) (qe_var (i := 9) rfl (.inl rfl)) (qe_lst false (qa_cons (qe_tup (qa_cons (qe_var (i := 10) rfl (.inl rfl)) (qa_cons (qe_tup (qa_cons qe_str (qa_cons (qe_lst false (qa_cons (qe_var (i := 2) rfl (.inl rfl)) (qa_cons (qe_var (i := 3) rfl (.inl rfl)) (qa_cons (qe_var (i := 4) rfl (.inl rfl)) qa_nil)))) qa_nil))) qa_nil))) qa_nil))) (by rfl) (.inl rfl)) (qss_cons (qs_set (i := 11) dx.nd rfl (.inl rfl) (qe_lst false (qa_cons (qe_tup (qa_cons (qe_lst false (qa_cons (qe_var (i := 6) rfl (.inl rfl)) (qa_cons (qe_tup (qa_cons (qe_var (i := 2) rfl (.inl rfl)) (qa_cons (qe_var (i := 1) rfl (.inl rfl)) (qa_cons (qe_var (i := 4) rfl (.inl rfl)) (qa_cons (qe_var (i := 4) rfl (.inl rfl)) (qa_cons qe_int qa_nil)))))) (qa_cons (qe_tup (qa_cons (qe_var (i := 3) rfl (.inl rfl)) (qa_cons (qe_var (i := 1) rfl (.inl rfl)) (qa_cons (qe_var (i := 3) rfl (.inl rfl)) (qa_cons (qe_var (i := 3) rfl (.inl rfl)) (qa_cons qe_int qa_nil)))))) (qa_cons (qe_tup (qa_cons (qe_var (i := 4) rfl (.inl rfl)) (qa_cons (qe_var (i := 3) rfl (.inl rfl)) (qa_cons (qe_var (i := 4) rfl (.inl rfl)) (qa_cons (qe_var (i := 4) rfl (.inl rfl)) (qa_cons qe_int qa_nil)))))) qa_nil))))) (qa_cons (qe_tup (qa_cons (qe_lst false qa_nil) (qa_cons (qe_lst false qa_nil) (qa_cons (qe_lst false (qa_cons (qe_var (i := 4) rfl (.inl rfl)) qa_nil)) qa_nil)))) qa_nil))) qa_nil)) (by rfl) (.inl rfl)) (qss_cons (qs_if (PW.pt (qw_or (qt_truth dx.K (qf_call k_shows_bar dx (by decide) rfl cx.g_shows_bar (qa_cons (qf_call k__law_image dx (by decide) rfl cx.g__law_image (qa_cons (qe_var (i := 8) rfl (.inl rfl)) qa_nil)) (qa_cons (qe_tup (qa_cons qe_str (qa_cons (qe_lst false (qa_cons (qe_var (i := 3) rfl (.inl rfl)) (qa_cons (qe_var (i := 2) rfl (.inl rfl)) qa_nil))) qa_nil))) qa_nil)))) (qw_or1 (qt_truth dx.K (qf_call k_shows_bar dx (by decide) rfl cx.g_shows_bar (qa_cons (qf_call k__law_image dx (by decide) rfl cx.g__law_image (qa_cons (qe_var (i := 10) rfl (.inl rfl)) qa_nil)) (qa_cons (qe_tup (qa_cons qe_str (qa_cons (qe_lst false (qa_cons (qe_var (i := 2) rfl (.inl rfl)) (qa_cons (qe_var (i := 4) rfl (.inl rfl)) (qa_cons (qe_var (i := 3) rfl (.inl rfl)) qa_nil)))) qa_nil))) qa_nil))))))) (qss_one (qs_ret qe_bl)) qss_nil) (qss_one (qs_ret (qe_and dx.K (qf_call k__law_barred dx (by decide) rfl cx.g__law_barred (qa_cons (qe_var (i := 9) rfl (.inl rfl)) qa_nil)) (qe_one (qf_call k__law_free dx (by decide) rfl cx.g__law_free (qa_cons (qe_var (i := 11) rfl (.inl rfl)) qa_nil))))))))))))))))))
def w__law_right : DS := wSeq (wPar 1 2 (wCons (wLRg2 true (wCons (wC (.int 2)) (wCons (wC (.int 30)) (wNil)))) (wCons (wLst true (wNil)) (wNil)))) (wSeq (wFor (iRngD (wCons (wC (.int 5)) (wNil))) (gN 3) (wDrop (wM .lst mAppend (wVar 2) (wCons (wM .lst mPop (wVar 1) (wCons (wCall S__law_take [] (wCons (wVar 0) (wCons (wB dLen (wCons (wVar 1) (wNil))) (wNil)))) (wNil))) (wNil))))) (wSeq (wPar 2 4 (wCons (wB (dSorted true) (wCons (wVar 2) (wNil))) (wCons (wOp (dAdd false) (wC (.int 31)) (wCall S__law_take [] (wCons (wVar 0) (wCons (wC (.int 90)) (wNil))))) (wNil)))) (wRet (wAnd (wCall S__law_led_right [] (wCons (wVar 2) (wCons (wVar 4) (wNil)))) (wAnd (wCall S__law_lost_right [] (wCons (wVar 2) (wCons (wVar 4) (wNil)))) (wCall S__law_rings_right [] (wCons (wVar 2) (wNil))))))))
def S__law_right : DSp := arD 1 (runD 5 w__law_right)
theorem sc__law_right : FnScope ["_law_box_here", "_law_left", "_law_some", "_law_turn", "_law_g"] ["_law_box_here"] (defScope st__law_right) := ⟨rfl, rfl, rfl, by decide +kernel, rfl, by decide +kernel, by decide +kernel⟩
theorem ok__law_right (cx : Cxt K mg) : ∃ fd, FD P w K mg base (gm K) 10 (He.fAd K ("_law_right", none)) fd ["_law_box_here"] S__law_right ∧ FunD K "_law_right" "_law_right" (defArgs st__law_right) (defBody st__law_right) (defScope st__law_right) [] [] (He.fAd K ("_law_right", none)) fd := by
  obtain ⟨fd, F⟩ := cx.F__law_right
  obtain ⟨fd__law_led_right, k__law_led_right, F__law_led_right⟩ := ok__law_led_right (P := P) (w := w) (base := base) cx
  obtain ⟨fd__law_lost_right, k__law_lost_right, F__law_lost_right⟩ := ok__law_lost_right (P := P) (w := w) (base := base) cx
  obtain ⟨fd__law_rings_right, k__law_rings_right, F__law_rings_right⟩ := ok__law_rings_right (P := P) (w := w) (base := base) cx
  obtain ⟨fd__law_take, k__law_take, F__law_take⟩ := ok__law_take (P := P) (w := w) (base := base) cx
  refine ⟨fd, FD.mk' F sc__law_right (fun _ _ _ _ _ _ us hl => match us, hl with | [_], _ => rfl) fun cdv A outer s H E hr hg => ?_, F⟩
  have dx := dx_cx (P := P) (w := w) (K := K) (mg := mg) (base := base) (G := gm K) (outer := outer) (H := H) (E := E) rfl sc__law_right.nd hr hg
  exact (qss_cons (qs_par (i := 1) (j := 2) dx.calm dx.nd rfl rfl (by decide) rfl rfl (qa_cons (qe_lrg2 dx.calm true rfl cx.n_list rfl cx.n_range qe_int qe_int) (qa_cons (qe_lst true qa_nil) qa_nil))) (qss_cons (qs_for dx (qi_range1 rfl cx.n_range (qa_cons qe_int qa_nil)) (qg_name (i := 3) dx.nd rfl (.inl rfl) (.inl rfl)) (qss_one (qs_expr (qe_m (t := .lst) dx.K (.inl rfl) PySem.F.plainAttrs_list PySem.F.slot_list_append PySem.F.type_list_append md_append (qe_var (i := 2) rfl (.inl rfl)) (qa_cons (qe_m (t := .lst) dx.K (.inl rfl) PySem.F.plainAttrs_list PySem.F.slot_list_pop PySem.F.type_list_pop md_pop (qe_var (i := 1) rfl (.inl rfl)) (qa_cons (qf_call k__law_take dx (by decide) rfl cx.g__law_take (qa_cons (qe_var (i := 0) rfl (.inl rfl)) (qa_cons (qe_callB (cd_len dx.K) rfl cx.n_len boot_len (qa_cons (qe_var (i := 1) rfl (.inl rfl)) qa_nil)) qa_nil))) qa_nil)) qa_nil))))) (qss_cons (qs_par (i := 2) (j := 4) dx.calm dx.nd rfl rfl (by decide) rfl rfl (qa_cons (qe_callB (cd_sorted dx.K dx.calm true) rfl cx.n_sorted boot_sorted (qa_cons (qe_var (i := 2) rfl (.inl rfl)) qa_nil)) (qa_cons (pd_op (od_add dx.K false) qe_int (qf_call k__law_take dx (by decide) rfl cx.g__law_take (qa_cons (qe_var (i := 0) rfl (.inl rfl)) (qa_cons qe_int qa_nil)))) qa_nil))) (qss_one (qs_ret (qe_and dx.K (qf_call k__law_led_right dx (by decide) rfl cx.g__law_led_right (qa_cons (qe_var (i := 2) rfl (.inl rfl)) (qa_cons (qe_var (i := 4) rfl (.inl rfl)) qa_nil))) (qe_and dx.K (qf_call k__law_lost_right dx (by decide) rfl cx.g__law_lost_right (qa_cons (qe_var (i := 2) rfl (.inl rfl)) (qa_cons (qe_var (i := 4) rfl (.inl rfl)) qa_nil))) (qe_one (qf_call k__law_rings_right dx (by decide) rfl cx.g__law_rings_right (qa_cons (qe_var (i := 2) rfl (.inl rfl)) qa_nil))))))))))
def w_law : DS := wRet (wB dAll (wCons (wLc false (iRngD (wCons (wOp (dAdd false) (wC (.int 1)) (wB dMin (wCons (wC (.int 3)) (wCons (wB dLen (wCons (wVar 0) (wNil))) (wNil))))) (wNil))) (gN 1) (wYes) (wCall S__law_right [] (wCons (wCall S__law_box [] (wCons (wVar 0) (wCons (wVar 1) (wNil)))) (wNil))) [1]) (wNil)))
def S_law : DSp := arD 1 (runD 2 w_law)
theorem sc_law : FnScope ["_law_script", "_law_k"] ["_law_script"] (defScope st_law) := ⟨rfl, rfl, rfl, by decide +kernel, rfl, by decide +kernel, by decide +kernel⟩
theorem ok_law (cx : Cxt K mg) : ∃ fd, FD P w K mg base (gm K) 11 (He.fAd K ("law", none)) fd ["_law_script"] S_law ∧ FunD K "law" "law" (defArgs st_law) (defBody st_law) (defScope st_law) [] [] (He.fAd K ("law", none)) fd := by
  obtain ⟨fd, F⟩ := cx.F_law
  obtain ⟨fd__law_box, k__law_box, F__law_box⟩ := ok__law_box (P := P) (w := w) (base := base) cx
  obtain ⟨fd__law_right, k__law_right, F__law_right⟩ := ok__law_right (P := P) (w := w) (base := base) cx
  refine ⟨fd, FD.mk' F sc_law (fun _ _ _ _ _ _ us hl => match us, hl with | [_], _ => rfl) fun cdv A outer s H E hr hg => ?_, F⟩
  have dx := dx_cx (P := P) (w := w) (K := K) (mg := mg) (base := base) (G := gm K) (outer := outer) (H := H) (E := E) rfl sc_law.nd hr hg
  exact (qss_one (qs_ret (qe_callB (cd_all dx.K dx.calm) rfl cx.n_all boot_all (qa_cons (qe_lc (own := [("_law_k", 1)]) dx false (qi_range1 rfl cx.n_range (qa_cons (pd_op (od_add dx.K false) qe_int (qe_callB (cd_min dx.K dx.calm) rfl cx.n_min boot_min (qa_cons qe_int (qa_cons (qe_callB (cd_len dx.K) rfl cx.n_len boot_len (qa_cons (qe_var (i := 0) rfl (.inr (.inl rfl))) qa_nil)) qa_nil)))) qa_nil)) (blk_of (by kernel_rfl)) (by decide) (fun _ _ _ _ _ => (qg_name (i := 1) (DX.blk dx _ _ _ _ _).nd rfl (.inl rfl) (.inr rfl))) (fun _ _ _ _ _ => qts_nil) (fun _ _ _ _ _ => (qf_call k__law_right (DX.blk dx _ _ _ _ _) (by decide) rfl cx.g__law_right (qa_cons (qf_call k__law_box (DX.blk dx _ _ _ _ _) (by decide) rfl cx.g__law_box (qa_cons (qe_var (i := 0) rfl (.inr (.inl rfl))) (qa_cons (qe_var (i := 1) rfl (.inl rfl)) qa_nil))) qa_nil)))) qa_nil))))
def d_Kin_init0 : He.DefD := ⟨("Kin", some "__init__"), "__init__", "Kin.__init__", defArgs st_Kin_init0, defBody st_Kin_init0, defScope st_Kin_init0, [], []⟩
def d_Kin_numbers : He.DefD := ⟨("Kin", some "numbers"), "numbers", "Kin.numbers", defArgs st_Kin_numbers, defBody st_Kin_numbers, defScope st_Kin_numbers, [], []⟩
def d_Kin_has : He.DefD := ⟨("Kin", some "has"), "has", "Kin.has", defArgs st_Kin_has, defBody st_Kin_has, defScope st_Kin_has, [], []⟩
def d_Kin_parent : He.DefD := ⟨("Kin", some "parent"), "parent", "Kin.parent", defArgs st_Kin_parent, defBody st_Kin_parent, defScope st_Kin_parent, [], []⟩
def d_Kin_session : He.DefD := ⟨("Kin", some "session"), "session", "Kin.session", defArgs st_Kin_session, defBody st_Kin_session, defScope st_Kin_session, [], []⟩
def d_Kin_group : He.DefD := ⟨("Kin", some "group"), "group", "Kin.group", defArgs st_Kin_group, defBody st_Kin_group, defScope st_Kin_group, [], []⟩
def d_Kin_adopts : He.DefD := ⟨("Kin", some "adopts"), "adopts", "Kin.adopts", defArgs st_Kin_adopts, defBody st_Kin_adopts, defScope st_Kin_adopts, [], []⟩
def d_Kin_ended : He.DefD := ⟨("Kin", some "ended"), "ended", "Kin.ended", defArgs st_Kin_ended, defBody st_Kin_ended, defScope st_Kin_ended, [], []⟩
def d_Kin_is_root : He.DefD := ⟨("Kin", some "is_root"), "is_root", "Kin.is_root", defArgs st_Kin_is_root, defBody st_Kin_is_root, defScope st_Kin_is_root, [], []⟩
def d_Kin_sessions : He.DefD := ⟨("Kin", some "sessions"), "sessions", "Kin.sessions", defArgs st_Kin_sessions, defBody st_Kin_sessions, defScope st_Kin_sessions, [], []⟩
def d_Kin_groups : He.DefD := ⟨("Kin", some "groups"), "groups", "Kin.groups", defArgs st_Kin_groups, defBody st_Kin_groups, defScope st_Kin_groups, [], []⟩
def d_Kin_members : He.DefD := ⟨("Kin", some "members"), "members", "Kin.members", defArgs st_Kin_members, defBody st_Kin_members, defScope st_Kin_members, [], []⟩
def d_Kin_group_members : He.DefD := ⟨("Kin", some "group_members"), "group_members", "Kin.group_members", defArgs st_Kin_group_members, defBody st_Kin_group_members, defScope st_Kin_group_members, [], []⟩
def d_Kin_is_top : He.DefD := ⟨("Kin", some "is_top"), "is_top", "Kin.is_top", defArgs st_Kin_is_top, defBody st_Kin_is_top, defScope st_Kin_is_top, [], []⟩
def d_Kin_tops : He.DefD := ⟨("Kin", some "tops"), "tops", "Kin.tops", defArgs st_Kin_tops, defBody st_Kin_tops, defScope st_Kin_tops, [], []⟩
def d_Kin_further_tops : He.DefD := ⟨("Kin", some "further_tops"), "further_tops", "Kin.further_tops", defArgs st_Kin_further_tops, defBody st_Kin_further_tops, defScope st_Kin_further_tops, [], []⟩
def d_Kin_adopter_above : He.DefD := ⟨("Kin", some "adopter_above"), "adopter_above", "Kin.adopter_above", defArgs st_Kin_adopter_above, defBody st_Kin_adopter_above, defScope st_Kin_adopter_above, [], []⟩
def d_Kin_branch : He.DefD := ⟨("Kin", some "branch"), "branch", "Kin.branch", defArgs st_Kin_branch, defBody st_Kin_branch, defScope st_Kin_branch, [], []⟩
def d_Kin_lost_sessions : He.DefD := ⟨("Kin", some "lost_sessions"), "lost_sessions", "Kin.lost_sessions", defArgs st_Kin_lost_sessions, defBody st_Kin_lost_sessions, defScope st_Kin_lost_sessions, [], []⟩
def d_Kin_lost_groups : He.DefD := ⟨("Kin", some "lost_groups"), "lost_groups", "Kin.lost_groups", defArgs st_Kin_lost_groups, defBody st_Kin_lost_groups, defScope st_Kin_lost_groups, [], []⟩
def d_Kin_lost_groups_in : He.DefD := ⟨("Kin", some "lost_groups_in"), "lost_groups_in", "Kin.lost_groups_in", defArgs st_Kin_lost_groups_in, defBody st_Kin_lost_groups_in, defScope st_Kin_lost_groups_in, [], []⟩
def d_Kin_reaches_leader : He.DefD := ⟨("Kin", some "reaches_leader"), "reaches_leader", "Kin.reaches_leader", defArgs st_Kin_reaches_leader, defBody st_Kin_reaches_leader, defScope st_Kin_reaches_leader, [], []⟩
def d_Kin_bearers : He.DefD := ⟨("Kin", some "bearers"), "bearers", "Kin.bearers", defArgs st_Kin_bearers, defBody st_Kin_bearers, defScope st_Kin_bearers, [], []⟩
def d_is_number : He.DefD := ⟨("is_number", none), "is_number", "is_number", defArgs st_is_number, defBody st_is_number, defScope st_is_number, [], []⟩
def d_torn_in_session : He.DefD := ⟨("torn_in_session", none), "torn_in_session", "torn_in_session", defArgs st_torn_in_session, defBody st_torn_in_session, defScope st_torn_in_session, [], []⟩
def d_is_torn_group : He.DefD := ⟨("is_torn_group", none), "is_torn_group", "is_torn_group", defArgs st_is_torn_group, defBody st_is_torn_group, defScope st_is_torn_group, [], []⟩
def d_needed : He.DefD := ⟨("needed", none), "needed", "needed", defArgs st_needed, defBody st_needed, defScope st_needed, [], []⟩
def d_rings : He.DefD := ⟨("rings", none), "rings", "rings", defArgs st_rings, defBody st_rings, defScope st_rings, [], []⟩
def d_bar : He.DefD := ⟨("bar", none), "bar", "bar", defArgs st_bar, defBody st_bar, defScope st_bar, [], []⟩
def d_shows_bar : He.DefD := ⟨("shows_bar", none), "shows_bar", "shows_bar", defArgs st_shows_bar, defBody st_shows_bar, defScope st_shows_bar, [], []⟩
def d_needs_more : He.DefD := ⟨("needs_more", none), "needs_more", "needs_more", defArgs st_needs_more, defBody st_needs_more, defScope st_needs_more, [], []⟩
def d_helpers : He.DefD := ⟨("helpers", none), "helpers", "helpers", defArgs st_helpers, defBody st_helpers, defScope st_helpers, [], []⟩
def d__law_box : He.DefD := ⟨("_law_box", none), "_law_box", "_law_box", defArgs st__law_box, defBody st__law_box, defScope st__law_box, [], []⟩
def d__law_take : He.DefD := ⟨("_law_take", none), "_law_take", "_law_take", defArgs st__law_take, defBody st__law_take, defScope st__law_take, [], []⟩
def d__law_pick : He.DefD := ⟨("_law_pick", none), "_law_pick", "_law_pick", defArgs st__law_pick, defBody st__law_pick, defScope st__law_pick, [], []⟩
def d__law_same : He.DefD := ⟨("_law_same", none), "_law_same", "_law_same", defArgs st__law_same, defBody st__law_same, defScope st__law_same, [], []⟩
def d__law_image : He.DefD := ⟨("_law_image", none), "_law_image", "_law_image", defArgs st__law_image, defBody st__law_image, defScope st__law_image, [], []⟩
def d__law_free : He.DefD := ⟨("_law_free", none), "_law_free", "_law_free", defArgs st__law_free, defBody st__law_free, defScope st__law_free, [], []⟩
def d__law_barred : He.DefD := ⟨("_law_barred", none), "_law_barred", "_law_barred", defArgs st__law_barred, defBody st__law_barred, defScope st__law_barred, [], []⟩
def d__law_led_right : He.DefD := ⟨("_law_led_right", none), "_law_led_right", "_law_led_right", defArgs st__law_led_right, defBody st__law_led_right, defScope st__law_led_right, [], []⟩
def d__law_lost_right : He.DefD := ⟨("_law_lost_right", none), "_law_lost_right", "_law_lost_right", defArgs st__law_lost_right, defBody st__law_lost_right, defScope st__law_lost_right, [], []⟩
def d__law_rings_right : He.DefD := ⟨("_law_rings_right", none), "_law_rings_right", "_law_rings_right", defArgs st__law_rings_right, defBody st__law_rings_right, defScope st__law_rings_right, [], []⟩
def d__law_right : He.DefD := ⟨("_law_right", none), "_law_right", "_law_right", defArgs st__law_right, defBody st__law_right, defScope st__law_right, [], []⟩
def d_law : He.DefD := ⟨("law", none), "law", "law", defArgs st_law, defBody st_law, defScope st_law, [], []⟩
def fnP0 : List He.DefD := [d_Kin_init0, d_Kin_numbers, d_Kin_has, d_Kin_parent, d_Kin_session, d_Kin_group, d_Kin_adopts, d_Kin_ended, d_Kin_is_root, d_Kin_sessions, d_Kin_groups, d_Kin_members, d_Kin_group_members, d_Kin_is_top, d_Kin_tops, d_Kin_further_tops, d_Kin_adopter_above, d_Kin_branch, d_Kin_lost_sessions, d_Kin_lost_groups, d_Kin_lost_groups_in, d_Kin_reaches_leader, d_Kin_bearers, d_is_number, d_torn_in_session, d_is_torn_group, d_needed, d_rings, d_bar, d_shows_bar]
def fnP1 : List He.DefD := [d_needs_more, d_helpers, d__law_box, d__law_take, d__law_pick, d__law_same, d__law_image, d__law_free, d__law_barred, d__law_led_right, d__law_lost_right, d__law_rings_right, d__law_right, d_law]
def fnP : List He.DefD := fnP0 ++ fnP1
def faP0 : List He.Fa := [.free "abs", .free "all", .free "bool", .free "int", .free "isinstance", .free "len", .free "list", .free "min", .free "range", .free "set", .free "sorted", .free "str", .free "tuple", .free "zip", .cls "Kin", .glo "Kin", .glo "_law_barred", .glo "_law_box", .glo "_law_free", .glo "_law_image", .glo "_law_led_right", .glo "_law_lost_right", .glo "_law_right", .glo "_law_rings_right", .glo "_law_same", .glo "_law_take", .glo "bar", .glo "helpers", .glo "is_number", .glo "is_torn_group"]
def faP1 : List He.Fa := [.glo "needed", .glo "needs_more", .glo "rings", .glo "shows_bar", .glo "torn_in_session", .int "FIRST" 1, .meth "Kin" "adopter_above", .meth "Kin" "adopts", .meth "Kin" "bearers", .meth "Kin" "branch", .meth "Kin" "ended", .meth "Kin" "further_tops", .meth "Kin" "group", .meth "Kin" "group_members", .meth "Kin" "groups", .meth "Kin" "has", .meth "Kin" "is_root", .meth "Kin" "is_top", .meth "Kin" "lost_groups", .meth "Kin" "lost_groups_in", .meth "Kin" "lost_sessions", .meth "Kin" "members", .meth "Kin" "numbers", .meth "Kin" "parent", .meth "Kin" "reaches_leader", .meth "Kin" "session", .meth "Kin" "sessions", .meth "Kin" "tops", .mkr "Kin", .noat "Kin" "own_rows"]
def faP2 : List He.Fa := [.glo "law"]
def faP : List He.Fa := faP0 ++ faP1 ++ faP2
abbrev R : PySem.W.OpenRow := PySem.W.OpenLaw.row PySem.Challenge.rw_treethaw_k35_known_families
abbrev hk : PySem.W.Hook := He.hookD 6 faP fnP
def ob (s : PySem.W.SharedT) : He.AlD := He.obsDG 6 faP fnP (HandSHeadRun.getT s)
theorem ob_eq (s : PySem.W.SharedT) : ob s = hk.obs s.abs := He.obsDG_eq (HandSHeadRun.getT_eq s)
def looseP0 : List PySem.Str := ["_wall", "FIRST", "Kin", "is_number", "torn_in_session", "is_torn_group", "needed", "rings", "bar", "shows_bar", "needs_more", "helpers", "_law_box", "_law_take", "_law_pick", "_law_same", "_law_image", "_law_free", "_law_barred", "_law_led_right", "_law_lost_right", "_law_rings_right", "_law_right"]
def looseP : List PySem.Str := looseP0
theorem run (w : World) : HandSHeadRun.RunEq R (PySem.W.view R.prog [26]) hk ob 20000 looseP w := by
  intro os
  kernel_rfl
theorem cxt_of {K : PySem.W.Frag} {h : Heap} {mg : Str → Option Value} (X : K.In h) (G : h.Ns mainGlobals mg) (c : He.SaysD faP fnP K) : Cxt K mg where
  F_Kin_init0 := c.def_ 0 (d := d_Kin_init0) rfl
  F_Kin_numbers := c.def_ 1 (d := d_Kin_numbers) rfl
  F_Kin_has := c.def_ 2 (d := d_Kin_has) rfl
  F_Kin_parent := c.def_ 3 (d := d_Kin_parent) rfl
  F_Kin_session := c.def_ 4 (d := d_Kin_session) rfl
  F_Kin_group := c.def_ 5 (d := d_Kin_group) rfl
  F_Kin_adopts := c.def_ 6 (d := d_Kin_adopts) rfl
  F_Kin_ended := c.def_ 7 (d := d_Kin_ended) rfl
  F_Kin_is_root := c.def_ 8 (d := d_Kin_is_root) rfl
  F_Kin_sessions := c.def_ 9 (d := d_Kin_sessions) rfl
  F_Kin_groups := c.def_ 10 (d := d_Kin_groups) rfl
  F_Kin_members := c.def_ 11 (d := d_Kin_members) rfl
  F_Kin_group_members := c.def_ 12 (d := d_Kin_group_members) rfl
  F_Kin_is_top := c.def_ 13 (d := d_Kin_is_top) rfl
  F_Kin_tops := c.def_ 14 (d := d_Kin_tops) rfl
  F_Kin_further_tops := c.def_ 15 (d := d_Kin_further_tops) rfl
  F_Kin_adopter_above := c.def_ 16 (d := d_Kin_adopter_above) rfl
  F_Kin_branch := c.def_ 17 (d := d_Kin_branch) rfl
  F_Kin_lost_sessions := c.def_ 18 (d := d_Kin_lost_sessions) rfl
  F_Kin_lost_groups := c.def_ 19 (d := d_Kin_lost_groups) rfl
  F_Kin_lost_groups_in := c.def_ 20 (d := d_Kin_lost_groups_in) rfl
  F_Kin_reaches_leader := c.def_ 21 (d := d_Kin_reaches_leader) rfl
  F_Kin_bearers := c.def_ 22 (d := d_Kin_bearers) rfl
  F_is_number := c.def_ 23 (d := d_is_number) rfl
  F_torn_in_session := c.def_ 24 (d := d_torn_in_session) rfl
  F_is_torn_group := c.def_ 25 (d := d_is_torn_group) rfl
  F_needed := c.def_ 26 (d := d_needed) rfl
  F_rings := c.def_ 27 (d := d_rings) rfl
  F_bar := c.def_ 28 (d := d_bar) rfl
  F_shows_bar := c.def_ 29 (d := d_shows_bar) rfl
  F_needs_more := c.def_ 30 (d := d_needs_more) rfl
  F_helpers := c.def_ 31 (d := d_helpers) rfl
  F__law_box := c.def_ 32 (d := d__law_box) rfl
  F__law_take := c.def_ 33 (d := d__law_take) rfl
  F__law_pick := c.def_ 34 (d := d__law_pick) rfl
  F__law_same := c.def_ 35 (d := d__law_same) rfl
  F__law_image := c.def_ 36 (d := d__law_image) rfl
  F__law_free := c.def_ 37 (d := d__law_free) rfl
  F__law_barred := c.def_ 38 (d := d__law_barred) rfl
  F__law_led_right := c.def_ 39 (d := d__law_led_right) rfl
  F__law_lost_right := c.def_ 40 (d := d__law_lost_right) rfl
  F__law_rings_right := c.def_ 41 (d := d__law_rings_right) rfl
  F__law_right := c.def_ 42 (d := d__law_right) rfl
  F_law := c.def_ 43 (d := d_law) rfl
  n_abs := He.free_ok X G (c.fact 0 (f := .free "abs") rfl)
  n_all := He.free_ok X G (c.fact 1 (f := .free "all") rfl)
  n_bool := He.free_ok X G (c.fact 2 (f := .free "bool") rfl)
  n_int := He.free_ok X G (c.fact 3 (f := .free "int") rfl)
  n_isinstance := He.free_ok X G (c.fact 4 (f := .free "isinstance") rfl)
  n_len := He.free_ok X G (c.fact 5 (f := .free "len") rfl)
  n_list := He.free_ok X G (c.fact 6 (f := .free "list") rfl)
  n_min := He.free_ok X G (c.fact 7 (f := .free "min") rfl)
  n_range := He.free_ok X G (c.fact 8 (f := .free "range") rfl)
  n_set := He.free_ok X G (c.fact 9 (f := .free "set") rfl)
  n_sorted := He.free_ok X G (c.fact 10 (f := .free "sorted") rfl)
  n_str := He.free_ok X G (c.fact 11 (f := .free "str") rfl)
  n_tuple := He.free_ok X G (c.fact 12 (f := .free "tuple") rfl)
  n_zip := He.free_ok X G (c.fact 13 (f := .free "zip") rfl)
  cls_Kin := He.cls_ok (c.fact 14 (f := .cls "Kin") rfl)
  g_Kin := He.glo_ok X G (c.fact 15 (f := .glo "Kin") rfl)
  g__law_barred := He.glo_ok X G (c.fact 16 (f := .glo "_law_barred") rfl)
  g__law_box := He.glo_ok X G (c.fact 17 (f := .glo "_law_box") rfl)
  g__law_free := He.glo_ok X G (c.fact 18 (f := .glo "_law_free") rfl)
  g__law_image := He.glo_ok X G (c.fact 19 (f := .glo "_law_image") rfl)
  g__law_led_right := He.glo_ok X G (c.fact 20 (f := .glo "_law_led_right") rfl)
  g__law_lost_right := He.glo_ok X G (c.fact 21 (f := .glo "_law_lost_right") rfl)
  g__law_right := He.glo_ok X G (c.fact 22 (f := .glo "_law_right") rfl)
  g__law_rings_right := He.glo_ok X G (c.fact 23 (f := .glo "_law_rings_right") rfl)
  g__law_same := He.glo_ok X G (c.fact 24 (f := .glo "_law_same") rfl)
  g__law_take := He.glo_ok X G (c.fact 25 (f := .glo "_law_take") rfl)
  g_bar := He.glo_ok X G (c.fact 26 (f := .glo "bar") rfl)
  g_helpers := He.glo_ok X G (c.fact 27 (f := .glo "helpers") rfl)
  g_is_number := He.glo_ok X G (c.fact 28 (f := .glo "is_number") rfl)
  g_is_torn_group := He.glo_ok X G (c.fact 29 (f := .glo "is_torn_group") rfl)
  g_needed := He.glo_ok X G (c.fact 30 (f := .glo "needed") rfl)
  g_needs_more := He.glo_ok X G (c.fact 31 (f := .glo "needs_more") rfl)
  g_rings := He.glo_ok X G (c.fact 32 (f := .glo "rings") rfl)
  g_shows_bar := He.glo_ok X G (c.fact 33 (f := .glo "shows_bar") rfl)
  g_torn_in_session := He.glo_ok X G (c.fact 34 (f := .glo "torn_in_session") rfl)
  i_FIRST := He.int_ok X G (c.fact 35 (f := .int "FIRST" 1) rfl)
  m_Kin_adopter_above := He.meth_ok (c.fact 36 (f := .meth "Kin" "adopter_above") rfl)
  m_Kin_adopts := He.meth_ok (c.fact 37 (f := .meth "Kin" "adopts") rfl)
  m_Kin_bearers := He.meth_ok (c.fact 38 (f := .meth "Kin" "bearers") rfl)
  m_Kin_branch := He.meth_ok (c.fact 39 (f := .meth "Kin" "branch") rfl)
  m_Kin_ended := He.meth_ok (c.fact 40 (f := .meth "Kin" "ended") rfl)
  m_Kin_further_tops := He.meth_ok (c.fact 41 (f := .meth "Kin" "further_tops") rfl)
  m_Kin_group := He.meth_ok (c.fact 42 (f := .meth "Kin" "group") rfl)
  m_Kin_group_members := He.meth_ok (c.fact 43 (f := .meth "Kin" "group_members") rfl)
  m_Kin_groups := He.meth_ok (c.fact 44 (f := .meth "Kin" "groups") rfl)
  m_Kin_has := He.meth_ok (c.fact 45 (f := .meth "Kin" "has") rfl)
  m_Kin_is_root := He.meth_ok (c.fact 46 (f := .meth "Kin" "is_root") rfl)
  m_Kin_is_top := He.meth_ok (c.fact 47 (f := .meth "Kin" "is_top") rfl)
  m_Kin_lost_groups := He.meth_ok (c.fact 48 (f := .meth "Kin" "lost_groups") rfl)
  m_Kin_lost_groups_in := He.meth_ok (c.fact 49 (f := .meth "Kin" "lost_groups_in") rfl)
  m_Kin_lost_sessions := He.meth_ok (c.fact 50 (f := .meth "Kin" "lost_sessions") rfl)
  m_Kin_members := He.meth_ok (c.fact 51 (f := .meth "Kin" "members") rfl)
  m_Kin_numbers := He.meth_ok (c.fact 52 (f := .meth "Kin" "numbers") rfl)
  m_Kin_parent := He.meth_ok (c.fact 53 (f := .meth "Kin" "parent") rfl)
  m_Kin_reaches_leader := He.meth_ok (c.fact 54 (f := .meth "Kin" "reaches_leader") rfl)
  m_Kin_session := He.meth_ok (c.fact 55 (f := .meth "Kin" "session") rfl)
  m_Kin_sessions := He.meth_ok (c.fact 56 (f := .meth "Kin" "sessions") rfl)
  m_Kin_tops := He.meth_ok (c.fact 57 (f := .meth "Kin" "tops") rfl)
  mk_Kin := He.mkr_ok (c.fact 58 (f := .mkr "Kin") rfl)
  na_Kin_own_rows := He.noat_ok (c.fact 59 (f := .noat "Kin" "own_rows") rfl)
end Law
namespace Law
open PySem PySem.Spec PyProof.Rows L2 DL
/-- from the plain law -/
theorem law_sp {K : PySem.W.Frag} (plain : ∀ (d : DV) (ns : List Int) (m : Sto) (Q : DK), asL m d = some (ns.map DV.int) → ns.length ≤ 63 → (∀ m', Q (.bl true) m') → S_law [d] m Q)
    (H : Hp) (a : Addr) (ns : List Int) (hl : ns.length ≤ 63) (hS : SqL K H a (ns.map V.int)) : spL (gm K) S_law [.ref a] H (fun v _ => v = .bl true) fun _ _ _ => False := by
  have r : Rel (gm K) H (fun _ => none) H := ⟨Ex.refl H, fun a o e => by cases e⟩
  have k : Kt (gm K) H (fun d _ => d = .bl true) (fun v _ => v = .bl true) := fun d m v F' H' e _ _ rv => by
    subst e
    cases rv
    rfl
  rcases hS with h | h
  · exact ⟨H, _, [.lst (ns.map DV.int)], _, r, .cons (.lst h (VRs.of_ints ns)) .nil, plain _ ns _ _ rfl hl fun _ => rfl, k⟩
  · exact ⟨H, _, [.klst (ns.map DV.int)], _, r, .cons (.klst (.inr h) (VRs.of_ints ns)) .nil, plain _ ns _ _ rfl hl fun _ => rfl, k⟩
end Law
namespace Law
open PySem PySem.Spec PyProof.Rows L2 DL
structure Row where
  n : Int
  up : Int
  s : Int
  g : Int
  ad : Bool
  wd : Str
def upD (u : Int) : DV := if u = 1 then .non else .int u
abbrev m0 : Sto := fun _ => none
theorem sub0 (m : Sto) : Sub m0 m := fun a o h => by cases h
def RowIs (x : DV) (r : Row) : Prop := ∃ rest, asQ m0 x = some (.int r.n :: upD r.up :: .int r.s :: .int r.g :: .bl r.ad :: .str r.wd :: rest)
def look : List Row → Int → Option Row
  | [], _ => none
  | r :: rs, n => if r.n = n then some r else look rs n
theorem look_mem {rs : List Row} {n : Int} {r : Row} (h : look rs n = some r) : r ∈ rs ∧ r.n = n := by
  induction rs with
  | nil => cases h
  | cons a rs ih =>
    unfold look at h
    split at h
    · cases h; exact ⟨List.mem_cons_self, by assumption⟩
    · obtain ⟨h1, h2⟩ := ih h
      exact ⟨List.mem_cons_of_mem _ h1, h2⟩
abbrev KvRow : List (Key × DV) → List Row → Prop := Paired fun kv r => kv.1 = Sum.inl r.n ∧ RowIs kv.2 r
theorem kv_look {kvs : List (Key × DV)} {rs : List Row} (h : KvRow kvs rs) (n : Int) : (look rs n = none → lookD kvs (.inl n) = none) ∧ ∀ r, look rs n = some r → ∃ x, lookD kvs (.inl n) = some x ∧ RowIs x r := by
  induction h with
  | nil => exact ⟨fun _ => rfl, fun r e => by cases e⟩
  | @cons a b as bs h t ih =>
    obtain ⟨k, x⟩ := a
    obtain ⟨h1, h2⟩ := h
    have h1 : k = Sum.inl b.n := h1
    subst h1
    by_cases e : b.n = n
    · subst e
      have l1 : look (b :: bs) b.n = some b := if_pos rfl
      have l2 : lookD ((Sum.inl b.n, x) :: as) (.inl b.n : Key) = some x := if_pos rfl
      rw [l1, l2]
      exact ⟨fun z => (by cases z), fun r z => (by cases z; exact ⟨x, rfl, h2⟩)⟩
    · have e' : ¬ (Sum.inl b.n : Key) = Sum.inl n := fun z => e (Sum.inl.inj z)
      simp only [look, lookD, if_neg e, if_neg e']
      exact ih
theorem kv_keys {kvs : List (Key × DV)} {rs : List Row} (h : KvRow kvs rs) : keysI? kvs = some (rs.map (·.n)) := by
  induction h with
  | nil => rfl
  | @cons a b as bs h t ih =>
    obtain ⟨k, x⟩ := a
    have h1 : k = Sum.inl b.n := h.1
    subst h1
    simp [keysI?, ih]
theorem kv_len {kvs : List (Key × DV)} {rs : List Row} (h : KvRow kvs rs) : kvs.length = rs.length := Paired.length h
/-- the object of the family -/
structure KinAt (m : Sto) (k : Addr) (rs : List Row) : Prop where
  ex : ∃ d kvs, m k = some (.ins 0 [(0, .ref d)]) ∧ m d = some (.dct kvs) ∧ KvRow kvs rs
  few : rs.length < 64
  srt : (rs.map (·.n)).Pairwise (· < ·)
theorem KinAt.mono {m m' : Sto} {k : Addr} {rs : List Row} (h : KinAt m k rs) (s : Sub m m') : KinAt m' k rs := by
  obtain ⟨d, kvs, h1, h2, h3⟩ := h.ex
  exact ⟨⟨d, kvs, s _ _ h1, s _ _ h2, h3⟩, h.few, h.srt⟩
theorem sortI_id {ns : List Int} (h : ns.Pairwise (· < ·)) : sortI ns = ns := (sortI_of (List.Perm.refl ns) (h.imp fun {a b} h => by omega)).symm
/-- what the family tells -/
def isIn (rs : List Row) (n : Int) : Bool := (look rs n).isSome
def upF (rs : List Row) (n : Int) : Int := match look rs n with
  | some r => r.up
  | none => 0
def sesF (rs : List Row) (n : Int) : Int := if n = 1 then 1 else match look rs n with
  | some r => r.s
  | none => 0
def grpF (rs : List Row) (n : Int) : Int := match look rs n with
  | some r => r.g
  | none => 0
def adF (rs : List Row) (n : Int) : Bool := decide (n = 1) || match look rs n with
  | some r => r.ad
  | none => false
def endF (rs : List Row) (n : Int) : Bool := match look rs n with
  | some r => decide (r.wd = "ended")
  | none => false
section
variable {m : Sto} {k : Addr} {rs : List Row} {n : Int} {r : Row} {δ : Slots}
theorem atI_row {x : DV} {i : Nat} {d : DV} {m : Sto} (h : RowIs x r) (hi : ([.int r.n, upD r.up, .int r.s, .int r.g, .bl r.ad, .str r.wd] : List DV)[i]? = some d) : Pu2 dIx x (.int (i : Int)) m d := fun m' Q _ q => by
  obtain ⟨rest, e⟩ := h
  have e' : asQ m' x = some (.int r.n :: upD r.up :: .int r.s :: .int r.g :: .bl r.ad :: .str r.wd :: rest) := asQ_sub e (sub0 m')
  have hn : dictAt m' x (.int (i : Int)) = none := by
    cases x with
    | ref a => simp [asQ, asL] at e
    | _ => rfl
  unfold dIx
  rw [hn, e']
  dsimp only
  have hlt : i < 6 := (List.getElem?_eq_some_iff.mp hi).1
  have hat : atI (.int r.n :: upD r.up :: .int r.s :: .int r.g :: .bl r.ad :: .str r.wd :: rest) (i : Int) = some d := by
    unfold atI ixN
    rw [if_pos (by omega), if_pos (by simp only [List.length_cons]; omega)]
    show (.int r.n :: upD r.up :: .int r.s :: .int r.g :: .bl r.ad :: .str r.wd :: rest : List DV)[i]? = some d
    rw [← hi]
    have : (.int r.n :: upD r.up :: .int r.s :: .int r.g :: .bl r.ad :: .str r.wd :: rest : List DV) = [.int r.n, upD r.up, .int r.s, .int r.g, .bl r.ad, .str r.wd] ++ rest := rfl
    rw [this, List.getElem?_append_left (by simpa using hlt)]
  rw [hat]
  exact q _ (.refl _)
/-- self.own_rows -/
theorem pu_rows (h : KinAt m k rs) (hδ : δ[0]? = some (some (.ref k))) : ∃ d kvs, m d = some (.dct kvs) ∧ KvRow kvs rs ∧ PuE (wFld 0 0 (wVar 0)) δ m (.ref d) := by
  obtain ⟨d, kvs, h1, h2, h3⟩ := h.ex
  exact ⟨d, kvs, h2, h3, pu_fld (pu_var hδ) h1 rfl⟩
/-- self.own_rows[number][i] -/
theorem pu_cell (h : KinAt m k rs) (hδ : δ[0]? = some (some (.ref k))) (hn : δ[1]? = some (some (.int n))) (hl : look rs n = some r) {i : Nat} {x : DV} (hi : ([.int r.n, upD r.up, .int r.s, .int r.g, .bl r.ad, .str r.wd] : List DV)[i]? = some x) :
    PuE (wOp dIx (wOp dIx (wFld 0 0 (wVar 0)) (wVar 1)) (wC (.int (i : Int)))) δ m x := by
  obtain ⟨d, kvs, hd, hkv, hp⟩ := pu_rows h hδ
  obtain ⟨x1, hx1, hr⟩ := (kv_look hkv n).2 r hl
  refine pu_op (pu_op hp (pu_var hn) (v := x1) fun m' Q s q => ?_) pu_c (atI_row hr hi)
  unfold dIx dictAt
  simp only [s _ _ hd, dK?, Option.map, hx1]
  exact q _ (.refl _)
theorem dEq_int {neg : Bool} {i j : Int} : Pu2 (dEq neg) (.int i) (.int j) m (.bl (xor neg (decide (i = j)))) := fun m' Q _ q => q _ (.refl _)
theorem sp_numbers (h : KinAt m k rs) : PuS S_Kin_numbers [.ref k] m (.lst (rs.map fun r => .int r.n)) := by
  obtain ⟨d, kvs, hd, hkv, hp⟩ := pu_rows (δ := startD 1 [.ref k]) h rfl
  refine ps_run rfl (px_ret (pu_b (pa_cons hp pa_nil) fun m' Q s q => ?_) rfl)
  have : asL m' (.ref d) = none := by unfold asL; simp only [s _ _ hd]
  unfold dSorted
  dsimp only
  rw [this]
  simp only [s _ _ hd, kv_keys hkv, kv_len hkv]
  refine ⟨h.few, ?_⟩
  rw [sortI_id h.srt, newL_data, List.map_map]
  exact q _ (.refl _)
theorem sp_has (h : KinAt m k rs) : PuS S_Kin_has [.ref k, .int n] m (.bl (isIn rs n)) := by
  obtain ⟨d, kvs, hd, hkv, hp⟩ := pu_rows (δ := startD 2 [.ref k, .int n]) h rfl
  refine ps_run rfl (px_ret (pu_op (pu_var rfl) hp fun m' Q s q => ?_) rfl)
  unfold dIn dictAt
  simp only [s _ _ hd, dK?, Option.map, Bool.false_bne]
  have e : (lookD kvs (.inl n)).isSome = isIn rs n := by
    unfold isIn
    cases e : look rs n with
    | none => rw [(kv_look hkv n).1 e]; rfl
    | some r =>
      obtain ⟨x, hx, _⟩ := (kv_look hkv n).2 r e
      rw [hx]; rfl
  rw [e]; exact q _ (.refl _)
theorem isN_up {u : Int} : Pu2 (dIsN false) (upD u) .non m (.bl (decide (u = 1))) := fun m' Q _ q => by
  unfold upD
  by_cases e : u = 1
  · rw [decide_eq_true e] at q; rw [if_pos e]; exact q _ (.refl _)
  · rw [decide_eq_false e] at q; rw [if_neg e]; exact q _ (.refl _)
theorem sp_parent (h : KinAt m k rs) (hl : look rs n = some r) : PuS S_Kin_parent [.ref k, .int n] m (.int r.up) := by
  refine ps_run rfl (px_seq (M := fun δ' => δ' = [some (.ref k), some (.int n), some (upD r.up)]) (px_set (pu_cell (i := 1) h rfl rfl hl rfl) rfl) fun δ' e => ?_)
  subst e
  refine px_ret (pu_if (pt_bl (pu_op (pu_var rfl) pu_c isN_up)) (fun e => ?_) fun e => ?_) rfl
  · have e : r.up = 1 := of_decide_eq_true e
    rw [e]; exact pu_c
  · have e : ¬ r.up = 1 := of_decide_eq_false e
    have : upD r.up = .int r.up := if_neg e
    rw [← this]
    exact pu_var rfl
theorem sp_session (h : KinAt m k rs) (hn : n = 1 ∨ isIn rs n = true) : PuS S_Kin_session [.ref k, .int n] m (.int (sesF rs n)) := by
  refine ps_run rfl (px_ret (pu_if (pt_bl (pu_op (pu_var rfl) pu_c dEq_int)) (fun e => ?_) fun e => ?_) rfl)
  · have e : n = 1 := by simpa using e
    unfold sesF
    rw [if_pos e]; exact pu_c
  · have e : ¬ n = 1 := by simpa using e
    have h1 := hn.resolve_left e
    unfold isIn at h1
    obtain ⟨r, hr⟩ := Option.isSome_iff_exists.mp h1
    unfold sesF
    rw [if_neg e, hr]
    exact pu_cell (i := 2) h rfl rfl hr rfl
theorem sp_group (h : KinAt m k rs) (hl : look rs n = some r) : PuS S_Kin_group [.ref k, .int n] m (.int r.g) := ps_run rfl (px_ret (pu_cell (i := 3) h rfl rfl hl rfl) rfl)
theorem sp_adopts (h : KinAt m k rs) (hn : n = 1 ∨ isIn rs n = true) : PuS S_Kin_adopts [.ref k, .int n] m (.bl (adF rs n)) := by
  refine ps_run rfl (px_ret (pu_or (c := match look rs n with
      | some r => r.ad
      | none => false) (pu_op (pu_var rfl) pu_c dEq_int) fun e => ?_) ?_)
  · have e : ¬ n = 1 := by simpa using e
    have h1 := hn.resolve_left e
    unfold isIn at h1
    obtain ⟨r, hr⟩ := Option.isSome_iff_exists.mp h1
    rw [hr]
    exact pu_cell (i := 4) h rfl rfl hr rfl
  · unfold adF; simp
theorem sp_ended (h : KinAt m k rs) (hl : look rs n = some r) : PuS S_Kin_ended [.ref k, .int n] m (.bl (decide (r.wd = "ended"))) := by
  refine ps_run rfl (px_ret (pu_op (pu_cell (i := 5) h rfl rfl hl rfl) pu_c fun m' Q _ q => ?_) rfl)
  unfold dEq scEq
  simpa using q _ (.refl _)
theorem sp_isroot (h : KinAt m k rs) (hl : look rs n = some r) : PuS S_Kin_is_root [.ref k, .int n] m (.bl (decide (r.up = 1))) := ps_run rfl (px_ret (pu_op (pu_cell (i := 1) h rfl rfl hl rfl) pu_c isN_up) rfl)
end
end Law
namespace Law
open PySem PySem.Spec PyProof.Rows L2 DL
def nums (rs : List Row) : List Int := rs.map (·.n)
/-- parents come ahead, by some count -/
structure Fam (rs : List Row) : Prop where
  rk : ∃ rk : Int → Nat, (∀ n r, look rs n = some r → r.up = 1 ∨ (isIn rs r.up = true ∧ rk r.up < rk n)) ∧ ∀ n, rk n < 64
  one : look rs 1 = none
  few : rs.length < 64
theorem isIn_some {rs : List Row} {n : Int} (h : isIn rs n = true) : ∃ r, look rs n = some r := Option.isSome_iff_exists.mp h
theorem look_isIn {rs : List Row} {n : Int} {r : Row} (h : look rs n = some r) : isIn rs n = true := by unfold isIn; rw [h]; rfl
theorem mem_nums {rs : List Row} {n : Int} : n ∈ nums rs ↔ isIn rs n = true := by
  induction rs with
  | nil => simp [nums, isIn, look]
  | cons a rs ih =>
    unfold nums isIn look
    rw [List.map_cons, List.mem_cons]
    by_cases e : a.n = n
    · simp [e]
    · rw [if_neg e]
      have ih' : n ∈ rs.map (·.n) ↔ (look rs n).isSome = true := ih
      rw [ih']
      exact ⟨fun h => h.resolve_left fun z => e z.symm, .inr⟩
theorem upF_of {rs : List Row} {n : Int} {r : Row} (h : look rs n = some r) : upF rs n = r.up := by unfold upF; rw [h]
theorem grpF_of {rs : List Row} {n : Int} {r : Row} (h : look rs n = some r) : grpF rs n = r.g := by unfold grpF; rw [h]
theorem endF_of {rs : List Row} {n : Int} {r : Row} (h : look rs n = some r) : endF rs n = decide (r.wd = "ended") := by unfold endF; rw [h]
theorem Fam.up {rs : List Row} (f : Fam rs) {n : Int} (h : isIn rs n = true) : upF rs n = 1 ∨ isIn rs (upF rs n) = true := by
  obtain ⟨r, hr⟩ := isIn_some h
  obtain ⟨rk, h1, _⟩ := f.rk
  rw [upF_of hr]
  exact (h1 n r hr).imp id And.left
theorem nums_len (rs : List Row) : (nums rs).length = rs.length := by unfold nums; rw [List.length_map]
def memF (rs : List Row) (S : Int) : List Int := (nums rs).filter fun n => decide (sesF rs n = S)
def gmemF (rs : List Row) (g : Int) : List Int := (nums rs).filter fun n => decide (grpF rs n = g)
def sessF (rs : List Row) : List Int := sortU ((nums rs).map (sesF rs))
def grpsF (rs : List Row) : List Int := sortU ((nums rs).map (grpF rs))
def topB (rs : List Row) (n : Int) : Bool := decide (upF rs n = 1) || !decide (sesF rs (upF rs n) = sesF rs n)
def topsF (rs : List Row) (S : Int) : List Int := (memF rs S).filter (topB rs)
def ftopsF (rs : List Row) (S : Int) : List Int := (topsF rs S).filter fun n => !decide (n = S)
def aboveN (rs : List Row) : Nat → Int → Int
  | 0, u => u
  | j + 1, u => if adF rs u = true then u else aboveN rs j (upF rs u)
def aboveF (rs : List Row) (n : Int) : Int := aboveN rs 64 (upF rs n)
def branchN (rs : List Row) (p : Int) : Nat → Int → Int
  | 0, u => u
  | j + 1, u => if u = 1 ∨ upF rs u = p then u else branchN rs p j (upF rs u)
def lostSF (rs : List Row) : List Int := (sessF rs).filter fun s => !decide (s = 1) && !isIn rs s
def lostGF (rs : List Row) : List Int := (grpsF rs).filter fun g => !(g == 1 || (lostSF rs).contains g) && !isIn rs g
section
variable {m : Sto} {k : Addr} {rs : List Row} {n : Int} {r : Row} {δ : Slots} {w : DE} {wi : DI}
theorem pu_sortU {ns : List Int} (h : PuE w δ m (.lst (ns.map DV.int))) (hl : ns.length < 64) : PuE (dSortU false w) δ m (.lst ((sortU ns).map DV.int)) := fun m' Q s q => h m' _ s fun m1 s1 => by
  show match ints? (ns.map DV.int) with
    | some ns => ns.length < 64 ∧ newL false ((sortU ns).map DV.int) m1 Q
    | none => False
  rw [DL.ints_of]
  exact ⟨hl, q m1 s1⟩
theorem KinAt.ins (h : KinAt m k rs) : ∃ fs, m k = some (.ins 0 fs) := by
  obtain ⟨d, kvs, h1, _⟩ := h.ex
  exact ⟨_, h1⟩
/-- o.m() -/
theorem pu_m0 {S : DSp} {v : DV} (h : KinAt m k rs) {i : Nat} (hδ : δ[i]? = some (some (.ref k))) (hs : PuS S [.ref k] m v) : PuE (wMeth 0 S [] (wVar i) wNil) δ m v := by
  obtain ⟨fs, hf⟩ := h.ins
  exact pu_meth (ds := []) (dds := []) (pu_var hδ) hf pa_nil hs
theorem pu_m1 {S : DSp} {v x : DV} {wa : DE} (h : KinAt m k rs) {i : Nat} (hδ : δ[i]? = some (some (.ref k))) (ha : PuE wa δ m x) (hs : PuS S [.ref k, x] m v) : PuE (wMeth 0 S [] (wVar i) (wCons wa wNil)) δ m v := by
  obtain ⟨fs, hf⟩ := h.ins
  exact pu_meth (ds := [x]) (dds := []) (pu_var hδ) hf (pa_cons ha pa_nil) hs
theorem pu_m2 {S : DSp} {v x y : DV} {wa wb : DE} (h : KinAt m k rs) {i : Nat} (hδ : δ[i]? = some (some (.ref k))) (ha : PuE wa δ m x) (hb : PuE wb δ m y) (hs : PuS S [.ref k, x, y] m v) : PuE (wMeth 0 S [] (wVar i) (wCons wa (wCons wb wNil))) δ m v := by
  obtain ⟨fs, hf⟩ := h.ins
  exact pu_meth (ds := [x, y]) (dds := []) (pu_var hδ) hf (pa_cons ha (pa_cons hb pa_nil)) hs
theorem sp_nums (h : KinAt m k rs) : PuS S_Kin_numbers [.ref k] m (.lst ((nums rs).map DV.int)) := by
  have := sp_numbers h
  unfold nums
  rw [List.map_map]
  exact this
theorem small (h : KinAt m k rs) : (nums rs).length ≤ sizeLine := by
  have := h.few
  have e : sizeLine = 16777216 := sizeLine_eq
  rw [nums_len]; omega
theorem filt {p : Int → Bool} {f : Int → DV} {ns : List Int} (h : ∀ x, f x = .int x) : (ns.filter p).map f = (ns.filter p).map DV.int := by
  congr 1; funext x; exact h x
theorem sp_sessions (h : KinAt m k rs) : PuS S_Kin_sessions [.ref k] m (.lst ((sessF rs).map DV.int)) := by
  refine ps_run rfl (px_ret (pu_sortU ?_ (by rw [List.length_map, nums_len]; exact h.few)) rfl)
  have := pu_lcI (i := 1) (δ := startD 2 [.ref k]) (tt := wYes) (te := wMeth 0 S_Kin_session [] (wVar 0) (wCons (wVar 1) wNil)) (fun _ => true) (fun n => .int (sesF rs n)) (pi_any (pu_m0 (i := 0) h rfl (sp_nums h)) rfl) (small h) fun y hy =>
    ⟨pt_yes, fun _ => pu_m1 (i := 0) h rfl (pu_var rfl) (sp_session h (.inr (mem_nums.mp hy)))⟩
  rw [List.filter_eq_self.mpr fun _ _ => rfl] at this
  rw [List.map_map]
  exact this
theorem grp_in (h : KinAt m k rs) (hn : isIn rs n = true) : PuS S_Kin_group [.ref k, .int n] m (.int (grpF rs n)) := by
  obtain ⟨r, hr⟩ := isIn_some hn
  rw [grpF_of hr]; exact sp_group h hr
theorem up_in (h : KinAt m k rs) (hn : isIn rs n = true) : PuS S_Kin_parent [.ref k, .int n] m (.int (upF rs n)) := by
  obtain ⟨r, hr⟩ := isIn_some hn
  rw [upF_of hr]; exact sp_parent h hr
theorem root_in (h : KinAt m k rs) (hn : isIn rs n = true) : PuS S_Kin_is_root [.ref k, .int n] m (.bl (decide (upF rs n = 1))) := by
  obtain ⟨r, hr⟩ := isIn_some hn
  rw [upF_of hr]; exact sp_isroot h hr
theorem end_in (h : KinAt m k rs) (hn : isIn rs n = true) : PuS S_Kin_ended [.ref k, .int n] m (.bl (endF rs n)) := by
  obtain ⟨r, hr⟩ := isIn_some hn
  rw [endF_of hr]; exact sp_ended h hr
theorem sp_groups (h : KinAt m k rs) : PuS S_Kin_groups [.ref k] m (.lst ((grpsF rs).map DV.int)) := by
  refine ps_run rfl (px_ret (pu_sortU ?_ (by rw [List.length_map, nums_len]; exact h.few)) rfl)
  have := pu_lcI (i := 1) (δ := startD 2 [.ref k]) (tt := wYes) (te := wMeth 0 S_Kin_group [] (wVar 0) (wCons (wVar 1) wNil)) (fun _ => true) (fun n => .int (grpF rs n)) (pi_any (pu_m0 (i := 0) h rfl (sp_nums h)) rfl) (small h) fun y hy =>
    ⟨pt_yes, fun _ => pu_m1 (i := 0) h rfl (pu_var rfl) (grp_in h (mem_nums.mp hy))⟩
  rw [List.filter_eq_self.mpr fun _ _ => rfl] at this
  rw [List.map_map]
  exact this
theorem sp_members (h : KinAt m k rs) (S : Int) : PuS S_Kin_members [.ref k, .int S] m (.lst ((memF rs S).map DV.int)) := by
  refine ps_run rfl (px_ret (pu_lcI (i := 2) (fun n => decide (sesF rs n = S)) DV.int (pi_any (pu_m0 (i := 0) h rfl (sp_nums h)) rfl) (small h) fun y hy => ⟨?_, fun _ => pu_var rfl⟩) rfl)
  have := pt_bl (pu_op (δ := (wipeD (startD 3 [.ref k, .int S]) [2]).set 2 (some (.int y))) (pu_m1 (i := 0) h rfl (pu_var (i := 2) rfl) (sp_session h (.inr (mem_nums.mp hy)))) (pu_var (i := 1) rfl) (dEq_int (neg := false)))
  simpa using this
theorem sp_gmembers (h : KinAt m k rs) (S : Int) : PuS S_Kin_group_members [.ref k, .int S] m (.lst ((gmemF rs S).map DV.int)) := by
  refine ps_run rfl (px_ret (pu_lcI (i := 2) (fun n => decide (grpF rs n = S)) DV.int (pi_any (pu_m0 (i := 0) h rfl (sp_nums h)) rfl) (small h) fun y hy => ⟨?_, fun _ => pu_var rfl⟩) rfl)
  have := pt_bl (pu_op (δ := (wipeD (startD 3 [.ref k, .int S]) [2]).set 2 (some (.int y))) (pu_m1 (i := 0) h rfl (pu_var (i := 2) rfl) (grp_in h (mem_nums.mp hy))) (pu_var (i := 1) rfl) (dEq_int (neg := false)))
  simpa using this
theorem sp_is_top (f : Fam rs) (h : KinAt m k rs) (hn : isIn rs n = true) : PuS S_Kin_is_top [.ref k, .int n] m (.bl (topB rs n)) := by
  refine ps_run rfl (px_ret (pu_or (c := !decide (sesF rs (upF rs n) = sesF rs n)) (pu_m1 (i := 0) h rfl (pu_var rfl) (root_in h hn)) fun e => ?_) rfl)
  have := pu_op (δ := startD 2 [.ref k, .int n]) (pu_m1 (i := 0) h rfl (pu_m1 (i := 0) h rfl (pu_var (i := 1) rfl) (up_in h hn)) (sp_session h (f.up hn))) (pu_m1 (i := 0) h rfl (pu_var (i := 1) rfl) (sp_session h (.inr hn))) (dEq_int (neg := true))
  simpa using this
theorem mem_mem {S : Int} (h : n ∈ memF rs S) : isIn rs n = true ∧ sesF rs n = S := by
  unfold memF at h
  rw [List.mem_filter] at h
  exact ⟨mem_nums.mp h.1, of_decide_eq_true h.2⟩
theorem mem_len {S : Int} : (memF rs S).length ≤ rs.length := by
  unfold memF
  exact Nat.le_trans (List.length_filter_le _ _) (Nat.le_of_eq (nums_len rs))
theorem sp_tops (f : Fam rs) (h : KinAt m k rs) (S : Int) : PuS S_Kin_tops [.ref k, .int S] m (.lst ((topsF rs S).map DV.int)) := by
  have hl : (memF rs S).length ≤ sizeLine := Nat.le_trans mem_len (by rw [← nums_len]; exact small h)
  exact ps_run rfl (px_ret (pu_lcI (i := 2) (topB rs) DV.int (pi_any (pu_m1 (i := 0) h rfl (pu_var rfl) (sp_members h S)) rfl) hl fun y hy => ⟨pt_tru (pu_m1 (i := 0) h rfl (pu_var rfl) (sp_is_top f h (mem_mem hy).1)), fun _ => pu_var rfl⟩) rfl)
theorem top_mem {S : Int} (h : n ∈ topsF rs S) : isIn rs n = true ∧ sesF rs n = S ∧ topB rs n = true := by
  unfold topsF at h
  rw [List.mem_filter] at h
  exact ⟨(mem_mem h.1).1, (mem_mem h.1).2, h.2⟩
theorem top_len {S : Int} : (topsF rs S).length ≤ rs.length := by
  unfold topsF
  exact Nat.le_trans (List.length_filter_le _ _) mem_len
theorem adF_one : adF rs 1 = true := by unfold adF; simp
theorem sp_above (f : Fam rs) (h : KinAt m k rs) (hn : isIn rs n = true) : PuS S_Kin_adopter_above [.ref k, .int n] m (.int (aboveF rs n)) := by
  obtain ⟨rk, hrk, hb⟩ := f.rk
  refine ps_run rfl (px_seq (M := fun δ' => δ' = [some (.ref k), some (.int n), some (.int (upF rs n))]) (px_set (pu_m1 (i := 0) h rfl (pu_var rfl) (up_in h hn)) rfl) fun δ' e => ?_)
  subst e
  refine px_seq (M := fun δ' => δ' = [some (.ref k), some (.int n), some (.int (aboveF rs n))]) ?_ fun δ' e => ?_
  · refine px_while (n := 64) (fun j δ' => ∃ u, δ' = [some (.ref k), some (.int n), some (.int u)] ∧ (u = 1 ∨ (isIn rs u = true ∧ rk u < j)) ∧ aboveN rs j u = aboveF rs n) ⟨_, rfl, (f.up hn).imp id fun z => ⟨z, hb _⟩, rfl⟩ ?_
    rintro j δ' ⟨u, rfl, hu, he⟩
    refine ⟨!adF rs u, pt_not (pt_tru (pu_m1 (i := 0) h rfl (pu_var rfl) (sp_adopts h (hu.imp id And.left)))), fun z => ?_, fun z => ?_⟩
    · have ha : adF rs u = false := by simpa using z
      have hu1 : u ≠ 1 := fun e => by rw [e, adF_one] at ha; cases ha
      obtain ⟨h1, h2⟩ := hu.resolve_left hu1
      obtain ⟨r, hr⟩ := isIn_some h1
      refine px_set (pu_m1 (i := 0) h rfl (pu_var rfl) (up_in h h1)) ?_
      cases j with
      | zero => omega
      | succ j =>
        refine ⟨j, Nat.lt_succ_self j, upF rs u, rfl, ?_, ?_⟩
        · rw [upF_of hr]
          exact (hrk u r hr).imp id fun z => ⟨z.1, by omega⟩
        · rw [← he]
          show _ = if adF rs u = true then u else aboveN rs j (upF rs u)
          rw [ha, if_neg Bool.false_ne_true]
    · have ha : adF rs u = true := by simpa using z
      have : aboveN rs j u = u := by
        cases j with
        | zero => rfl
        | succ j => show (if adF rs u = true then u else aboveN rs j (upF rs u)) = u; rw [if_pos ha]
      rw [← he, this]
  · subst e
    exact px_ret (pu_var rfl) rfl
/-- the walk up to a child of p -/
def optD (u : Int) : DV := if u = 1 then .non else .int u
theorem sp_branch (f : Fam rs) (h : KinAt m k rs) (p : Int) (hn : isIn rs n = true) : PuS S_Kin_branch [.ref k, .int p, .int n] m (optD (branchN rs p 64 n)) := by
  obtain ⟨rk, hrk, hb⟩ := f.rk
  refine ps_run rfl (px_seq (M := fun δ' => δ' = [some (.ref k), some (.int p), some (.int n), some (.int n)]) (px_set (pu_var rfl) rfl) fun δ' e => ?_)
  subst e
  refine px_seq (M := fun δ' => δ' = [some (.ref k), some (.int p), some (.int n), some (.int (branchN rs p 64 n))]) ?_ fun δ' e => ?_
  · refine px_while (n := 64) (fun j δ' => ∃ u, δ' = [some (.ref k), some (.int p), some (.int n), some (.int u)] ∧ (u = 1 ∨ (isIn rs u = true ∧ rk u < j)) ∧ branchN rs p j u = branchN rs p 64 n) ⟨_, rfl, .inr ⟨hn, hb _⟩, rfl⟩ ?_
    rintro j δ' ⟨u, rfl, hu, he⟩
    by_cases u1 : u = 1
    · refine ⟨false, pt_and (b := false) (c := true) ?_ (fun z => (by cases z)), fun z => (by cases z), fun _ => ?_⟩
      · have := pt_bl (pu_op (δ := [some (.ref k), some (.int p), some (.int n), some (.int u)]) (pu_var (m := m) (i := 3) rfl) (pu_c (v := .int 1)) (dEq_int (neg := true)))
        simpa [u1] using this
      · have : branchN rs p j u = u := by
          cases j with
          | zero => rfl
          | succ j => show (if u = 1 ∨ upF rs u = p then u else _) = u; rw [if_pos (.inl u1)]
        rw [← he, this]
    · obtain ⟨h1, h2⟩ := hu.resolve_left u1
      obtain ⟨r, hr⟩ := isIn_some h1
      refine ⟨true && !decide (upF rs u = p), pt_and (b := true) ?_ (fun _ => ?_), fun z => ?_, fun z => ?_⟩
      · have := pt_bl (pu_op (δ := [some (.ref k), some (.int p), some (.int n), some (.int u)]) (pu_var (m := m) (i := 3) rfl) (pu_c (v := .int 1)) (dEq_int (neg := true)))
        simpa [u1] using this
      · have := pt_bl (pu_op (δ := [some (.ref k), some (.int p), some (.int n), some (.int u)]) (pu_m1 (i := 0) h rfl (pu_var (i := 3) rfl) (up_in h h1)) (pu_var (i := 1) rfl) (dEq_int (neg := true)))
        simpa using this
      · have hp : ¬ upF rs u = p := by simpa using z
        refine px_set (pu_m1 (i := 0) h rfl (pu_var rfl) (up_in h h1)) ?_
        cases j with
        | zero => omega
        | succ j =>
          refine ⟨j, Nat.lt_succ_self j, upF rs u, rfl, ?_, ?_⟩
          · rw [upF_of hr]
            exact (hrk u r hr).imp id fun z => ⟨z.1, by omega⟩
          · rw [← he]
            show _ = if u = 1 ∨ upF rs u = p then u else branchN rs p j (upF rs u)
            rw [if_neg fun z => z.elim u1 hp]
      · have hp : upF rs u = p := by simpa using z
        have : branchN rs p j u = u := by
          cases j with
          | zero => rfl
          | succ j => show (if u = 1 ∨ upF rs u = p then u else _) = u; rw [if_pos (.inr hp)]
        rw [← he, this]
  · subst e
    refine px_ret (pu_if (pt_bl (pu_op (pu_var rfl) pu_c (dEq_int (neg := false)))) (fun z => ?_) fun z => ?_) rfl
    · have z : branchN rs p 64 n = 1 := by simpa using z
      unfold optD
      rw [if_pos z]; exact pu_c
    · have z : ¬ branchN rs p 64 n = 1 := by simpa using z
      unfold optD
      rw [if_neg z]; exact pu_var rfl
end
end Law
namespace Law
open PySem PySem.Spec PyProof.Rows L2 DL
abbrev iL (ns : List Int) : DV := .lst (ns.map DV.int)
section
variable {m : Sto} {δ : Slots} {w wa wb : DE} {ns ms : List Int} {n i j : Int} {b : Bool}
theorem line_eq : sizeLine = 16777216 := sizeLine_eq
theorem cat_L {xs ys : List DV} (h : xs.length + ys.length ≤ sizeLine) : Pu2 (dAdd false) (.lst xs) (.lst ys) m (.lst (xs ++ ys)) := fun m' Q _ q => ⟨xs, ys, rfl, rfl, h, q _ (.refl _)⟩
theorem cat_I (h : ns.length + ms.length ≤ sizeLine) : Pu2 (dAdd false) (iL ns) (iL ms) m (iL (ns ++ ms)) := by
  unfold iL
  rw [List.map_append]
  exact cat_L (by simpa using h)
theorem rep_one : Pu2 (dMul false) (iL [n]) (.int (if b then 1 else 0)) m (iL (if b then [n] else [])) := fun m' Q _ q => by
  refine ⟨[.int n], rfl, ?_, ?_, ?_, ?_⟩
  · split <;> decide
  · split <;> decide
  · have := line_eq
    split <;> simp <;> omega
  · cases b <;> exact q _ (.refl _)
theorem pu_sortI (h : PuE w δ m (iL ns)) : PuE (wB (dSorted false) (wCons w wNil)) δ m (iL (sortI ns)) := pu_b (pa_cons h pa_nil) fun m' Q _ q => by
  show match ints? (ns.map DV.int) with
    | some ns => newL false ((sortI ns).map DV.int) m' Q
    | none => _
  rw [DL.ints_of]
  exact q _ (.refl _)
theorem pu_lenL {xs : List DV} (h : PuE w δ m (.lst xs)) : PuE (wB dLen (wCons w wNil)) δ m (.int (xs.length : Int)) := pu_b (pa_cons h pa_nil) fun m' Q _ q => q _ (.refl _)
theorem pu_len (h : PuE w δ m (iL ns)) : PuE (wB dLen (wCons w wNil)) δ m (.int (ns.length : Int)) := by
  have := pu_lenL h
  rw [List.length_map] at this
  exact this
theorem ix_L {xs : List DV} {k : Nat} {d : DV} (h : xs[k]? = some d) : Pu2 dIx (.lst xs) (.int (k : Int)) m d := fun m' Q _ q => by
  have e : atI xs (k : Int) = some d := by
    unfold atI ixN
    have hk : k < xs.length := (List.getElem?_eq_some_iff.mp h).1
    rw [if_pos (by omega), if_pos (by omega)]
    exact h
  show match atI xs (k : Int) with
    | some d => Q d m'
    | none => False
  rw [e]
  exact q _ (.refl _)
theorem ix_0 (h : ns ≠ []) : Pu2 dIx (iL ns) (.int 0) m (.int (ns.headD 0)) := by
  cases ns with
  | nil => exact absurd rfl h
  | cons a r => exact ix_L (k := 0) rfl
theorem any_int : ((ns.map DV.int).any fun z => eqF z (.int n)) = ns.contains n := by
  induction ns with
  | nil => rfl
  | cons a r ih =>
    rw [List.map_cons, List.any_cons, ih, List.contains_cons]
    show (a == n || r.contains n) = (n == a || r.contains n)
    rw [Bool.beq_comm]
theorem flat_int : ((ns.map DV.int).all flatD) = true := by
  induction ns with
  | nil => rfl
  | cons a r ih => rw [List.map_cons, List.all_cons, ih]; rfl
theorem in_I {neg : Bool} : Pu2 (dIn neg) (.int n) (iL ns) m (.bl (xor neg (ns.contains n))) := fun m' Q _ q => by
  show (flatD (.int n) && (ns.map DV.int).all flatD) = true ∧ Q (.bl (xor neg ((ns.map DV.int).any fun z => eqF z (.int n)))) m'
  rw [any_int, flat_int]
  exact ⟨rfl, q _ (.refl _)⟩
theorem rel_I {p : Int → Int → Bool} : Pu2 (dRel p) (.int i) (.int j) m (.bl (p i j)) := fun m' Q _ q => q _ (.refl _)
theorem pt_eq {neg : Bool} (ha : PuE wa δ m (.int i)) (hb : PuE wb δ m (.int j)) : PuT (wBl (wOp (dEq neg) wa wb)) δ m (xor neg (decide (i = j))) := pt_bl (pu_op ha hb dEq_int)
theorem pt_e (ha : PuE wa δ m (.int i)) (hb : PuE wb δ m (.int j)) : PuT (wBl (wOp (dEq false) wa wb)) δ m (decide (i = j)) := by simpa using pt_eq (neg := false) ha hb
theorem pt_ne (ha : PuE wa δ m (.int i)) (hb : PuE wb δ m (.int j)) : PuT (wBl (wOp (dEq true) wa wb)) δ m (!decide (i = j)) := by simpa using pt_eq (neg := true) ha hb
theorem pu_e (ha : PuE wa δ m (.int i)) (hb : PuE wb δ m (.int j)) : PuE (wOp (dEq false) wa wb) δ m (.bl (decide (i = j))) := by simpa using pu_op ha hb (dEq_int (neg := false))
theorem pu_ne (ha : PuE wa δ m (.int i)) (hb : PuE wb δ m (.int j)) : PuE (wOp (dEq true) wa wb) δ m (.bl (!decide (i = j))) := by simpa using pu_op ha hb (dEq_int (neg := true))
theorem pt_gt (ha : PuE wa δ m (.int i)) (hb : PuE wb δ m (.int j)) : PuT (wBl (wOp (dRel fun i j => decide (j < i)) wa wb)) δ m (decide (j < i)) := pt_bl (pu_op ha hb rel_I)
theorem pt_notin (ha : PuE wa δ m (.int n)) (hb : PuE wb δ m (iL ns)) : PuT (wBl (wOp (dIn true) wa wb)) δ m (!ns.contains n) := by simpa using pt_bl (pu_op ha hb (in_I (neg := true)))
theorem pu_in (ha : PuE wa δ m (.int n)) (hb : PuE wb δ m (iL ns)) : PuE (wOp (dIn false) wa wb) δ m (.bl (ns.contains n)) := by simpa using pu_op ha hb (in_I (neg := false))
theorem pi_I (h : PuE w δ m (iL ns)) : PuI (iAny w) δ m (ns.map DV.int) := pi_any h rfl
theorem nil_I : PuE (wLst false wNil) δ m (iL []) := pu_lst pa_nil (Nat.zero_le _)
theorem one_I (h : PuE w δ m (.int n)) : PuE (wLst false (wCons w wNil)) δ m (iL [n]) := pu_lst (pa_cons h pa_nil) (by have := line_eq; simp; omega)
/-- a comprehension that takes some of the ints -/
theorem pu_take {wi : DI} {i : Nat} {tt : DT} {N : Nat} (p : Int → Bool) (hi : PuI wi δ m (ns.map DV.int)) (hl : ns.length ≤ N) (hN : N ≤ 100000) (hlt : i < δ.length) (h : ∀ y ∈ ns, PuT tt ((wipeD δ [i]).set i (some (.int y))) m (p y)) : PuE (wLc false wi (gN i) tt (wVar i) [i]) δ m (iL (ns.filter p)) := by
  refine pu_lcI p DV.int hi (by have := line_eq; omega) fun y hy => ⟨h y hy, fun _ => pu_var ?_⟩
  unfold wipeD wipeD
  rw [List.set_set, List.getElem?_set_self hlt]
end
def tornF (rs : List Row) (S : Int) : List Int :=
  if isIn rs S = true then sortI ((if (!decide (sesF rs S = S) || !decide (grpF rs S = S)) = true then [S] else []) ++ (topsF rs S).filter fun t => !decide (t = S) && !decide (upF rs t = aboveF rs S))
  else if S = 1 then (topsF rs S).filter fun t => !decide (upF rs t = 1)
  else (topsF rs S).filter fun t => !decide (upF rs t = upF rs ((topsF rs S).headD 0)) || !adF rs (upF rs ((topsF rs S).headD 0))
section
variable {m : Sto} {k : Addr} {rs : List Row} {n S g : Int} {r : Row} {δ : Slots} {w : DE}
theorem top_few (h : KinAt m k rs) : (topsF rs S).length ≤ 63 := by
  have := top_len (rs := rs) (S := S)
  have := h.few
  omega
theorem sp_torn (f : Fam rs) (h : KinAt m k rs) (ht : isIn rs S = true ∨ S = 1 ∨ topsF rs S ≠ []) : PuS S_torn_in_session [.ref k, .int S] m (iL (tornF rs S)) := by
  refine ps_run rfl (px_seq (M := fun δ' => δ' = [some (.ref k), some (.int S), some (iL (topsF rs S)), none, none, none, none]) (px_set (pu_m1 (i := 0) h rfl (pu_var rfl) (sp_tops f h S)) rfl) fun δ' e => ?_)
  subst e
  refine px_seq (M := fun δ' => isIn rs S = false ∧ δ' = [some (.ref k), some (.int S), some (iL (topsF rs S)), none, none, none, none]) (px_if (pt_tru (pu_m1 (i := 0) h rfl (pu_var rfl) (sp_has h))) (fun hin => ?_) fun hin => px_next ⟨hin, rfl⟩) fun δ' e => ?_
  · refine px_seq (M := fun δ' => δ' = [some (.ref k), some (.int S), some (iL (topsF rs S)), some (iL (if (!decide (sesF rs S = S) || !decide (grpF rs S = S)) = true then [S] else [])), none, none, none]) (px_set ?_ rfl) fun δ' e => ?_
    · refine pu_if (pt_or (pt_ne (pu_m1 (i := 0) h rfl (pu_var rfl) (sp_session h (.inr hin))) (pu_var rfl)) fun _ => pt_ne (pu_m1 (i := 0) h rfl (pu_var rfl) (grp_in h hin)) (pu_var rfl)) (fun z => ?_) fun z => ?_
      · rw [if_pos z]; exact one_I (pu_var rfl)
      · rw [if_neg (by rw [z]; exact Bool.false_ne_true)]; exact nil_I
    · subst e
      refine px_seq (M := fun δ' => δ' = [some (.ref k), some (.int S), some (iL (topsF rs S)), some (iL (if (!decide (sesF rs S = S) || !decide (grpF rs S = S)) = true then [S] else [])), some (.int (aboveF rs S)), none, none]) (px_set (pu_m1 (i := 0) h rfl (pu_var rfl) (sp_above f h hin)) rfl) fun δ' e => ?_
      subst e
      refine px_ret (pu_sortI (pu_op (pu_var rfl) (pu_take (i := 6) (fun t => !decide (t = S) && !decide (upF rs t = aboveF rs S)) (pi_I (pu_var rfl)) (top_few h) (by decide) (Nat.lt_succ_self 6) fun y hy => ?_) (cat_I ?_))) ?_
      · exact pt_and (pt_ne (pu_var rfl) (pu_var rfl)) fun _ => pt_ne (pu_m1 (i := 0) h rfl (pu_var rfl) (up_in h (top_mem hy).1)) (pu_var rfl)
      · have h1 := top_few (S := S) h
        have h2 := List.length_filter_le (fun t => !decide (t = S) && !decide (upF rs t = aboveF rs S)) (topsF rs S)
        have := line_eq
        split <;> simp <;> omega
      · unfold tornF
        rw [if_pos hin]
  · obtain ⟨hin, rfl⟩ := e
    have hin' : ¬ isIn rs S = true := by rw [hin]; exact Bool.false_ne_true
    refine px_seq (M := fun δ' => ¬ S = 1 ∧ δ' = [some (.ref k), some (.int S), some (iL (topsF rs S)), none, none, none, none]) (px_if (pt_e (pu_var rfl) pu_c) (fun h1 => ?_) fun h1 => px_next ⟨of_decide_eq_false h1, rfl⟩) fun δ' e => ?_
    · have h1 := of_decide_eq_true h1
      refine px_ret (pu_take (i := 6) (fun t => !decide (upF rs t = 1)) (pi_I (pu_var rfl)) (top_few h) (by decide) (Nat.lt_succ_self 6) fun y hy => pt_not (pt_tru (pu_m1 (i := 0) h rfl (pu_var rfl) (root_in h (top_mem hy).1)))) ?_
      unfold tornF
      rw [if_neg hin', if_pos h1]
    · obtain ⟨h1, rfl⟩ := e
      have hne := (ht.resolve_left hin').resolve_left h1
      have hm : (topsF rs S).headD 0 ∈ topsF rs S := by
        cases e : topsF rs S with
        | nil => exact absurd e hne
        | cons a r => exact List.mem_cons_self
      refine px_seq (M := fun δ' => δ' = [some (.ref k), some (.int S), some (iL (topsF rs S)), none, none, some (.int (upF rs ((topsF rs S).headD 0))), none]) (px_set (pu_m1 (i := 0) h rfl (pu_op (pu_var rfl) pu_c (ix_0 hne)) (up_in h (top_mem hm).1)) rfl) fun δ' e => ?_
      subst e
      refine px_ret (pu_take (i := 6) (fun t => !decide (upF rs t = upF rs ((topsF rs S).headD 0)) || !adF rs (upF rs ((topsF rs S).headD 0))) (pi_I (pu_var rfl)) (top_few h) (by decide) (Nat.lt_succ_self 6) fun y hy => pt_or (pt_ne (pu_m1 (i := 0) h rfl (pu_var rfl) (up_in h (top_mem hy).1)) (pu_var rfl)) fun _ => pt_not (pt_tru (pu_m1 (i := 0) h rfl (pu_var rfl) (sp_adopts h (f.up (top_mem hm).1))))) ?_
      unfold tornF
      rw [if_neg hin', if_neg h1]
def gsesF (rs : List Row) (g : Int) : List Int := sortU ((gmemF rs g).map (sesF rs))
def splitF (rs : List Row) (g : Int) : Bool :=
  if (decide (1 < ((gsesF rs g).length : Int)) || (isIn rs g && !decide (sesF rs g = (gsesF rs g).headD 0))) = true then true
  else !decide (g = (gsesF rs g).headD 0) && (decide (g = 1) || (sessF rs).contains g)
theorem gmem_mem (h : n ∈ gmemF rs g) : isIn rs n = true ∧ grpF rs n = g := by
  unfold gmemF at h
  rw [List.mem_filter] at h
  exact ⟨mem_nums.mp h.1, of_decide_eq_true h.2⟩
theorem gmem_len : (gmemF rs g).length ≤ rs.length := by
  unfold gmemF
  exact Nat.le_trans (List.length_filter_le _ _) (Nat.le_of_eq (nums_len rs))
theorem gses_ne (hg : gmemF rs g ≠ []) : gsesF rs g ≠ [] := by
  obtain ⟨a, r, e⟩ := List.exists_cons_of_ne_nil hg
  intro z
  have : sesF rs a ∈ gsesF rs g := by
    unfold gsesF
    rw [sortU_mem, e]
    exact List.mem_map.mpr ⟨a, List.mem_cons_self, rfl⟩
  rw [z] at this
  cases this
theorem sp_split (f : Fam rs) (h : KinAt m k rs) (hg : gmemF rs g ≠ []) : PuS S_is_torn_group [.ref k, .int g] m (.bl (splitF rs g)) := by
  have hf := h.few
  have hl := gmem_len (rs := rs) (g := g)
  have hne := gses_ne hg
  refine ps_run rfl (px_seq (M := fun δ' => δ' = [some (.ref k), some (.int g), some (iL (gsesF rs g)), none]) (px_set ?_ rfl) fun δ' e => ?_)
  · refine pu_sortU ?_ (by rw [List.length_map]; omega)
    have := pu_lcI (i := 3) (δ := startD 4 [.ref k, .int g]) (tt := wYes) (te := wMeth 0 S_Kin_session [] (wVar 0) (wCons (wVar 3) wNil)) (fun _ => true) (fun n => .int (sesF rs n)) (pi_I (pu_m1 (i := 0) h rfl (pu_var (i := 1) rfl) (sp_gmembers h g))) (by have := line_eq; omega) fun y hy =>
      ⟨pt_yes, fun _ => pu_m1 (i := 0) h rfl (pu_var rfl) (sp_session h (.inr (gmem_mem hy).1))⟩
    rw [List.filter_eq_self.mpr fun _ _ => rfl] at this
    rw [List.map_map]
    exact this
  · subst e
    refine px_seq (M := fun δ' => (decide (1 < ((gsesF rs g).length : Int)) || (isIn rs g && !decide (sesF rs g = (gsesF rs g).headD 0))) = false ∧ δ' = [some (.ref k), some (.int g), some (iL (gsesF rs g)), none])
      (px_if (pt_or (pt_gt (pu_len (pu_var rfl)) pu_c) fun _ => pt_and (pt_tru (pu_m1 (i := 0) h rfl (pu_var rfl) (sp_has h))) fun hin => pt_ne (pu_m1 (i := 0) h rfl (pu_var rfl) (sp_session h (.inr hin))) (pu_op (pu_var rfl) pu_c (ix_0 hne))) (fun z => ?_) fun z => px_next ⟨z, rfl⟩) fun δ' e => ?_
    · refine px_ret pu_c ?_
      unfold splitF
      rw [if_pos z]
    · obtain ⟨z, rfl⟩ := e
      refine px_ret (pu_and (pu_ne (pu_var rfl) (pu_op (pu_var rfl) pu_c (ix_0 hne))) fun _ => pu_or (pu_e (pu_var rfl) pu_c) fun _ => pu_in (pu_var rfl) (pu_m0 (i := 0) h rfl (sp_sessions h))) ?_
      unfold splitF
      rw [if_neg (by rw [z]; exact Bool.false_ne_true)]
def needF (rs : List Row) (n : Int) : DV :=
  if (!isIn rs (sesF rs n) || (decide (n = sesF rs n) || !topB rs n)) = true then .non else optD (branchN rs (upF rs n) 64 (sesF rs n))
theorem sp_needed (f : Fam rs) (h : KinAt m k rs) (hn : isIn rs n = true) : PuS S_needed [.ref k, .int n] m (needF rs n) := by
  refine ps_run rfl (px_seq (M := fun δ' => δ' = [some (.ref k), some (.int n), some (.int (sesF rs n))]) (px_set (pu_m1 (i := 0) h rfl (pu_var rfl) (sp_session h (.inr hn))) rfl) fun δ' e => ?_)
  subst e
  refine px_seq (M := fun δ' => (!isIn rs (sesF rs n) || (decide (n = sesF rs n) || !topB rs n)) = false ∧ δ' = [some (.ref k), some (.int n), some (.int (sesF rs n))])
    (px_if (pt_or (pt_not (pt_tru (pu_m1 (i := 0) h rfl (pu_var rfl) (sp_has h)))) fun _ => pt_or (pt_e (pu_var rfl) (pu_var rfl)) fun _ => pt_not (pt_tru (pu_m1 (i := 0) h rfl (pu_var rfl) (sp_is_top f h hn)))) (fun z => ?_) fun z => px_next ⟨z, rfl⟩) fun δ' e => ?_
  · refine px_ret pu_c ?_
    unfold needF
    rw [if_pos z]
  · obtain ⟨z, rfl⟩ := e
    have hs : isIn rs (sesF rs n) = true := by
      cases e : isIn rs (sesF rs n) with
      | true => rfl
      | false => rw [e] at z; cases z
    refine px_ret (pu_m2 (i := 0) h rfl (pu_m1 (i := 0) h rfl (pu_var rfl) (up_in h hn)) (pu_var rfl) (sp_branch f h _ hs)) ?_
    unfold needF
    rw [if_neg (by rw [z]; exact Bool.false_ne_true)]
end
end Law
namespace Law
open PySem PySem.Spec PyProof.Rows L2 DL
def chainN (rs : List Row) : Nat → List Int → DV → List Int × DV
  | 0, row, l => (row, l)
  | j + 1, row, l => match l with
    | .int u => if row.contains u = true then (row, l) else chainN rs j (row ++ [u]) (needF rs u)
    | _ => (row, l)
def endsAt (l : DV) (n : Int) : Bool := match l with
  | .int u => decide (u = n)
  | _ => false
def ringOf (rs : List Row) (n : Int) : Option (List Int) :=
  if (endsAt (chainN rs 63 [n] (needF rs n)).2 n && decide (n = minL (chainN rs 63 [n] (needF rs n)).1)) = true then some (chainN rs 63 [n] (needF rs n)).1 else none
def ringsF (rs : List Row) : List (List Int) := (nums rs).filterMap (ringOf rs)
section
variable {m : Sto} {k : Addr} {rs : List Row} {n S g p : Int} {r : Row} {δ : Slots} {w : DE}
theorem branch_in (f : Fam rs) : ∀ (j : Nat) {u : Int}, (u = 1 ∨ isIn rs u = true) → branchN rs p j u = 1 ∨ isIn rs (branchN rs p j u) = true
  | 0, u, h => h
  | j + 1, u, h => by
    show (if u = 1 ∨ upF rs u = p then u else branchN rs p j (upF rs u)) = 1 ∨ isIn rs (if u = 1 ∨ upF rs u = p then u else branchN rs p j (upF rs u)) = true
    by_cases c : u = 1 ∨ upF rs u = p
    · rw [if_pos c]; exact h
    · rw [if_neg c]
      exact branch_in f j (f.up (h.resolve_left fun z => c (.inl z)))
/-- none, or a number of the family -/
def Nxt (rs : List Row) (l : DV) : Prop := l = .non ∨ ∃ u, l = .int u ∧ isIn rs u = true
theorem need_nxt (f : Fam rs) (n : Int) : Nxt rs (needF rs n) := by
  unfold needF
  split
  · exact .inl rfl
  · rename_i z
    have hs : isIn rs (sesF rs n) = true := by
      cases e : isIn rs (sesF rs n) with
      | true => rfl
      | false => rw [e] at z; exact absurd rfl z
    unfold optD
    split
    · exact .inl rfl
    · rename_i z2
      exact .inr ⟨_, rfl, (branch_in f 64 (.inr hs)).resolve_left z2⟩
theorem nodup_le : ∀ {as bs : List Int}, as.Nodup → (∀ a ∈ as, a ∈ bs) → as.length ≤ bs.length
  | [], bs, _, _ => Nat.zero_le _
  | a :: as, bs, hn, hs => by
    rw [List.nodup_cons] at hn
    have h1 := hs a List.mem_cons_self
    have h2 := nodup_le (bs := bs.erase a) hn.2 fun b hb => by
      have h3 := hs b (List.mem_cons_of_mem _ hb)
      have h4 : b ≠ a := fun z => hn.1 (z ▸ hb)
      exact (List.mem_erase_of_ne h4).mpr h3
    have h5 := List.length_erase_of_mem h1
    have h6 : 0 < bs.length := List.length_pos_of_mem h1
    rw [List.length_cons]
    omega
theorem nodup_few (f : Fam rs) {row : List Int} (hn : row.Nodup) (hi : ∀ u ∈ row, isIn rs u = true) : row.length ≤ 63 := by
  have h1 : ∀ u ∈ row, u ∈ nums rs := fun u hu => mem_nums.mpr (hi u hu)
  have h2 := nodup_le hn h1
  rw [nums_len] at h2
  have := f.few
  omega
/-- a list of ints in the store -/
theorem st_asL {m : Sto} {q : Addr} {xs : List DV} (h : m q = some (.lst xs)) : asL m (.ref q) = some xs := by unfold asL; simp only [h]
theorem st_asQ {m : Sto} {q : Addr} {xs : List DV} (h : m q = some (.lst xs)) : asQ m (.ref q) = some xs := st_asL h
theorem st_ty {m : Sto} {q : Addr} {xs : List DV} (h : m q = some (.lst xs)) : ofTy m .lst (.ref q) := ⟨by unfold tyD; simp only [h], by simp only [h]⟩
theorem st_app {m : Sto} {q : Addr} {xs : List DV} {d : DV} {Q : DK} (h : m q = some (.lst xs)) (hl : xs.length < sizeLine) (hq : Q .non (put m q (.lst (xs ++ [d])))) : mAppend (.ref q) [d] m Q := by
  show ownL m (.ref q) fun p xs => xs.length < sizeLine ∧ Q .non (put m p (.lst (xs ++ [d])))
  unfold ownL
  simp only [h]
  exact ⟨hl, hq⟩
theorem st_in {m : Sto} {q : Addr} {row : List Int} {u : Int} {Q : DK} {neg : Bool} (h : m q = some (.lst (row.map DV.int))) (hq : Q (.bl (xor neg (row.contains u))) m) : dIn neg (.int u) (.ref q) m Q := by
  have e : dictAt m (.ref q) (.int u) = none := by unfold dictAt; simp only [h]
  unfold dIn
  rw [e]
  dsimp only
  rw [st_asQ h]
  dsimp only
  rw [any_int, flat_int]
  exact ⟨rfl, hq⟩
theorem st_min {m : Sto} {q : Addr} {row : List Int} {Q : DK} (h : m q = some (.lst (row.map DV.int))) (hl : 0 < row.length) (hq : Q (.int (minL row)) m) : dMin [.ref q] m Q := by
  show match asL m (.ref q) with
    | some xs => match ints? xs with
      | some ns => 0 < ns.length ∧ Q (.int (minL ns)) m
      | none => False
    | none => False
  rw [st_asL h]
  dsimp only
  rw [DL.ints_of]
  exact ⟨hl, hq⟩
theorem st_isN {u : Int} {m : Sto} {neg : Bool} {Q : DK} (h : Q (.bl neg) m) : dIsN neg (.int u) .non m Q := h
theorem sp_rings (f : Fam rs) (h : KinAt m k rs) : PuS S_rings [.ref k] m (.lst ((ringsF rs).map iL)) := fun m' Q sb hq => by
  refine ⟨rfl, ?_⟩
  have big := line_eq
  show w_rings { nx := fun _ m' => Q .non m', rt := Q } (startD 5 [.ref k]) m'
  unfold w_rings
  refine go_seq (go_set (go_lst (go_nil ⟨Nat.zero_le _, go_new fun p hp => ?_⟩)))
  have sb1 : Sub m (put m' p (.lst [])) := sb.trans (Sub.put hp)
  refine go_seq (fr_for (m := m) (pi_I (pu_m0 (i := 0) h rfl (sp_nums h))) sb1 (fun i δ m1 => ∃ a b c, δ = [some (.ref k), some (.ref p), a, b, c] ∧ Sub m' m1 ∧ m1 p = some (.lst ((((nums rs).take i).filterMap (ringOf rs)).map iL)))
    (fun m1 s1 => ⟨none, none, none, rfl, (Sub.put hp).trans s1, s1 _ _ put_same⟩) (fun i δ m1 ⟨_, _, _, _, s, _⟩ => sb.trans s) ?_ ?_)
  · rintro i y δ m1 hy ⟨a, b, c, rfl, s1, e1⟩
    rw [List.getElem?_map] at hy
    cases hn : (nums rs)[i]? with
    | none => rw [hn] at hy; cases hy
    | some n =>
      rw [hn] at hy
      cases hy
      have hin : isIn rs n = true := mem_nums.mp (List.mem_of_getElem? hn)
      refine ⟨_, fun m Q q => q, fun D' hnx hrt hbk hct => ?_⟩
      -- row, later = [number], needed(kin, number)
      refine go_seq (go_par (go_cons (go_lst (go_cons (go_var rfl (go_nil ⟨by simp; omega, go_new fun q hq1 => ?_⟩))))))
      have nepq : p ≠ q := fun z => by rw [z, hq1] at e1; cases e1
      have sb2 : Sub m (put m1 q (.lst [.int n])) := (sb.trans s1).trans (Sub.put hq1)
      refine go_cons (pu_call (dds := []) (pa_cons (pu_var (i := 0) rfl) (pa_cons (pu_var (i := 2) rfl) pa_nil)) (sp_needed f h hin) _ _ sb2 fun m2 s2 => go_nil ?_)
      show wSeq _ _ D' [some (.ref k), some (.ref p), some (.int n), some (.ref q), some (needF rs n)] m2
      -- the loop
      refine go_seq (go_while (n := 63) (fun j δ m3 => ∃ row l, δ = [some (.ref k), some (.ref p), some (.int n), some (.ref q), some l] ∧ Sub m1 m3 ∧ m3 q = some (.lst (row.map DV.int)) ∧ row.Nodup ∧ (∀ u ∈ row, isIn rs u = true) ∧ Nxt rs l ∧ j + row.length = 64 ∧ 0 < row.length ∧ chainN rs j row l = chainN rs 63 [n] (needF rs n))
        ⟨[n], needF rs n, rfl, (Sub.put hq1).trans s2, s2 _ _ put_same, List.nodup_cons.mpr ⟨List.not_mem_nil, .nil⟩, fun u hu => by rw [List.mem_singleton.mp hu]; exact hin, need_nxt f n, rfl, Nat.zero_lt_one, rfl⟩ ?_)
      rintro j δ m3 ⟨row, l, rfl, s3, e3, nd, ri, nx, hj, hpos, hch⟩
      have few := nodup_few f nd ri
      have stop : chainN rs j row l = (row, l) → (wIfS (wAndT (wBl (wOp (dEq false) (wVar 4) (wVar 2))) (wBl (wOp (dEq false) (wVar 2) (wB dMin (wCons (wVar 3) wNil))))) (wDrop (wM .lst mAppend (wVar 1) (wCons (wVarZ 3) wNil))) wNext) D' [some (.ref k), some (.ref p), some (.int n), some (.ref q), some l] m3 := fun hs => by
        rw [hs] at hch
        have r1 : (chainN rs 63 [n] (needF rs n)).1 = row := by rw [← hch]
        have r2 : (chainN rs 63 [n] (needF rs n)).2 = l := by rw [← hch]
        have tk : (nums rs).take (i + 1) = (nums rs).take i ++ [n] := by rw [List.take_add_one, hn]; rfl
        have no : ringOf rs n = none → D'.nx [some (.ref k), some (.ref p), some (.int n), some (.ref q), some l] m3 := fun z => hnx _ _ ⟨_, _, _, rfl, s1.trans s3, by rw [tk, List.filterMap_append, List.filterMap_cons_none z, List.filterMap_nil, List.append_nil]; exact s3 _ _ e1⟩
        -- later == number and number == min(row)
        have t1 : PuT (wBl (wOp (dEq false) (wVar 4) (wVar 2))) [some (.ref k), some (.ref p), some (.int n), some (.ref q), some l] m3 (endsAt l n) := by
          refine pt_bl (pu_op (pu_var rfl) (pu_var rfl) fun m' Q _ q => ?_)
          rcases nx with rfl | ⟨u, rfl, _⟩
          · exact q _ (.refl _)
          · show Q (.bl (xor false (decide (u = n)))) m'
            rw [Bool.false_xor]; exact q _ (.refl _)
        have t2 : PuT (wBl (wOp (dEq false) (wVar 2) (wB dMin (wCons (wVar 3) wNil)))) [some (.ref k), some (.ref p), some (.int n), some (.ref q), some l] m3 (decide (n = minL row)) :=
          pt_e (pu_var rfl) (pu_b (pa_cons (pu_var rfl) pa_nil) fun m' Q s q => st_min (s _ _ e3) hpos (q _ (.refl _)))
        refine go_if (pt_and t1 (fun _ => t2) m3 _ (.refl _) fun m4 s4 => ?_)
        cases hb : endsAt l n && decide (n = minL row) with
        | false =>
          rw [if_neg Bool.false_ne_true]
          have z : ringOf rs n = none := by unfold ringOf; rw [r1, r2, hb, if_neg Bool.false_ne_true]
          exact go_next (hnx _ _ ⟨_, _, _, rfl, (s1.trans s3).trans s4, by rw [tk, List.filterMap_append, List.filterMap_cons_none z, List.filterMap_nil, List.append_nil]; exact s4 _ _ (s3 _ _ e1)⟩)
        | true =>
          rw [if_pos rfl]
          have z : ringOf rs n = some row := by unfold ringOf; rw [r1, r2, hb, if_pos rfl]
          have e1' := s4 _ _ (s3 _ _ e1)
          have e3' := s4 _ _ e3
          refine go_drop (go_m (go_var rfl ⟨st_ty e1', go_cons (go_varZ rfl e3' (go_nil (st_app (by rw [rmv_ne nepq]; exact e1') ?_ ?_)))⟩))
          · have h1 : ((((nums rs).take i).filterMap (ringOf rs)).map iL).length ≤ (nums rs).length := by
              rw [List.length_map]
              exact Nat.le_trans (List.length_filterMap_le _ _) (by rw [List.length_take]; exact Nat.min_le_right _ _)
            have := f.few
            rw [nums_len] at h1
            omega
          · refine hnx _ _ ⟨_, _, _, rfl, ?_, ?_⟩
            · have hq0 : m' q = none := by
                cases e : m' q with
                | none => rfl
                | some o => rw [s1 _ _ e] at hq1; cases hq1
              exact Sub.put2 hp (Sub.rmv hq0 ((s1.trans s3).trans s4))
            · rw [put_same, tk, List.filterMap_append, List.filterMap_cons_some z, List.filterMap_nil, List.map_append]
              rfl
      -- the test of the loop
      rcases nx with rfl | ⟨u, rfl, hu⟩
      · refine go_and (go_bl (go_op (go_var rfl (go_c ?_))))
        exact stop (by cases j <;> rfl)
      · refine go_and (go_bl (go_op (go_var rfl (go_c (st_isN (Eq.mpr (if_pos rfl) ?_))))))
        refine go_bl (go_op (go_var rfl (go_var rfl (st_in e3 ?_))))
        rw [Bool.true_xor]
        cases hc : row.contains u with
        | true =>
          refine stop ?_
          cases j with
          | zero => rfl
          | succ j => show (if row.contains u = true then _ else _) = _; rw [if_pos hc]
        | false =>
          refine go_seq (go_drop (go_m (go_var rfl ⟨st_ty e3, go_cons (go_var rfl (go_nil (st_app e3 (by rw [List.length_map]; omega) ?_)))⟩)))
          have hnu : u ∉ row := fun z => by
            have := List.contains_iff_mem.mpr z
            rw [hc] at this; cases this
          have s5 : Sub m1 (put m3 q (.lst (row.map DV.int ++ [.int u]))) := Sub.put2 hq1 s3
          dsimp only
          refine go_set (δ := [some (.ref k), some (.ref p), some (.int n), some (.ref q), some (.int u)]) ?_
          refine pu_call (dds := []) (pa_cons (pu_var (i := 0) rfl) (pa_cons (pu_var (i := 4) rfl) pa_nil)) (sp_needed f h hu) _ _ ((sb.trans s1).trans s5) fun m6 s6 => ?_
          cases j with
          | zero => omega
          | succ j =>
            refine ⟨j, Nat.lt_succ_self j, row ++ [u], needF rs u, rfl, s5.trans s6, by rw [s6 _ _ put_same, List.map_append]; rfl, ?_, ?_, need_nxt f u, by rw [List.length_append, List.length_singleton]; omega, by rw [List.length_append]; omega, ?_⟩
            · rw [List.nodup_append]
              refine ⟨nd, List.nodup_cons.mpr ⟨List.not_mem_nil, .nil⟩, fun a ha b hb => ?_⟩
              rw [List.mem_singleton.mp hb]
              exact fun z => hnu (z ▸ ha)
            · intro z hz
              rcases List.mem_append.mp hz with hz | hz
              · exact ri z hz
              · rw [List.mem_singleton.mp hz]; exact hu
            · rw [← hch]
              show _ = if row.contains u = true then _ else _
              rw [hc, if_neg Bool.false_ne_true]
  · rintro δ m1 ⟨a, b, c, rfl, s1, e1⟩
    rw [List.length_map, List.take_length, show List.filterMap (ringOf rs) (nums rs) = ringsF rs from rfl] at e1
    exact go_ret (D := { nx := fun _ m' => Q .non m', rt := Q }) (go_varZ (δ := [some (.ref k), some (.ref p), a, b, c]) (i := 1) rfl e1 (hq _ (Sub.rmv hp s1)))
end
end Law
namespace Law
open PySem PySem.Spec PyProof.Rows L2 DL
def ImgIs (img : DV) (rs : List Row) : Prop := ∃ x0 rest rows, asQ m0 img = some (x0 :: rest) ∧ asQ m0 x0 = some rows ∧ Paired RowIs rows rs
theorem putD_new {acc : List (Key × DV)} {key : Key} {d : DV} (h : key ∉ acc.map (·.1)) : putD acc key d = acc ++ [(key, d)] := by
  induction acc with
  | nil => rfl
  | cons q r ih =>
    obtain ⟨i, e⟩ := q
    rw [List.map_cons, List.mem_cons, not_or] at h
    have z : ¬ i = key := fun w => h.1 w.symm
    simp only [putD, if_neg z, ih h.2]
    rfl
theorem paired_append {α β : Type} {R : α → β → Prop} : ∀ {as cs : List α} {bs ds : List β}, Paired R as bs → Paired R cs ds → Paired R (as ++ cs) (bs ++ ds)
  | _, _, _, _, .nil, h => h
  | _, _, _, _, .cons a t, h => .cons a (paired_append t h)
section
variable {m mb : Sto} {k : Addr} {rs : List Row} {n S g p : Int} {r : Row} {δ : Slots} {w : DE}
theorem ix_q0 {x : DV} {xs : List DV} {i : Nat} {d : DV} (h : asQ m0 x = some xs) (hi : xs[i]? = some d) : Pu2 dIx x (.int (i : Int)) m d := fun m' Q _ q => by
  have hn : dictAt m' x (.int (i : Int)) = none := by
    cases x with
    | ref a => simp [asQ, asL] at h
    | _ => rfl
  unfold dIx
  rw [hn, asQ_sub h (sub0 m')]
  dsimp only
  have hlt : i < xs.length := (List.getElem?_eq_some_iff.mp hi).1
  have hat : atI xs (i : Int) = some d := by
    unfold atI ixN
    rw [if_pos (by omega), if_pos (by omega)]
    exact hi
  rw [hat]
  exact q _ (.refl _)
theorem dc_rows {it : DIt} {δv : Slots} {D : Addr} {fin : Sto → Prop} (hD : mb D = none) (hlk : it.lk = none) (hst : ∀ m2, Sub mb m2 → it.st m2) (hlen : 2 < δv.length) :
    ∀ (ys : List DV) (rs : List Row) (acc : List (Key × DV)) (m1 : Sto), Paired RowIs ys rs → (rs.map (·.n)).Pairwise (· < ·) → (∀ key ∈ acc.map (·.1), ∀ r ∈ rs, key ≠ Sum.inl r.n) → acc.length + ys.length ≤ 1000 → Sub mb m1 → m1 D = some (.dct acc) →
      (∀ kvs m2, KvRow kvs rs → m2 D = some (.dct (acc ++ kvs)) → Sub mb m2 → fin m2) →
      dcGo it (gN 2) wYes (wOp dIx (wVar 2) (wC (.int 0))) (wVar 2) δv D fin ys acc m1
  | [], _, acc, m1, .nil, _, _, _, sb, e, hf => by
    refine ⟨hst _ sb, e, ?_⟩
    unfold DIt.fin
    rw [hlk]
    exact hf [] m1 .nil (by rw [List.append_nil]; exact e) sb
  | y :: ys, r :: rs, acc, m1, .cons h t, hs, hk, hl, sb, e, hf => by
    rw [List.map_cons, List.pairwise_cons] at hs
    rw [List.length_cons] at hl
    have big := line_eq
    refine ⟨hst _ sb, ?_⟩
    show wOp dIx (wVar 2) (wC (.int 0)) (δv.set 2 (some y)) m1 _
    have hv : (δv.set 2 (some y))[2]? = some (some y) := List.getElem?_set_self hlen
    refine pu_op (m := m1) (pu_var hv) pu_c (atI_row (i := 0) h rfl) m1 _ (.refl _) fun m2 s2 => go_var hv ?_
    have hnew : (Sum.inl r.n : Key) ∉ acc.map (·.1) := fun z => hk _ z r List.mem_cons_self rfl
    refine ⟨s2 _ _ e, by omega, ?_⟩
    rw [putD_new hnew]
    refine dc_rows hD hlk hst hlen ys rs _ _ t hs.2 (fun key hkey r' hr' => ?_) (by rw [List.length_append, List.length_singleton]; omega) (Sub.put2 hD (sb.trans s2)) put_same fun kvs m3 hkv e3 h3 => ?_
    · rw [List.map_append, List.mem_append] at hkey
      rcases hkey with hkey | hkey
      · exact hk _ hkey _ (List.mem_cons_of_mem _ hr')
      · rw [List.map_singleton, List.mem_singleton] at hkey
        rw [hkey]
        have := hs.1 r'.n (List.mem_map.mpr ⟨r', hr', rfl⟩)
        exact fun z => by have := Sum.inl.inj z; omega
    · refine hf ((Sum.inl r.n, y) :: kvs) m3 (.cons ⟨rfl, h⟩ hkv) ?_ h3
      rw [e3, List.append_assoc]
      rfl
theorem go_setF {c i : Nat} {wo : DE} {D : DEnds} (h : w δ m fun d m1 => wo δ m1 fun o m2 => setF c i o d m2 fun m3 => D.nx δ m3) : wSetF c i wo w D δ m := h
theorem go_dc {wi : DI} {g : DG} {tt : DT} {tk tv : DE} {vs : List Nat} {Q : DK} (h : wi δ m fun it m1 => ∀ D, m1 D = none → dcGo it g tt tk tv (wipeD δ vs) D (fun m' => Q (.ref D) m') it.items [] (put m1 D (.dct []))) : wDc wi g tt tk tv vs δ m Q := h
theorem sp_init {img : DV} {x : Addr} (hi : ImgIs img rs) (hf : rs.length < 64) (hs : (rs.map (·.n)).Pairwise (· < ·)) (hx : mb x = none) {m' : Sto} (sb : Sub mb m') (e : m' x = some (.ins 0 [])) {Q : DK} (q : ∀ m2, Sub mb m2 → KinAt m2 x rs → Q .non m2) : S_Kin_init0 [.ref x, img] m' Q := by
  obtain ⟨x0, rest, rows, h1, h2, h3⟩ := hi
  refine ⟨rfl, ?_⟩
  have hl := Paired.length h3
  show w_Kin_init0 { nx := fun _ m' => Q .non m', rt := Q } [some (.ref x), some img, none] m'
  unfold w_Kin_init0
  refine go_setF (go_dc ?_)
  refine pi_any (m := m') (pu_op (pu_var (i := 1) rfl) pu_c (ix_q0 (i := 0) h1 rfl)) (asQ_sub h2 (sub0 m')) m' _ (.refl _) fun it m1 s1 hit hlk hst D hD => ?_
  rw [hit]
  have hD' : m' D = none := by
    cases z : m' D with
    | none => rfl
    | some o => rw [s1 _ _ z] at hD; cases hD
  have nxD : x ≠ D := fun z => by rw [z, hD'] at e; cases e
  refine dc_rows (mb := m') (δv := [some (.ref x), some img, none]) hD' hlk hst (Nat.lt_succ_self 2) rows rs [] _ h3 hs (fun key hk => by cases hk) (by rw [hl]; simp; omega) (Sub.put2 hD' s1) put_same fun kvs m2 hkv e2 s2 => ?_
  · rw [List.nil_append] at e2
    refine go_var rfl ?_
    unfold setF
    simp only [s2 _ _ e]
    refine ⟨trivial, by decide, ?_⟩
    have s3 : Sub mb (put m2 x (.ins 0 (putN 0 (.ref D) []))) := Sub.put2 hx (sb.trans s2)
    exact q _ s3 ⟨⟨D, kvs, put_same, by rw [put_ne fun z => nxD z.symm]; exact e2, hkv⟩, hf, hs⟩
end
end Law
namespace Law
open PySem PySem.Spec PyProof.Rows L2 DL
section
variable {m : Sto} {k : Addr} {rs : List Row} {n S g p : Int} {δ : Slots} {w : DE} {img : DV}
/-- a session has a top -/
theorem least_rk (rk : Int → Nat) : ∀ (ns : List Int), ns ≠ [] → ∃ a ∈ ns, ∀ b ∈ ns, rk a ≤ rk b
  | [a], _ => ⟨a, List.mem_cons_self, fun b hb => by rw [List.mem_singleton.mp hb]; exact Nat.le_refl _⟩
  | a :: c :: r, _ => by
    obtain ⟨x, hx, hle⟩ := least_rk rk (c :: r) (by simp)
    by_cases h : rk a ≤ rk x
    · refine ⟨a, List.mem_cons_self, fun b hb => ?_⟩
      rcases List.mem_cons.mp hb with rfl | hb
      · exact Nat.le_refl _
      · exact Nat.le_trans h (hle b hb)
    · refine ⟨x, List.mem_cons_of_mem _ hx, fun b hb => ?_⟩
      rcases List.mem_cons.mp hb with rfl | hb
      · omega
      · exact hle b hb
theorem tops_ne (f : Fam rs) (h : S ∈ sessF rs) : topsF rs S ≠ [] := by
  obtain ⟨rk, hrk, _⟩ := f.rk
  unfold sessF at h
  rw [sortU_mem, List.mem_map] at h
  obtain ⟨a, ha, e⟩ := h
  have hm : memF rs S ≠ [] := by
    intro z
    have : a ∈ memF rs S := by
      unfold memF
      rw [List.mem_filter]
      exact ⟨ha, decide_eq_true e⟩
    rw [z] at this; cases this
  obtain ⟨b, hb, hle⟩ := least_rk rk _ hm
  obtain ⟨hb1, hb2⟩ := mem_mem hb
  obtain ⟨r, hr⟩ := isIn_some hb1
  intro z
  have : b ∈ topsF rs S := by
    unfold topsF
    rw [List.mem_filter]
    refine ⟨hb, ?_⟩
    unfold topB
    rw [upF_of hr]
    rcases hrk b r hr with h1 | ⟨h1, h2⟩
    · simp [h1]
    · by_cases hs : sesF rs r.up = sesF rs b
      · have : r.up ∈ memF rs S := by
          unfold memF
          rw [List.mem_filter]
          exact ⟨mem_nums.mpr h1, decide_eq_true (hs.trans hb2)⟩
        have := hle _ this
        omega
      · simp [hs]
  rw [z] at this; cases this
theorem gmem_ne (h : g ∈ grpsF rs) : gmemF rs g ≠ [] := by
  unfold grpsF at h
  rw [sortU_mem, List.mem_map] at h
  obtain ⟨a, ha, e⟩ := h
  intro z
  have : a ∈ gmemF rs g := by
    unfold gmemF
    rw [List.mem_filter]
    exact ⟨ha, decide_eq_true e⟩
  rw [z] at this; cases this
def sesBar (rs : List Row) : List Int → Option DV
  | [] => none
  | S :: r => if 0 < (tornF rs S).length then some (.tup [.str "session", .int S, .int ((tornF rs S).headD 0)]) else sesBar rs r
def grpBar (rs : List Row) : List Int → Option DV
  | [] => none
  | g :: r => if splitF rs g = true then some (.tup [.str "group", .int g]) else grpBar rs r
def barF (rs : List Row) : DV := match sesBar rs (sessF rs) with
  | some v => v
  | none => match grpBar rs (grpsF rs) with
    | some v => v
    | none => match ringsF rs with
      | r :: _ => .tup [.str "ring", iL r]
      | [] => .non
theorem ses_drop {ns : List Int} : ∀ {i : Nat}, ns[i]? = some S → sesBar rs (ns.drop i) = if 0 < (tornF rs S).length then some (.tup [.str "session", .int S, .int ((tornF rs S).headD 0)]) else sesBar rs (ns.drop (i + 1)) := fun {i} h => by
  have hlt : i < ns.length := (List.getElem?_eq_some_iff.mp h).1
  have e : ns[i] = S := (List.getElem?_eq_some_iff.mp h).2
  rw [List.drop_eq_getElem_cons hlt, e]
  rfl
theorem grp_drop {ns : List Int} : ∀ {i : Nat}, ns[i]? = some g → grpBar rs (ns.drop i) = if splitF rs g = true then some (.tup [.str "group", .int g]) else grpBar rs (ns.drop (i + 1)) := fun {i} h => by
  have hlt : i < ns.length := (List.getElem?_eq_some_iff.mp h).1
  have e : ns[i] = g := (List.getElem?_eq_some_iff.mp h).2
  rw [List.drop_eq_getElem_cons hlt, e]
  rfl
theorem map_get {ns : List Int} {i : Nat} {y : DV} (h : (ns.map DV.int)[i]? = some y) : ∃ n, ns[i]? = some n ∧ y = .int n := by
  rw [List.getElem?_map] at h
  cases e : ns[i]? with
  | none => rw [e] at h; cases h
  | some n => rw [e] at h; cases h; exact ⟨n, rfl, rfl⟩
theorem call1 {S0 : DSp} {x v : DV} {wa : DE} (ha : PuE wa δ m x) (hs : PuS S0 [x] m v) : PuE (wCall S0 [] (wCons wa wNil)) δ m v := pu_call (ds := [x]) (dds := []) (pa_cons ha pa_nil) hs
theorem call2 {S0 : DSp} {x y v : DV} {wa wb : DE} (ha : PuE wa δ m x) (hb : PuE wb δ m y) (hs : PuS S0 [x, y] m v) : PuE (wCall S0 [] (wCons wa (wCons wb wNil))) δ m v := pu_call (ds := [x, y]) (dds := []) (pa_cons ha (pa_cons hb pa_nil)) hs
theorem tup2 {x y : DV} {wa wb : DE} (ha : PuE wa δ m x) (hb : PuE wb δ m y) : PuE (wTup (wCons wa (wCons wb wNil))) δ m (.tup [x, y]) := pu_tup (pa_cons ha (pa_cons hb pa_nil)) (by have := line_eq; simp; omega)
theorem tup3 {x y z : DV} {wa wb wc : DE} (ha : PuE wa δ m x) (hb : PuE wb δ m y) (hc : PuE wc δ m z) : PuE (wTup (wCons wa (wCons wb (wCons wc wNil)))) δ m (.tup [x, y, z]) := pu_tup (pa_cons ha (pa_cons hb (pa_cons hc pa_nil))) (by have := line_eq; simp; omega)
theorem go_make {c : Nat} {S0 : DSp} {ta : DA} {Q : DK} (h : ta δ m fun ds m1 => ∀ x, m1 x = none → S0 (.ref x :: (ds ++ [])) (put m1 x (.ins c [])) fun v m2 => v = .non ∧ Q (.ref x) m2) : wMake c S0 [] ta δ m Q := h
theorem pos_int {n : Nat} : decide ((0 : Int) < (n : Int)) = decide (0 < n) := by
  by_cases h : 0 < n
  · rw [decide_eq_true h, decide_eq_true (by omega)]
  · rw [decide_eq_false h, decide_eq_false (by omega)]
end
end Law
namespace Law
open PySem PySem.Spec PyProof.Rows L2 DL
section
variable {m : Sto} {k : Addr} {rs : List Row} {n S g p : Int} {δ : Slots} {w : DE} {img : DV}
theorem sp_bar (f : Fam rs) (hi : ImgIs img rs) (hs : (rs.map (·.n)).Pairwise (· < ·)) : PuS S_bar [img] m (barF rs) := fun m' Q sb q => by
  refine ⟨rfl, ?_⟩
  show w_bar { nx := fun _ m' => Q .non m', rt := Q } [some img, none, none, none, none, none] m'
  unfold w_bar
  refine go_seq (go_set (go_make (go_cons (go_var rfl (go_nil fun x hx => ?_)))))
  refine sp_init hi f.few hs hx (Sub.put hx) put_same fun m2 s2 h => ⟨rfl, ?_⟩
  have rest : PuX (wSeq (wFor (iAny (wMeth 0 S_Kin_sessions [] (wVar 1) wNil)) (gN 2) (wSeq (wAsg (wCall S_torn_in_session [] (wCons (wVar 1) (wCons (wVar 2) wNil))) (gN 3)) (wIfS (wBl (wOp (dRel fun i j => decide (j < i)) (wB dLen (wCons (wVar 3) wNil)) (wC (.int 0)))) (wRet (wTup (wCons (wC (.str "session")) (wCons (wVar 2) (wCons (wOp dIx (wVar 3) (wC (.int 0))) wNil))))) wNext)))
      (wSeq (wFor (iAny (wMeth 0 S_Kin_groups [] (wVar 1) wNil)) (gN 4) (wIfS (wTru (wCall S_is_torn_group [] (wCons (wVar 1) (wCons (wVar 4) wNil)))) (wRet (wTup (wCons (wC (.str "group")) (wCons (wVar 4) wNil)))) wNext))
        (wSeq (wAsg (wCall S_rings [] (wCons (wVar 1) wNil)) (gN 5)) (wRet (wIf (wBl (wOp (dRel fun i j => decide (j < i)) (wB dLen (wCons (wVar 5) wNil)) (wC (.int 0)))) (wTup (wCons (wC (.str "ring")) (wCons (wOp dIx (wVar 5) (wC (.int 0))) wNil))) (wC .non))))))
      [some img, some (.ref x), none, none, none, none] m2 (fun _ => False) (fun v => v = barF rs) := by
    refine px_seq (M := fun δ' => sesBar rs (sessF rs) = none ∧ ∃ a b, δ' = [some img, some (.ref x), a, b, none, none]) ?_ ?_
    · refine px_for (pi_I (pu_m0 (i := 1) h rfl (sp_sessions h))) (fun i δ' => sesBar rs (sessF rs) = sesBar rs ((sessF rs).drop i) ∧ ∃ a b, δ' = [some img, some (.ref x), a, b, none, none]) ⟨rfl, _, _, rfl⟩ ?_ ?_
      · rintro i y δ' hy ⟨h1, a, b, rfl⟩
        obtain ⟨S, hS, rfl⟩ := map_get hy
        have hSm := List.mem_of_getElem? hS
        refine ⟨_, fun m Q q => q, ?_⟩
        rw [ses_drop hS] at h1
        refine px_seq (M := fun δ' => δ' = [some img, some (.ref x), some (.int S), some (iL (tornF rs S)), none, none]) (px_set (call2 (pu_var rfl) (pu_var rfl) (sp_torn f h (.inr (.inr (tops_ne f hSm))))) rfl) ?_
        rintro _ rfl
        refine px_if (pt_gt (pu_len (pu_var rfl)) pu_c) (fun z => ?_) fun z => px_next ?_
        · rw [pos_int] at z
          have z := of_decide_eq_true z
          rw [if_pos z] at h1
          have hne : tornF rs S ≠ [] := fun e => by rw [e] at z; cases z
          refine px_ret (tup3 pu_c (pu_var rfl) (pu_op (pu_var rfl) pu_c (ix_0 hne))) ?_
          unfold barF
          rw [h1]
        · rw [pos_int] at z
          have z := of_decide_eq_false z
          rw [if_neg z] at h1
          exact ⟨h1, _, _, rfl⟩
      · rintro δ' ⟨h1, a, b, rfl⟩
        rw [List.length_map, List.drop_length] at h1
        exact ⟨h1, a, b, rfl⟩
    · rintro δ' ⟨hses, a, b, rfl⟩
      refine px_seq (M := fun δ' => grpBar rs (grpsF rs) = none ∧ ∃ a b c, δ' = [some img, some (.ref x), a, b, c, none]) ?_ ?_
      · refine px_for (pi_I (pu_m0 (i := 1) h rfl (sp_groups h))) (fun i δ' => grpBar rs (grpsF rs) = grpBar rs ((grpsF rs).drop i) ∧ ∃ a b c, δ' = [some img, some (.ref x), a, b, c, none]) ⟨rfl, _, _, _, rfl⟩ ?_ ?_
        · rintro i y δ' hy ⟨h1, a, b, c, rfl⟩
          obtain ⟨g, hg, rfl⟩ := map_get hy
          have hgm := List.mem_of_getElem? hg
          refine ⟨_, fun m Q q => q, ?_⟩
          rw [grp_drop hg] at h1
          refine px_if (pt_tru (call2 (pu_var rfl) (pu_var rfl) (sp_split f h (gmem_ne hgm)))) (fun z => ?_) fun z => px_next ?_
          · rw [if_pos z] at h1
            refine px_ret (tup2 pu_c (pu_var rfl)) ?_
            unfold barF
            rw [hses, h1]
          · rw [if_neg (by rw [z]; exact Bool.false_ne_true)] at h1
            exact ⟨h1, _, _, _, rfl⟩
        · rintro δ' ⟨h1, a, b, c, rfl⟩
          rw [List.length_map, List.drop_length] at h1
          exact ⟨h1, a, b, c, rfl⟩
      · rintro δ' ⟨hgrp, a, b, c, rfl⟩
        refine px_seq (M := fun δ' => δ' = [some img, some (.ref x), a, b, c, some (.lst ((ringsF rs).map iL))]) (px_set (call1 (pu_var rfl) (sp_rings f h)) rfl) ?_
        rintro _ rfl
        refine px_ret (v := barF rs) (pu_if (pt_bl (pu_op (pu_lenL (pu_var rfl)) pu_c rel_I)) (fun z => ?_) fun z => ?_) rfl
        · rw [pos_int, List.length_map] at z
          have z := of_decide_eq_true z
          unfold barF
          rw [hses, hgrp]
          cases e : ringsF rs with
          | nil => rw [e] at z; cases z
          | cons r t => exact tup2 pu_c (pu_op (pu_var rfl) pu_c (ix_L (k := 0) rfl))
        · rw [pos_int, List.length_map] at z
          have z := of_decide_eq_false z
          unfold barF
          rw [hses, hgrp]
          cases e : ringsF rs with
          | nil => exact pu_c
          | cons r t => rw [e] at z; exact absurd (Nat.zero_lt_succ _) z
  exact rest _ m2 (.refl _) (fun _ _ _ z => False.elim z) fun v m3 s3 hv => by subst hv; exact q m3 (s2.trans s3)
end
end Law
namespace Law
open PySem PySem.Spec PyProof.Rows L2 DL
structure Bx (m : Sto) (p : Addr) (c : Nat) : Prop where
  ex : ∃ (x y : Int) (e : Nat), m p = some (.lst [.int x, .int y, .int e]) ∧ 0 ≤ x ∧ 0 ≤ y ∧ y < 2 ^ 36 ∧ e ≤ c
/-- all but the box stays -/
def SubX (p : Addr) (m m' : Sto) : Prop := ∀ a o, a ≠ p → m a = some o → m' a = some o
theorem SubX.refl {p : Addr} (m : Sto) : SubX p m m := fun _ _ _ h => h
theorem SubX.trans {p : Addr} {a b c : Sto} (h : SubX p a b) (g : SubX p b c) : SubX p a c := fun x o n e => g x o n (h x o n e)
theorem Sub.x {p : Addr} {m m' : Sto} (h : Sub m m') : SubX p m m' := fun a o _ e => h a o e
theorem SubX.put {p : Addr} {m : Sto} {o : MO} : SubX p m (DL.put m p o) := fun a u n e => by rw [put_ne n]; exact e
theorem Bx.sub {m m' : Sto} {p : Addr} {c : Nat} (h : Bx m p c) (s : Sub m m') : Bx m' p c := by
  obtain ⟨x, y, e, h1, h2⟩ := h.ex
  exact ⟨x, y, e, s _ _ h1, h2⟩
theorem Bx.le {m : Sto} {p : Addr} {c d : Nat} (h : Bx m p c) (l : c ≤ d) : Bx m p d := by
  obtain ⟨x, y, e, h1, h2, h3, h4, h5⟩ := h.ex
  exact ⟨x, y, e, h1, h2, h3, h4, by omega⟩
theorem ix_at {m : Sto} {p : Addr} {xs : List DV} {i : Int} {d : DV} {Q : DK} (h : m p = some (.lst xs)) (hi : atI xs i = some d) (q : Q d m) : dIx (.ref p) (.int i) m Q := by
  unfold dIx dictAt asQ asL
  simp only [h, hi]
  exact q
theorem set_at {m : Sto} {p : Addr} {xs : List DV} {i : Int} {j : Nat} {d : DV} {Q : Sto → Prop} (h : m p = some (.lst xs)) (hi : ixN xs.length i = some j) (q : Q (DL.put m p (.lst (xs.set j d)))) : setD (.ref p) (.int i) d m Q := by
  unfold setD
  simp only [h, hi]
  exact q
theorem go_asgS {D : DEnds} {δ : Slots} {m : Sto} {w wo wi : DE} (h : w δ m fun d m1 => wo δ m1 fun o m2 => wi δ m2 fun i m3 => setD o i d m3 fun m4 => D.nx δ m4) : wAsg w (gSubD wo wi) D δ m := h
section
variable {i j : Int} {m : Sto} {Q : DK} {mu : Bool}
theorem go_rel {p : Int → Int → Bool} (h : Q (.bl (p i j)) m) : dRel p (.int i) (.int j) m Q := h
theorem go_add (h : Q (.int (i + j)) m) : dAdd mu (.int i) (.int j) m Q := h
theorem go_mod (h0 : 0 < j) (h : Q (.int (i % j)) m) : dMod (.int i) (.int j) m Q := ⟨h0, h⟩
theorem go_div (h0 : 0 < j) (h1 : j.natAbs.log2 < 9000) (h : Q (.int (i / j)) m) : dDiv (.int i) (.int j) m Q := ⟨h0, h1, h⟩
theorem go_mul (h0 : (-(2 ^ 64) < i ∧ i < 2 ^ 64) ∨ (-(2 ^ 64) < j ∧ j < 2 ^ 64)) (h : Q (.int (i * j)) m) : dMul mu (.int i) (.int j) m Q := ⟨.inl h0, h⟩
theorem go_pow (h0 : 0 ≤ j) (h1 : j ≤ 1000000) (h2 : i.natAbs < 2 ^ 64) (h : Q (.int (i ^ j.toNat)) m) : dPow (.int i) (.int j) m Q := ⟨h0, h1, h2, h⟩
theorem go_int {b : Bool} (h : Q (.int (if b then 1 else 0)) m) : dInt [.bl b] m Q := h
theorem go_abs (h : Q (.int (if i < 0 then -i else i)) m) : dAbs [.int i] m Q := h
theorem go_sset {D : DEnds} {δ : Slots} {w : DE} {s : DS} {k : Nat} (h : w δ m fun d m1 => s D (δ.set k (some d)) m1) : wSeq (wAsg w (gN k)) s D δ m := h
theorem go_sasg {D : DEnds} {δ : Slots} {w wo wi : DE} {s : DS} (h : w δ m fun d m1 => wo δ m1 fun o m2 => wi δ m2 fun i m3 => setD o i d m3 fun m4 => s D δ m4) : wSeq (wAsg w (gSubD wo wi)) s D δ m := h
theorem go_sif {D : DEnds} {δ : Slots} {t : DT} {s s' : DS} (h : t δ m fun b m1 => if b = true then s { D with nx := s' D } δ m1 else s' D δ m1) : wSeq (wIfS t s wNext) s' D δ m := h
theorem go_sdrop {D : DEnds} {δ : Slots} {w : DE} {s : DS} (h : w δ m fun _ m1 => s D δ m1) : wSeq (wDrop w) s D δ m := h
theorem go_spar {D : DEnds} {δ : Slots} {ta : DA} {s : DS} {k l : Nat} (h : ta δ m fun ds m1 => match ds with
  | [a, b] => s D ((δ.set k (some a)).set l (some b)) m1
  | _ => False) : wSeq (wPar k l ta) s D δ m := h
theorem go_ifE {t : DT} {wa wb : DE} {δ : Slots} (h : t δ m fun b m1 => if b = true then wa δ m1 Q else wb δ m1 Q) : wIf t wa wb δ m Q := h
theorem go_blI {b : Bool} {QT : Bool → Sto → Prop} (h : QT b m) : (match DV.bl b with
  | .bl b => QT b m
  | _ => False) := h
theorem go_lenI {d : DV} {xs : List DV} (h : asQ m d = some xs) (q : Q (.int (xs.length : Int)) m) : dLen [d] m Q := by
  show lenD m d fun n => Q (.int n) m
  unfold lenD
  cases d <;> first | (simp only [h]; exact q) | (simp [asQ, asL] at h)
end
theorem sp_box {ns : List Int} {d : DV} {k : Nat} {m : Sto} (hd : asL m d = some (ns.map DV.int)) (hl : ns.length ≤ 63) (hk : k ≤ 63) {Q : DK} (q : ∀ p x y, m p = none → 0 ≤ x → 0 ≤ y → y < 2 ^ 36 → Q (.ref p) (DL.put m p (.lst [.int x, .int y, .int 0]))) : S__law_box [d, .int k] m Q := by
  refine ⟨rfl, ?_⟩
  show w__law_box { nx := fun _ m' => Q .non m', rt := Q } [some d, some (.int k), none] m
  have hq : asQ m d = some (ns.map DV.int) := by
    cases d <;> first | exact hd | (simp [asL] at hd)
  unfold w__law_box
  refine go_sset ( ?_)
  have fin : ∀ c : Int, (wRet (wLst true (wCons (wOp (dMul false) (wB dAbs (wCons (wVar 2) (wNil))) (wB dInt (wCons (wOp (dRel fun i j => decide (j ≤ i)) (wB dAbs (wCons (wVar 2) (wNil))) (wOp (dPow) (wC (.int 10)) (wC (.int 18)))) (wNil)))) (wCons (wOp (dAdd false) (wOp (dAdd false) (wOp (dMod) (wVar 2) (wC (.int 2147483629))) (wOp (dMul false) (wC (.int 7919)) (wVar 1))) (wC (.int 73))) (wCons (wC (.int 0)) (wNil)))))) { nx := fun _ m' => Q .non m', rt := Q } [some d, some (.int k), some (.int c)] m := fun c => by
    refine go_ret (go_lst (go_cons (go_op (go_b (go_cons (go_var rfl (go_nil ?_)))))))
    refine go_b (go_cons (go_op (go_b (go_cons (go_var rfl (go_nil ?_))))))
    refine go_op (go_c (go_c (go_pow (by decide) (by decide) (by decide) (go_rel (go_nil ?_)))))
    refine go_int (go_mul (.inr ?_) ?_)
    · exact (fun b => by cases b <;> decide : ∀ b : Bool, (-(2 ^ 64) < (if b = true then (1 : Int) else 0)) ∧ (if b = true then (1 : Int) else 0) < 2 ^ 64) _
    refine go_cons (go_op (go_op (go_op (go_var rfl (go_c (go_mod (by decide) ?_))))))
    refine go_op (go_c (go_var rfl (go_mul (.inl (by decide)) (go_add (go_c (go_add ?_))))))
    refine go_cons (go_c (go_nil ⟨by have := line_eq; simp; omega, ?_⟩))
    refine go_new fun p hp => ?_
    refine q p _ _ hp ?_ ?_ ?_
    · refine Int.mul_nonneg ?_ ?_
      · split <;> omega
      · exact (fun b => by cases b <;> decide : ∀ b : Bool, (0 : Int) ≤ if b = true then 1 else 0) _
    · have := Int.emod_nonneg c (b := 2147483629) (by decide)
      omega
    · have := Int.emod_lt_of_pos c (b := 2147483629) (by decide)
      have : (2 : Int) ^ 36 = 68719476736 := by decide
      omega
  refine go_ifE (go_bl (go_op (go_var rfl (go_b (go_cons (go_var rfl (go_nil (go_lenI hq (go_rel ?_)))))))))
  rw [List.length_map]
  dsimp only
  split
  case isTrue h =>
    have h : k < ns.length := by have := of_decide_eq_true h; omega
    refine go_op (go_var rfl (go_var rfl ?_))
    have hn : dictAt m d (.int k) = none := by
      cases d with
      | ref a =>
        have hd : (match m a with
          | some (.lst xs) => some xs
          | _ => none) = some (ns.map DV.int) := hd
        show (match m a with
          | some (.dct kvs) => (dK? (.int k)).map fun k => lookD kvs k
          | some (.lck _ _ kvs) => (dK? (.int k)).map fun k => lookD kvs k
          | some (.dcT kvs) => none
          | _ => none) = none
        revert hd
        cases m a with
        | none => intro z; cases z
        | some o => cases o <;> intro z <;> first | rfl | cases z
      | _ => rfl
    have hat : atI (ns.map DV.int) (k : Int) = some (.int ns[k]) := by
      unfold atI ixN
      rw [if_pos (by omega), if_pos (by rw [List.length_map]; omega)]
      simp
    unfold dIx
    simp only [hn, hq, hat]
    exact fin _
  case isFalse h => exact go_c (fin 0)
theorem sp_take {p : Addr} {c : Nat} {b : Int} {m : Sto} (hb : Bx m p c) (hc : c < 1000000) (h0 : 0 < b) (h1 : b < 2 ^ 60) {Q : DK} (q : ∀ r o, 0 ≤ r → r < b → Bx (DL.put m p o) p (c + 1) → Q (.int r) (DL.put m p o)) : S__law_take [.ref p, .int b] m Q := by
  obtain ⟨x, y, e, hm, hx, hy, hy2, he⟩ := hb.ex
  refine ⟨rfl, ?_⟩
  show w__law_take { nx := fun _ m' => Q .non m', rt := Q } [some (.ref p), some (.int b), none, none] m
  unfold w__law_take
  refine go_sif ((go_bl (go_op (go_op (go_var rfl (go_c (ix_at hm (d := .int x) rfl (go_c (go_rel ?_)))))))))
  dsimp only
  split
  case isTrue h =>
    have h : 0 < x := of_decide_eq_true h
    refine go_sset ( (go_op (go_op (go_var rfl (go_c (ix_at hm (d := .int x) rfl (go_var rfl (go_mod h0 ?_))))))))
    refine go_sasg ( (go_op (go_op (go_var rfl (go_c (ix_at hm (d := .int x) rfl (go_var rfl (go_div h0 ?_ ?_))))))))
    · have : b.natAbs < 2 ^ 60 := by omega
      have : b.natAbs.log2 < 60 := (Nat.log2_lt (by omega)).mpr this
      omega
    refine go_var rfl (go_c (set_at hm (j := 0) rfl ?_))
    refine go_ret (go_var rfl ?_)
    refine q _ _ (Int.emod_nonneg _ (by omega)) (Int.emod_lt_of_pos _ h0) ⟨x / b, y, e, put_same, Int.ediv_nonneg hx (by omega), hy, hy2, by omega⟩
  case isFalse h =>
    refine go_sasg ( (go_op (go_op (go_var rfl (go_c (ix_at hm (d := .int e) rfl (go_c (go_add ?_))))))))
    refine go_var rfl (go_c (set_at hm (j := 2) rfl ?_))
    let e1 : Int := (e : Int) + 1
    have hm2 : (DL.put m p (.lst [.int x, .int y, .int e1])) p = some (.lst [.int x, .int y, .int e1]) := put_same
    have hp36 : (2 : Int) ^ 36 = 68719476736 := by decide
    refine go_sset ( (go_op (go_op (go_op (go_op (go_var rfl (go_c (ix_at hm2 (d := .int y) rfl ?_))))))))
    refine go_op (go_c (go_op (go_var rfl (go_c (ix_at hm2 (d := .int e1) rfl (go_mul (.inl (by decide)) (go_add ?_)))))))
    refine go_c (go_pow (by decide) (by decide) ?_ (go_c (go_mod (by decide) ?_)))
    · have : (2 : Nat) ^ 64 = 18446744073709551616 := by decide
      have : e1 ≤ 1000000 := by show (e : Int) + 1 ≤ _; omega
      have : 0 ≤ e1 := by show 0 ≤ (e : Int) + 1; omega
      omega
    generalize hz : (y + 48271 * e1) ^ Int.toNat 5 % 2147483647 = z
    refine go_ret (go_op (go_op (go_op (go_op (go_op (go_var rfl ?_))))))
    refine go_op (go_op (go_var rfl (go_c (go_mod (by decide) (go_c (go_add ?_))))))
    have hz1 := Int.emod_nonneg z (b := 30011) (by decide)
    have hz2 := Int.emod_lt_of_pos z (b := 30011) (by decide)
    refine go_mul (.inr ⟨?_, ?_⟩) ?_
    · have : (2 : Int) ^ 64 = 18446744073709551616 := by decide
      omega
    · have : (2 : Int) ^ 64 = 18446744073709551616 := by decide
      omega
    refine go_op (go_op (go_var rfl (go_c (ix_at hm2 (d := .int e1) rfl (go_c (go_mul (.inr (by decide)) (go_add (go_c (go_mod (by decide) ?_)))))))))
    refine go_c (go_div (by decide) (by decide) (go_var rfl (go_mod h0 ?_)))
    exact q _ _ (Int.emod_nonneg _ (by omega)) (Int.emod_lt_of_pos _ h0) ⟨x, y, e + 1, put_same, hx, hy, hy2, by omega⟩
/-- a place in a list of data -/
theorem ix_lst {xs : List DV} {r : Int} {m : Sto} {Q : DK} (h0 : 0 ≤ r) (h1 : r < xs.length) (q : ∀ d, d ∈ xs → xs[r.toNat]? = some d → Q d m) : dIx (.lst xs) (.int r) m Q := by
  have hlt : r.toNat < xs.length := by omega
  have hat : atI xs r = some xs[r.toNat] := by
    unfold atI ixN
    rw [if_pos (by omega), if_pos (by omega)]
    simp [hlt]
  unfold dIx
  have hn : dictAt m (.lst xs) (.int r) = none := rfl
  have hq : asQ m (.lst xs) = some xs := rfl
  simp only [hn, hq, hat]
  exact q _ (List.getElem_mem hlt) (List.getElem?_eq_getElem hlt)
theorem sp_pick {p : Addr} {c : Nat} {xs : List DV} {m : Sto} (hb : Bx m p c) (hc : c < 1000000) (h0 : xs ≠ []) (h1 : xs.length < 2 ^ 60) {Q : DK} (q : ∀ d o, d ∈ xs → Bx (DL.put m p o) p (c + 1) → Q d (DL.put m p o)) : S__law_pick [.ref p, .lst xs] m Q := by
  refine ⟨rfl, ?_⟩
  show w__law_pick { nx := fun _ m' => Q .non m', rt := Q } [some (.ref p), some (.lst xs)] m
  unfold w__law_pick
  have hpos : 0 < xs.length := List.length_pos_iff.mpr h0
  refine go_ret (go_op (go_var rfl (go_call (go_cons (go_var rfl (go_cons (go_b (go_cons (go_var rfl (go_nil (go_lenI (xs := xs) rfl (go_nil ?_))))))))))))
  refine sp_take hb hc (by omega) (by omega) fun r o hr hr2 hb2 => ?_
  exact ix_lst hr hr2 fun d hd _ => q d o hd hb2
end Law
namespace Law
open PySem PySem.Spec PyProof.Rows L2 DL
def leafD : DV → Bool
  | .non | .bl _ | .int _ | .str _ => true
  | _ => false
def Same (m : Sto) : Nat → DV → DV → Prop
  | 0, _, _ => False
  | n + 1, x, y => (leafD x = true ∧ x = y) ∨ (∃ xs ys, asL m x = some xs ∧ asL m y = some ys ∧ xs.length ≤ sizeLine ∧ Paired (Same m n) xs ys) ∨ (∃ xs ys, x = .tup xs ∧ y = .tup ys ∧ xs.length ≤ sizeLine ∧ Paired (Same m n) xs ys)
theorem asL_sub {m m' : Sto} {d : DV} {xs : List DV} (h : asL m d = some xs) (s : Sub m m') : asL m' d = some xs := by
  cases d with
  | ref a =>
    have h : (match m a with
      | some (.lst xs) => some xs
      | _ => none) = some xs := h
    show (match m' a with
      | some (.lst xs) => some xs
      | _ => none) = some xs
    cases e : m a with
    | none => rw [e] at h; cases h
    | some o =>
      rw [e] at h
      rw [s _ _ e]; exact h
  | _ => exact h
theorem Same.mono {m m' : Sto} (s : Sub m m') : ∀ (n : Nat) {x y : DV}, Same m n x y → Same m' n x y
  | 0, _, _, h => h
  | n + 1, x, y, h => by
    rcases h with h | ⟨xs, ys, h1, h2, h3, h4⟩ | ⟨xs, ys, h1, h2, h3, h4⟩
    · exact .inl h
    · exact .inr (.inl ⟨xs, ys, asL_sub h1 s, asL_sub h2 s, h3, Paired.mapP h4 fun _ _ z => Same.mono s n z⟩)
    · exact .inr (.inr ⟨xs, ys, h1, h2, h3, Paired.mapP h4 fun _ _ z => Same.mono s n z⟩)
theorem asL_ty {m : Sto} {d : DV} {xs : List DV} (h : asL m d = some xs) : tyD m d = some .lst := by
  cases d with
  | ref a =>
    have h : (match m a with
      | some (.lst xs) => some xs
      | _ => none) = some xs := h
    show (match m a with
      | some (.lst _) => some Ty0.lst
      | some (.dct _) => some .dct
      | some (.dcT _) => some .dct
      | some (.lck _ _ _) => some .dct
      | _ => none) = some .lst
    cases e : m a with
    | none => rw [e] at h; cases h
    | some o =>
      rw [e] at h
      cases o <;> first | rfl | cases h
  | lst _ => rfl
  | klst _ => rfl
  | _ => cases h
theorem asL_Q {m : Sto} {d : DV} {xs : List DV} (h : asL m d = some xs) : asQ m d = some xs := by
  cases d <;> first | exact h | (simp [asL] at h)
section
variable {m : Sto} {δ : Slots}
theorem pu_isi {w : DE} {d : DV} {t : Ty0} {ts : List Ty0} (h : PuE w δ m d) (ht : ∀ m', Sub m m' → tyD m' d = some t) : PuE (wIsi ts w) δ m (.bl (ts.any (isA t))) := fun m' Q s q => h m' _ s fun m1 s1 => by
  show match tyD m1 d with
    | some t => Q (.bl (ts.any (isA t))) m1
    | none => False
  rw [ht m1 (s.trans s1)]
  exact q m1 s1
theorem eq_bl {neg b c : Bool} : Pu2 (dEq neg) (.bl b) (.bl c) m (.bl (xor neg (decide (b = c)))) := fun m' Q _ q => q _ (.refl _)
theorem len_Q {d : DV} {xs : List DV} {w : DE} (h : PuE w δ m d) (hx : ∀ m', Sub m m' → asQ m' d = some xs) : PuE (wB dLen (wCons w wNil)) δ m (.int xs.length) := pu_b (pa_cons h pa_nil) fun m' Q s q => go_lenI (hx m' s) (q _ (.refl _))
theorem zip_mem {R : DV → DV → Prop} {xs ys : List DV} (h : Paired R xs ys) : ∀ z ∈ zipD xs ys, ∃ x y, z = .tup [x, y] ∧ R x y := by
  induction h with
  | nil => intro z hz; cases hz
  | @cons a b as bs h t ih =>
    intro z hz
    rcases List.mem_cons.mp hz with rfl | hz
    · exact ⟨a, b, rfl, h⟩
    · exact ih z hz
theorem zip_len : ∀ (xs ys : List DV), (zipD xs ys).length ≤ xs.length
  | [], ys => by cases ys <;> exact Nat.le_refl _
  | x :: xs, [] => Nat.zero_le _
  | x :: xs, y :: ys => Nat.succ_le_succ (zip_len xs ys)
theorem all_true : ∀ {bs : List DV}, (∀ b ∈ bs, b = .bl true) → ∃ cs : List Bool, bls? bs = some cs ∧ cs.all id = true
  | [], _ => ⟨[], rfl, rfl⟩
  | b :: bs, h => by
    obtain ⟨cs, e, h2⟩ := all_true (bs := bs) fun b hb => h b (List.mem_cons_of_mem _ hb)
    refine ⟨true :: cs, ?_, by simpa using h2⟩
    rw [h b List.mem_cons_self]
    simp [bls?, e]
theorem pu_all {w : DE} {bs : List DV} (h : PuE w δ m (.lst bs)) (hb : ∀ b ∈ bs, b = .bl true) : PuE (wB dAll (wCons w wNil)) δ m (.bl true) := pu_b (pa_cons h pa_nil) fun m' Q s q => by
  obtain ⟨cs, e, h2⟩ := all_true hb
  have ea : asL m' (.lst bs) = some bs := rfl
  show dBls (fun bs => bs.all id) [.lst bs] m' Q
  unfold dBls
  simp only [ea, e, h2]
  exact q _ (.refl _)
theorem zip_I {wa wb : DE} {x y : DV} {xs ys : List DV} (ha : PuE wa δ m x) (hb : PuE wb δ m y) (h : (asL m x = some xs ∧ asL m y = some ys) ∨ (x = .tup xs ∧ y = .tup ys)) : PuI (iZipD (wCons wa (wCons wb wNil))) δ m (zipD xs ys) := fun m' K s k => by
  refine (pa_cons ha (pa_cons hb pa_nil)) m' _ s fun m1 s1 => ?_
  rcases h with ⟨h1, h2⟩ | ⟨rfl, rfl⟩
  · have g1 := asL_sub h1 (s.trans s1)
    have g2 := asL_sub h2 (s.trans s1)
    simp only [g1, g2]
    exact k _ m1 s1 rfl rfl fun m2 s2 => ⟨asL_sub h1 s2, asL_sub h2 s2⟩
  · exact k _ m1 s1 rfl rfl fun m2 s2 => trivial
theorem same_leaf {x : DV} (h : leafD x = true) : Pu2 (dEq false) x x m (.bl true) := fun m' Q s q => by
  cases x <;> first | cases h | skip
  all_goals (unfold dEq scEq; first | exact q _ (.refl _) | (simp only [decide_true]; exact q _ (.refl _)))
def isNb : DV → Bool
  | .non => true
  | _ => false
theorem isN_any {x : DV} : Pu2 (dIsN false) x .non m (.bl (isNb x)) := fun m' Q s q => by
  cases x <;> exact q _ (.refl _)
theorem tyb {x : DV} {t : Ty0} {ts : List Ty0} {i : Nat} (hd : δ[i]? = some (some x)) (ht : ∀ m' : Sto, tyD m' x = some t) : PuE (wIsi ts (wVar i)) δ m (.bl (ts.any (isA t))) := pu_isi (pu_var hd) fun m' _ => ht m'
theorem sp_same : ∀ (n : Nat) (x y : DV) (m : Sto), Same m n x y → PuS (S__law_same n) [x, y] m (.bl true)
  | 0, _, _, _, h => False.elim h
  | n + 1, x, y, m, h => by
    have body : (∃ t, (t = .lst ∨ t = .tup) ∧ (∀ m', Sub m m' → tyD m' x = some t) ∧ (∀ m', Sub m m' → tyD m' y = some t)) → (∃ xs ys, (∀ m', Sub m m' → asQ m' x = some xs) ∧ (∀ m', Sub m m' → asQ m' y = some ys) ∧ xs.length ≤ sizeLine ∧ Paired (Same m n) xs ys ∧ ((asL m x = some xs ∧ asL m y = some ys) ∨ (x = .tup xs ∧ y = .tup ys))) → PuS (S__law_same (n + 1)) [x, y] m (.bl true) := fun ⟨t, ht, hx, hy⟩ ⟨xs, ys, qx, qy, hl, hp, hz⟩ => by
      refine ps_run rfl ?_
      unfold w__law_same
      refine px_seq (M := fun _ => False) (px_if (pt_tru (pu_isi (pu_var (i := 1) rfl) hy)) (fun _ => ?_) fun z => ?_) fun δ' z => False.elim z
      · refine px_seq (M := fun δ' => δ' = startD 4 [x, y]) (px_if (pt_or (b := false) (c := false) (pt_bl ?_) fun _ => pt_bl ?_) (fun z => Bool.noConfusion z) fun _ => px_next rfl) ?_
        · have := pu_op (R2 := dEq true) (m := m) (δ := startD 4 [x, y]) (pu_isi (ts := [.lst]) (pu_var (i := 0) rfl) hx) (pu_isi (ts := [.lst]) (pu_var (i := 1) rfl) hy) eq_bl
          simpa using this
        · have := pu_op (R2 := dEq true) (m := m) (δ := startD 4 [x, y]) (pu_isi (ts := [.tup]) (pu_var (i := 0) rfl) hx) (pu_isi (ts := [.tup]) (pu_var (i := 1) rfl) hy) eq_bl
          simpa using this
        rintro _ rfl
        have hlen : xs.length = ys.length := Paired.length hp
        refine px_ret (v := .bl true) (pu_and (b := true) (c := true) ?_ fun _ => ?_) rfl
        · have := pu_op (R2 := dEq false) (m := m) (δ := startD 4 [x, y]) (len_Q (pu_var (i := 0) rfl) qx) (len_Q (pu_var (i := 1) rfl) qy) dEq_int
          simpa [hlen] using this
        · refine pu_all (pu_lc (fun _ => true) (fun _ => .bl true) (zip_I (pu_var rfl) (pu_var rfl) hz) (Nat.le_trans (zip_len xs ys) hl) fun z hz => ?_) fun b hb => ?_
          · obtain ⟨a, b, rfl, hab⟩ := zip_mem hp z hz
            exact ⟨[some x, some y, some a, some b], fun m' Q q => ⟨rfl, rfl, q⟩, pt_yes, fun _ => pu_call (ds := [a, b]) (dds := []) (pa_cons (pu_var rfl) (pa_cons (pu_var rfl) pa_nil)) (sp_same n a b m hab)⟩
          · rw [lcF_map] at hb
            obtain ⟨_, _, rfl⟩ := List.mem_map.mp hb
            rfl
      · rcases ht with rfl | rfl <;> cases z
    rcases h with ⟨hl, rfl⟩ | ⟨xs, ys, h1, h2, h3, h4⟩ | ⟨xs, ys, rfl, rfl, h3, h4⟩
    · refine ps_run rfl ?_
      unfold w__law_same
      have ty : ∃ t, (∀ m' : Sto, tyD m' x = some t) ∧ ([.lst, .tup] : List Ty0).any (isA t) = false ∧ ((isNb x || ([.bl, .str] : List Ty0).any (isA t)) = true ∨ (isNb x || ([.bl, .str] : List Ty0).any (isA t)) = false ∧ t = .int) := by
        cases x <;> first | cases hl | skip
        · exact ⟨.non, fun _ => rfl, by decide, .inl rfl⟩
        · exact ⟨.bl, fun _ => rfl, by decide, .inl rfl⟩
        · exact ⟨.int, fun _ => rfl, by decide, .inr ⟨rfl, rfl⟩⟩
        · exact ⟨.str, fun _ => rfl, by decide, .inl rfl⟩
      obtain ⟨t, ht, h1, h2⟩ := ty
      refine px_seq (M := fun δ' => δ' = startD 4 [x, x]) (px_if (pt_tru (tyb (i := 1) rfl ht)) (fun z => ?_) fun _ => px_next rfl) ?_
      · rw [h1] at z; cases z
      rintro _ rfl
      refine px_seq (M := fun δ' => δ' = startD 4 [x, x] ∧ t = .int) (px_if (pt_or (pt_bl (pu_op (pu_var (i := 1) rfl) pu_c isN_any)) fun _ => pt_tru (tyb (i := 1) rfl ht)) (fun _ => ?_) fun z => px_next ⟨rfl, ?_⟩) ?_
      · refine px_ret (v := .bl true) (pu_and (b := true) (c := true) (pu_op (pu_var rfl) (pu_var rfl) (same_leaf hl)) fun _ => pu_and (b := true) (c := true) ?_ fun _ => ?_) rfl
        · have := pu_op (R2 := dEq false) (m := m) (δ := startD 4 [x, x]) (tyb (ts := [.bl]) (i := 0) rfl ht) (tyb (ts := [.bl]) (i := 1) rfl ht) eq_bl
          simpa using this
        · have := pu_op (R2 := dEq false) (m := m) (δ := startD 4 [x, x]) (pu_op (pu_var (i := 0) rfl) pu_c isN_any) (pu_op (pu_var (i := 1) rfl) pu_c isN_any) eq_bl
          simpa using this
      · rcases h2 with h2 | h2
        · rw [h2] at z; cases z
        · exact h2.2
      rintro _ ⟨rfl, rfl⟩
      refine px_ret (v := .bl true) (pu_and (b := true) (c := true) (tyb (ts := [.int]) (i := 0) rfl ht) fun _ => pu_and (b := true) (c := true) ?_ fun _ => pu_op (pu_var rfl) (pu_var rfl) (same_leaf hl)) rfl
      exact pu_not (b := false) (tyb (ts := [.bl]) (i := 0) rfl ht)
    · exact body ⟨.lst, .inl rfl, fun m' s => asL_ty (asL_sub h1 s), fun m' s => asL_ty (asL_sub h2 s)⟩ ⟨xs, ys, fun m' s => asL_Q (asL_sub h1 s), fun m' s => asL_Q (asL_sub h2 s), h3, h4, .inl ⟨h1, h2⟩⟩
    · exact body ⟨.tup, .inr rfl, fun _ _ => rfl, fun _ _ => rfl⟩ ⟨xs, ys, fun _ _ => rfl, fun _ _ => rfl, h3, h4, .inr ⟨rfl, rfl⟩⟩
end
end Law
namespace Law
open PySem PySem.Spec PyProof.Rows L2 DL
theorem fx_for {it : DIt} {g : DG} {tb : DS} {D : DEnds} {xs : List DV} {δ : Slots} {m : Sto} (hit : it.items = xs) (hlk : it.lk = none) (I : Nat → Slots → Sto → Prop) (hst : ∀ i δ m, I i δ m → it.st m) (h0 : I 0 δ m)
    (hs : ∀ i y δ m1, xs[i]? = some y → I i δ m1 → g y δ m1 fun δ1 m2 => ∀ D' : DEnds, (∀ δ m, I (i + 1) δ m → D'.nx δ m) → (∀ v m, D.rt v m → D'.rt v m) → (∀ δ m, D.nx δ m → D'.bk δ m) → (∀ δ m, I (i + 1) δ m → D'.ct δ m) → tb D' δ1 m2)
    (hg : ∀ y δ m (Q Q' : Slots → Sto → Prop), (∀ δ m, Q δ m → Q' δ m) → g y δ m Q → g y δ m Q')
    (he : ∀ δ m1, I xs.length δ m1 → D.nx δ m1) : forGo it g tb D it.items δ m := by
  have hfin : ∀ (m2 : Sto) (k : Sto → Prop), k m2 → it.fin m2 k := fun m2 k hk => by unfold DIt.fin; rw [hlk]; exact hk
  have key : ∀ (ys : List DV) (i : Nat) (δ : Slots) (m2 : Sto), xs.drop i = ys → i ≤ xs.length → I i δ m2 → forGo it g tb D ys δ m2 := fun ys => by
    induction ys with
    | nil =>
      intro i δ m2 hd hle hII
      have : i = xs.length := by
        have := List.drop_eq_nil_iff.mp hd
        omega
      subst this
      exact ⟨hst _ _ _ hII, hfin _ _ (he δ m2 hII)⟩
    | cons y r ih =>
      intro i δ m2 hd hle hII
      obtain ⟨h1, h2⟩ := getElem_drop_cons hd
      have hlt : i < xs.length := (List.getElem?_eq_some_iff.mp h1).1
      refine ⟨hst _ _ _ hII, hg _ _ _ _ _ (fun δ1 m3 hb => ?_) (hs i y δ m2 h1 hII)⟩
      exact hb _ (fun δ' m3 h3 => ih (i + 1) δ' m3 h2 hlt h3) (fun v m3 h3 => hfin _ _ h3) (fun δ' m3 h3 => hfin _ _ h3) fun δ' m3 h3 => ih (i + 1) δ' m3 h2 hlt h3
  rw [hit]
  exact key xs 0 δ m rfl (Nat.zero_le _) h0
theorem gN_mono {k : Nat} (y : DV) (δ : Slots) (m : Sto) (Q Q' : Slots → Sto → Prop) (h : ∀ δ m, Q δ m → Q' δ m) (q : gN k y δ m Q) : gN k y δ m Q' := h _ _ q
theorem go_range {t : DA} {g : DG} {tb : DS} {D : DEnds} {δ : Slots} {m : Sto} (h : t δ m fun ds m1 => match ds with
  | [.int j] => -(2 ^ 62) ≤ j ∧ j < 2 ^ 62 ∧ forGo ⟨rgD 0 j.toNat, fun _ => True, none⟩ g tb D (rgD 0 j.toNat) δ m1
  | _ => False) : wFor (iRngD t) g tb D δ m := h
theorem pop_at {p : Addr} {xs : List DV} {r : Int} {m : Sto} {Q : DK} (hp : m p = some (.lst xs)) (h0 : 0 ≤ r) (h1 : r < xs.length) (hl : xs.length < 2 ^ 60) (q : ∀ d, xs[r.toNat]? = some d → Q d (DL.put m p (.lst (xs.eraseIdx r.toNat)))) : mPop (.ref p) [.int r] m Q := by
  have hlt : r.toNat < xs.length := by omega
  have hix : ixN xs.length r = some r.toNat := by
    unfold ixN
    rw [if_pos (by omega), if_pos (by omega)]
  unfold mPop ownL
  simp only [hp, hix, List.getElem?_eq_getElem hlt]
  exact ⟨by omega, by omega, q _ (List.getElem?_eq_getElem hlt)⟩
theorem app_at {p : Addr} {xs : List DV} {y : DV} {m : Sto} {Q : DK} (hp : m p = some (.lst xs)) (hl : xs.length < sizeLine) (q : Q .non (DL.put m p (.lst (xs ++ [y])))) : mAppend (.ref p) [y] m Q := by
  unfold mAppend ownL
  simp only [hp]
  exact ⟨hl, q⟩
theorem ofTy_lst {p : Addr} {xs : List DV} {m : Sto} (hp : m p = some (.lst xs)) : ofTy m .lst (.ref p) := by
  refine ⟨asL_ty (show asL m (.ref p) = some xs by unfold asL; simp only [hp]), ?_⟩
  simp only [hp]
theorem asQ_ref {p : Addr} {xs : List DV} {m : Sto} (hp : m p = some (.lst xs)) : asQ m (.ref p) = some xs := by
  unfold asQ asL; simp only [hp]
theorem er_map {f : Int → DV} : ∀ (ls : List Int) (i : Nat), (ls.map f).eraseIdx i = (ls.eraseIdx i).map f
  | [], i => by cases i <;> rfl
  | a :: r, 0 => rfl
  | a :: r, i + 1 => by
    show f a :: (r.map f).eraseIdx i = f a :: (r.eraseIdx i).map f
    rw [er_map r i]
theorem er_perm : ∀ {ls : List Int} {i : Nat} {n : Int}, ls[i]? = some n → (n :: ls.eraseIdx i).Perm ls
  | [], i, n, h => by cases i <;> cases h
  | a :: r, 0, n, h => by cases h; exact .refl _
  | a :: r, i + 1, n, h => by
    have h : r[i]? = some n := h
    exact (List.Perm.swap a n _).trans ((er_perm h).cons a)
def sesR (S n : Int) : DV := .tup [.str "session", .int S, .int n]
def grpR (g : Int) : DV := .tup [.str "group", .int g]
def ringR (row : List Int) : DV := .tup [.str "ring", iL row]
def sesRs (rs : List Row) (Ss : List Int) : List DV := Ss.flatMap fun S => (tornF rs S).map (sesR S)
def reasF (rs : List Row) : List DV := (sesRs rs (sessF rs) ++ ((grpsF rs).filter (splitF rs)).map grpR) ++ (ringsF rs).map ringR
def reachB (rs : List Row) (S u : Int) : Bool := isIn rs u && (!decide (u = S) && (decide (sesF rs u = S) && !adF rs u))
def reachN (rs : List Row) (S : Int) : Nat → Int → Int
  | 0, u => u
  | j + 1, u => if reachB rs S u = true then reachN rs S j (upF rs u) else u
def bearB (rs : List Row) (S n : Int) : Bool := (decide (sesF rs n = S) && endF rs n) && (decide (n = S) || (decide (reachN rs S 64 (upF rs n) = S) && !adF rs S))
section
variable {m m1 m2 : Sto} {p k : Addr} {R rs : List Row} {n S g : Int} {r : Row} {δ : Slots} {wa wb wc w : DE} {neg : Bool} {c : Nat}
theorem reach_stop {j : Nat} {u : Int} (h : reachB rs S u = false) : reachN rs S j u = u := by
  cases j with
  | zero => rfl
  | succ j => show (if reachB rs S u = true then _ else u) = u; rw [h, if_neg Bool.false_ne_true]
theorem fam_small (f : Fam rs) : (nums rs).length ≤ 63 := by rw [nums_len]; have := f.few; omega
theorem int_B {b : Bool} (h : PuE w δ m (.bl b)) : PuE (wB dInt (wCons w wNil)) δ m (.int (if b = true then 1 else 0)) := pu_b (pa_cons h pa_nil) fun m' Q s q => go_int (q _ (.refl _))
theorem rep_I {b : Bool} : Pu2 (dMul false) (iL [S]) (.int (if b = true then 1 else 0)) m (iL (if b = true then [S] else [])) := fun m' Q s q => by
  have hsz := line_eq
  have q := q m' (.refl _)
  cases b with
  | true => exact ⟨[.int S], rfl, by decide, by decide, by show 1 * 1 ≤ sizeLine; omega, q⟩
  | false => exact ⟨[.int S], rfl, by decide, by decide, by show 1 * 0 ≤ sizeLine; omega, q⟩
theorem ltop_few (f : Fam rs) : (topsF rs S).length ≤ 63 := by
  have := top_len (rs := rs) (S := S)
  have := f.few
  omega
theorem sortI_len (ns : List Int) : (sortI ns).length = ns.length := (sortI_perm ns).length_eq
theorem torn_len (f : Fam rs) : (tornF rs S).length ≤ 64 := by
  have h1 := ltop_few (S := S) f
  unfold tornF
  split
  · rw [sortI_len, List.length_append]
    have h2 := List.length_filter_le (fun t => !decide (t = S) && !decide (upF rs t = aboveF rs S)) (topsF rs S)
    split <;> simp <;> omega
  · split
    · exact Nat.le_trans (List.length_filter_le _ _) (by omega)
    · exact Nat.le_trans (List.length_filter_le _ _) (by omega)
theorem sesRs_len (f : Fam rs) : ∀ Ss : List Int, (sesRs rs Ss).length ≤ 64 * Ss.length
  | [] => Nat.le_refl _
  | S :: r => by
    have h1 := torn_len (S := S) f
    have h2 := sesRs_len f r
    unfold sesRs at h2 ⊢
    rw [List.flatMap_cons, List.length_append, List.length_map, List.length_cons]
    omega
theorem ddI_len : ∀ ns : List Int, (sortU ns).length ≤ ns.length := fun ns => by
  have h1 : (sortU ns).Nodup := (sortU_lt ns).imp fun h => by omega
  exact nodup_le h1 fun a ha => sortU_mem.mp ha
theorem sess_len (f : Fam rs) : (sessF rs).length ≤ 63 := by
  have h1 := ddI_len ((nums rs).map (sesF rs))
  have h2 := fam_small f
  rw [List.length_map] at h1
  unfold sessF; omega
theorem grps_len (f : Fam rs) : (grpsF rs).length ≤ 63 := by
  have h1 := ddI_len ((nums rs).map (grpF rs))
  have h2 := fam_small f
  rw [List.length_map] at h1
  unfold grpsF; omega
theorem rings_len (f : Fam rs) : (ringsF rs).length ≤ 63 := Nat.le_trans (List.length_filterMap_le _ _) (fam_small f)
end
end Law
namespace Law
open PySem PySem.Spec PyProof.Rows L2 DL
section
variable {m : Sto} {k : Addr} {R rs : List Row} {n S g : Int} {r : Row} {δ : Slots} {wa wb w : DE}
theorem sp_ftops (f : Fam rs) (h : KinAt m k rs) (S : Int) : PuS S_Kin_further_tops [.ref k, .int S] m (.lst ((ftopsF rs S).map DV.int)) := by
  have hl : (topsF rs S).length ≤ sizeLine := Nat.le_trans top_len (by rw [← nums_len]; exact small h)
  refine ps_run rfl (px_ret (pu_lcI (i := 2) (fun n => !decide (n = S)) DV.int (pi_any (pu_m1 (i := 0) h rfl (pu_var rfl) (sp_tops f h S)) rfl) hl fun y hy => ⟨?_, fun _ => pu_var rfl⟩) rfl)
  have := pt_bl (pu_op (δ := (wipeD (startD 3 [.ref k, .int S]) [2]).set 2 (some (.int y))) (pu_var (m := m) (i := 2) rfl) (pu_var (i := 1) rfl) (dEq_int (neg := true)))
  simpa using this
/-- the walk up to one that adopts -/
theorem in_T {neg : Bool} {ns : List Int} : Pu2 (dIn neg) (.int n) (.tup (ns.map DV.int)) m (.bl (xor neg (ns.contains n))) := fun m' Q _ q => by
  show (flatD (.int n) && (ns.map DV.int).all flatD) = true ∧ Q (.bl (xor neg ((ns.map DV.int).any fun z => eqF z (.int n)))) m'
  rw [any_int, flat_int]
  exact ⟨rfl, q _ (.refl _)⟩
theorem sp_reaches (f : Fam rs) (h : KinAt m k rs) (hn : isIn rs n = true) : PuS S_Kin_reaches_leader [.ref k, .int n] m (.bl (decide (reachN rs (sesF rs n) 64 (upF rs n) = sesF rs n) && !adF rs (sesF rs n))) := by
  obtain ⟨rk, hrk, hb⟩ := f.rk
  generalize hSe : sesF rs n = S
  have hse : PuS S_Kin_session [.ref k, .int n] m (.int S) := by rw [← hSe]; exact sp_session h (.inr hn)
  refine ps_run rfl (px_seq (M := fun δ' => δ' = [some (.ref k), some (.int n), some (.int S), some (.int (upF rs n))]) (px_par (pa_cons (pu_m1 (i := 0) h rfl (pu_var rfl) hse) (pa_cons (pu_m1 (i := 0) h rfl (pu_var rfl) (up_in h hn)) pa_nil)) rfl) fun δ' e => ?_)
  subst e
  refine px_seq (M := fun δ' => ∃ u, δ' = [some (.ref k), some (.int n), some (.int S), some (.int u)] ∧ (u = 1 ∨ isIn rs u = true) ∧ u = reachN rs S 64 (upF rs n)) ?_ ?_
  · refine px_while (n := 64) (fun j δ' => ∃ u, δ' = [some (.ref k), some (.int n), some (.int S), some (.int u)] ∧ (u = 1 ∨ (isIn rs u = true ∧ rk u < j)) ∧ reachN rs S j u = reachN rs S 64 (upF rs n)) ⟨_, rfl, (f.up hn).imp id fun z => ⟨z, hb _⟩, rfl⟩ ?_
    rintro j δ' ⟨u, rfl, hu, he⟩
    have hu' : u = 1 ∨ isIn rs u = true := hu.imp id And.left
    have t1 : PuT (wBl (wOp (dIn true) (wVar 3) (wTup (wCons (wC (.int 1)) (wCons (wVar 2) wNil))))) [some (.ref k), some (.int n), some (.int S), some (.int u)] m (!([1, S] : List Int).contains u) := by
      have := pt_bl (pu_op (m := m) (δ := [some (.ref k), some (.int n), some (.int S), some (.int u)]) (pu_var (i := 3) rfl) (tup2 (pu_c (v := .int 1)) (pu_var (i := 2) rfl)) (in_T (neg := true) (ns := [1, S])))
      simpa using this
    have eb : (!([1, S] : List Int).contains u && (decide (sesF rs u = S) && !adF rs u)) = reachB rs S u := by
      unfold reachB
      rcases hu' with rfl | hi
      · have : isIn rs 1 = false := by unfold isIn; rw [f.one]; rfl
        rw [this]
        simp
      · obtain ⟨r, hr⟩ := isIn_some hi
        have u1 : u ≠ 1 := fun e => by rw [e, f.one] at hr; cases hr
        rw [hi]
        by_cases e : u = S <;> simp [u1, e]
    refine ⟨reachB rs S u, ?_, fun z => ?_, fun z => ?_⟩
    · rw [← eb]
      exact pt_and t1 fun _ => pt_and (pt_e (pu_m1 (i := 0) h rfl (pu_var rfl) (sp_session h hu')) (pu_var rfl)) fun _ => pt_not (pt_tru (pu_m1 (i := 0) h rfl (pu_var rfl) (sp_adopts h hu')))
    · have h1 : isIn rs u = true := (Bool.and_eq_true_iff.mp z).1
      obtain ⟨r, hr'⟩ := isIn_some h1
      have u1 : u ≠ 1 := fun e => by rw [e, f.one] at hr'; cases hr'
      obtain ⟨_, h2⟩ := hu.resolve_left u1
      refine px_set (pu_m1 (i := 0) h rfl (pu_var rfl) (up_in h h1)) ?_
      cases j with
      | zero => omega
      | succ j =>
        refine ⟨j, Nat.lt_succ_self j, upF rs u, rfl, ?_, ?_⟩
        · rw [upF_of hr']
          exact (hrk u r hr').imp id fun z => ⟨z.1, by omega⟩
        · rw [← he]
          show _ = if reachB rs S u = true then reachN rs S j (upF rs u) else u
          rw [z, if_pos rfl]
    · exact ⟨u, rfl, hu', by rw [← he, reach_stop z]⟩
  · rintro δ' ⟨u, rfl, hu, he⟩
    refine px_ret (pu_and (pu_e (pu_var rfl) (pu_var rfl)) fun z => pu_not (pu_m1 (i := 0) h rfl (pu_var rfl) (sp_adopts h ?_))) ?_
    · have := of_decide_eq_true z
      rw [← this]; exact hu
    · rw [he]
end
end Law
namespace Law
open PySem PySem.Spec PyProof.Rows L2 DL
def endedF (rs : List Row) (S : Int) : List Int := (memF rs S).filter (endF rs)
def reachF (rs : List Row) (S n : Int) : Bool := decide (reachN rs S 64 (upF rs n) = S) && !adF rs S
def bearsF (rs : List Row) (S : Int) : List Int := (if (endedF rs S).contains S = true then [S] else []) ++ (endedF rs S).filter (reachF rs S)
section
variable {m : Sto} {k : Addr} {R rs : List Row} {n S g : Int} {r : Row} {δ : Slots} {wa wb w : DE}
theorem end_mem (h : n ∈ endedF rs S) : isIn rs n = true ∧ sesF rs n = S ∧ endF rs n = true := by
  unfold endedF at h
  rw [List.mem_filter] at h
  exact ⟨(mem_mem h.1).1, (mem_mem h.1).2, h.2⟩
theorem sp_bearers (f : Fam rs) (h : KinAt m k rs) : PuS S_Kin_bearers [.ref k, .int S] m (iL (bearsF rs S)) := by
  have big := line_eq
  have h1 : (memF rs S).length ≤ 63 := Nat.le_trans mem_len (by have := f.few; omega)
  have h2 : (endedF rs S).length ≤ 63 := Nat.le_trans (List.length_filter_le _ _) h1
  refine ps_run rfl (px_seq (M := fun δ' => δ' = [some (.ref k), some (.int S), some (iL (endedF rs S)), none]) (px_set (pu_take (i := 3) (endF rs) (pi_I (pu_m1 (i := 0) h rfl (pu_var rfl) (sp_members h S))) h1 (by decide) (Nat.lt_succ_self 3) fun y hy => pt_tru (pu_m1 (i := 0) h rfl (pu_var rfl) (end_in h (mem_mem hy).1))) rfl) fun δ' e => ?_)
  subst e
  refine px_ret (pu_op (pu_op (one_I (pu_var rfl)) (int_B (pu_in (pu_var rfl) (pu_var rfl))) rep_I) (pu_take (i := 3) (reachF rs S) (pi_I (pu_var rfl)) h2 (by decide) (Nat.lt_succ_self 3) fun y hy => pt_tru (pu_m1 (i := 0) h rfl (pu_var rfl) ?_)) (cat_I ?_)) rfl
  · obtain ⟨hi, hse, _⟩ := end_mem hy
    have := sp_reaches f h hi
    rw [hse] at this
    exact this
  · have h3 := List.length_filter_le (reachF rs S) (endedF rs S)
    split <;> simp <;> omega
/-- no bearers, either way -/
theorem bears_nil : bearsF rs S = [] ↔ (nums rs).filter (bearB rs S) = [] := by
  rw [List.filter_eq_nil_iff]
  unfold bearsF
  rw [List.append_eq_nil_iff, List.filter_eq_nil_iff]
  have mem : ∀ n, n ∈ endedF rs S ↔ n ∈ nums rs ∧ (decide (sesF rs n = S) && endF rs n) = true := fun n => by
    unfold endedF memF
    rw [List.mem_filter, List.mem_filter, Bool.and_eq_true]
    exact ⟨fun ⟨⟨a, b⟩, c⟩ => ⟨a, b, c⟩, fun ⟨a, b, c⟩ => ⟨⟨a, b⟩, c⟩⟩
  constructor
  · rintro ⟨h1, h2⟩ n hn hb
    unfold bearB at hb
    rw [Bool.and_eq_true] at hb
    have hm := (mem n).mpr ⟨hn, hb.1⟩
    by_cases e : n = S
    · subst e
      rw [if_pos (List.contains_iff_mem.mpr hm)] at h1
      cases h1
    · have hb2 := hb.2
      rw [decide_eq_false e, Bool.false_or] at hb2
      exact h2 n hm hb2
  · intro h
    refine ⟨?_, fun n hn hr => ?_⟩
    · by_cases hc : (endedF rs S).contains S = true
      · have hm := List.contains_iff_mem.mp hc
        obtain ⟨a, b⟩ := (mem S).mp hm
        refine absurd ?_ (h S a)
        unfold bearB
        rw [b]; simp
      · rw [if_neg hc]
    · obtain ⟨a, b⟩ := (mem n).mp hn
      refine h n a ?_
      unfold bearB
      unfold reachF at hr
      rw [b, hr]; simp
end
end Law
namespace Law
open PySem PySem.Spec PyProof.Rows L2 DL
/-- a call that answers a new list of ints -/
def PuO (S : DSp) (ds : List DV) (m : Sto) (ns : List Int) : Prop := ∀ m' (Q : DK), Sub m m' → (∀ D m2, Sub m' m2 → m' D = none → m2 D = some (.lst (ns.map DV.int)) → Q (.ref D) m2) → S ds m' Q
section
variable {m : Sto} {k : Addr} {R rs : List Row} {n S g : Int} {r : Row} {δ : Slots} {wa wb w : DE}
theorem sp_lostS (f : Fam rs) (h : KinAt m k rs) : PuO S_Kin_lost_sessions [.ref k] m (lostSF rs) := fun m' Q sb q => by
  refine ⟨rfl, ?_⟩
  show w_Kin_lost_sessions { nx := fun _ m' => Q .non m', rt := Q } (startD 2 [.ref k]) m'
  unfold w_Kin_lost_sessions
  refine go_ret (lc_own (m := m) (ns := sessF rs) (fun s => !decide (s = 1) && !isIn rs s) DV.int (pi_I (pu_m0 (i := 0) h rfl (sp_sessions h))) (by have := sess_len f; have := line_eq; omega) (fun y hy => ⟨?_, fun _ => pu_var rfl⟩) sb q)
  exact pt_and (pt_ne (pu_var rfl) pu_c) fun _ => pt_not (pt_tru (pu_m1 (i := 0) h rfl (pu_var rfl) (sp_has h)))
end
end Law
namespace Law
open PySem PySem.Spec PyProof.Rows L2 DL
section
variable {m : Sto} {k : Addr} {R rs : List Row} {n S g : Int} {r : Row} {δ : Slots} {wa wb w : DE}
theorem sp_lostG (f : Fam rs) (h : KinAt m k rs) : PuO S_Kin_lost_groups [.ref k] m (lostGF rs) := fun m' Q sb q => by
  have big := line_eq
  have c1 : (lostSF rs).length ≤ 63 := Nat.le_trans (List.length_filter_le _ _) (sess_len f)
  refine ⟨rfl, ?_⟩
  show w_Kin_lost_groups { nx := fun _ m' => Q .non m', rt := Q } (startD 3 [.ref k]) m'
  unfold w_Kin_lost_groups
  have h' := h.mono sb
  obtain ⟨fs, hf⟩ := h'.ins
  refine go_sset (go_op (one_I (pu_c (v := .int 1)) m' _ (.refl _) fun m1 s1 => ?_))
  have hk : m1 k = some (.ins 0 fs) := s1 _ _ hf
  refine go_var rfl ?_
  refine ⟨(show (match m1 k with
    | some (.ins c' _) => c' = 0
    | _ => False) from by rw [hk]), go_nil ?_⟩
  refine sp_lostS f h' m1 _ s1 fun D m2 s2 hD e2 => ?_
  refine dAdd_list (xs := [.int 1]) (ys := (lostSF rs).map DV.int) rfl (st_asL e2) (by rw [List.length_map]; show 1 + _ ≤ _; omega) ?_
  rw [newL_data]
  show wRet _ _ [some (.ref k), some (iL (1 :: lostSF rs)), none] m2
  have sb2 := (sb.trans s1).trans s2
  refine go_ret (lc_own (m := m) (ns := grpsF rs) (fun g => !(g == 1 || (lostSF rs).contains g) && !isIn rs g) DV.int (pi_I (pu_m0 (i := 0) h rfl (sp_groups h))) (by have := grps_len f; omega) (fun y hy => ⟨?_, fun _ => pu_var rfl⟩) sb2 fun D2 m3 s3 hD2 e3 => q D2 m3 ((s1.trans s2).trans s3) ?_ e3)
  · have : (!(y == 1 || (lostSF rs).contains y)) = !((1 :: lostSF rs).contains y) := by rw [List.contains_cons]
    rw [this]
    exact pt_and (pt_notin (pu_var rfl) (pu_var rfl)) fun _ => pt_not (pt_tru (pu_m1 (i := 0) h rfl (pu_var rfl) (sp_has h)))
  · cases e : m' D2 with
    | none => rfl
    | some o => rw [s2 _ _ (s1 _ _ e)] at hD2; cases hD2
end
end Law
namespace Law
open PySem PySem.Spec PyProof.Rows L2 DL
def lostInF (rs : List Row) (S : Int) : List Int := (lostGF rs).filter fun g => decide (sesF rs ((gmemF rs g).headD 0) = S)
def moreB (rs : List Row) (S : Int) : Bool := isIn rs S && (!(ftopsF rs S).isEmpty && ((lostInF rs S).isEmpty && (bearsF rs S).isEmpty))
section
variable {m : Sto} {k : Addr} {R rs : List Row} {n S g : Int} {r : Row} {δ : Slots} {wa wb w : DE}
theorem lc_first {mu : Bool} {g0 : DG} {tt : DT} {te : DE} {vs : List Nat} {Q : DK} (h : w δ m fun d m1 => wLc mu (iAny (wC d)) g0 tt te vs δ m1 Q) : wLc mu (iAny w) g0 tt te vs δ m Q := h
theorem sp_lost_in (f : Fam rs) (h : KinAt m k rs) : PuS S_Kin_lost_groups_in [.ref k, .int S] m (iL (lostInF rs S)) := fun m' Q sb q => by
  have big := line_eq
  have c1 : (lostGF rs).length ≤ 63 := Nat.le_trans (List.length_filter_le _ _) (grps_len f)
  refine ⟨rfl, ?_⟩
  show w_Kin_lost_groups_in { nx := fun _ m' => Q .non m', rt := Q } (startD 3 [.ref k, .int S]) m'
  unfold w_Kin_lost_groups_in
  obtain ⟨fs, hf⟩ := (h.mono sb).ins
  refine go_ret (lc_first ?_)
  refine go_var rfl ?_
  refine ⟨(show (match m' k with
    | some (.ins c' _) => c' = 0
    | _ => False) from by rw [hf]), go_nil ?_⟩
  refine sp_lostG f h m' _ sb fun D m2 s2 hD e2 => ?_
  have h2 := h.mono (sb.trans s2)
  refine pu_take (δ := [some (.ref k), some (.int S), none]) (m := m2) (i := 2) (ns := lostGF rs) (N := 63) (fun g => decide (sesF rs ((gmemF rs g).headD 0) = S)) (pi_any (pu_c (v := .ref D)) (st_asQ e2)) c1 (by decide) (Nat.lt_succ_self 2) (fun y hy => ?_) m2 _ (.refl _) fun m3 s3 => q m3 (s2.trans s3)
  have hg : y ∈ grpsF rs := (List.mem_filter.mp hy).1
  have hne := gmem_ne hg
  have hm : (gmemF rs y).headD 0 ∈ gmemF rs y := by
    cases e : gmemF rs y with
    | nil => exact absurd e hne
    | cons a r => exact List.mem_cons_self
  exact pt_e (pu_m1 (i := 0) h2 rfl (pu_op (pu_m1 (i := 0) h2 rfl (pu_var rfl) (sp_gmembers h2 y)) pu_c (ix_0 hne)) (sp_session h2 (.inr (gmem_mem hm).1))) (pu_var rfl)
end
end Law
namespace Law
open PySem PySem.Spec PyProof.Rows L2 DL
section
variable {m : Sto} {k : Addr} {R rs : List Row} {n S g : Int} {r : Row} {δ : Slots} {wa wb w : DE}
theorem len_0 {ns : List Int} : decide ((ns.length : Int) = 0) = ns.isEmpty := by
  cases ns with
  | nil => rfl
  | cons a r => simp; omega
theorem sp_more (f : Fam rs) (h : KinAt m k rs) : PuS S_needs_more [.ref k, .int S] m (.bl (moreB rs S)) := by
  refine ps_run rfl (px_seq (M := fun δ' => (!isIn rs S || (ftopsF rs S).isEmpty) = false ∧ δ' = [some (.ref k), some (.int S)]) (px_if (pt_or (pt_not (pt_tru (pu_m1 (i := 0) h rfl (pu_var rfl) (sp_has h)))) fun _ => by rw [← len_0]; exact pt_e (pu_len (pu_m1 (i := 0) h rfl (pu_var rfl) (sp_ftops f h S))) pu_c) (fun z => px_ret pu_c ?_) fun z => px_next ⟨z, rfl⟩) fun δ' e => ?_)
  · unfold moreB
    cases h1 : isIn rs S <;> cases h2 : (ftopsF rs S).isEmpty <;> rw [h1, h2] at z <;> first | rfl | cases z
  · obtain ⟨z, rfl⟩ := e
    have : moreB rs S = ((lostInF rs S).isEmpty && (bearsF rs S).isEmpty) := by
      unfold moreB
      cases h1 : isIn rs S <;> cases h2 : (ftopsF rs S).isEmpty <;> rw [h1, h2] at z <;> first | rfl | cases z
    rw [this]
    refine px_ret (pu_and (by rw [← len_0]; exact pu_e (pu_len (pu_m1 (i := 0) h rfl (pu_var rfl) (sp_lost_in f h))) pu_c) fun _ => by rw [← len_0]; exact pu_e (pu_len (pu_m1 (i := 0) h rfl (pu_var rfl) (sp_bearers f h))) pu_c) rfl
end
end Law
namespace Law
open PySem PySem.Spec PyProof.Rows L2 DL
def moreF (rs : List Row) : List Int := (sessF rs).filter (moreB rs)
section
variable {m : Sto} {k : Addr} {R rs : List Row} {n S g : Int} {r : Row} {δ : Slots} {wa wb w : DE} {img : DV}
theorem none_sub {m m' : Sto} {a : Addr} (s : Sub m m') (h : m' a = none) : m a = none := by
  cases e : m a with
  | none => rfl
  | some o => rw [s _ _ e] at h; cases h
theorem sp_helpers (f : Fam rs) (hi : ImgIs img rs) (hs : (rs.map (·.n)).Pairwise (· < ·)) {Q : DK} (q : ∀ a b c m2, Sub m m2 → m a = none → m b = none → m c = none → a ≠ b → a ≠ c → b ≠ c → m2 a = some (.lst ((lostSF rs).map DV.int)) → m2 b = some (.lst ((lostGF rs).map DV.int)) → m2 c = some (.lst ((moreF rs).map DV.int)) → Q (.tup [.ref a, .ref b, .ref c]) m2) : S_helpers [img] m Q := by
  have big := line_eq
  refine ⟨rfl, ?_⟩
  show w_helpers { nx := fun _ m' => Q .non m', rt := Q } [some img, none, none, none] m
  unfold w_helpers
  refine go_sset (go_make (go_cons (go_var rfl (go_nil fun x hx => ?_))))
  refine sp_init hi f.few hs hx (Sub.put hx) put_same fun m2 s2 h => ⟨rfl, ?_⟩
  show wSeq _ _ _ [some img, some (.ref x), none, none] m2
  refine go_sset (lc_own (m := m2) (ns := sessF rs) (moreB rs) DV.int (pi_I (pu_m0 (i := 1) h rfl (sp_sessions h))) (by have := sess_len f; omega) (fun y hy => ⟨pt_tru (call2 (pu_var rfl) (pu_var rfl) (sp_more f h)), fun _ => pu_var rfl⟩) (.refl _) fun c m3 s3 hc e3 => ?_)
  show wRet _ _ [some img, some (.ref x), some (.ref c), none] m3
  obtain ⟨fs, hf⟩ := (h.mono s3).ins
  refine go_ret (go_tup (go_cons (go_var rfl ⟨(show (match m3 x with
    | some (.ins c' _) => c' = 0
    | _ => False) from by rw [hf]), go_nil ?_⟩)))
  refine sp_lostS f (h.mono s3) m3 _ (.refl _) fun a m4 s4 ha e4 => ?_
  refine go_cons (go_var rfl ⟨(show (match m4 x with
    | some (.ins c' _) => c' = 0
    | _ => False) from by rw [s4 _ _ hf]), go_nil ?_⟩)
  refine sp_lostG f ((h.mono s3).mono s4) m4 _ (.refl _) fun b m5 s5 hb e5 => ?_
  refine go_cons (go_var rfl (go_nil ⟨by simp; omega, ?_⟩))
  refine q a b c m5 (((s2.trans s3).trans s4).trans s5) ?_ ?_ ?_ ?_ ?_ ?_ (s5 _ _ e4) e5 (s5 _ _ (s4 _ _ e3))
  · exact none_sub (s2.trans s3) ha
  · exact none_sub ((s2.trans s3).trans s4) hb
  · exact none_sub s2 hc
  · intro z; rw [z, hb] at e4; cases e4
  · intro z; rw [z, e3] at ha; cases ha
  · intro z; rw [z, s4 _ _ e3] at hb; cases hb
end
end Law
namespace Law
open PySem PySem.Spec PyProof.Rows L2 DL
def OkD (d : DV) : Prop := ∃ p, py d = some p ∧ p.canLay0 = true ∧ p.depth ≤ 60
theorem okd_pys : ∀ {xs : List DV}, (∀ x ∈ xs, OkD x) → ∃ ps, pys xs = some ps ∧ PyData.canLayAll0 ps = true ∧ PyData.depthAll ps ≤ 60 ∧ ps.isEmpty = xs.isEmpty
  | [], _ => ⟨[], rfl, rfl, Nat.zero_le _, rfl⟩
  | x :: xs, h => by
    obtain ⟨p, h1, h2, h3⟩ := h x List.mem_cons_self
    obtain ⟨ps, g1, g2, g3, _⟩ := okd_pys (xs := xs) fun y hy => h y (List.mem_cons_of_mem _ hy)
    refine ⟨p :: ps, ?_, ?_, ?_, rfl⟩
    · simp only [pys, h1, g1]
    · simp only [PyData.canLayAll0, h2, g2]; rfl
    · simp only [PyData.depthAll]; omega
theorem eqv_nil (ps : List PyData) : PyData.eqv (.list ps) (.list []) = ps.isEmpty := by
  cases ps <;> simp [PyData.eqv, PyData.eqvAll]
section
variable {m : Sto} {k : Addr} {R rs : List Row} {n S g : Int} {r : Row} {δ : Slots} {wa wb wc w : DE} {neg : Bool}
theorem eq_E {xs : List DV} (h : ∀ x ∈ xs, OkD x) : Pu2 (dEq neg) (.lst xs) (.lst []) m (.bl (xor neg xs.isEmpty)) := fun m' Q _ q => by
  obtain ⟨ps, h1, h2, h3, h4⟩ := okd_pys h
  refine ⟨.list ps, .list [], ?_, rfl, ?_, rfl, ?_⟩
  · show (pys xs).map PyData.list = _
    rw [h1]; rfl
  · unfold SeqAt.shaped
    simp only [PyData.canLay0, h2, PyData.depth, Bool.true_and, decide_eq_true_eq]
    refine decide_eq_true ?_
    omega
  · rw [eqv_nil, h4]
    exact q _ (.refl _)
theorem okd_int (i : Int) : OkD (.int i) := ⟨.int i, by simp only [py], by simp only [PyData.canLay0], by simp only [PyData.depth]; omega⟩
theorem okd_str {x : Str} (h : PyData.strOk x = true) : OkD (.str x) := ⟨.str x, by simp only [py], by simp only [PyData.canLay0]; exact h, by simp only [PyData.depth]; omega⟩
theorem okd_I {ns : List Int} : ∀ x ∈ ns.map DV.int, OkD x := fun x hx => by
  obtain ⟨n, _, rfl⟩ := List.mem_map.mp hx
  exact okd_int n
theorem eq_I {ns : List Int} : Pu2 (dEq neg) (iL ns) (iL []) m (.bl (xor neg ns.isEmpty)) := by
  have := eq_E (neg := neg) (m := m) (okd_I (ns := ns))
  rw [show (ns.map DV.int).isEmpty = ns.isEmpty from by cases ns <;> rfl] at this
  exact this
theorem pt_inL {ns : List Int} (ha : PuE wa δ m (.int n)) (hb : PuE wb δ m (iL ns)) : PuT (wBl (wOp (dIn false) wa wb)) δ m (ns.contains n) := pt_bl (pu_in ha hb)
theorem call3 {S0 : DSp} {x y z v : DV} (ha : PuE wa δ m x) (hb : PuE wb δ m y) (hc : PuE wc δ m z) (hs : PuS S0 [x, y, z] m v) : PuE (wCall S0 [] (wCons wa (wCons wb (wCons wc wNil)))) δ m v := pu_call (ds := [x, y, z]) (dds := []) (pa_cons ha (pa_cons hb (pa_cons hc pa_nil))) hs
theorem head_gmem (hg : g ∈ grpsF rs) : (gmemF rs g).headD 0 ∈ gmemF rs g := by
  have hne := gmem_ne hg
  cases e : gmemF rs g with
  | nil => exact absurd e hne
  | cons a r => exact List.mem_cons_self
end
end Law
namespace Law
open PySem PySem.Spec PyProof.Rows L2 DL
def lsN : Nat → DV → DV
  | 0, d => d
  | n + 1, .tup xs => .lst (xs.map (lsN n))
  | n + 1, .lst xs => .lst (xs.map (lsN n))
  | n + 1, d => d
def okN : Nat → DV → Prop
  | 0, _ => False
  | n + 1, .tup xs => xs.length ≤ 1000 ∧ ∀ x ∈ xs, okN n x
  | n + 1, .lst xs => xs.length ≤ 1000 ∧ ∀ x ∈ xs, okN n x
  | n + 1, d => leafD d = true
section
variable {m m1 m2 : Sto} {p k : Addr} {R rs : List Row} {n S g : Int} {r : Row} {δ : Slots} {wa wb wc w : DE} {neg : Bool} {c : Nat}
theorem go_gseq {d : DV} {xs : List DV} {gs : DGs} {n : Nat} {Q : Slots → Sto → Prop} (h : asQ m d = some xs) (hl : xs.length = n) (q : gs xs δ m Q) : gSeq n gs d δ m Q := by
  unfold gSeq
  rw [h]
  exact ⟨hl, q⟩
theorem eq_str {x y : Str} : Pu2 (dEq false) (.str x) (.str y) m (.bl (decide (x = y))) := fun m' Q _ q => by
  unfold dEq scEq
  simpa using q _ (.refl _)
theorem sub_I {i j : Int} : Pu2 dSub (.int i) (.int j) m (.int (i - j)) := fun m' Q _ q => q _ (.refl _)
theorem cat_T {xs ys : List DV} (h0 : xs ≠ []) (h : xs.length + ys.length ≤ sizeLine) : Pu2 (dAdd false) (.tup xs) (.tup ys) m (.tup (xs ++ ys)) := fun m' Q _ q => ⟨h0, h, q _ (.refl _)⟩
theorem pos_pu {x : DV} {Q : DK} (h : PuE w δ m x) (q : ∀ m2, Sub m m2 → Q x m2) : w δ m Q := h m Q (.refl _) q
theorem pos_puT {t : DT} {b : Bool} {QT : Bool → Sto → Prop} (h : PuT t δ m b) (q : ∀ m2, Sub m m2 → QT b m2) : t δ m QT := h m QT (.refl _) q
theorem paired_map {α β : Type} {P : β → α → Prop} (f : α → β) : ∀ {xs : List α}, (∀ x ∈ xs, P (f x) x) → Paired P (xs.map f) xs
  | [], _ => .nil
  | x :: xs, h => .cons (h x List.mem_cons_self) (paired_map f fun y hy => h y (List.mem_cons_of_mem _ hy))
theorem pt_lt {i j : Int} (ha : PuE wa δ m (.int i)) (hb : PuE wb δ m (.int j)) : PuT (wBl (wOp (dRel fun i j => decide (i < j)) wa wb)) δ m (decide (i < j)) := pt_bl (pu_op ha hb rel_I)
theorem bls_of : ∀ bs : List Bool, bls? (bs.map DV.bl) = some bs
  | [] => rfl
  | b :: bs => by simp [bls?, bls_of bs]
theorem pu_allB {bs : List Bool} (h : PuE w δ m (.lst (bs.map DV.bl))) : PuE (wB dAll (wCons w wNil)) δ m (.bl (bs.all id)) := pu_b (pa_cons h pa_nil) fun m' Q s q => by
  have ea : asL m' (.lst (bs.map DV.bl)) = some (bs.map DV.bl) := rfl
  show dBls (fun bs => bs.all id) [.lst (bs.map DV.bl)] m' Q
  unfold dBls
  simp only [ea, bls_of]
  exact q _ (.refl _)
theorem pu_ifI {t : DT} {b : Bool} {i j : Int} (ht : PuT t δ m b) (ha : b = true → PuE wa δ m (.int i)) (hb : b = false → PuE wb δ m (.int j)) : PuE (wIf t wa wb) δ m (.int (if b = true then i else j)) := by
  cases b with
  | true => exact pu_if ht ha fun z => Bool.noConfusion z
  | false => exact pu_if ht (fun z => Bool.noConfusion z) hb
theorem go_take {b : Int} {i : Nat} {Q : DK} (hp : δ[i]? = some (some (.ref p))) (hb : Bx m p c) (hc : c < 900000) (hx : PuE wa δ m (.int b)) (h0 : 0 < b) (hl : b ≤ 1000) (q : ∀ s m', 0 ≤ s → s < b → Bx m' p (c + 1) → SubX p m m' → Q (.int s) m') : wCall S__law_take [] (wCons (wVar i) (wCons wa wNil)) δ m Q := by
  refine go_call (go_cons (go_var hp (go_cons (pos_pu hx fun m3 s3 => go_nil ?_))))
  refine sp_take (hb.sub s3) (by omega) h0 (by omega) fun r o h1 h2 hb' => ?_
  exact q r _ h1 h2 hb' ((Sub.x s3).trans .put)
theorem take_not {ns : List Int} (hn : ns.Nodup) (h : ns[i]? = some n) : n ∉ ns.take i := by
  have h1 : (ns.take (i + 1)).Nodup := (List.take_sublist _ _).nodup hn
  rw [List.take_add_one, h] at h1
  have := (List.nodup_append.mp h1).2.2
  exact fun z => this n z n List.mem_cons_self rfl
theorem add_I {i j : Int} : Pu2 (dAdd false) (.int i) (.int j) m (.int (i + j)) := fun m' Q _ q => q _ (.refl _)
theorem go_not {t : DT} {Q : Bool → Sto → Prop} (h : t δ m fun b m1 => Q (!b) m1) : wNotT t δ m Q := h
theorem go_tru {Q : Bool → Sto → Prop} (h : w δ m fun d m1 => truD m1 d fun b => Q b m1) : wTru w δ m Q := h
theorem go_same {x y : DV} {Q : DK} (h : Same m 6 x y) (q : ∀ m2, Sub m m2 → Q (.bl true) m2) : S__law_same 6 [x, y] m Q := sp_same 6 x y m h m Q (.refl _) q
theorem same_int : ∀ ns : List Int, Paired (Same m 3) (ns.map DV.int) (ns.map DV.int)
  | [] => .nil
  | n :: ns => .cons (.inl ⟨rfl, rfl⟩) (same_int ns)
theorem same_list (h : m a = some (.lst (ns.map DV.int))) (hl : ns.length ≤ 100) : Same m 4 (.ref a) (iL ns) := .inr (.inl ⟨_, _, st_asL h, rfl, by have := line_eq; rw [List.length_map]; omega, same_int ns⟩)
theorem same_trip {x y z : List Int} (ha : m a = some (.lst (x.map DV.int))) (hb : m b = some (.lst (y.map DV.int))) (hc : m c = some (.lst (z.map DV.int))) (hx : x.length ≤ 100) (hy : y.length ≤ 100) (hz : z.length ≤ 100) : Same m 5 (.tup [.ref a, .ref b, .ref c]) (.tup [iL x, iL y, iL z]) :=
  .inr (.inr ⟨_, _, rfl, rfl, by have := line_eq; simp; omega, .cons (same_list ha hx) (.cons (same_list hb hy) (.cons (same_list hc hz) .nil))⟩)
theorem Same.up1 : ∀ (n : Nat) {x y : DV}, Same m n x y → Same m (n + 1) x y
  | 0, _, _, h => False.elim h
  | n + 1, x, y, h => by
    rcases h with h | ⟨xs, ys, h1, h2, h3, h4⟩ | ⟨xs, ys, h1, h2, h3, h4⟩
    · exact .inl h
    · exact .inr (.inl ⟨xs, ys, h1, h2, h3, Paired.mapP h4 fun _ _ z => Same.up1 n z⟩)
    · exact .inr (.inr ⟨xs, ys, h1, h2, h3, Paired.mapP h4 fun _ _ z => Same.up1 n z⟩)
theorem rg_get {n : Nat} {y : DV} (h : (rgD 0 n)[i]? = some y) : i < n ∧ y = .int (i : Int) := by
  unfold rgD at h
  rw [List.getElem?_map] at h
  cases e : (List.range n)[i]? with
  | none => rw [e] at h; cases h
  | some j =>
    rw [e] at h
    obtain ⟨h1, h2⟩ := List.getElem?_eq_some_iff.mp e
    rw [List.length_range] at h1
    rw [List.getElem_range] at h2
    subst h2
    cases h
    exact ⟨h1, by show DV.int (0 + (i : Int)) = _; rw [Int.zero_add]⟩
theorem more_len (f : Fam rs) : (moreF rs).length ≤ 100 := by
  have := sess_len f
  exact Nat.le_trans (List.length_filter_le _ _) (by omega)
theorem lostS_len (f : Fam rs) : (lostSF rs).length ≤ 100 := by
  have := sess_len f
  exact Nat.le_trans (List.length_filter_le _ _) (by omega)
theorem lostG_len (f : Fam rs) : (lostGF rs).length ≤ 100 := by
  have := grps_len f
  exact Nat.le_trans (List.length_filter_le _ _) (by omega)
end
end Law
namespace Law
open PySem PySem.Spec PyProof.Rows L2 DL
def fineN (W : Nat) : Nat → DV → Prop
  | 0, _ => False
  | n + 1, .tup xs => xs.length ≤ W ∧ ∀ x ∈ xs, fineN W n x
  | n + 1, .lst xs => xs.length ≤ W ∧ ∀ x ∈ xs, fineN W n x
  | n + 1, .str x => PyData.strOk x = true ∧ x.cps.size ≤ W
  | n + 1, .int i => i.natAbs < 10 ^ 12
  | n + 1, d => leafD d = true
def bndN (W : Nat) : Nat → Nat
  | 0 => 0
  | n + 1 => W * (bndN W n + 1)
structure FineP (n B : Nat) (p : PyData) : Prop where
  lay : p.canLay0 = true
  dep : p.depth ≤ n
  shw : p.showable = true
  sho : p.intsShort 13 = true
  blk : p.bulk ≤ B
theorem fine_all {n B : Nat} : ∀ {xs : List DV}, (∀ x ∈ xs, ∃ p, py x = some p ∧ FineP n B p) → ∃ ps, pys xs = some ps ∧ PyData.canLayAll0 ps = true ∧ PyData.depthAll ps ≤ n ∧ PyData.showableAll ps = true ∧ PyData.intsShortAll 13 ps = true ∧ PyData.bulkAll ps ≤ xs.length * (B + 1)
  | [], _ => ⟨[], rfl, rfl, Nat.zero_le _, rfl, rfl, Nat.zero_le _⟩
  | x :: xs, h => by
    obtain ⟨p, e, f⟩ := h x List.mem_cons_self
    obtain ⟨ps, e1, e2, e3, e4, e5, e6⟩ := fine_all (xs := xs) fun y hy => h y (List.mem_cons_of_mem _ hy)
    refine ⟨p :: ps, ?_, ?_, ?_, ?_, ?_, ?_⟩
    · simp only [pys, e, e1]
    · simp only [PyData.canLayAll0, f.lay, e2]; rfl
    · simp only [PyData.depthAll]; have := f.dep; omega
    · simp only [PyData.showableAll, f.shw, e4]; rfl
    · simp only [PyData.intsShortAll, f.sho, e5]; rfl
    · simp only [PyData.bulkAll, List.length_cons]
      have := f.blk
      rw [Nat.add_mul]
      omega
theorem fine_py {W : Nat} (hW : 0 < W) : ∀ (n : Nat) {d : DV}, fineN W n d → ∃ p, py d = some p ∧ FineP n (bndN W n) p
  | 0, d, h => False.elim h
  | n + 1, d, h => by
    have low : 0 ≤ bndN W (n + 1) := Nat.zero_le _
    cases d with
    | non => exact ⟨.none, by simp only [py], ⟨by simp only [PyData.canLay0], by simp only [PyData.depth]; omega, by simp only [PyData.showable], by simp only [PyData.intsShort], by simp only [PyData.bulk]; exact low⟩⟩
    | bl b => exact ⟨.bool b, by simp only [py], ⟨by simp only [PyData.canLay0], by simp only [PyData.depth]; omega, by simp only [PyData.showable], by simp only [PyData.intsShort], by simp only [PyData.bulk]; exact low⟩⟩
    | int i =>
      have h : i.natAbs < 10 ^ 12 := h
      refine ⟨.int i, by simp only [py], ⟨by simp only [PyData.canLay0], by simp only [PyData.depth]; omega, ?_, ?_, by simp only [PyData.bulk]; exact low⟩⟩
      · simp only [PyData.showable, decide_eq_true_eq]
        have h2 : i.natAbs < 2 ^ 40 := by have : (10 : Nat) ^ 12 < 2 ^ 40 := by decide
                                          omega
        by_cases h0 : i.natAbs = 0
        · rw [h0]; decide
        · have := (Nat.log2_lt h0).mpr h2
          omega
      · simp only [PyData.intsShort, decide_eq_true_eq]
        exact PyData.shown_int_le h
    | str x =>
      have h : PyData.strOk x = true ∧ x.cps.size ≤ W := h
      refine ⟨.str x, by simp only [py], ⟨by simp only [PyData.canLay0]; exact h.1, by simp only [PyData.depth]; omega, by simp only [PyData.showable], by simp only [PyData.intsShort], ?_⟩⟩
      simp only [PyData.bulk]
      refine Nat.le_trans h.2 ?_
      show W ≤ W * (bndN W n + 1)
      exact Nat.le_mul_of_pos_right W (Nat.succ_pos _)
    | ref a => exact Bool.noConfusion (show leafD (.ref a) = true from h)
    | lst xs =>
      have h : xs.length ≤ W ∧ ∀ x ∈ xs, fineN W n x := h
      obtain ⟨ps, e1, e2, e3, e4, e5, e6⟩ := fine_all fun x hx => fine_py hW n (h.2 x hx)
      refine ⟨.list ps, by simp only [py, e1]; rfl, ⟨by simp only [PyData.canLay0]; exact e2, by simp only [PyData.depth]; omega, by simp only [PyData.showable]; exact e4, by simp only [PyData.intsShort]; exact e5, ?_⟩⟩
      simp only [PyData.bulk]
      exact Nat.le_trans e6 (Nat.mul_le_mul_right _ h.1)
    | tup xs =>
      have h : xs.length ≤ W ∧ ∀ x ∈ xs, fineN W n x := h
      obtain ⟨ps, e1, e2, e3, e4, e5, e6⟩ := fine_all fun x hx => fine_py hW n (h.2 x hx)
      refine ⟨.tuple ps, by simp only [py, e1]; rfl, ⟨by simp only [PyData.canLay0]; exact e2, by simp only [PyData.depth]; omega, by simp only [PyData.showable]; exact e4, by simp only [PyData.intsShort]; exact e5, ?_⟩⟩
      simp only [PyData.bulk]
      exact Nat.le_trans e6 (Nat.mul_le_mul_right _ h.1)
    | ktup xs => exact Bool.noConfusion (show leafD (.ktup xs) = true from h)
    | klst xs => exact Bool.noConfusion (show leafD (.klst xs) = true from h)
section
variable {m : Sto} {n : Nat} {d : DV} {δ : Slots} {wa wb w : DE}
theorem asPy_of {p : PyData} (h : py d = some p) : asPy m d = some p := by
  cases d with
  | ref a => simp only [py] at h; cases h
  | lst xs => simp only [py] at h; exact h
  | klst xs => simp only [py] at h; exact h
  | _ => exact h
theorem fine_shaped {p : PyData} {B : Nat} (hn : n ≤ 60) (f : FineP n B p) : SeqAt.shaped p = true := by
  unfold SeqAt.shaped
  rw [f.lay, Bool.true_and]
  refine decide_eq_true ?_
  have := f.dep
  omega
theorem same_okN : ∀ (n : Nat) {d : DV}, okN n d → Same m n d d
  | 0, d, h => False.elim h
  | n + 1, d, h => by
    have big := line_eq
    have pr : ∀ xs : List DV, (∀ x ∈ xs, okN n x) → Paired (Same m n) xs xs := fun xs => by
      induction xs with
      | nil => intro _; exact .nil
      | cons x t ih => intro hx; exact .cons (same_okN n (hx x List.mem_cons_self)) (ih fun y hy => hx y (List.mem_cons_of_mem _ hy))
    cases d with
    | lst xs =>
      have h : xs.length ≤ 1000 ∧ ∀ x ∈ xs, okN n x := h
      exact .inr (.inl ⟨xs, xs, rfl, rfl, by omega, pr xs h.2⟩)
    | tup xs =>
      have h : xs.length ≤ 1000 ∧ ∀ x ∈ xs, okN n x := h
      exact .inr (.inr ⟨xs, xs, rfl, rfl, by omega, pr xs h.2⟩)
    | non => exact .inl ⟨rfl, rfl⟩
    | bl b => exact .inl ⟨rfl, rfl⟩
    | int i => exact .inl ⟨rfl, rfl⟩
    | str x => exact .inl ⟨rfl, rfl⟩
    | ref a => exact Bool.noConfusion (show leafD (.ref a) = true from h)
    | ktup xs => exact Bool.noConfusion (show leafD (.ktup xs) = true from h)
    | klst xs => exact Bool.noConfusion (show leafD (.klst xs) = true from h)
end
section
variable {rs : List Row} {S n g : Int}
theorem ses_head : ∀ Ss : List Int, sesBar rs Ss = (sesRs rs Ss).head?
  | [] => rfl
  | S :: r => by
    have e : sesRs rs (S :: r) = (tornF rs S).map (sesR S) ++ sesRs rs r := by unfold sesRs; rw [List.flatMap_cons]
    rw [e]
    show (if 0 < (tornF rs S).length then _ else sesBar rs r) = _
    rw [ses_head r]
    cases tornF rs S with
    | nil => rfl
    | cons a t => rfl
theorem grp_head : ∀ gs : List Int, grpBar rs gs = ((gs.filter (splitF rs)).map grpR).head?
  | [] => rfl
  | g :: r => by
    show (if splitF rs g = true then _ else grpBar rs r) = _
    rw [grp_head r, List.filter_cons]
    split <;> rfl
theorem bar_first : barF rs = (reasF rs).headD .non := by
  unfold barF reasF
  rw [ses_head, grp_head]
  cases sesRs rs (sessF rs) with
  | cons a t => rfl
  | nil =>
    cases ((grpsF rs).filter (splitF rs)).map grpR with
    | cons a t => rfl
    | nil => cases ringsF rs <;> rfl
theorem chain_len : ∀ (j : Nat) (row : List Int) (l : DV), (chainN rs j row l).1.length ≤ row.length + j
  | 0, row, l => Nat.le_refl _
  | j + 1, row, l => by
    cases l with
    | int u =>
      show (if row.contains u = true then (row, DV.int u) else chainN rs j (row ++ [u]) (needF rs u)).1.length ≤ _
      split
      · exact Nat.le_add_right _ _
      · have := chain_len j (row ++ [u]) (needF rs u)
        rw [List.length_append, List.length_singleton] at this
        omega
    | _ => exact Nat.le_add_right _ _
theorem ring_len {row : List Int} (h : row ∈ ringsF rs) : row.length ≤ 64 := by
  unfold ringsF at h
  obtain ⟨n, _, hn⟩ := List.mem_filterMap.mp h
  unfold ringOf at hn
  split at hn
  · cases hn
    exact chain_len 63 [n] _
  · cases hn
theorem ok_ints {n : Nat} {ns : List Int} (h : ns.length ≤ 1000) : okN (n + 2) (iL ns) := ⟨by rw [List.length_map]; exact h, fun x hx => by
  obtain ⟨z, _, rfl⟩ := List.mem_map.mp hx
  exact rfl⟩
theorem reas_okN : ∀ x ∈ reasF rs, okN 5 x := fun x hx => by
  unfold reasF sesRs at hx
  rcases List.mem_append.mp hx with hx | hx
  · rcases List.mem_append.mp hx with hx | hx
    · obtain ⟨S, _, h⟩ := List.mem_flatMap.mp hx
      obtain ⟨n, _, rfl⟩ := List.mem_map.mp h
      refine ⟨by simp, fun y hy => ?_⟩
      simp only [List.mem_cons, List.not_mem_nil, or_false] at hy
      rcases hy with rfl | rfl | rfl <;> exact rfl
    · obtain ⟨g, _, rfl⟩ := List.mem_map.mp hx
      refine ⟨by simp, fun y hy => ?_⟩
      simp only [List.mem_cons, List.not_mem_nil, or_false] at hy
      rcases hy with rfl | rfl <;> exact rfl
  · obtain ⟨row, hr, rfl⟩ := List.mem_map.mp hx
    refine ⟨by simp, fun y hy => ?_⟩
    simp only [List.mem_cons, List.not_mem_nil, or_false] at hy
    rcases hy with rfl | rfl
    · exact rfl
    · exact ok_ints (by have := ring_len hr; omega)
theorem bar_okN : okN 5 (barF rs) := by
  rw [bar_first]
  cases e : reasF rs with
  | nil => exact rfl
  | cons a t => exact reas_okN a (by rw [e]; exact List.mem_cons_self)
theorem small_int {i : Int} (h1 : -1000 ≤ i) (h2 : i ≤ 1000) : i.natAbs < 10 ^ 12 := by
  have : (10 : Nat) ^ 12 = 1000000000000 := by decide
  omega
end
end Law
namespace Law
open PySem PySem.Spec PyProof.Rows L2 DL
def eqN : Nat → DV → DV → Bool
  | 0, _, _ => false
  | n + 1, .lst xs, .lst ys => decide (xs.length = ys.length) && (List.zipWith (eqN n) xs ys).all id
  | n + 1, .tup xs, .tup ys => decide (xs.length = ys.length) && (List.zipWith (eqN n) xs ys).all id
  | n + 1, .non, .non => true
  | n + 1, .bl a, .bl b => decide (a = b)
  | n + 1, .int a, .int b => decide (a = b)
  | n + 1, .str a, .str b => decide (a = b)
  | n + 1, _, _ => false
theorem zip_all_eq {n : Nat} (ih : ∀ x y, eqN n x y = true → x = y) : ∀ {xs ys : List DV}, xs.length = ys.length → (List.zipWith (eqN n) xs ys).all id = true → xs = ys
  | [], [], _, _ => rfl
  | x :: xs, y :: ys, hl, h => by
    rw [List.zipWith_cons_cons, List.all_cons, Bool.and_eq_true] at h
    rw [ih x y h.1, zip_all_eq ih (Nat.succ.inj hl) h.2]
  | [], y :: ys, hl, _ => by cases hl
  | x :: xs, [], hl, _ => by cases hl
theorem eqN_eq : ∀ (n : Nat) (x y : DV), eqN n x y = true → x = y
  | 0, x, y, h => by cases h
  | n + 1, x, y, h => by
    cases x <;> cases y <;> first | cases h | skip
    · rfl
    · rw [of_decide_eq_true h]
    · rw [of_decide_eq_true h]
    · rw [of_decide_eq_true h]
    · have h := Bool.and_eq_true_iff.mp h
      rw [zip_all_eq (eqN_eq n) (of_decide_eq_true h.1) h.2]
    · have h := Bool.and_eq_true_iff.mp h
      rw [zip_all_eq (eqN_eq n) (of_decide_eq_true h.1) h.2]
theorem eqN_refl : ∀ (n : Nat) {y : DV}, okN n y → eqN n y y = true
  | 0, y, h => False.elim h
  | n + 1, y, h => by
    have all : ∀ xs : List DV, (∀ x ∈ xs, okN n x) → (List.zipWith (eqN n) xs xs).all id = true := fun xs => by
      induction xs with
      | nil => intro _; rfl
      | cons x t ih =>
        intro hx
        rw [List.zipWith_cons_cons, List.all_cons, ih fun y hy => hx y (List.mem_cons_of_mem _ hy)]
        show (eqN n x x && true) = true
        rw [eqN_refl n (hx x List.mem_cons_self)]; rfl
    cases y with
    | non => rfl
    | bl b => exact decide_eq_true rfl
    | int i => exact decide_eq_true rfl
    | str x => exact decide_eq_true rfl
    | ref a => exact Bool.noConfusion (show leafD (.ref a) = true from h)
    | lst xs =>
      have h : xs.length ≤ 1000 ∧ ∀ x ∈ xs, okN n x := h
      show (decide (xs.length = xs.length) && _) = true
      rw [decide_eq_true rfl, all xs h.2]; rfl
    | tup xs =>
      have h : xs.length ≤ 1000 ∧ ∀ x ∈ xs, okN n x := h
      show (decide (xs.length = xs.length) && _) = true
      rw [decide_eq_true rfl, all xs h.2]; rfl
    | ktup xs => exact Bool.noConfusion (show leafD (.ktup xs) = true from h)
    | klst xs => exact Bool.noConfusion (show leafD (.klst xs) = true from h)
theorem okd_pys_mem : ∀ {xs : List DV} {ps : List PyData}, pys xs = some ps → PyData.canLayAll0 ps = true → PyData.depthAll ps ≤ 60 → ∀ x ∈ xs, OkD x
  | [], _, _, _, _ => fun x hx => by cases hx
  | y :: xs, ps, h, hc, hd => by
    simp only [pys] at h
    cases e1 : py y with
    | none => rw [e1] at h; cases h
    | some p =>
      cases e2 : pys xs with
      | none => rw [e1, e2] at h; cases h
      | some qs =>
        rw [e1, e2] at h
        cases h
        simp only [PyData.canLayAll0, Bool.and_eq_true] at hc
        simp only [PyData.depthAll] at hd
        intro x hx
        rcases List.mem_cons.mp hx with rfl | hx
        · exact ⟨p, e1, hc.1, by omega⟩
        · exact okd_pys_mem e2 hc.2 (by omega) x hx
theorem okd_lst {xs : List DV} (h : OkD (.lst xs)) : ∀ x ∈ xs, OkD x := by
  obtain ⟨p, h1, h2, h3⟩ := h
  simp only [py] at h1
  cases e : pys xs with
  | none => rw [e] at h1; cases h1
  | some ps =>
    rw [e] at h1; cases h1
    exact okd_pys_mem e (by simpa only [PyData.canLay0] using h2) (by simp only [PyData.depth] at h3; omega)
theorem okd_tup {xs : List DV} (h : OkD (.tup xs)) : ∀ x ∈ xs, OkD x := by
  obtain ⟨p, h1, h2, h3⟩ := h
  simp only [py] at h1
  cases e : pys xs with
  | none => rw [e] at h1; cases h1
  | some ps =>
    rw [e] at h1; cases h1
    exact okd_pys_mem e (by simpa only [PyData.canLay0] using h2) (by simp only [PyData.depth] at h3; omega)
/-- data that is compared -/
structure Mat (x : DV) : Prop where
  k : ∃ k, okN k x
  d : OkD x
theorem Mat.lst {xs : List DV} (h : Mat (.lst xs)) : ∀ x ∈ xs, Mat x := fun x hx => by
  obtain ⟨k, hk⟩ := h.k
  cases k with
  | zero => exact False.elim hk
  | succ k =>
    have hk : xs.length ≤ 1000 ∧ ∀ x ∈ xs, okN k x := hk
    exact ⟨⟨k, hk.2 x hx⟩, okd_lst h.d x hx⟩
theorem Mat.tup {xs : List DV} (h : Mat (.tup xs)) : ∀ x ∈ xs, Mat x := fun x hx => by
  obtain ⟨k, hk⟩ := h.k
  cases k with
  | zero => exact False.elim hk
  | succ k =>
    have hk : xs.length ≤ 1000 ∧ ∀ x ∈ xs, okN k x := hk
    exact ⟨⟨k, hk.2 x hx⟩, okd_tup h.d x hx⟩
theorem Mat.len {xs : List DV} (h : Mat (.lst xs)) : xs.length ≤ 1000 := by
  obtain ⟨k, hk⟩ := h.k
  cases k with
  | zero => exact False.elim hk
  | succ k => exact (show xs.length ≤ 1000 ∧ ∀ x ∈ xs, okN k x from hk).1
theorem Mat.lenT {xs : List DV} (h : Mat (.tup xs)) : xs.length ≤ 1000 := by
  obtain ⟨k, hk⟩ := h.k
  cases k with
  | zero => exact False.elim hk
  | succ k => exact (show xs.length ≤ 1000 ∧ ∀ x ∈ xs, okN k x from hk).1
inductive Shape0 : DV → Ty0 → Prop
  | non : Shape0 .non .non
  | bl (b : Bool) : Shape0 (.bl b) .bl
  | int (i : Int) : Shape0 (.int i) .int
  | str (x : Str) : Shape0 (.str x) .str
  | lst (xs : List DV) : Shape0 (.lst xs) .lst
  | tup (xs : List DV) : Shape0 (.tup xs) .tup
theorem Mat.shape {x : DV} (h : Mat x) : ∃ t, Shape0 x t := by
  obtain ⟨k, hk⟩ := h.k
  cases k with
  | zero => exact False.elim hk
  | succ k =>
    cases x with
    | non => exact ⟨_, .non⟩
    | bl b => exact ⟨_, .bl b⟩
    | int i => exact ⟨_, .int i⟩
    | str x => exact ⟨_, .str x⟩
    | lst xs => exact ⟨_, .lst xs⟩
    | tup xs => exact ⟨_, .tup xs⟩
    | ref a => exact Bool.noConfusion (show leafD (.ref a) = true from hk)
    | ktup xs => exact Bool.noConfusion (show leafD (.ktup xs) = true from hk)
    | klst xs => exact Bool.noConfusion (show leafD (.klst xs) = true from hk)
theorem Shape0.ty {x : DV} {t : Ty0} (h : Shape0 x t) (m : Sto) : tyD m x = some t := by cases h <;> rfl
def eqPy (x y : DV) : Bool := match scEq x y with
  | some b => b
  | none => match py x, py y with
    | some p, some q => PyData.eqv p q
    | _, _ => false
section
variable {m : Sto} {n : Nat} {x y : DV} {δ : Slots} {wa wb w : DE}
theorem eq_any {s t : Ty0} (sx : Shape0 x s) (sy : Shape0 y t) (hx : OkD x) (hy : OkD y) (neg : Bool) : Pu2 (dEq neg) x y m (.bl (xor neg (eqPy x y))) := fun m' Q _ q => by
  unfold dEq
  unfold eqPy at q
  cases e : scEq x y with
  | some b => rw [e] at q; exact q _ (.refl _)
  | none =>
    rw [e] at q
    have e2 : emptyD m' x y = none := by cases sx <;> rfl
    dsimp only
    rw [e2]
    obtain ⟨p, p1, p2, p3⟩ := hx
    obtain ⟨r, r1, r2, r3⟩ := hy
    rw [p1, r1] at q
    refine ⟨p, r, asPy_of p1, asPy_of r1, ?_, ?_, q _ (.refl _)⟩
    · unfold SeqAt.shaped; rw [p2, Bool.true_and]; exact decide_eq_true (by omega)
    · unfold SeqAt.shaped; rw [r2, Bool.true_and]; exact decide_eq_true (by omega)
theorem isNb_not {t : Ty0} (s : Shape0 x t) : isNb x = decide (t = .non) := by cases s <;> rfl
theorem py_lst {xs : List DV} (h : OkD (.lst xs)) : ∃ ps, py (.lst xs) = some (.list ps) := by
  obtain ⟨p, h1, _⟩ := h
  simp only [py] at h1 ⊢
  cases e : pys xs with
  | none => rw [e] at h1; cases h1
  | some ps => exact ⟨ps, rfl⟩
theorem py_tup {xs : List DV} (h : OkD (.tup xs)) : ∃ ps, py (.tup xs) = some (.tuple ps) := by
  obtain ⟨p, h1, _⟩ := h
  simp only [py] at h1 ⊢
  cases e : pys xs with
  | none => rw [e] at h1; cases h1
  | some ps => exact ⟨ps, rfl⟩
theorem eqPy_lst {xs : List DV} (hl : leafD y = true) (h : OkD (.lst xs)) : eqPy (.lst xs) y = false := by
  obtain ⟨ps, hp⟩ := py_lst h
  have key : ∀ q, py y = some q → PyData.eqv (.list ps) q = false → scEq (.lst xs) y = none → eqPy (.lst xs) y = false := fun q h1 h2 h3 => by
    unfold eqPy
    rw [h3]
    dsimp only
    rw [hp, h1]
    exact h2
  cases y with
  | non => exact key .none (by simp only [py]) (by simp only [PyData.eqv]) rfl
  | bl b => exact key (.bool b) (by simp only [py]) (by simp only [PyData.eqv]) rfl
  | int i => exact key (.int i) (by simp only [py]) (by simp only [PyData.eqv]) rfl
  | str x => exact key (.str x) (by simp only [py]) (by simp only [PyData.eqv]) rfl
  | _ => cases hl
theorem eqPy_tup {xs : List DV} (hl : leafD y = true) (h : OkD (.tup xs)) : eqPy (.tup xs) y = false := by
  obtain ⟨ps, hp⟩ := py_tup h
  have key : ∀ q, py y = some q → PyData.eqv (.tuple ps) q = false → scEq (.tup xs) y = none → eqPy (.tup xs) y = false := fun q h1 h2 h3 => by
    unfold eqPy
    rw [h3]
    dsimp only
    rw [hp, h1]
    exact h2
  cases y with
  | non => exact key .none (by simp only [py]) (by simp only [PyData.eqv]) rfl
  | bl b => exact key (.bool b) (by simp only [py]) (by simp only [PyData.eqv]) rfl
  | int i => exact key (.int i) (by simp only [py]) (by simp only [PyData.eqv]) rfl
  | str x => exact key (.str x) (by simp only [py]) (by simp only [PyData.eqv]) rfl
  | _ => cases hl
theorem zipF {f : DV → DV → Bool} : ∀ (xs ys : List DV), (zipD xs ys).map (fun d => match d with
    | .tup [a, b] => DV.bl (f a b)
    | _ => .bl false) = (List.zipWith f xs ys).map DV.bl
  | [], ys => by cases ys <;> rfl
  | x :: xs, [] => rfl
  | x :: xs, y :: ys => by
    show DV.bl (f x y) :: _ = DV.bl (f x y) :: _
    rw [zipF xs ys]
theorem zip_in : ∀ {xs ys : List DV}, ∀ z ∈ zipD xs ys, ∃ a b, z = .tup [a, b] ∧ a ∈ xs ∧ b ∈ ys
  | [], ys, z, h => by cases ys <;> cases h
  | x :: xs, [], z, h => by cases h
  | x :: xs, y :: ys, z, h => by
    rcases List.mem_cons.mp h with rfl | h
    · exact ⟨x, y, rfl, List.mem_cons_self, List.mem_cons_self⟩
    · obtain ⟨a, b, e, h1, h2⟩ := zip_in z h
      exact ⟨a, b, e, List.mem_cons_of_mem _ h1, List.mem_cons_of_mem _ h2⟩
theorem sp_sameF : ∀ (n : Nat) {x y : DV} {m : Sto}, Mat x → Mat y → okN n y → PuS (S__law_same n) [x, y] m (.bl (eqN n x y))
  | 0, x, y, m, _, _, h => False.elim h
  | n + 1, x, y, m, hx, hy, h => by
    have big := line_eq
    obtain ⟨s, sx⟩ := hx.shape
    obtain ⟨t, sy⟩ := hy.shape
    have ti : ∀ {δ : Slots} {ts : List Ty0}, δ[0]? = some (some x) → PuE (wIsi ts (wVar 0)) δ m (.bl (ts.any (isA s))) := fun hd => tyb hd sx.ty
    have tj : ∀ {δ : Slots} {ts : List Ty0}, δ[1]? = some (some y) → PuE (wIsi ts (wVar 1)) δ m (.bl (ts.any (isA t))) := fun hd => tyb hd sy.ty
    refine ps_run rfl ?_
    unfold w__law_same
    have seq : ∀ xs ys : List DV, (∀ a ∈ xs, Mat a) → (∀ b ∈ ys, Mat b) → (∀ b ∈ ys, okN n b) → xs.length ≤ 1000 → asQ (fun _ => none) x = some xs → asQ (fun _ => none) y = some ys → ((asL m x = some xs ∧ asL m y = some ys) ∨ (x = .tup xs ∧ y = .tup ys)) →
        PuE (wAnd (wOp (dEq false) (wB dLen (wCons (wVar 0) (wNil))) (wB dLen (wCons (wVar 1) (wNil)))) (wB dAll (wCons (wLc false (iZipD (wCons (wVar 0) (wCons (wVar 1) (wNil)))) (gSeq 2 (gConsD (gN 2) (gConsD (gN 3) (gNilD)))) (wYes) (wCall (S__law_same n) [] (wCons (wVar 2) (wCons (wVar 3) (wNil)))) [2, 3]) (wNil)))) (startD 4 [x, y]) m (.bl (decide (xs.length = ys.length) && (List.zipWith (eqN n) xs ys).all id)) := fun xs ys mx my oy hl qx qy hz => by
      refine pu_and ?_ fun _ => ?_
      · have := pu_e (m := m) (δ := startD 4 [x, y]) (len_Q (pu_var (i := 0) rfl) fun m' s => asQ_data qx) (len_Q (pu_var (i := 1) rfl) fun m' s => asQ_data qy)
        have e : decide ((xs.length : Int) = (ys.length : Int)) = decide (xs.length = ys.length) := decide_eq_decide.mpr Int.ofNat_inj
        rw [e] at this
        exact this
      · refine pu_allB ?_
        have lc := pu_lc (m := m) (δ := startD 4 [x, y]) (g := gSeq 2 (gConsD (gN 2) (gConsD (gN 3) (gNilD)))) (vs := [2, 3]) (tt := wYes) (te := wCall (S__law_same n) [] (wCons (wVar 2) (wCons (wVar 3) (wNil)))) (fun _ => true) (fun d => match d with
          | .tup [a, b] => DV.bl (eqN n a b)
          | _ => .bl false) (zip_I (wa := wVar 0) (wb := wVar 1) (pu_var rfl) (pu_var rfl) hz) (Nat.le_trans (zip_len xs ys) (by omega)) fun z hzz => by
          obtain ⟨a, b, rfl, ha, hb⟩ := zip_in z hzz
          exact ⟨[some x, some y, some a, some b], fun m' Q q => ⟨rfl, rfl, q⟩, pt_yes, fun _ => pu_call (ds := [a, b]) (dds := []) (pa_cons (pu_var rfl) (pa_cons (pu_var rfl) pa_nil)) (sp_sameF n (mx a ha) (my b hb) (oy b hb))⟩
        rw [lcF_map, List.filter_eq_self.mpr fun _ _ => rfl, zipF] at lc
        exact lc
    -- two of one kind, or not
    have isq : ∀ (b1 b2 : Bool), b1 = ([.lst] : List Ty0).any (isA s) → b2 = ([.tup] : List Ty0).any (isA s) → PuT (wOrT (wBl (wOp (dEq true) (wIsi [.lst] (wVar 0)) (wIsi [.lst] (wVar 1)))) (wBl (wOp (dEq true) (wIsi [.tup] (wVar 0)) (wIsi [.tup] (wVar 1))))) (startD 4 [x, y]) m ((xor true (decide (b1 = ([.lst] : List Ty0).any (isA t)))) || (xor true (decide (b2 = ([.tup] : List Ty0).any (isA t))))) := fun b1 b2 e1 e2 => by
      subst e1; subst e2
      exact pt_or (pt_bl (pu_op (ti rfl) (tj rfl) eq_bl)) fun _ => pt_bl (pu_op (ti rfl) (tj rfl) eq_bl)
    have tst : PuT (wOrT (wBl (wOp (dIsN false) (wVar 1) (wC .non))) (wTru (wIsi [.bl, .str] (wVar 1)))) (startD 4 [x, y]) m (isNb y || ([.bl, .str] : List Ty0).any (isA t)) := pt_or (pt_bl (pu_op (pu_var (i := 1) rfl) pu_c isN_any)) fun _ => pt_tru (tj rfl)
    cases sy with
    | lst ys =>
      have h : ys.length ≤ 1000 ∧ ∀ y ∈ ys, okN n y := h
      refine px_seq (M := fun _ => False) (px_if (b := true) (pt_tru (tj rfl)) (fun _ => ?_) fun z => Bool.noConfusion z) fun δ' z => False.elim z
      cases sx with
      | lst xs =>
        refine px_seq (M := fun δ' => δ' = startD 4 [.lst xs, .lst ys]) (px_if (b := false) (isq true false rfl rfl) (fun z => Bool.noConfusion z) fun _ => px_next rfl) ?_
        rintro _ rfl
        exact px_ret (seq xs ys hx.lst hy.lst h.2 hx.len rfl rfl (.inl ⟨rfl, rfl⟩)) rfl
      | _ => exact px_seq (M := fun _ => False) (px_if (b := true) (isq _ _ rfl rfl) (fun _ => px_ret pu_c rfl) fun z => Bool.noConfusion z) fun δ' z => False.elim z
    | tup ys =>
      have h : ys.length ≤ 1000 ∧ ∀ y ∈ ys, okN n y := h
      refine px_seq (M := fun _ => False) (px_if (b := true) (pt_tru (tj rfl)) (fun _ => ?_) fun z => Bool.noConfusion z) fun δ' z => False.elim z
      cases sx with
      | tup xs =>
        refine px_seq (M := fun δ' => δ' = startD 4 [.tup xs, .tup ys]) (px_if (b := false) (isq false true rfl rfl) (fun z => Bool.noConfusion z) fun _ => px_next rfl) ?_
        rintro _ rfl
        exact px_ret (seq xs ys hx.tup hy.tup h.2 hx.lenT rfl rfl (.inr ⟨rfl, rfl⟩)) rfl
      | _ => exact px_seq (M := fun _ => False) (px_if (b := true) (isq _ _ rfl rfl) (fun _ => px_ret pu_c rfl) fun z => Bool.noConfusion z) fun δ' z => False.elim z
    | int j =>
      refine px_seq (M := fun δ' => δ' = startD 4 [x, .int j]) (px_if (b := false) (pt_tru (tj rfl)) (fun z => Bool.noConfusion z) fun _ => px_next rfl) ?_
      rintro _ rfl
      refine px_seq (M := fun δ' => δ' = startD 4 [x, .int j]) (px_if (b := false) (pt_or (b := false) (c := false) (pt_bl (pu_op (pu_var (i := 1) rfl) pu_c isN_any)) fun _ => pt_tru (tj rfl)) (fun z => Bool.noConfusion z) fun _ => px_next rfl) ?_
      rintro _ rfl
      have e : eqN (n + 1) x (.int j) = (([.int] : List Ty0).any (isA s) && (!([.bl] : List Ty0).any (isA s) && xor false (eqPy x (.int j)))) := by
        cases sx <;> first | rfl | skip
        rename_i i
        show decide (i = j) = (true && (true && xor false (eqPy (.int i) (.int j))))
        unfold eqPy scEq
        simp
      rw [e]
      exact px_ret (pu_and (ti rfl) fun _ => pu_and (pu_not (ti rfl)) fun _ => pu_op (pu_var rfl) (pu_var rfl) (eq_any sx (.int j) hx.d hy.d false)) rfl
    | _ =>
      all_goals
        refine px_seq (M := fun δ' => δ' = startD 4 [x, _]) (px_if (b := false) (pt_tru (tj rfl)) (fun z => Bool.noConfusion z) fun _ => px_next rfl) ?_
        rintro _ rfl
        refine px_seq (M := fun _ => False) (px_if (b := true) tst (fun _ => ?_) fun z => Bool.noConfusion z) fun δ' z => False.elim z
        have fin := pu_and (m := m) (pu_op (pu_var (δ := startD 4 [x, _]) (i := 0) rfl) (pu_var (i := 1) rfl) (eq_any (m := m) sx (by first | exact .non | exact .bl _ | exact .str _) hx.d hy.d false)) fun _ => pu_and (pu_op (ti (ts := [.bl]) rfl) (tj (ts := [.bl]) rfl) (eq_bl (neg := false))) fun _ => pu_op (pu_op (pu_var (i := 0) rfl) pu_c isN_any) (pu_op (pu_var (i := 1) rfl) pu_c isN_any) (eq_bl (neg := false))
        refine px_ret fin ?_
        congr 1
        cases sx with
        | lst xs =>
          rw [eqPy_lst (by rfl) hx.d]; rfl
        | tup xs =>
          rw [eqPy_tup (by rfl) hx.d]; rfl
        | _ => unfold eqPy scEq; simp [py, PyData.eqv, eqN, isNb, isA]
end
end Law
namespace Law
open PySem PySem.Spec PyProof.Rows L2 DL
def isI : DV → Bool
  | .int _ => true
  | _ => false
def unI : DV → Int
  | .int i => i
  | _ => 0
def ringB (rs : List Row) (y : DV) (r : List DV) : Bool := match y, r with
  | .lst ps, [] => ps.all isI && (ringsF rs).contains (ps.map unI)
  | _, _ => false
def sesB (rs : List Row) (y : DV) (r : List DV) : Bool := match r with
  | [z] => (sessF rs).contains (unI y) && (tornF rs (unI y)).contains (unI z)
  | _ => false
def grpB (rs : List Row) (y : DV) (r : List DV) : Bool := match r with
  | [] => (grpsF rs).contains (unI y) && splitF rs (unI y)
  | _ => false
def showW (rs : List Row) (w : Str) (y : DV) (r : List DV) : Bool :=
  if decide (w = "ring") = true then ringB rs y r else (y :: r).all isI && (if decide (w = "session") = true then sesB rs y r else decide (w = "group") && grpB rs y r)
def showB (rs : List Row) : DV → Bool
  | .tup (.str w :: y :: r) => showW rs w y r
  | _ => false
theorem all_I : ∀ {xs : List DV}, xs.all isI = true → xs = (xs.map unI).map DV.int
  | [], _ => rfl
  | x :: xs, h => by
    rw [List.all_cons, Bool.and_eq_true] at h
    rw [List.map_cons, List.map_cons, ← all_I h.2]
    cases x <;> first | rfl | cases h.1
theorem un_I : ∀ ns : List Int, (ns.map DV.int).map unI = ns
  | [] => rfl
  | n :: ns => by rw [List.map_cons, List.map_cons, un_I ns]; rfl
theorem is_I : ∀ ns : List Int, (ns.map DV.int).all isI = true
  | [] => rfl
  | n :: ns => by rw [List.map_cons, List.all_cons, is_I ns]; rfl
theorem ne_ses_ring : ¬ ("session" : Str) = "ring" := by decide +kernel
theorem ne_grp_ring : ¬ ("group" : Str) = "ring" := by decide +kernel
theorem ne_grp_ses : ¬ ("group" : Str) = "session" := by decide +kernel
/-- shown are the reasons, and these alone -/
theorem show_mem {rs : List Row} {x : DV} : showB rs x = true ↔ x ∈ reasF rs := by
  constructor
  · intro h
    unfold showB at h
    split at h
    case h_2 => cases h
    case h_1 w y r =>
      unfold showW at h
      unfold reasF
      by_cases hw : w = "ring"
      · subst hw
        rw [decide_eq_true rfl, if_pos rfl] at h
        unfold ringB at h
        split at h
        case h_2 => cases h
        case h_1 ps =>
          rw [Bool.and_eq_true] at h
          refine List.mem_append_right _ (List.mem_map.mpr ⟨ps.map unI, List.contains_iff_mem.mp h.2, ?_⟩)
          unfold ringR iL
          rw [← all_I h.1]
      · rw [decide_eq_false hw, if_neg Bool.false_ne_true, Bool.and_eq_true] at h
        obtain ⟨hi, h⟩ := h
        refine List.mem_append_left _ ?_
        have hy : y = .int (unI y) := by
          rw [List.all_cons, Bool.and_eq_true] at hi
          cases y <;> first | rfl | cases hi.1
        by_cases hs : w = "session"
        · subst hs
          rw [decide_eq_true rfl, if_pos rfl] at h
          unfold sesB at h
          split at h
          case h_2 => cases h
          case h_1 z =>
            rw [Bool.and_eq_true] at h
            refine List.mem_append_left _ ?_
            unfold sesRs
            refine List.mem_flatMap.mpr ⟨unI y, List.contains_iff_mem.mp h.1, List.mem_map.mpr ⟨unI z, List.contains_iff_mem.mp h.2, ?_⟩⟩
            have hz : z = .int (unI z) := by
              rw [List.all_cons, List.all_cons, Bool.and_eq_true, Bool.and_eq_true] at hi
              cases z <;> first | rfl | cases hi.2.1
            unfold sesR
            rw [← hy, ← hz]
        · rw [decide_eq_false hs, if_neg Bool.false_ne_true, Bool.and_eq_true] at h
          have hg := of_decide_eq_true h.1
          subst hg
          have h := h.2
          unfold grpB at h
          split at h
          case h_2 => cases h
          case h_1 =>
            rw [Bool.and_eq_true] at h
            refine List.mem_append_right _ (List.mem_map.mpr ⟨unI y, List.mem_filter.mpr ⟨List.contains_iff_mem.mp h.1, h.2⟩, ?_⟩)
            unfold grpR
            rw [← hy]
  · intro h
    unfold reasF sesRs at h
    rcases List.mem_append.mp h with h | h
    · rcases List.mem_append.mp h with h | h
      · obtain ⟨S, h1, h⟩ := List.mem_flatMap.mp h
        obtain ⟨n, h2, rfl⟩ := List.mem_map.mp h
        show showW rs "session" (.int S) [.int n] = true
        unfold showW
        rw [decide_eq_false ne_ses_ring, if_neg Bool.false_ne_true, decide_eq_true rfl, if_pos rfl]
        show ([DV.int S, .int n].all isI && ((sessF rs).contains S && (tornF rs S).contains n)) = true
        rw [List.contains_iff_mem.mpr h1, List.contains_iff_mem.mpr h2]; rfl
      · obtain ⟨g, h1, rfl⟩ := List.mem_map.mp h
        obtain ⟨h1, h2⟩ := List.mem_filter.mp h1
        show showW rs "group" (.int g) [] = true
        unfold showW
        rw [decide_eq_false ne_grp_ring, if_neg Bool.false_ne_true, decide_eq_false ne_grp_ses, if_neg Bool.false_ne_true, decide_eq_true rfl]
        show ([DV.int g].all isI && (true && ((grpsF rs).contains g && splitF rs g))) = true
        rw [List.contains_iff_mem.mpr h1, h2]; rfl
    · obtain ⟨row, h1, rfl⟩ := List.mem_map.mp h
      show showW rs "ring" (iL row) [] = true
      unfold showW
      rw [decide_eq_true rfl, if_pos rfl]
      show ((row.map DV.int).all isI && (ringsF rs).contains ((row.map DV.int).map unI)) = true
      rw [is_I, un_I, List.contains_iff_mem.mpr h1]; rfl
theorem pys_I : ∀ ns : List Int, pys (ns.map DV.int) = some (ns.map PyData.int)
  | [] => rfl
  | n :: ns => by simp only [List.map_cons, pys, py, pys_I ns]
theorem py_I (ns : List Int) : py (iL ns) = some (.list (ns.map PyData.int)) := by
  show py (.lst (ns.map DV.int)) = _
  simp only [py, pys_I]; rfl
theorem lay_I : ∀ ns : List Int, PyData.canLayAll0 (ns.map PyData.int) = true
  | [] => rfl
  | n :: ns => by simp only [List.map_cons, PyData.canLayAll0, PyData.canLay0, lay_I ns]; rfl
theorem dep_I : ∀ ns : List Int, PyData.depthAll (ns.map PyData.int) = 0
  | [] => rfl
  | n :: ns => by simp only [List.map_cons, PyData.depthAll, PyData.depth, dep_I ns]; rfl
theorem eqv_I : ∀ as bs : List Int, PyData.eqvAll (as.map PyData.int) (bs.map PyData.int) = decide (as = bs)
  | [], [] => by simp [PyData.eqvAll]
  | [], b :: bs => by simp [PyData.eqvAll]
  | a :: as, [] => by simp [PyData.eqvAll]
  | a :: as, b :: bs => by
    simp only [List.map_cons, PyData.eqvAll, PyData.eqv, eqv_I as bs, List.cons.injEq]
    rw [show (a == b) = decide (a = b) from rfl]
    by_cases h1 : a = b <;> by_cases h2 : as = bs <;> simp [h1, h2]
theorem pys_II : ∀ rows : List (List Int), pys (rows.map iL) = some (rows.map fun r => PyData.list (r.map PyData.int)) ∧ PyData.canLayAll0 (rows.map fun r => PyData.list (r.map PyData.int)) = true ∧ PyData.depthAll (rows.map fun r => PyData.list (r.map PyData.int)) ≤ 1
  | [] => ⟨rfl, rfl, Nat.zero_le _⟩
  | r :: rows => by
    obtain ⟨h1, h2, h3⟩ := pys_II rows
    refine ⟨?_, ?_, ?_⟩
    · simp only [List.map_cons, pys, py_I, h1]
    · simp only [List.map_cons, PyData.canLayAll0, PyData.canLay0, lay_I, h2]; rfl
    · simp only [List.map_cons, PyData.depthAll, PyData.depth, dep_I]; omega
theorem any_II (ns : List Int) : ∀ rows : List (List Int), ((rows.map fun r => PyData.list (r.map PyData.int)).any fun z => PyData.eqv z (.list (ns.map PyData.int))) = rows.contains ns
  | [] => rfl
  | r :: rows => by
    rw [List.map_cons, List.any_cons, any_II ns rows, List.contains_cons]
    simp only [PyData.eqv, eqv_I]
    congr 1
    rw [show (ns == r) = decide (ns = r) from by by_cases e : ns = r <;> simp [e]]
    exact decide_eq_decide.mpr ⟨Eq.symm, Eq.symm⟩
section
variable {m : Sto} {k : Addr} {rs : List Row} {x y : DV} {δ : Slots} {wa wb w : DE} {img : DV}
theorem in_II {ns : List Int} {rows : List (List Int)} : Pu2 (dInX false) (iL ns) (.lst (rows.map iL)) m (.bl (rows.contains ns)) := fun m' Q _ q => by
  obtain ⟨h1, h2, h3⟩ := pys_II rows
  refine ⟨.list (ns.map PyData.int), rows.map fun r => PyData.list (r.map PyData.int), asPy_of (py_I ns), ?_, ?_, ?_, ?_⟩
  · show (pys (rows.map iL)).map PyData.list = _
    rw [h1]; rfl
  · unfold SeqAt.shaped
    simp only [PyData.canLay0, lay_I, PyData.depth, dep_I]
    decide
  · unfold SeqAt.shaped
    simp only [PyData.canLay0, h2, PyData.depth, Bool.true_and]
    exact decide_eq_true (by omega)
  · rw [any_II, Bool.false_xor]
    exact q _ (.refl _)
theorem sp_isnum {t : Ty0} (sx : Shape0 x t) : PuS S_is_number [x] m (.bl (isI x)) := by
  have e : isI x = (([.int] : List Ty0).any (isA t) && !([.bl] : List Ty0).any (isA t)) := by cases sx <;> rfl
  rw [e]
  exact ps_run rfl (px_ret (pu_and (tyb (i := 0) rfl sx.ty) fun _ => pu_not (tyb (i := 0) rfl sx.ty)) rfl)
theorem pu_allnum {wi : DI} {a b c : Option DV} {xs : List DV} (hi : PuI wi [a, b, c, none] m xs) (hx : ∀ x ∈ xs, Mat x) (hl : xs.length ≤ 1000) : PuE (wB dAll (wCons (wLc false wi (gN 3) wYes (wCall S_is_number [] (wCons (wVar 3) wNil)) [3]) wNil)) [a, b, c, none] m (.bl (xs.all isI)) := by
  have big := line_eq
  have lc := pu_lc (m := m) (δ := [a, b, c, none]) (g := gN 3) (vs := [3]) (tt := wYes) (te := wCall S_is_number [] (wCons (wVar 3) wNil)) (fun _ => true) (fun d => .bl (isI d)) hi (by omega) fun y hy => by
    obtain ⟨t, sy⟩ := (hx y hy).shape
    exact ⟨[a, b, c, some y], fun m Q q => q, pt_yes, fun _ => call1 (pu_var rfl) (sp_isnum sy)⟩
  rw [lcF_map, List.filter_eq_self.mpr fun _ _ => rfl] at lc
  have e : xs.map (fun d => DV.bl (isI d)) = (xs.map isI).map DV.bl := by rw [List.map_map]; rfl
  rw [e] at lc
  have := pu_allB lc
  rw [List.all_map] at this
  exact this
theorem sl_T {a : DV} {r : List DV} (h : PuE w δ m (.tup (a :: r))) : PuE (wSl false w (some (wC (.int 1))) none) δ m (.tup r) := fun m' Q s q => h m' _ s fun m1 s1 => by
  show Q (.tup (DL.cutD (a :: r) (some 1) none)) m1
  have e : DL.cutD (a :: r) (some 1) none = r := by
    unfold DL.cutD
    have e1 : HT.sIx (a :: r).length 0 (some 1) = 1 := by
      show (if (1 : Int) < 0 then ((1 : Int) + ((a :: r).length : Int)).toNat else min (1 : Int).toNat (a :: r).length) = 1
      rw [if_neg (by decide), List.length_cons]
      show min 1 (r.length + 1) = 1
      omega
    rw [e1]
    show (r.take ((a :: r).length - 1)) = r
    rw [List.length_cons, Nat.add_sub_cancel, List.take_length]
  rw [e]
  exact q _ s1
theorem ix_T {xs : List DV} {i : Nat} {d : DV} (h : xs[i]? = some d) : Pu2 dIx (.tup xs) (.int (i : Int)) m d := ix_q0 rfl h
theorem pu_lenT {xs : List DV} (h : PuE w δ m (.tup xs)) : PuE (wB dLen (wCons w wNil)) δ m (.int xs.length) := len_Q h fun m' s => rfl
abbrev showR : DS := wSeq (wIfS (wOrT (wNotT (wTru (wIsi [.tup] (wVar 1)))) (wOrT (wBl (wOp (dRel fun i j => decide (i < j)) (wB dLen (wCons (wVar 1) (wNil))) (wC (.int 2)))) (wNotT (wTru (wIsi [.str] (wOp dIx (wVar 1) (wC (.int 0)))))))) (wRet (wC (.bl false))) (wNext)) (wSeq (wIfS (wBl (wOp (dEq false) (wOp dIx (wVar 1) (wC (.int 0))) (wC (.str "ring")))) (wSeq (wIfS (wOrT (wBl (wOp (dEq true) (wB dLen (wCons (wVar 1) (wNil))) (wC (.int 2)))) (wOrT (wNotT (wTru (wIsi [.lst] (wOp dIx (wVar 1) (wC (.int 1)))))) (wNotT (wTru (wB dAll (wCons (wLc false (iAny (wOp dIx (wVar 1) (wC (.int 1)))) (gN 3) (wYes) (wCall S_is_number [] (wCons (wVar 3) (wNil))) [3]) (wNil))))))) (wRet (wC (.bl false))) (wNext)) (wRet (wOp (dInX false) (wOp dIx (wVar 1) (wC (.int 1))) (wCall S_rings [] (wCons (wVar 2) (wNil)))))) (wNext)) (wSeq (wIfS (wNotT (wTru (wB dAll (wCons (wLc false (iAny (wSl false (wVar 1) (some (wC (.int 1))) none)) (gN 3) (wYes) (wCall S_is_number [] (wCons (wVar 3) (wNil))) [3]) (wNil))))) (wRet (wC (.bl false))) (wNext)) (wSeq (wIfS (wBl (wOp (dEq false) (wOp dIx (wVar 1) (wC (.int 0))) (wC (.str "session")))) (wRet (wAnd (wOp (dEq false) (wB dLen (wCons (wVar 1) (wNil))) (wC (.int 3))) (wAnd (wOp (dIn false) (wOp dIx (wVar 1) (wC (.int 1))) (wMeth 0 S_Kin_sessions [] (wVar 2) wNil)) (wOp (dIn false) (wOp dIx (wVar 1) (wC (.int 2))) (wCall S_torn_in_session [] (wCons (wVar 2) (wCons (wOp dIx (wVar 1) (wC (.int 1))) (wNil)))))))) (wNext)) (wRet (wAnd (wOp (dEq false) (wOp dIx (wVar 1) (wC (.int 0))) (wC (.str "group"))) (wAnd (wOp (dEq false) (wB dLen (wCons (wVar 1) (wNil))) (wC (.int 2))) (wAnd (wOp (dIn false) (wOp dIx (wVar 1) (wC (.int 1))) (wMeth 0 S_Kin_groups [] (wVar 2) wNil)) (wCall S_is_torn_group [] (wCons (wVar 2) (wCons (wOp dIx (wVar 1) (wC (.int 1))) (wNil)))))))))))
theorem show_no {w1 w2 : DS} {t : DT} {δ : Slots} {R : DV → Prop} (h : PuT t δ m true) (hr : R (.bl false)) : PuX (wSeq (wIfS t (wRet (wC (.bl false))) w1) w2) δ m (fun _ => False) R :=
  px_seq (M := fun _ => False) (px_if h (fun _ => px_ret pu_c hr) fun z => Bool.noConfusion z) fun _ z => False.elim z
theorem shows_pu (f : Fam rs) (h : KinAt m k rs) (hx : Mat x) : PuX showR [some img, some x, some (.ref k), none] m (fun _ => False) (fun v => v = .bl (showB rs x)) := by
  obtain ⟨t, sx⟩ := hx.shape
  have tx : PuE (wIsi [.tup] (wVar 1)) [some img, some x, some (.ref k), none] m (.bl (([.tup] : List Ty0).any (isA t))) := tyb (i := 1) rfl sx.ty
  cases sx with
  | tup xs =>
    have hxl := hx.lenT
    have v1 : PuE (wVar 1) [some img, some (.tup xs), some (.ref k), none] m (.tup xs) := pu_var rfl
    have short : xs.length < 2 → showB rs (.tup xs) = false → PuX showR [some img, some (.tup xs), some (.ref k), none] m (fun _ => False) (fun v => v = .bl (showB rs (.tup xs))) := fun hl he => by
      refine show_no (pt_or (b := false) (c := true) (pt_not (b := true) (pt_tru tx)) fun _ => pt_or (b := true) (c := false) ?_ fun z => Bool.noConfusion z) (by rw [he])
      have := pt_lt (pu_lenT v1) (pu_c (v := .int 2))
      rw [decide_eq_true (by omega : (xs.length : Int) < 2)] at this
      exact this
    cases xs with
    | nil => exact short (by simp) rfl
    | cons a r0 =>
      cases r0 with
      | nil => exact short (by simp) (by cases a <;> rfl)
      | cons y r =>
        have ma := hx.tup a List.mem_cons_self
        obtain ⟨ta, sa⟩ := ma.shape
        have i0 : PuE (wOp dIx (wVar 1) (wC (.int 0))) [some img, some (.tup (a :: y :: r)), some (.ref k), none] m a := pu_op v1 pu_c (ix_T (i := 0) rfl)
        have i1 : PuE (wOp dIx (wVar 1) (wC (.int 1))) [some img, some (.tup (a :: y :: r)), some (.ref k), none] m y := pu_op v1 pu_c (ix_T (i := 1) rfl)
        have l2 : PuT (wBl (wOp (dRel fun i j => decide (i < j)) (wB dLen (wCons (wVar 1) (wNil))) (wC (.int 2)))) [some img, some (.tup (a :: y :: r)), some (.ref k), none] m false := by
          have := pt_lt (pu_lenT v1) (pu_c (v := .int 2))
          rw [decide_eq_false (by simp; omega)] at this
          exact this
        have t1 : PuT (wOrT (wNotT (wTru (wIsi [.tup] (wVar 1)))) (wOrT (wBl (wOp (dRel fun i j => decide (i < j)) (wB dLen (wCons (wVar 1) (wNil))) (wC (.int 2)))) (wNotT (wTru (wIsi [.str] (wOp dIx (wVar 1) (wC (.int 0)))))))) [some img, some (.tup (a :: y :: r)), some (.ref k), none] m (false || (false || !([.str] : List Ty0).any (isA ta))) := pt_or (pt_not (b := true) (pt_tru tx)) fun _ => pt_or l2 fun _ => pt_not (pt_tru (pu_isi i0 fun m' _ => sa.ty m'))
        cases sa with
        | str w =>
          refine px_seq (M := fun δ' => δ' = [some img, some (.tup (.str w :: y :: r)), some (.ref k), none]) (px_if (b := false) t1 (fun z => Bool.noConfusion z) fun _ => px_next rfl) ?_
          rintro _ rfl
          have my := hx.tup y (List.mem_cons_of_mem _ List.mem_cons_self)
          obtain ⟨ty, sy⟩ := my.shape
          have eB : showB rs (.tup (.str w :: y :: r)) = showW rs w y r := rfl
          rw [eB]
          refine px_seq (M := fun δ' => w ≠ "ring" ∧ δ' = [some img, some (.tup (.str w :: y :: r)), some (.ref k), none]) (px_if (pt_bl (pu_op i0 pu_c eq_str)) (fun hw => ?_) fun hw => px_next ⟨of_decide_eq_false hw, rfl⟩) ?_
          · -- a ring
            have eW : showW rs w y r = ringB rs y r := by unfold showW; rw [hw, if_pos rfl]
            rw [eW]
            have lne : PuT (wBl (wOp (dEq true) (wB dLen (wCons (wVar 1) (wNil))) (wC (.int 2)))) [some img, some (.tup (.str w :: y :: r)), some (.ref k), none] m (!decide (((DV.str w :: y :: r).length : Int) = 2)) := pt_ne (pu_lenT v1) pu_c
            refine px_seq (M := fun δ' => (∃ ps, y = .lst ps ∧ r = [] ∧ ps.all isI = true) ∧ δ' = [some img, some (.tup (.str w :: y :: r)), some (.ref k), none]) ?_ ?_
            · cases r with
              | cons z r =>
                have e : ringB rs y (z :: r) = false := by unfold ringB; cases y <;> rfl
                refine px_if (b := true) (pt_or (b := true) (c := false) ?_ fun z => Bool.noConfusion z) (fun _ => px_ret pu_c (by rw [e])) fun z => Bool.noConfusion z
                rw [decide_eq_false (by simp; omega)] at lne
                exact lne
              | nil =>
                have lnf : PuT (wBl (wOp (dEq true) (wB dLen (wCons (wVar 1) (wNil))) (wC (.int 2)))) [some img, some (.tup [.str w, y]), some (.ref k), none] m false := lne
                have nl : PuT (wNotT (wTru (wIsi [.lst] (wOp dIx (wVar 1) (wC (.int 1)))))) [some img, some (.tup [.str w, y]), some (.ref k), none] m (!([.lst] : List Ty0).any (isA ty)) := pt_not (pt_tru (pu_isi i1 fun m' _ => sy.ty m'))
                cases sy with
                | lst ps =>
                  refine px_if (pt_or lnf fun _ => pt_or (b := false) nl fun _ => pt_not (pt_tru (pu_allnum (pi_any i1 rfl) my.lst my.len))) (fun z => px_ret pu_c ?_) fun z => px_next ⟨⟨ps, rfl, rfl, ?_⟩, rfl⟩
                  · have e : ps.all isI = false := by simpa using z
                    show _ = DV.bl (ps.all isI && _)
                    rw [e]; rfl
                  · simpa using z
                | _ => exact px_if (b := true) (pt_or lnf fun _ => pt_or (b := true) (c := false) nl fun z => Bool.noConfusion z) (fun _ => px_ret pu_c rfl) fun z => Bool.noConfusion z
            · rintro _ ⟨⟨ps, rfl, rfl, hi⟩, rfl⟩
              have e : ringB rs (.lst ps) [] = (ringsF rs).contains (ps.map unI) := by
                show (ps.all isI && _) = _
                rw [hi]; rfl
              rw [e]
              have i1' : PuE (wOp dIx (wVar 1) (wC (.int 1))) [some img, some (.tup [.str w, .lst ps]), some (.ref k), none] m (iL (ps.map unI)) := by
                show PuE _ _ _ (.lst ((ps.map unI).map DV.int))
                rw [← all_I hi]
                exact i1
              exact px_ret (pu_op i1' (call1 (pu_var rfl) (sp_rings f h)) in_II) rfl
          rintro _ ⟨hw, rfl⟩
          have eW : showW rs w y r = ((y :: r).all isI && (if decide (w = "session") = true then sesB rs y r else decide (w = "group") && grpB rs y r)) := by unfold showW; rw [decide_eq_false hw, if_neg Bool.false_ne_true]
          rw [eW]
          refine px_seq (M := fun δ' => (y :: r).all isI = true ∧ δ' = [some img, some (.tup (.str w :: y :: r)), some (.ref k), none]) (px_if (pt_not (pt_tru (pu_allnum (pi_any (sl_T v1) rfl) (fun z hz => hx.tup z (List.mem_cons_of_mem _ hz)) (by simp only [List.length_cons] at hxl ⊢; omega)))) (fun z => px_ret pu_c ?_) fun z => px_next ⟨by simpa using z, rfl⟩) ?_
          · have e : (y :: r).all isI = false := by cases e : (y :: r).all isI <;> rw [e] at z <;> first | rfl | cases z
            rw [e]; rfl
          rintro _ ⟨hi, rfl⟩
          rw [hi, Bool.true_and]
          have hy : y = .int (unI y) := by
            rw [List.all_cons, Bool.and_eq_true] at hi
            cases y <;> first | rfl | cases hi.1
          have i1' : PuE (wOp dIx (wVar 1) (wC (.int 1))) [some img, some (.tup (.str w :: y :: r)), some (.ref k), none] m (.int (unI y)) := by
            rw [← hy]; exact i1
          refine px_seq (M := fun δ' => w ≠ "session" ∧ δ' = [some img, some (.tup (.str w :: y :: r)), some (.ref k), none]) (px_if (pt_bl (pu_op i0 pu_c eq_str)) (fun hs => ?_) fun hs => px_next ⟨of_decide_eq_false hs, rfl⟩) ?_
          · -- a session
            rw [hs, if_pos rfl]
            have l3 : PuE (wOp (dEq false) (wB dLen (wCons (wVar 1) (wNil))) (wC (.int 3))) [some img, some (.tup (.str w :: y :: r)), some (.ref k), none] m (.bl (decide (((DV.str w :: y :: r).length : Int) = 3))) := pu_e (pu_lenT v1) pu_c
            have no : (¬ ∃ z, r = [z]) → PuX (wRet (wAnd (wOp (dEq false) (wB dLen (wCons (wVar 1) (wNil))) (wC (.int 3))) (wAnd (wOp (dIn false) (wOp dIx (wVar 1) (wC (.int 1))) (wMeth 0 S_Kin_sessions [] (wVar 2) wNil)) (wOp (dIn false) (wOp dIx (wVar 1) (wC (.int 2))) (wCall S_torn_in_session [] (wCons (wVar 2) (wCons (wOp dIx (wVar 1) (wC (.int 1))) (wNil)))))))) [some img, some (.tup (.str w :: y :: r)), some (.ref k), none] m (fun δ' => w ≠ "session" ∧ δ' = [some img, some (.tup (.str w :: y :: r)), some (.ref k), none]) (fun v => v = .bl (sesB rs y r)) := fun hr => by
              have hl : ¬ ((DV.str w :: y :: r).length : Int) = 3 := fun z => hr (by
                cases r with
                | nil => simp at z
                | cons a r => cases r with
                  | nil => exact ⟨a, rfl⟩
                  | cons b r => simp at z; omega)
              have e : sesB rs y r = false := by
                unfold sesB
                split
                · rename_i z; exact absurd ⟨z, rfl⟩ hr
                · rfl
              rw [decide_eq_false hl] at l3
              exact px_ret (pu_and (c := false) l3 fun z => Bool.noConfusion z) (by rw [e]; rfl)
            by_cases hr : ∃ z, r = [z]
            · obtain ⟨z, rfl⟩ := hr
              have hz : z = .int (unI z) := by
                rw [List.all_cons, List.all_cons, Bool.and_eq_true, Bool.and_eq_true] at hi
                cases z <;> first | rfl | cases hi.2.1
              have i2 : PuE (wOp dIx (wVar 1) (wC (.int 2))) [some img, some (.tup [.str w, y, z]), some (.ref k), none] m (.int (unI z)) := by
                rw [← hz]; exact pu_op v1 pu_c (ix_T (i := 2) rfl)
              refine px_ret (v := .bl (true && ((sessF rs).contains (unI y) && (tornF rs (unI y)).contains (unI z)))) (pu_and l3 fun _ => pu_and (pu_in i1' (pu_m0 (i := 2) h rfl (sp_sessions h))) fun hS => pu_in i2 (call2 (pu_var rfl) i1' (sp_torn f h (.inr (.inr (tops_ne f (List.contains_iff_mem.mp hS))))))) rfl
            · exact no hr
          rintro _ ⟨hs, rfl⟩
          rw [decide_eq_false hs, if_neg Bool.false_ne_true]
          refine px_ret (pu_and (pu_op i0 pu_c eq_str) (c := grpB rs y r) fun _ => ?_) rfl
          have l3 : PuE (wOp (dEq false) (wB dLen (wCons (wVar 1) (wNil))) (wC (.int 2))) [some img, some (.tup (.str w :: y :: r)), some (.ref k), none] m (.bl (decide (((DV.str w :: y :: r).length : Int) = 2))) := pu_e (pu_lenT v1) pu_c
          cases r with
          | cons z r =>
            rw [decide_eq_false (by simp; omega)] at l3
            exact pu_and (c := false) l3 fun z => Bool.noConfusion z
          | nil =>
            show PuE _ _ _ (.bl (true && ((grpsF rs).contains (unI y) && splitF rs (unI y))))
            exact pu_and l3 fun _ => pu_and (pu_in i1' (pu_m0 (i := 2) h rfl (sp_groups h))) fun hG => call2 (pu_var rfl) i1' (sp_split f h (gmem_ne (List.contains_iff_mem.mp hG)))
        | _ => exact show_no (pt_or (b := false) (c := true) (pt_not (b := true) (pt_tru tx)) fun _ => pt_or (b := false) (c := true) l2 fun _ => pt_not (b := false) (pt_tru (pu_isi i0 fun m' _ => by rfl))) rfl
  | _ => exact show_no (pt_or (b := true) (c := false) (pt_not (b := false) (pt_tru tx)) fun z => Bool.noConfusion z) rfl
theorem sp_shows (f : Fam rs) (hi : ImgIs img rs) (hs : (rs.map (·.n)).Pairwise (· < ·)) (hx : Mat x) : PuS S_shows_bar [img, x] m (.bl (showB rs x)) := fun m' Q sb q => by
  refine ⟨rfl, ?_⟩
  show w_shows_bar { nx := fun _ m' => Q .non m', rt := Q } [some img, some x, none, none] m'
  unfold w_shows_bar
  refine go_seq (go_set (go_make (go_cons (go_var rfl (go_nil fun k hk => ?_)))))
  refine sp_init hi f.few hs hk (Sub.put hk) put_same fun m2 s2 h => ⟨rfl, ?_⟩
  exact shows_pu f h hx _ m2 (.refl _) (fun _ _ _ z => False.elim z) fun v m3 s3 e => by subst e; exact q m3 (s2.trans s3)
end
end Law
namespace Law
open PySem PySem.Spec PyProof.Rows L2 DL
structure Mo (φ : Int → Int) : Prop where
  lt : ∀ x y, x < y → φ x < φ y
  z : φ 0 = 0
  o : φ 1 = 1
def mR (φ : Int → Int) (r : Row) : Row := { r with n := φ r.n, up := φ r.up, s := φ r.s, g := φ r.g }
abbrev mX (φ : Int → Int) (rs : List Row) : List Row := rs.map (mR φ)
def mO (φ : Int → Int) : DV → DV
  | .int u => .int (φ u)
  | d => d
def mD1 (φ : Int → Int) : DV → DV
  | .int i => .int (φ i)
  | .lst xs => .lst (xs.map (mO φ))
  | d => d
def mDt (φ : Int → Int) : DV → DV
  | .tup xs => .tup (xs.map (mD1 φ))
  | d => d
section
variable {φ : Int → Int} {rs : List Row} {n S g u : Int} (h : Mo φ)
include h
theorem Mo.le (x y : Int) : φ x ≤ φ y ↔ x ≤ y := by
  constructor
  · intro q
    by_cases z : x ≤ y
    · exact z
    · have := h.lt y x (by omega); omega
  · intro q
    by_cases z : x = y
    · rw [z]; exact Int.le_refl _
    · have := h.lt x y (by omega); omega
theorem Mo.eq (x y : Int) : φ x = φ y ↔ x = y := by
  constructor
  · intro q
    have h1 := (h.le x y).mp (by omega)
    have h2 := (h.le y x).mp (by omega)
    omega
  · intro q; rw [q]
theorem Mo.dec (x y : Int) : decide (φ x = φ y) = decide (x = y) := decide_eq_decide.mpr (h.eq x y)
theorem Mo.dec1 (x : Int) : decide (φ x = 1) = decide (x = 1) := by
  have := h.dec x 1
  rw [h.o] at this; exact this
theorem Mo.e1 (x : Int) : φ x = 1 ↔ x = 1 := by
  have := h.eq x 1
  rw [h.o] at this; exact this
theorem na_look : ∀ rs : List Row, look (mX φ rs) (φ n) = (look rs n).map (mR φ)
  | [] => rfl
  | r :: rs => by
    show (if φ r.n = φ n then some (mR φ r) else look (mX φ rs) (φ n)) = (if r.n = n then some r else look rs n).map (mR φ)
    by_cases e : r.n = n
    · rw [if_pos e, if_pos ((h.eq _ _).mpr e)]; rfl
    · rw [if_neg e, if_neg fun z => e ((h.eq _ _).mp z), na_look rs]
theorem na_in (n : Int) : isIn (mX φ rs) (φ n) = isIn rs n := by
  unfold isIn; rw [na_look h]; cases look rs n <;> rfl
theorem na_up (n : Int) : upF (mX φ rs) (φ n) = φ (upF rs n) := by
  unfold upF; rw [na_look h]
  cases look rs n with
  | none => exact h.z.symm
  | some r => rfl
theorem na_ses (n : Int) : sesF (mX φ rs) (φ n) = φ (sesF rs n) := by
  unfold sesF
  by_cases e : n = 1
  · rw [if_pos e, if_pos ((h.e1 n).mpr e)]; exact h.o.symm
  · rw [if_neg e, if_neg fun z => e ((h.e1 n).mp z), na_look h]
    cases look rs n with
    | none => exact h.z.symm
    | some r => rfl
theorem na_grp (n : Int) : grpF (mX φ rs) (φ n) = φ (grpF rs n) := by
  unfold grpF; rw [na_look h]
  cases look rs n with
  | none => exact h.z.symm
  | some r => rfl
theorem na_ad (n : Int) : adF (mX φ rs) (φ n) = adF rs n := by
  unfold adF; rw [na_look h, h.dec1]; cases look rs n <;> rfl
theorem na_end (n : Int) : endF (mX φ rs) (φ n) = endF rs n := by
  unfold endF; rw [na_look h]; cases look rs n <;> rfl
omit h in
theorem na_nums : nums (mX φ rs) = (nums rs).map φ := by
  unfold nums
  rw [List.map_map, List.map_map]; rfl
omit h in
theorem fil {p q : Int → Bool} (e : ∀ x, p (φ x) = q x) (l : List Int) : (l.map φ).filter p = (l.filter q).map φ := by
  rw [List.filter_map]
  congr 2
  funext x; exact e x
theorem na_con (l : List Int) (x : Int) : (l.map φ).contains (φ x) = l.contains x := by
  induction l with
  | nil => rfl
  | cons a l ih =>
    rw [List.map_cons, List.contains_cons, List.contains_cons, ih]
    congr 1
    have := h.dec x a
    rw [show (φ x == φ a) = decide (φ x = φ a) from rfl, show (x == a) = decide (x = a) from rfl]
    exact this
theorem na_mem (S : Int) : memF (mX φ rs) (φ S) = (memF rs S).map φ := by
  unfold memF
  rw [na_nums]
  exact fil (fun x => by rw [na_ses h, h.dec]) _
theorem na_gmem (g : Int) : gmemF (mX φ rs) (φ g) = (gmemF rs g).map φ := by
  unfold gmemF
  rw [na_nums]
  exact fil (fun x => by rw [na_grp h, h.dec]) _
theorem na_topB (n : Int) : topB (mX φ rs) (φ n) = topB rs n := by
  unfold topB
  rw [na_up h, h.dec1, na_ses h, na_ses h, h.dec]
theorem na_tops (S : Int) : topsF (mX φ rs) (φ S) = (topsF rs S).map φ := by
  unfold topsF
  rw [na_mem h]
  exact fil (fun x => na_topB h x) _
theorem na_ftops (S : Int) : ftopsF (mX φ rs) (φ S) = (ftopsF rs S).map φ := by
  unfold ftopsF
  rw [na_tops h]
  exact fil (fun x => by rw [h.dec]) _
theorem na_aboveN : ∀ (j : Nat) (u : Int), aboveN (mX φ rs) j (φ u) = φ (aboveN rs j u)
  | 0, u => rfl
  | j + 1, u => by
    show (if adF (mX φ rs) (φ u) = true then φ u else aboveN (mX φ rs) j (upF (mX φ rs) (φ u))) = φ (if adF rs u = true then u else aboveN rs j (upF rs u))
    rw [na_ad h, na_up h, na_aboveN j]
    split <;> rfl
theorem na_above (n : Int) : aboveF (mX φ rs) (φ n) = φ (aboveF rs n) := by
  unfold aboveF; rw [na_up h, na_aboveN h]
theorem na_branch (p : Int) : ∀ (j : Nat) (u : Int), branchN (mX φ rs) (φ p) j (φ u) = φ (branchN rs p j u)
  | 0, u => rfl
  | j + 1, u => by
    show (if φ u = 1 ∨ upF (mX φ rs) (φ u) = φ p then φ u else branchN (mX φ rs) (φ p) j (upF (mX φ rs) (φ u))) = φ (if u = 1 ∨ upF rs u = p then u else branchN rs p j (upF rs u))
    rw [na_up h, na_branch p j]
    by_cases e : u = 1 ∨ upF rs u = p
    · rw [if_pos e, if_pos (e.imp (h.e1 u).mpr (h.eq _ _).mpr)]
    · rw [if_neg e, if_neg fun z => e (z.imp (h.e1 u).mp (h.eq _ _).mp)]
theorem na_ins (x : Int) : ∀ l : List Int, insI (φ x) (l.map φ) = (insI x l).map φ
  | [] => rfl
  | y :: l => by
    show (if φ x ≤ φ y then φ x :: φ y :: l.map φ else φ y :: insI (φ x) (l.map φ)) = (if x ≤ y then x :: y :: l else y :: insI x l).map φ
    rw [na_ins x l]
    by_cases e : x ≤ y
    · rw [if_pos e, if_pos ((h.le _ _).mpr e)]; rfl
    · rw [if_neg e, if_neg fun z => e ((h.le _ _).mp z)]; rfl
theorem na_sortI : ∀ l : List Int, sortI (l.map φ) = (sortI l).map φ
  | [] => rfl
  | x :: l => by
    show insI (φ x) (sortI (l.map φ)) = (insI x (sortI l)).map φ
    rw [na_sortI l, na_ins h]
theorem na_ddI : ∀ l : List Int, ddI (l.map φ) = (ddI l).map φ
  | [] => rfl
  | x :: l => by
    show (if φ x ∈ l.map φ then ddI (l.map φ) else φ x :: ddI (l.map φ)) = (if x ∈ l then ddI l else x :: ddI l).map φ
    rw [na_ddI l]
    by_cases e : x ∈ l
    · rw [if_pos e, if_pos (List.mem_map.mpr ⟨x, e, rfl⟩)]
    · rw [if_neg e, if_neg fun z => by
        obtain ⟨y, hy, hz⟩ := List.mem_map.mp z
        exact e ((h.eq _ _).mp hz ▸ hy)]
      rfl
theorem na_sortU (l : List Int) : sortU (l.map φ) = (sortU l).map φ := by
  unfold sortU; rw [na_ddI h, na_sortI h]
theorem na_sess : sessF (mX φ rs) = (sessF rs).map φ := by
  unfold sessF
  rw [na_nums, ← na_sortU h, List.map_map, List.map_map]
  congr 1
  exact List.map_congr_left fun x _ => na_ses h x
theorem na_grps : grpsF (mX φ rs) = (grpsF rs).map φ := by
  unfold grpsF
  rw [na_nums, ← na_sortU h, List.map_map, List.map_map]
  congr 1
  exact List.map_congr_left fun x _ => na_grp h x
theorem na_head (l : List Int) : (l.map φ).headD 0 = φ (l.headD 0) := by
  cases l with
  | nil => exact h.z.symm
  | cons a l => rfl
theorem na_torn (S : Int) : tornF (mX φ rs) (φ S) = (tornF rs S).map φ := by
  unfold tornF
  rw [na_in h, na_ses h, na_grp h, h.dec, h.dec, na_tops h, na_above h, na_head h, na_up h, na_ad h]
  by_cases e : isIn rs S = true
  · rw [if_pos e, if_pos e, ← na_sortI h, List.map_append]
    congr 2
    · split <;> rfl
    · exact fil (fun x => by rw [h.dec, na_up h, h.dec]) _
  · rw [if_neg e, if_neg e]
    by_cases e1 : S = 1
    · rw [if_pos e1, if_pos ((h.e1 S).mpr e1)]
      exact fil (fun x => by rw [na_up h, h.dec1]) _
    · rw [if_neg e1, if_neg fun z => e1 ((h.e1 S).mp z)]
      exact fil (fun x => by rw [na_up h, h.dec]) _
theorem na_gses (g : Int) : gsesF (mX φ rs) (φ g) = (gsesF rs g).map φ := by
  unfold gsesF
  rw [na_gmem h, ← na_sortU h, List.map_map, List.map_map]
  congr 1
  exact List.map_congr_left fun x _ => na_ses h x
theorem na_split (g : Int) : splitF (mX φ rs) (φ g) = splitF rs g := by
  unfold splitF
  rw [na_gses h, List.length_map, na_in h, na_ses h, na_head h, h.dec, h.dec, h.dec1, na_sess h, na_con h]
theorem na_opt (u : Int) : optD (φ u) = mO φ (optD u) := by
  unfold optD
  by_cases e : u = 1
  · rw [if_pos e, if_pos ((h.e1 u).mpr e)]; rfl
  · rw [if_neg e, if_neg fun z => e ((h.e1 u).mp z)]; rfl
theorem na_need (n : Int) : needF (mX φ rs) (φ n) = mO φ (needF rs n) := by
  unfold needF
  rw [na_ses h, na_in h, h.dec, na_topB h, na_up h, na_branch h, na_opt h]
  split <;> rfl
theorem na_chain : ∀ (j : Nat) (row : List Int) (l : DV), chainN (mX φ rs) j (row.map φ) (mO φ l) = ((chainN rs j row l).1.map φ, mO φ (chainN rs j row l).2)
  | 0, row, l => rfl
  | j + 1, row, l => by
    cases l with
    | int u =>
      show (if (row.map φ).contains (φ u) = true then (row.map φ, DV.int (φ u)) else chainN (mX φ rs) j (row.map φ ++ [φ u]) (needF (mX φ rs) (φ u))) = _
      rw [na_con h, na_need h, show row.map φ ++ [φ u] = (row ++ [u]).map φ from by rw [List.map_append]; rfl, na_chain j]
      show _ = ((if row.contains u = true then (row, DV.int u) else chainN rs j (row ++ [u]) (needF rs u)).1.map φ, mO φ (if row.contains u = true then (row, DV.int u) else chainN rs j (row ++ [u]) (needF rs u)).2)
      split <;> rfl
    | _ => rfl
theorem na_ends (l : DV) (n : Int) : endsAt (mO φ l) (φ n) = endsAt l n := by
  cases l <;> first | rfl | exact h.dec _ _
end
end Law
namespace Law
open PySem PySem.Spec PyProof.Rows L2 DL
section
variable {φ : Int → Int} {rs : List Row} {n S g u : Int} (h : Mo φ)
include h
theorem na_min : ∀ l : List Int, minL (l.map φ) = φ (minL l)
  | [] => h.z.symm
  | [x] => rfl
  | x :: y :: r => by
    show (if φ x ≤ minL ((y :: r).map φ) then φ x else minL ((y :: r).map φ)) = φ (if x ≤ minL (y :: r) then x else minL (y :: r))
    rw [na_min (y :: r)]
    by_cases e : x ≤ minL (y :: r)
    · rw [if_pos e, if_pos ((h.le _ _).mpr e)]
    · rw [if_neg e, if_neg fun z => e ((h.le _ _).mp z)]
theorem na_ring (n : Int) : ringOf (mX φ rs) (φ n) = (ringOf rs n).map (List.map φ) := by
  have hc := na_chain h (rs := rs) 63 [n] (needF rs n)
  rw [← na_need h] at hc
  have hc : chainN (mX φ rs) 63 [φ n] (needF (mX φ rs) (φ n)) = ((chainN rs 63 [n] (needF rs n)).1.map φ, mO φ (chainN rs 63 [n] (needF rs n)).2) := hc
  unfold ringOf
  rw [hc, na_ends h, na_min h, h.dec]
  split <;> rfl
theorem na_rings : ringsF (mX φ rs) = (ringsF rs).map (List.map φ) := by
  unfold ringsF
  rw [na_nums, List.filterMap_map, List.map_filterMap]
  congr 1
  funext n
  exact na_ring h n
theorem na_lostS : lostSF (mX φ rs) = (lostSF rs).map φ := by
  unfold lostSF
  rw [na_sess h]
  exact fil (fun x => by rw [h.dec1, na_in h]) _
theorem na_lostG : lostGF (mX φ rs) = (lostGF rs).map φ := by
  unfold lostGF
  rw [na_grps h, na_lostS h]
  refine fil (fun x => ?_) _
  rw [na_con h, na_in h]
  have : (φ x == 1) = (x == 1) := h.dec1 x
  rw [this]
theorem na_lostIn (S : Int) : lostInF (mX φ rs) (φ S) = (lostInF rs S).map φ := by
  unfold lostInF
  rw [na_lostG h]
  exact fil (fun g => by rw [na_gmem h, na_head h, na_ses h, h.dec]) _
theorem na_reachB (S u : Int) : reachB (mX φ rs) (φ S) (φ u) = reachB rs S u := by
  unfold reachB
  rw [na_in h, h.dec, na_ses h, h.dec, na_ad h]
theorem na_reachN (S : Int) : ∀ (j : Nat) (u : Int), reachN (mX φ rs) (φ S) j (φ u) = φ (reachN rs S j u)
  | 0, u => rfl
  | j + 1, u => by
    show (if reachB (mX φ rs) (φ S) (φ u) = true then reachN (mX φ rs) (φ S) j (upF (mX φ rs) (φ u)) else φ u) = φ (if reachB rs S u = true then reachN rs S j (upF rs u) else u)
    rw [na_reachB h, na_up h, na_reachN S j]
    split <;> rfl
theorem na_ended (S : Int) : endedF (mX φ rs) (φ S) = (endedF rs S).map φ := by
  unfold endedF
  rw [na_mem h]
  exact fil (fun x => na_end h x) _
theorem na_reachF (S n : Int) : reachF (mX φ rs) (φ S) (φ n) = reachF rs S n := by
  unfold reachF
  rw [na_up h, na_reachN h, h.dec, na_ad h]
theorem na_bears (S : Int) : bearsF (mX φ rs) (φ S) = (bearsF rs S).map φ := by
  unfold bearsF
  rw [na_ended h, na_con h, List.map_append]
  congr 1
  · split <;> rfl
  · exact fil (fun x => na_reachF h S x) _
omit h in
theorem emp_map (l : List Int) : (l.map φ).isEmpty = l.isEmpty := by cases l <;> rfl
theorem na_moreB (S : Int) : moreB (mX φ rs) (φ S) = moreB rs S := by
  unfold moreB
  rw [na_in h, na_ftops h, na_lostIn h, na_bears h, emp_map, emp_map, emp_map]
theorem na_more : moreF (mX φ rs) = (moreF rs).map φ := by
  unfold moreF
  rw [na_sess h]
  exact fil (fun S => na_moreB h S) _
theorem na_sesRs : ∀ Ss : List Int, sesRs (mX φ rs) (Ss.map φ) = (sesRs rs Ss).map (mDt φ)
  | [] => rfl
  | S :: r => by
    have ih := na_sesRs r
    unfold sesRs at ih ⊢
    rw [List.map_cons, List.flatMap_cons, List.flatMap_cons, ih, na_torn h, List.map_append, List.map_map, List.map_map]
    rfl
theorem na_reas : reasF (mX φ rs) = (reasF rs).map (mDt φ) := by
  unfold reasF
  rw [na_sess h, na_sesRs h, na_grps h, na_rings h, List.map_append, List.map_append, List.map_map, List.map_map, List.map_map]
  congr 1
  · congr 1
    rw [fil (p := splitF (mX φ rs)) (q := splitF rs) (fun x => na_split h x), List.map_map]
    rfl
  · refine List.map_congr_left fun row _ => ?_
    show ringR (row.map φ) = mDt φ (ringR row)
    unfold ringR mDt
    show DV.tup [.str "ring", iL (row.map φ)] = .tup [.str "ring", .lst ((row.map DV.int).map (mO φ))]
    unfold iL
    rw [List.map_map, List.map_map]
    rfl
theorem na_bar : barF (mX φ rs) = mDt φ (barF rs) := by
  rw [bar_first, bar_first, na_reas h]
  cases reasF rs <;> rfl
omit h in
/-- steps up to the root -/
def depF (rs : List Row) : Nat → Int → Nat
  | 0, _ => 0
  | j + 1, u => if u = 1 then 0 else depF rs j (upF rs u) + 1
theorem na_dep : ∀ (j : Nat) (u : Int), depF (mX φ rs) j (φ u) = depF rs j u
  | 0, u => rfl
  | j + 1, u => by
    show (if φ u = 1 then 0 else depF (mX φ rs) j (upF (mX φ rs) (φ u)) + 1) = if u = 1 then 0 else depF rs j (upF rs u) + 1
    rw [na_up h, na_dep j]
    by_cases e : u = 1
    · rw [if_pos e, if_pos ((h.e1 u).mpr e)]
    · rw [if_neg e, if_neg fun z => e ((h.e1 u).mp z)]
omit h in
theorem dep_le : ∀ (j : Nat) (u : Int), depF rs j u ≤ j
  | 0, u => Nat.le_refl _
  | j + 1, u => by
    show (if u = 1 then 0 else depF rs j (upF rs u) + 1) ≤ j + 1
    split
    · omega
    · have := dep_le j (upF rs u); omega
omit h in
/-- a family, at sight -/
def famB (rs : List Row) : Bool := rs.all (fun r => decide (r.up = 1) || (isIn rs r.up && decide (depF rs 20 r.up < depF rs 20 r.n))) && (!isIn rs 1 && (decide (rs.length ≤ 10) && (List.range rs.length).all fun i => match rs[i]?, rs[i + 1]? with
  | some a, some b => decide (a.n < b.n)
  | _, _ => true))
omit h in
theorem adj_lt : ∀ {rs : List Row}, (∀ (i : Nat) (a b : Row), rs[i]? = some a → rs[i + 1]? = some b → a.n < b.n) → (rs.map (·.n)).Pairwise (· < ·)
  | [], _ => .nil
  | [a], _ => List.pairwise_cons.mpr ⟨fun x hx => (by cases hx), .nil⟩
  | a :: b :: rs, hh => by
    have ih := adj_lt (rs := b :: rs) fun i x y h1 h2 => hh (i + 1) x y h1 h2
    have hab : a.n < b.n := hh 0 a b rfl rfl
    refine List.pairwise_cons.mpr ⟨fun x hx => ?_, ih⟩
    rcases List.mem_cons.mp hx with rfl | hx
    · exact hab
    · have := (List.pairwise_cons.mp ih).1 x hx
      exact Int.lt_trans hab this
omit h in
theorem famB_srt (hb : famB rs = true) : (rs.map (·.n)).Pairwise (· < ·) := by
  unfold famB at hb
  simp only [Bool.and_eq_true] at hb
  refine adj_lt fun i a b h1 h2 => ?_
  have hi : i < rs.length := (List.getElem?_eq_some_iff.mp h1).1
  have := List.all_eq_true.mp hb.2.2.2 i (List.mem_range.mpr hi)
  rw [h1, h2] at this
  exact of_decide_eq_true this
theorem famB_fam (hb : famB rs = true) : Fam (mX φ rs) := by
  unfold famB at hb
  simp only [Bool.and_eq_true] at hb
  obtain ⟨h1, h2, h3, _⟩ := hb
  refine ⟨⟨depF (mX φ rs) 20, fun n r hr => ?_, fun n => by have := dep_le (rs := mX φ rs) 20 n; omega⟩, ?_, ?_⟩
  · obtain ⟨hm, hn⟩ := look_mem hr
    obtain ⟨r0, hm0, rfl⟩ := List.mem_map.mp hm
    have := List.all_eq_true.mp h1 r0 hm0
    rw [Bool.or_eq_true, Bool.and_eq_true] at this
    have hn : φ r0.n = n := hn
    subst hn
    rcases this with e | ⟨e1, e2⟩
    · left
      show φ r0.up = 1
      exact (h.e1 _).mpr (of_decide_eq_true e)
    · right
      show isIn (mX φ rs) (φ r0.up) = true ∧ depF (mX φ rs) 20 (φ r0.up) < depF (mX φ rs) 20 (φ r0.n)
      rw [na_in h, na_dep h, na_dep h]
      exact ⟨e1, of_decide_eq_true e2⟩
  · have : isIn (mX φ rs) (φ 1) = isIn rs 1 := na_in h 1
    rw [h.o] at this
    have h2' : isIn rs 1 = false := by simpa using h2
    rw [h2'] at this
    unfold isIn at this
    cases e : look (mX φ rs) 1 with
    | none => rfl
    | some r => rw [e] at this; cases this
  · rw [List.length_map]
    have := of_decide_eq_true h3
    omega
theorem famB_lt (hb : famB rs = true) : ((mX φ rs).map (·.n)).Pairwise (· < ·) := by
  have := famB_srt hb
  rw [List.pairwise_map] at this
  rw [List.pairwise_map]
  unfold mX
  rw [List.pairwise_map]
  exact this.imp fun {a b} q => h.lt _ _ q
end
end Law
namespace Law
open PySem PySem.Spec PyProof.Rows L2 DL
abbrev T5 := Int × Int × Int × Int × Int
def tLedF : List (List T5 × List Int × List Int × List Int) := [([(2, 1, 1, 1, 0)], [], [], []),
  ([(2, 1, 1, 1, 0), (3, 2, 3, 3, 1)], [], [], []),
  ([(2, 1, 2, 2, 1), (3, 2, 3, 3, 0)], [], [], []),
  ([(2, 1, 2, 2, 1), (3, 2, 3, 3, 0), (4, 2, 3, 3, 0)], [], [], [3]),
  ([(2, 1, 2, 2, 1), (3, 2, 3, 3, 0), (4, 2, 3, 3, 0), (5, 3, 3, 3, -1)], [], [], []),
  ([(2, 1, 2, 2, 1), (3, 2, 3, 3, -1), (4, 2, 3, 3, 0)], [], [], []),
  ([(2, 1, 2, 2, 1), (3, 2, 3, 3, 0), (4, 2, 3, 7, 0)], [], [7], []),
  ([(2, 1, 2, 2, 1), (3, 2, 3, 3, 0), (4, 2, 3, 3, 0), (5, 3, 3, 7, 0)], [], [7], []),
  ([(2, 1, 2, 2, 1), (3, 2, 3, 3, 1), (4, 2, 3, 3, 0), (5, 3, 3, 3, -1)], [], [], [3]),
  ([(2, 1, 2, 2, 1), (3, 2, 3, 3, 0), (4, 2, 3, 3, 0), (5, 3, 3, 3, 0), (6, 5, 3, 3, -1)], [], [], []),
  ([(2, 1, 2, 2, 1), (3, 2, 3, 3, 0), (4, 2, 3, 3, 0), (5, 3, 3, 3, 1), (6, 5, 3, 3, -1)], [], [], [3]),
  ([(2, 1, 2, 2, 1), (3, 2, 3, 3, 0), (4, 2, 3, 3, 0), (5, 4, 3, 5, 0), (6, 4, 3, 3, -1)], [], [], [3])]
def tLedB : List (List T5 × DV) := [([(2, 1, 2, 2, 0), (3, 2, 3, 3, 0), (4, 2, 3, 3, 0)], .tup [.str "session", .int 3, .int 4]),
  ([(2, 1, 2, 2, 1), (3, 2, 3, 2, 0)], .tup [.str "session", .int 3, .int 3]),
  ([(2, 1, 2, 2, 1), (3, 2, 2, 2, 1), (4, 3, 4, 4, 0), (5, 2, 4, 4, 0)], .tup [.str "session", .int 4, .int 5]),
  ([(2, 1, 2, 2, 1), (3, 2, 1, 1, 0), (4, 3, 1, 1, 0)], .tup [.str "session", .int 1, .int 3]),
  ([(2, 1, 2, 2, 1), (3, 2, 2, 2, 0), (4, 3, 3, 3, 0)], .tup [.str "session", .int 3, .int 3])]
def tLostF : List (List T5 × List Int × List Int × List Int) := [([(2, 1, 2, 2, 1), (3, 2, 7, 7, 0), (4, 2, 7, 7, 0)], [7], [], []),
  ([(2, 1, 7, 7, 0), (3, 2, 7, 7, 1), (4, 3, 7, 3, -1)], [7], [], []),
  ([(2, 1, 2, 2, 1), (3, 2, 7, 7, 0), (4, 2, 7, 7, 0), (5, 4, 7, 7, 0), (6, 5, 6, 6, 0)], [7], [], []),
  ([(2, 1, 1, 7, 0), (3, 2, 1, 7, 0)], [], [7], []),
  ([(2, 1, 1, 1, 0), (3, 2, 1, 2, 0)], [], [], [])]
def tLostB : List (List T5 × DV) := [([(2, 1, 2, 2, 0), (3, 2, 7, 7, 0), (4, 2, 7, 7, 0)], .tup [.str "session", .int 7, .int 3]),
  ([(2, 1, 2, 2, 1), (3, 2, 7, 7, 0), (4, 2, 2, 2, 1), (5, 4, 7, 7, 0)], .tup [.str "session", .int 7, .int 5]),
  ([(2, 1, 7, 7, 1), (3, 2, 3, 3, 0), (4, 3, 7, 7, 0)], .tup [.str "session", .int 7, .int 4]),
  ([(2, 1, 2, 2, 1), (3, 2, 2, 2, 0), (4, 3, 7, 7, 0)], .tup [.str "session", .int 7, .int 4]),
  ([(2, 1, 2, 2, 1), (3, 2, 3, 3, 0), (4, 3, 3, 7, 0), (5, 2, 2, 7, 0)], .tup [.str "group", .int 7]),
  ([(2, 1, 2, 2, 1), (3, 2, 3, 3, 0), (4, 3, 3, 3, 0), (5, 2, 2, 4, 0)], .tup [.str "group", .int 4]),
  ([(2, 1, 2, 2, 1), (3, 2, 3, 3, 0), (4, 2, 2, 3, 0)], .tup [.str "group", .int 3]),
  ([(2, 1, 2, 2, 1), (4, 2, 2, 1, 0)], .tup [.str "group", .int 1]),
  ([(2, 1, 2, 2, 1), (3, 2, 3, 3, 0), (4, 3, 3, 2, 0)], .tup [.str "group", .int 2]),
  ([(2, 1, 2, 2, 1), (3, 2, 7, 7, 0), (4, 2, 7, 7, 0), (5, 2, 2, 7, 0)], .tup [.str "group", .int 7])]
def tRingF : List (List T5 × List Int × List Int × List Int) := [([(2, 1, 2, 2, 1), (3, 2, 5, 5, 0), (4, 2, 4, 4, 0), (5, 4, 5, 5, 0)], [], [], [5])]
def tRingB : List (List T5 × DV) := [([(2, 1, 2, 2, 1), (3, 2, 4, 4, 0), (4, 3, 4, 4, 0)], .tup [.str "ring", .lst [.int 3]]),
  ([(2, 1, 2, 2, 1), (3, 2, 6, 6, 0), (4, 2, 5, 5, 0), (5, 3, 5, 5, 0), (6, 4, 6, 6, 0)], .tup [.str "ring", .lst [.int 3, .int 4]]),
  ([(2, 1, 3, 3, 0), (3, 2, 3, 3, 0)], .tup [.str "ring", .lst [.int 2]]),
  ([(2, 1, 3, 3, 1), (3, 2, 3, 3, 0)], .tup [.str "session", .int 3, .int 2]),
  ([(2, 1, 2, 2, 1), (3, 2, 4, 4, 1), (4, 3, 4, 4, 0)], .tup [.str "session", .int 4, .int 3]),
  ([(2, 1, 2, 2, 1), (3, 2, 8, 8, 0), (4, 2, 9, 9, 0), (5, 2, 10, 10, 0), (8, 4, 8, 8, 0), (9, 5, 9, 9, 0), (10, 3, 10, 10, 0)], .tup [.str "ring", .lst [.int 3, .int 4, .int 5]])]
def twoT : List T5 := [(2, 1, 2, 2, 1), (3, 2, 6, 6, 0), (4, 2, 5, 5, 0), (5, 3, 5, 5, 0), (6, 4, 6, 6, 0)]
def farT : List T5 := [(2, 1, 2, 2, 1), (3, 2, 8, 8, 0), (4, 2, 9, 9, 0), (5, 2, 10, 10, 0), (8, 4, 8, 8, 0), (9, 5, 9, 9, 0), (10, 3, 10, 10, 0)]
def toRow (t : T5) : Row := ⟨t.1, t.2.1, t.2.2.1, t.2.2.2.1, decide (0 < t.2.2.2.2), if decide (t.2.2.2.2 < 0) = true then "ended" else "runs"⟩
def insR (r : Row) : List Row → List Row
  | [] => [r]
  | x :: l => if r.n ≤ x.n then r :: x :: l else x :: insR r l
def srtR : List Row → List Row
  | [] => []
  | r :: l => insR r (srtR l)
theorem insR_perm (r : Row) : ∀ l : List Row, (insR r l).Perm (r :: l)
  | [] => .refl _
  | x :: l => by
    unfold insR
    split
    · exact .refl _
    · exact ((insR_perm r l).cons x).trans (.swap _ _ _)
theorem srtR_perm : ∀ l : List Row, (srtR l).Perm l
  | [] => .refl _
  | r :: l => (insR_perm r (srtR l)).trans ((srtR_perm l).cons r)
/-- a family's rows in order -/
def famT (T : List T5) : List Row := srtR (T.map toRow)
def chkF (c : List T5 × List Int × List Int × List Int) : Bool := famB (famT c.1) && ((reasF (famT c.1)).isEmpty && (decide (lostSF (famT c.1) = c.2.1) && (decide (lostGF (famT c.1) = c.2.2.1) && decide (moreF (famT c.1) = c.2.2.2))))
def chkB (c : List T5 × DV) : Bool := famB (famT c.1) && (!(reasF (famT c.1)).isEmpty && eqN 5 (barF (famT c.1)) c.2)
theorem led_f : tLedF.all chkF = true := by decide +kernel
theorem led_b : tLedB.all chkB = true := by decide +kernel
theorem lost_f : tLostF.all chkF = true := by decide +kernel
theorem lost_b : tLostB.all chkB = true := by decide +kernel
theorem ring_f : tRingF.all chkF = true := by decide +kernel
theorem ring_b : tRingB.all chkB = true := by decide +kernel
theorem no_two : (famB (famT twoT) && !showB (famT twoT) (.tup [.str "ring", .lst [.int 4, .int 3]])) = true := by decide +kernel
theorem no_far : (famB (famT farT) && !showB (famT farT) (.tup [.str "ring", .lst [.int 3, .int 5, .int 4]])) = true := by decide +kernel
def inD (φ : Int → Int) (t : T5) : DV := .tup [.int (φ t.1), if t.2.1 = 1 then .non else .int (φ t.2.1), .int (φ t.2.2.1), .int (φ t.2.2.2.1), .int t.2.2.2.2]
def endW5 (r : Row) : Bool := decide (r.wd = "ended")
def row5 (r : Row) : DV := .tup ([.int r.n, upD r.up, .int r.s, .int r.g, .bl r.ad, .str r.wd, if endW5 r = true then .int 5 else .non, .non] ++ [if endW5 r = true then .tup [] else .tup [.int 0, .int 0, .int 0, .int 0], .tup []])
def img5 (rs : List Row) : DV := .tup [.tup (rs.map row5), .tup [], .tup [], .tup [], .tup [], .tup []]
theorem img5_is (rs : List Row) : ImgIs (img5 rs) rs := ⟨_, _, _, rfl, rfl, paired_map row5 fun r _ => ⟨_, rfl⟩⟩
theorem wd_str : (if decide ((-1 : Int) < 0) = true then ("ended" : Str) else "runs") = "ended" := by decide +kernel
theorem ne_runs : ¬ ("runs" : Str) = "ended" := by decide +kernel
theorem end_T (φ : Int → Int) (t : T5) : endW5 (mR φ (toRow t)) = decide (t.2.2.2.2 < 0) := by
  unfold endW5
  show decide ((if decide (t.2.2.2.2 < 0) = true then ("ended" : Str) else "runs") = "ended") = _
  by_cases e : t.2.2.2.2 < 0
  · rw [decide_eq_true e, if_pos rfl]; exact decide_eq_true rfl
  · rw [decide_eq_false e, if_neg Bool.false_ne_true]; exact decide_eq_false ne_runs
section
variable {m : Sto} {φ : Int → Int} {T : List T5} {δ : Slots} {w : DE}
theorem up_T (h : Mo φ) (u : Int) : (if u = 1 then DV.non else .int (φ u)) = upD (φ u) := by
  unfold upD
  by_cases e : u = 1
  · rw [if_pos e, if_pos ((h.e1 u).mpr e)]
  · rw [if_neg e, if_neg fun z => e ((h.e1 u).mp z)]
theorem sp_img5 (h : Mo φ) (hb : famB (famT T) = true) (hl : T.length ≤ 20) : PuS S__law_image [.lst (T.map (inD φ))] m (img5 (mX φ (famT T))) := fun m' Q sb hq => by
  refine ⟨rfl, ?_⟩
  have big := line_eq
  show w__law_image { nx := fun _ m' => Q .non m', rt := Q } (startD 9 [.lst (T.map (inD φ))]) m'
  unfold w__law_image
  refine go_sset (go_lst (go_nil ⟨Nat.zero_le _, go_new fun p hp => ?_⟩))
  show wSeq _ _ _ [some (.lst (T.map (inD φ))), some (.ref p), none, none, none, none, none, none, none] _
  have sb1 : Sub m' (put m' p (.lst [])) := Sub.put hp
  refine go_seq (fr_for (m := m') (xs := T.map (inD φ)) (pi_any (pu_var rfl) rfl) sb1 (fun i δ m1 => ∃ a b c d e f g, δ = [some (.lst (T.map (inD φ))), some (.ref p), a, b, c, d, e, f, g] ∧ Sub m' m1 ∧ m1 p = some (.lst ((T.take i).map fun t => row5 (mR φ (toRow t)))))
    (fun m1 s1 => ⟨none, none, none, none, none, none, none, rfl, sb1.trans s1, s1 _ _ put_same⟩) (fun i δ m1 ⟨_, _, _, _, _, _, _, _, s, _⟩ => s) ?_ ?_)
  · rintro i y δ m1 hy ⟨a, b, c, d, e, f0, g, rfl, s1, e1⟩
    rw [List.getElem?_map] at hy
    cases ht : T[i]? with
    | none => rw [ht] at hy; cases hy
    | some t =>
      rw [ht] at hy; cases hy
      have hi : i < T.length := (List.getElem?_eq_some_iff.mp ht).1
      refine ⟨[some (.lst (T.map (inD φ))), some (.ref p), some (.int (φ t.1)), some (upD (φ t.2.1)), some (.int (φ t.2.2.1)), some (.int (φ t.2.2.2.1)), some (.int t.2.2.2.2), f0, g], fun m Q q => ?_, fun D' hnx hrt hbk hct => ?_⟩
      · unfold inD
        rw [up_T h]
        exact ⟨rfl, rfl, q⟩
      have e5 := end_T φ t
      generalize hw : endW5 (mR φ (toRow t)) = ew at e5
      have u1 : PuE (wOp (dRel fun i j => decide (i < j)) (wVar 6) (wC (.int 0))) [some (.lst (T.map (inD φ))), some (.ref p), some (.int (φ t.1)), some (upD (φ t.2.1)), some (.int (φ t.2.2.1)), some (.int (φ t.2.2.2.1)), some (.int t.2.2.2.2), f0, g] m1 (.bl ew) := by
        rw [e5]; exact pu_op (pu_var rfl) pu_c rel_I
      refine go_sset (pos_pu u1 fun m2 s2 => ?_)
      show wSeq _ _ D' [some (.lst (T.map (inD φ))), some (.ref p), some (.int (φ t.1)), some (upD (φ t.2.1)), some (.int (φ t.2.2.1)), some (.int (φ t.2.2.2.1)), some (.int t.2.2.2.2), some (.bl ew), g] m2
      have hwd : (mR φ (toRow t)).wd = if ew = true then ("ended" : Str) else "runs" := by rw [e5]; rfl
      have u2 : PuE (wTup (wCons (wVar 2) (wCons (wVar 3) (wCons (wVar 4) (wCons (wVar 5) (wCons (wOp (dRel fun i j => decide (j < i)) (wVar 6) (wC (.int 0))) (wCons (wIf (wTru (wVar 7)) (wC (.str "ended")) (wC (.str "runs"))) (wCons (wIf (wTru (wVar 7)) (wC (.int 5)) (wC .non)) (wCons (wC .non) (wNil)))))))))) [some (.lst (T.map (inD φ))), some (.ref p), some (.int (φ t.1)), some (upD (φ t.2.1)), some (.int (φ t.2.2.1)), some (.int (φ t.2.2.2.1)), some (.int t.2.2.2.2), some (.bl ew), g] m2 (.tup [.int (φ t.1), upD (φ t.2.1), .int (φ t.2.2.1), .int (φ t.2.2.2.1), .bl (decide (0 < t.2.2.2.2)), .str (if ew = true then ("ended" : Str) else "runs"), if ew = true then .int 5 else .non, .non]) := by
        refine pu_tup (pa_cons (pu_var rfl) (pa_cons (pu_var rfl) (pa_cons (pu_var rfl) (pa_cons (pu_var rfl) (pa_cons (pu_op (pu_var rfl) pu_c rel_I) (pa_cons (pu_if (pt_tru (pu_var rfl)) (fun z => ?_) fun z => ?_) (pa_cons (pu_if (pt_tru (pu_var rfl)) (fun z => ?_) fun z => ?_) (pa_cons pu_c pa_nil)))))))) (by simp; omega)
        · rw [if_pos z]; exact pu_c
        · rw [if_neg (by rw [z]; exact Bool.false_ne_true)]; exact pu_c
        · rw [if_pos z]; exact pu_c
        · rw [if_neg (by rw [z]; exact Bool.false_ne_true)]; exact pu_c
      refine go_sset (pos_pu u2 fun m3 s3 => ?_)
      have e3 := s3 _ _ (s2 _ _ e1)
      refine go_drop (go_m (go_var rfl ⟨st_ty e3, go_cons ?_⟩))
      have u3 : PuE (wOp (dAdd false) (wVar 8) (wTup (wCons (wIf (wTru (wVar 7)) (wTup (wNil)) (wTup (wCons (wC (.int 0)) (wCons (wC (.int 0)) (wCons (wC (.int 0)) (wCons (wC (.int 0)) (wNil))))))) (wCons (wTup (wNil)) (wNil))))) [some (.lst (T.map (inD φ))), some (.ref p), some (.int (φ t.1)), some (upD (φ t.2.1)), some (.int (φ t.2.2.1)), some (.int (φ t.2.2.2.1)), some (.int t.2.2.2.2), some (.bl ew), some (.tup [.int (φ t.1), upD (φ t.2.1), .int (φ t.2.2.1), .int (φ t.2.2.2.1), .bl (decide (0 < t.2.2.2.2)), .str (if ew = true then ("ended" : Str) else "runs"), if ew = true then .int 5 else .non, .non])] m3 (row5 (mR φ (toRow t))) := by
        unfold row5
        rw [hw, hwd]
        refine pu_op (pu_var rfl) (tup2 (x := if ew = true then .tup [] else .tup [.int 0, .int 0, .int 0, .int 0]) (pu_if (pt_tru (pu_var rfl)) (fun z => ?_) fun z => ?_) (pu_tup pa_nil (Nat.zero_le _))) (cat_T (by simp) (by simp; omega))
        · subst z; exact pu_tup pa_nil (Nat.zero_le _)
        · subst z
          exact pu_tup (pa_cons pu_c (pa_cons pu_c (pa_cons pu_c (pa_cons pu_c pa_nil)))) (by simp; omega)
      refine pos_pu u3 fun m4 s4 => go_nil (st_app (s4 _ _ e3) ?_ ?_)
      · rw [List.length_map, List.length_take]; omega
      · refine hnx _ _ ⟨_, _, _, _, _, _, _, rfl, Sub.put2 hp (((s1.trans s2).trans s3).trans s4), ?_⟩
        rw [put_same, List.take_add_one, ht, List.map_append]
        rfl
  · rintro δ m1 ⟨a, b, c, d, e, f0, g, rfl, s1, e1⟩
    rw [List.length_map, List.take_length] at e1
    dsimp only
    have hpm : ((mX φ (famT T)).map row5).Perm (T.map fun t => row5 (mR φ (toRow t))) := by
      have := ((srtR_perm (T.map toRow)).map (mR φ)).map row5
      have e : ((T.map toRow).map (mR φ)).map row5 = T.map fun t => row5 (mR φ (toRow t)) := by rw [List.map_map, List.map_map]; rfl
      rw [e] at this
      exact this
    have hlt : (((mX φ (famT T)).map row5).map headK).Pairwise (· < ·) := by
      have := famB_lt h hb
      rw [List.map_map]
      exact this
    have hh : (T.map fun t => row5 (mR φ (toRow t))).all isHead = true := List.all_eq_true.mpr fun x hx => by
      obtain ⟨t, _, rfl⟩ := List.mem_map.mp hx
      rfl
    refine go_ret (go_tup (go_cons (go_b (go_cons (go_b (go_cons (go_var rfl (go_nil ⟨_, _, st_asL e1, hh, hpm, hlt, ?_⟩))))))))
    rw [newL_data]
    refine go_nil ?_
    have ht : ∀ {xs : List DV} {m : Sto} {Q : DK}, Q (.tup xs) m → dTupOf [.lst xs] m Q := fun h => h
    refine ht ?_
    have t0 : ∀ {m : Sto}, PuE (wTup wNil) [some (.lst (T.map (inD φ))), some (.ref p), a, b, c, d, e, f0, g] m (.tup []) := pu_tup pa_nil (Nat.zero_le _)
    exact (pa_cons t0 (pa_cons t0 (pa_cons t0 (pa_cons t0 (pa_cons t0 pa_nil))))) m1 _ (.refl _) fun m2 s2 => ⟨by simp; omega, hq _ (s1.trans s2)⟩
end
end Law
namespace Law
open PySem PySem.Spec PyProof.Rows L2 DL
theorem pys_int : ∀ ns : List Int, ∃ ps, pys (ns.map DV.int) = some ps ∧ PyData.canLayAll0 ps = true ∧ PyData.depthAll ps = 0
  | [] => ⟨[], rfl, rfl, rfl⟩
  | n :: ns => by
    obtain ⟨ps, h1, h2, h3⟩ := pys_int ns
    refine ⟨.int n :: ps, ?_, ?_, ?_⟩
    · simp only [List.map_cons, pys, py, h1]
    · simp only [PyData.canLayAll0, PyData.canLay0, h2]; rfl
    · simp only [PyData.depthAll, PyData.depth, h3]; rfl
theorem okd_ses (S n : Int) : OkD (sesR S n) := by
  refine ⟨.tuple [.str "session", .int S, .int n], ?_, ?_, ?_⟩
  · simp only [sesR, py, pys]; rfl
  · simp only [PyData.canLay0, PyData.canLayAll0]; decide +kernel
  · simp only [PyData.depth, PyData.depthAll]; decide
theorem okd_grp (g : Int) : OkD (grpR g) := by
  refine ⟨.tuple [.str "group", .int g], ?_, ?_, ?_⟩
  · simp only [grpR, py, pys]; rfl
  · simp only [PyData.canLay0, PyData.canLayAll0]; decide +kernel
  · simp only [PyData.depth, PyData.depthAll]; decide
theorem okd_ring (row : List Int) : OkD (ringR row) := by
  obtain ⟨ps, h1, h2, h3⟩ := pys_int row
  refine ⟨.tuple [.str "ring", .list ps], ?_, ?_, ?_⟩
  · simp only [ringR, py, pys, h1]; rfl
  · simp only [PyData.canLay0, PyData.canLayAll0, h2]; decide +kernel
  · simp only [PyData.depth, PyData.depthAll, h3]; decide
theorem reas_ok {rs : List Row} : ∀ x ∈ reasF rs, OkD x := fun x hx => by
  unfold reasF sesRs at hx
  rcases List.mem_append.mp hx with hx | hx
  · rcases List.mem_append.mp hx with hx | hx
    · obtain ⟨S, _, h⟩ := List.mem_flatMap.mp hx
      obtain ⟨n, _, rfl⟩ := List.mem_map.mp h
      exact okd_ses S n
    · obtain ⟨g, _, rfl⟩ := List.mem_map.mp hx
      exact okd_grp g
  · obtain ⟨row, _, rfl⟩ := List.mem_map.mp hx
    exact okd_ring row
abbrev CF5 := List T5 × List Int × List Int × List Int
def dueF (φ : Int → Int) (c : CF5) : DV := .tup [iL (c.2.1.map φ), iL (c.2.2.1.map φ), iL (c.2.2.2.map φ)]
def caseF (φ : Int → Int) (c : CF5) : DV := .tup [.lst (c.1.map (inD φ)), dueF φ c]
def caseB (φ : Int → Int) (c : List T5 × DV) : DV := .tup [.lst (c.1.map (inD φ)), mDt φ c.2]
section
variable {m : Sto} {φ : Int → Int} {T : List T5}
theorem T_len (hb : famB (famT T) = true) : T.length ≤ 20 := by
  unfold famB at hb
  simp only [Bool.and_eq_true] at hb
  have h1 := of_decide_eq_true hb.2.2.1
  have h2 : (famT T).length = T.length := by
    have := (srtR_perm (T.map toRow)).length_eq
    rw [List.length_map] at this
    exact this
  omega
theorem free_vals {c : CF5} (h : Mo φ) (hc : chkF c = true) : famB (famT c.1) = true ∧ reasF (mX φ (famT c.1)) = [] ∧ lostSF (mX φ (famT c.1)) = c.2.1.map φ ∧ lostGF (mX φ (famT c.1)) = c.2.2.1.map φ ∧ moreF (mX φ (famT c.1)) = c.2.2.2.map φ := by
  unfold chkF at hc
  simp only [Bool.and_eq_true] at hc
  obtain ⟨h1, h2, h3, h4, h5⟩ := hc
  refine ⟨h1, ?_, ?_, ?_, ?_⟩
  · rw [na_reas h, List.isEmpty_iff.mp h2]; rfl
  · rw [na_lostS h, of_decide_eq_true h3]
  · rw [na_lostG h, of_decide_eq_true h4]
  · rw [na_more h, of_decide_eq_true h5]
theorem bar_vals {c : List T5 × DV} (h : Mo φ) (hc : chkB c = true) : famB (famT c.1) = true ∧ barF (mX φ (famT c.1)) = mDt φ c.2 ∧ mDt φ c.2 ∈ reasF (mX φ (famT c.1)) := by
  unfold chkB at hc
  simp only [Bool.and_eq_true] at hc
  obtain ⟨h1, h2, h3⟩ := hc
  have e := eqN_eq 5 _ _ h3
  have e2 : barF (mX φ (famT c.1)) = mDt φ c.2 := by rw [na_bar h, e]
  refine ⟨h1, e2, ?_⟩
  rw [na_reas h]
  refine List.mem_map.mpr ⟨c.2, ?_, rfl⟩
  rw [← e, bar_first]
  cases hr : reasF (famT c.1) with
  | nil => rw [hr] at h2; cases h2
  | cons a t => exact List.mem_cons_self
theorem sp_free {C : List CF5} (h : Mo φ) (hall : C.all chkF = true) : PuS S__law_free [.lst (C.map (caseF φ))] m (.bl true) := fun m' Q sb hq => by
  refine ⟨rfl, ?_⟩
  have big := line_eq
  show w__law_free { nx := fun _ m' => Q .non m', rt := Q } [some (.lst (C.map (caseF φ))), none, none, none] m'
  unfold w__law_free
  refine go_seq (fr_for (m := m') (xs := C.map (caseF φ)) (pi_any (pu_var rfl) rfl) (.refl _) (fun i δ m1 => ∃ a b c, δ = [some (.lst (C.map (caseF φ))), a, b, c] ∧ Sub m' m1)
    (fun m1 s1 => ⟨none, none, none, rfl, s1⟩) (fun i δ m1 ⟨_, _, _, _, s⟩ => s) ?_ ?_)
  · rintro i y δ m1 hy ⟨a, b, c, rfl, s1⟩
    rw [List.getElem?_map] at hy
    cases ht : C[i]? with
    | none => rw [ht] at hy; cases hy
    | some t =>
      rw [ht] at hy; cases hy
      have hc := List.all_eq_true.mp hall t (List.mem_of_getElem? ht)
      refine ⟨[some (.lst (C.map (caseF φ))), some (.lst (t.1.map (inD φ))), some (dueF φ t), c], fun m Q q => ⟨rfl, rfl, q⟩, fun D' hnx hrt hbk hct => ?_⟩
      obtain ⟨hb, hre, e1, e2, e3⟩ := free_vals h hc
      have f : Fam (mX φ (famT t.1)) := famB_fam h hb
      have hso := famB_lt h hb
      refine go_sset (pos_pu (call1 (pu_var rfl) (sp_img5 h hb (T_len hb))) fun m2 s2 => ?_)
      show wIfS _ _ _ D' [some (.lst (C.map (caseF φ))), some (.lst (t.1.map (inD φ))), some (dueF φ t), some (img5 (mX φ (famT t.1)))] m2
      refine go_if (go_not (go_tru (go_call (go_cons (go_lst (go_cons (pos_pu (call1 (pu_var rfl) (sp_bar f (img5_is _) hso)) fun m3 s3 => go_cons (go_call (go_cons (go_var rfl (go_nil ?_)))))))))))
      refine sp_helpers f (img5_is _) hso fun u v z m4 s4 _ _ _ _ _ _ hu hv hz => ?_
      refine go_nil ⟨by simp; omega, ?_⟩
      rw [newL_data, bar_first, hre]
      refine go_cons (pos_pu (pu_lst (pa_cons pu_c (pa_cons (pu_var rfl) pa_nil)) (by simp; omega)) fun m5 s5 => go_nil ?_)
      have l1 := lostS_len f
      have l2 := lostG_len f
      have l3 := more_len f
      rw [e1] at hu l1
      rw [e2] at hv l2
      rw [e3] at hz l3
      refine go_same (.inr (.inl ⟨_, _, rfl, rfl, by simp; omega, .cons (.inl ⟨rfl, rfl⟩) (.cons (same_trip (s5 _ _ hu) (s5 _ _ hv) (s5 _ _ hz) l1 l2 l3) .nil)⟩)) fun m6 s6 => ?_
      have fin : wNext D' [some (.lst (C.map (caseF φ))), some (.lst (t.1.map (inD φ))), some (dueF φ t), some (img5 (mX φ (famT t.1)))] m6 := go_next (hnx _ _ ⟨_, _, _, rfl, ((((s1.trans s2).trans s3).trans s4).trans s5).trans s6⟩)
      exact fin
  · rintro δ m1 ⟨a, b, c, rfl, s1⟩
    dsimp only
    exact go_ret (go_c (hq _ s1))
theorem sp_barred {C : List (List T5 × DV)} (h : Mo φ) (hall : C.all chkB = true) : PuS S__law_barred [.lst (C.map (caseB φ))] m (.bl true) := fun m' Q sb hq => by
  refine ⟨rfl, ?_⟩
  have big := line_eq
  show w__law_barred { nx := fun _ m' => Q .non m', rt := Q } [some (.lst (C.map (caseB φ))), none, none, none] m'
  unfold w__law_barred
  refine go_seq (fr_for (m := m') (xs := C.map (caseB φ)) (pi_any (pu_var rfl) rfl) (.refl _) (fun i δ m1 => ∃ a b c, δ = [some (.lst (C.map (caseB φ))), a, b, c] ∧ Sub m' m1)
    (fun m1 s1 => ⟨none, none, none, rfl, s1⟩) (fun i δ m1 ⟨_, _, _, _, s⟩ => s) ?_ ?_)
  · rintro i y δ m1 hy ⟨a, b, c, rfl, s1⟩
    rw [List.getElem?_map] at hy
    cases ht : C[i]? with
    | none => rw [ht] at hy; cases hy
    | some t =>
      rw [ht] at hy; cases hy
      have hc := List.all_eq_true.mp hall t (List.mem_of_getElem? ht)
      refine ⟨[some (.lst (C.map (caseB φ))), some (.lst (t.1.map (inD φ))), some (mDt φ t.2), c], fun m Q q => ⟨rfl, rfl, q⟩, fun D' hnx hrt hbk hct => ?_⟩
      obtain ⟨hb, e1, hmem⟩ := bar_vals h hc
      have f : Fam (mX φ (famT t.1)) := famB_fam h hb
      have hso := famB_lt h hb
      have hok := reas_okN _ hmem
      have hm : Mat (mDt φ t.2) := ⟨⟨5, hok⟩, reas_ok _ hmem⟩
      have hsh : showB (mX φ (famT t.1)) (mDt φ t.2) = true := show_mem.mpr hmem
      refine go_sset (pos_pu (call1 (pu_var rfl) (sp_img5 h hb (T_len hb))) fun m2 s2 => ?_)
      show wIfS _ _ _ D' [some (.lst (C.map (caseB φ))), some (.lst (t.1.map (inD φ))), some (mDt φ t.2), some (img5 (mX φ (famT t.1)))] m2
      have b1 : ∀ {m : Sto}, PuE (wCall S_bar [] (wCons (wVar 3) (wNil))) [some (.lst (C.map (caseB φ))), some (.lst (t.1.map (inD φ))), some (mDt φ t.2), some (img5 (mX φ (famT t.1)))] m (mDt φ t.2) := by
        intro m
        have := sp_bar (m := m) f (img5_is _) hso
        rw [e1] at this
        exact call1 (pu_var rfl) this
      have b2 : ∀ {m : Sto}, PuE (wCall S_shows_bar [] (wCons (wVar 3) (wCons (wVar 2) (wNil)))) [some (.lst (C.map (caseB φ))), some (.lst (t.1.map (inD φ))), some (mDt φ t.2), some (img5 (mX φ (famT t.1)))] m (.bl true) := by
        intro m
        have := sp_shows (m := m) f (img5_is _) hso hm
        rw [hsh] at this
        exact call2 (pu_var rfl) (pu_var rfl) this
      refine go_if (pos_puT (pt_not (b := true) (pt_tru (call2 (x := .lst [mDt φ t.2, .bl true]) (y := .lst [mDt φ t.2, .bl true]) (pu_lst (pa_cons b1 (pa_cons b2 pa_nil)) (by simp; omega)) (pu_lst (pa_cons (pu_var rfl) (pa_cons pu_c pa_nil)) (by simp; omega)) (sp_same 6 _ _ _ (same_okN 6 ⟨by simp, fun y hy => ?_⟩))))) fun m3 s3 => ?_)
      · simp only [List.mem_cons, List.not_mem_nil, or_false] at hy
        rcases hy with rfl | rfl
        · exact hok
        · exact rfl
      · have fin : wNext D' [some (.lst (C.map (caseB φ))), some (.lst (t.1.map (inD φ))), some (mDt φ t.2), some (img5 (mX φ (famT t.1)))] m3 := go_next (hnx _ _ ⟨_, _, _, rfl, (s1.trans s2).trans s3⟩)
        exact fin
  · rintro δ m1 ⟨a, b, c, rfl, s1⟩
    dsimp only
    exact go_ret (go_c (hq _ s1))
end
end Law
namespace Law
open PySem PySem.Spec PyProof.Rows L2 DL
def ph (a b c d e g x : Int) : Int := if x ≤ 1 then x else if x = 2 then a else if x = 3 then b else if x = 4 then c else if x = 5 then d else if x = 6 then e else if x = 7 then g else x + 172
structure Ri (a b c d e g : Int) : Prop where
  h1 : 1 < a
  h2 : a < b
  h3 : b < c
  h4 : c < d
  h5 : d < e
  h6 : e < g
  h7 : g < 180
theorem ph_mo {a b c d e g : Int} (h : Ri a b c d e g) : Mo (ph a b c d e g) := by
  obtain ⟨h1, h2, h3, h4, h5, h6, h7⟩ := h
  refine ⟨fun x y hl => ?_, rfl, rfl⟩
  unfold ph
  (repeat' split) <;> omega
theorem n60 {k : Nat} (h : Nat.ble k 60 = true) : k ≤ sizeLine := Nat.le_trans (Nat.le_of_ble_eq_true h) (by rw [line_eq]; decide)
theorem go_ssetP {D : DEnds} {δ : Slots} {m : Sto} {w : DE} {s : DS} {k : Nat} {x : DV} (h : PuE w δ m x) (q : ∀ m2, Sub m m2 → s D (δ.set k (some x)) m2) : wSeq (wAsg w (gN k)) s D δ m := go_sset (h m _ (.refl _) q)
theorem go_sparP {D : DEnds} {δ : Slots} {m : Sto} {ta : DA} {s : DS} {k l : Nat} {x y : DV} (h : PuA ta δ m [x, y]) (q : ∀ m2, Sub m m2 → s D ((δ.set k (some x)).set l (some y)) m2) : wSeq (wPar k l ta) s D δ m := go_spar (h m _ (.refl _) q)
theorem go_spar3P {D : DEnds} {δ : Slots} {m : Sto} {ta : DA} {s : DS} {k l n : Nat} {x y z : DV} (h : PuA ta δ m [x, y, z]) (q : ∀ m2, Sub m m2 → s D (((δ.set k (some x)).set l (some y)).set n (some z)) m2) : wSeq (wPar3 k l n ta) s D δ m :=
  show (ta δ m fun ds m1 => match ds with
    | [a, b, c] => s D (((δ.set k (some a)).set l (some b)).set n (some c)) m1
    | _ => False) from h m _ (.refl _) q
theorem go_sifP {D : DEnds} {δ : Slots} {m : Sto} {t : DT} {s s' : DS} (h : PuT t δ m false) (q : ∀ m2, Sub m m2 → s' D δ m2) : wSeq (wIfS t s wNext) s' D δ m := go_sif (h m _ (.refl _) q)
theorem go_retP {D : DEnds} {δ : Slots} {m : Sto} {w : DE} {x : DV} (h : PuE w δ m x) (q : ∀ m2, Sub m m2 → D.rt x m2) : wRet w D δ m := go_ret (h m _ (.refl _) q)
theorem pu_neg {w : DE} {δ : Slots} {m : Sto} {i : Int} (h : PuE w δ m (.int i)) : PuE (wNeg w) δ m (.int (-i)) := fun m' Q s q => h m' _ s q
theorem mat_ring {row : List Int} (h : row.length ≤ 1000) : Mat (ringR row) := ⟨⟨5, by
  refine ⟨by simp, fun y hy => ?_⟩
  simp only [List.mem_cons, List.not_mem_nil, or_false] at hy
  rcases hy with rfl | rfl
  · exact rfl
  · exact ok_ints h⟩, okd_ring row⟩
theorem no_ring {φ : Int → Int} {rs : List Row} {row : List Int} (h : Mo φ) (hs : showB rs (ringR row) = false) : showB (mX φ rs) (ringR (row.map φ)) = false := by
  cases e : showB (mX φ rs) (ringR (row.map φ)) with
  | false => rfl
  | true =>
    have hm := show_mem.mp e
    rw [na_reas h] at hm
    obtain ⟨y, hy, hz⟩ := List.mem_map.mp hm
    have hy0 := hy
    unfold reasF sesRs at hy
    have hyr : y = ringR row := by
      rcases List.mem_append.mp hy with hy | hy
      · rcases List.mem_append.mp hy with hy | hy
        · obtain ⟨S, _, h2⟩ := List.mem_flatMap.mp hy
          obtain ⟨n, _, rfl⟩ := List.mem_map.mp h2
          have e1 := (List.cons.inj (List.cons.inj (DV.tup.inj hz)).2).1
          exact DV.noConfusion (show DV.int (φ S) = DV.lst ((row.map φ).map DV.int) from e1)
        · obtain ⟨g, _, rfl⟩ := List.mem_map.mp hy
          have e1 := (List.cons.inj (List.cons.inj (DV.tup.inj hz)).2).1
          exact DV.noConfusion (show DV.int (φ g) = DV.lst ((row.map φ).map DV.int) from e1)
      · obtain ⟨r2, _, rfl⟩ := List.mem_map.mp hy
        have e1 := (List.cons.inj (List.cons.inj (DV.tup.inj hz)).2).1
        have e2 : (r2.map DV.int).map (mO φ) = (row.map φ).map DV.int := DV.lst.inj (show DV.lst ((r2.map DV.int).map (mO φ)) = DV.lst ((row.map φ).map DV.int) from e1)
        have e3 : (r2.map DV.int).map (mO φ) = (r2.map φ).map DV.int := by rw [List.map_map, List.map_map]; rfl
        rw [e3] at e2
        have e4 := (List.map_inj_right (f := DV.int) fun x y z => DV.int.inj z).mp e2
        have e5 := (List.map_inj_right (f := φ) fun x y z => (h.eq x y).mp z).mp e4
        rw [e5]
    rw [hyr] at hy0
    rw [show_mem.mpr hy0] at hs
    cases hs
theorem no_ringT {φ : Int → Int} {T : List T5} {row : List Int} (h : Mo φ) (hs : (famB (famT T) && !showB (famT T) (ringR row)) = true) {δ : Slots} {m : Sto} {wa wb : DE} (hl : row.length ≤ 1000) (ha : PuE wa δ m (.lst (T.map (inD φ)))) (hb : PuE wb δ m (ringR (row.map φ))) : PuE (wCall S_shows_bar [] (wCons (wCall S__law_image [] (wCons wa (wNil))) (wCons wb (wNil)))) δ m (.bl false) := by
  rw [Bool.and_eq_true] at hs
  obtain ⟨h1, h2⟩ := hs
  have h3 : showB (famT T) (ringR row) = false := by simpa using h2
  have := sp_shows (m := m) (famB_fam h h1) (img5_is _) (famB_lt h h1) (mat_ring (row := row.map φ) (by rw [List.length_map]; exact hl))
  rw [no_ring h h3] at this
  exact call2 (call1 ha (sp_img5 h h1 (T_len h1))) hb this
section
variable {m : Sto} {a b c d e g : Int} {p : Addr}
theorem sp_led (h : Ri a b c d e g) (hp : m p = some (.lst [.int a, .int b, .int c, .int d, .int e])) : PuS S__law_led_right [.ref p, .int g] m (.bl true) := fun m' Q sb hq => by
  have mo := ph_mo h
  refine ⟨rfl, ?_⟩
  show w__law_led_right { nx := fun _ m' => Q .non m', rt := Q } [some (.ref p), some (.int g), none, none, none, none, none, none, none, none, none, none] m'
  unfold w__law_led_right
  refine go_seq (go_asg (go_var rfl (go_gseq (st_asQ (sb _ _ hp)) rfl ⟨rfl, ?_⟩)))
  dsimp only
  show wSeq _ _ _ [some (.ref p), some (.int g), some (.int a), some (.int b), some (.int c), some (.int d), some (.int e), none, none, none, none, none] m'
  refine go_spar3P (pa_cons (pu_tup (pa_cons (pu_var rfl) (pa_cons pu_c (pa_cons (pu_var rfl) (pa_cons (pu_var rfl) (pa_cons pu_c pa_nil))))) (n60 rfl)) (pa_cons (pu_tup (pa_cons (pu_var rfl) (pa_cons (pu_var rfl) (pa_cons (pu_var rfl) (pa_cons (pu_var rfl) (pa_cons pu_c pa_nil))))) (n60 rfl)) (pa_cons (pu_tup (pa_cons (pu_var rfl) (pa_cons (pu_var rfl) (pa_cons (pu_var rfl) (pa_cons (pu_var rfl) (pa_cons pu_c pa_nil))))) (n60 rfl)) pa_nil))) (fun m0 s0 => ?_)
  show wSeq _ _ _ [_, _, _, _, _, _, _, _, _, _, _, _] _
  refine go_ssetP (pu_lst (pa_cons (pu_tup (pa_cons (pu_lst (pa_cons (pu_tup (pa_cons (pu_var rfl) (pa_cons pu_c (pa_cons pu_c (pa_cons pu_c (pa_cons pu_c pa_nil))))) (n60 rfl)) pa_nil) (n60 rfl)) (pa_cons (pu_tup (pa_cons (pu_lst pa_nil (n60 rfl)) (pa_cons (pu_lst pa_nil (n60 rfl)) (pa_cons (pu_lst pa_nil (n60 rfl)) pa_nil))) (n60 rfl)) pa_nil)) (n60 rfl)) (pa_cons (pu_tup (pa_cons (pu_lst (pa_cons (pu_tup (pa_cons (pu_var rfl) (pa_cons pu_c (pa_cons pu_c (pa_cons pu_c (pa_cons pu_c pa_nil))))) (n60 rfl)) (pa_cons (pu_tup (pa_cons (pu_var rfl) (pa_cons (pu_var rfl) (pa_cons (pu_var rfl) (pa_cons (pu_var rfl) (pa_cons pu_c pa_nil))))) (n60 rfl)) pa_nil)) (n60 rfl)) (pa_cons (pu_tup (pa_cons (pu_lst pa_nil (n60 rfl)) (pa_cons (pu_lst pa_nil (n60 rfl)) (pa_cons (pu_lst pa_nil (n60 rfl)) pa_nil))) (n60 rfl)) pa_nil)) (n60 rfl)) pa_nil)) (n60 rfl)) (fun m1 s1 => ?_)
  show wSeq _ _ _ [_, _, _, _, _, _, _, _, _, _, _, _] _
  refine go_ssetP (pu_op (pu_var rfl) (pu_lst (pa_cons (pu_tup (pa_cons (pu_lst (pa_cons (pu_var rfl) (pa_cons (pu_var rfl) pa_nil)) (n60 rfl)) (pa_cons (pu_tup (pa_cons (pu_lst pa_nil (n60 rfl)) (pa_cons (pu_lst pa_nil (n60 rfl)) (pa_cons (pu_lst pa_nil (n60 rfl)) pa_nil))) (n60 rfl)) pa_nil)) (n60 rfl)) (pa_cons (pu_tup (pa_cons (pu_lst (pa_cons (pu_var rfl) (pa_cons (pu_var rfl) (pa_cons (pu_var rfl) pa_nil))) (n60 rfl)) (pa_cons (pu_tup (pa_cons (pu_lst pa_nil (n60 rfl)) (pa_cons (pu_lst pa_nil (n60 rfl)) (pa_cons (pu_lst (pa_cons (pu_var rfl) pa_nil) (n60 rfl)) pa_nil))) (n60 rfl)) pa_nil)) (n60 rfl)) pa_nil)) (n60 rfl)) (cat_L (n60 rfl))) (fun m2 s2 => ?_)
  show wSeq _ _ _ [_, _, _, _, _, _, _, _, _, _, _, _] _
  refine go_ssetP (pu_op (pu_var rfl) (pu_lst (pa_cons (pu_tup (pa_cons (pu_lst (pa_cons (pu_var rfl) (pa_cons (pu_var rfl) (pa_cons (pu_var rfl) (pa_cons (pu_tup (pa_cons (pu_var rfl) (pa_cons (pu_var rfl) (pa_cons (pu_var rfl) (pa_cons (pu_var rfl) (pa_cons (pu_neg pu_c) pa_nil))))) (n60 rfl)) pa_nil)))) (n60 rfl)) (pa_cons (pu_tup (pa_cons (pu_lst pa_nil (n60 rfl)) (pa_cons (pu_lst pa_nil (n60 rfl)) (pa_cons (pu_lst pa_nil (n60 rfl)) pa_nil))) (n60 rfl)) pa_nil)) (n60 rfl)) (pa_cons (pu_tup (pa_cons (pu_lst (pa_cons (pu_var rfl) (pa_cons (pu_tup (pa_cons (pu_var rfl) (pa_cons (pu_var rfl) (pa_cons (pu_var rfl) (pa_cons (pu_var rfl) (pa_cons (pu_neg pu_c) pa_nil))))) (n60 rfl)) (pa_cons (pu_var rfl) pa_nil))) (n60 rfl)) (pa_cons (pu_tup (pa_cons (pu_lst pa_nil (n60 rfl)) (pa_cons (pu_lst pa_nil (n60 rfl)) (pa_cons (pu_lst pa_nil (n60 rfl)) pa_nil))) (n60 rfl)) pa_nil)) (n60 rfl)) pa_nil)) (n60 rfl)) (cat_L (n60 rfl))) (fun m3 s3 => ?_)
  show wSeq _ _ _ [_, _, _, _, _, _, _, _, _, _, _, _] _
  refine go_ssetP (pu_op (pu_var rfl) (pu_lst (pa_cons (pu_tup (pa_cons (pu_lst (pa_cons (pu_var rfl) (pa_cons (pu_var rfl) (pa_cons (pu_tup (pa_cons (pu_var rfl) (pa_cons (pu_var rfl) (pa_cons (pu_var rfl) (pa_cons (pu_var rfl) (pa_cons pu_c pa_nil))))) (n60 rfl)) pa_nil))) (n60 rfl)) (pa_cons (pu_tup (pa_cons (pu_lst pa_nil (n60 rfl)) (pa_cons (pu_lst (pa_cons (pu_var rfl) pa_nil) (n60 rfl)) (pa_cons (pu_lst pa_nil (n60 rfl)) pa_nil))) (n60 rfl)) pa_nil)) (n60 rfl)) (pa_cons (pu_tup (pa_cons (pu_lst (pa_cons (pu_var rfl) (pa_cons (pu_var rfl) (pa_cons (pu_var rfl) (pa_cons (pu_tup (pa_cons (pu_var rfl) (pa_cons (pu_var rfl) (pa_cons (pu_var rfl) (pa_cons (pu_var rfl) (pa_cons pu_c pa_nil))))) (n60 rfl)) pa_nil)))) (n60 rfl)) (pa_cons (pu_tup (pa_cons (pu_lst pa_nil (n60 rfl)) (pa_cons (pu_lst (pa_cons (pu_var rfl) pa_nil) (n60 rfl)) (pa_cons (pu_lst pa_nil (n60 rfl)) pa_nil))) (n60 rfl)) pa_nil)) (n60 rfl)) pa_nil)) (n60 rfl)) (cat_L (n60 rfl))) (fun m4 s4 => ?_)
  show wSeq _ _ _ [_, _, _, _, _, _, _, _, _, _, _, _] _
  refine go_ssetP (pu_op (pu_var rfl) (pu_lst (pa_cons (pu_tup (pa_cons (pu_lst (pa_cons (pu_var rfl) (pa_cons (pu_tup (pa_cons (pu_var rfl) (pa_cons (pu_var rfl) (pa_cons (pu_var rfl) (pa_cons (pu_var rfl) (pa_cons pu_c pa_nil))))) (n60 rfl)) (pa_cons (pu_var rfl) (pa_cons (pu_tup (pa_cons (pu_var rfl) (pa_cons (pu_var rfl) (pa_cons (pu_var rfl) (pa_cons (pu_var rfl) (pa_cons (pu_neg pu_c) pa_nil))))) (n60 rfl)) pa_nil)))) (n60 rfl)) (pa_cons (pu_tup (pa_cons (pu_lst pa_nil (n60 rfl)) (pa_cons (pu_lst pa_nil (n60 rfl)) (pa_cons (pu_lst (pa_cons (pu_var rfl) pa_nil) (n60 rfl)) pa_nil))) (n60 rfl)) pa_nil)) (n60 rfl)) pa_nil) (n60 rfl)) (cat_L (n60 rfl))) (fun m5 s5 => ?_)
  show wSeq _ _ _ [_, _, _, _, _, _, _, _, _, _, _, _] _
  refine go_ssetP (pu_op (pu_var rfl) (pu_lst (pa_cons (pu_tup (pa_cons (pu_lst (pa_cons (pu_var rfl) (pa_cons (pu_var rfl) (pa_cons (pu_var rfl) (pa_cons (pu_tup (pa_cons (pu_var rfl) (pa_cons (pu_var rfl) (pa_cons (pu_var rfl) (pa_cons (pu_var rfl) (pa_cons pu_c pa_nil))))) (n60 rfl)) (pa_cons (pu_tup (pa_cons (pu_var rfl) (pa_cons (pu_var rfl) (pa_cons (pu_var rfl) (pa_cons (pu_var rfl) (pa_cons (pu_neg pu_c) pa_nil))))) (n60 rfl)) pa_nil))))) (n60 rfl)) (pa_cons (pu_tup (pa_cons (pu_lst pa_nil (n60 rfl)) (pa_cons (pu_lst pa_nil (n60 rfl)) (pa_cons (pu_lst pa_nil (n60 rfl)) pa_nil))) (n60 rfl)) pa_nil)) (n60 rfl)) pa_nil) (n60 rfl)) (cat_L (n60 rfl))) (fun m6 s6 => ?_)
  show wSeq _ _ _ [_, _, _, _, _, _, _, _, _, _, _, _] _
  refine go_ssetP (pu_op (pu_var rfl) (pu_lst (pa_cons (pu_tup (pa_cons (pu_lst (pa_cons (pu_var rfl) (pa_cons (pu_var rfl) (pa_cons (pu_var rfl) (pa_cons (pu_tup (pa_cons (pu_var rfl) (pa_cons (pu_var rfl) (pa_cons (pu_var rfl) (pa_cons (pu_var rfl) (pa_cons pu_c pa_nil))))) (n60 rfl)) (pa_cons (pu_tup (pa_cons (pu_var rfl) (pa_cons (pu_var rfl) (pa_cons (pu_var rfl) (pa_cons (pu_var rfl) (pa_cons (pu_neg pu_c) pa_nil))))) (n60 rfl)) pa_nil))))) (n60 rfl)) (pa_cons (pu_tup (pa_cons (pu_lst pa_nil (n60 rfl)) (pa_cons (pu_lst pa_nil (n60 rfl)) (pa_cons (pu_lst (pa_cons (pu_var rfl) pa_nil) (n60 rfl)) pa_nil))) (n60 rfl)) pa_nil)) (n60 rfl)) pa_nil) (n60 rfl)) (cat_L (n60 rfl))) (fun m7 s7 => ?_)
  show wSeq _ _ _ [_, _, _, _, _, _, _, _, _, _, _, _] _
  refine go_ssetP (pu_op (pu_var rfl) (pu_lst (pa_cons (pu_tup (pa_cons (pu_lst (pa_cons (pu_var rfl) (pa_cons (pu_var rfl) (pa_cons (pu_var rfl) (pa_cons (pu_tup (pa_cons (pu_var rfl) (pa_cons (pu_var rfl) (pa_cons (pu_var rfl) (pa_cons (pu_var rfl) (pa_cons pu_c pa_nil))))) (n60 rfl)) (pa_cons (pu_tup (pa_cons (pu_var rfl) (pa_cons (pu_var rfl) (pa_cons (pu_var rfl) (pa_cons (pu_var rfl) (pa_cons (pu_neg pu_c) pa_nil))))) (n60 rfl)) pa_nil))))) (n60 rfl)) (pa_cons (pu_tup (pa_cons (pu_lst pa_nil (n60 rfl)) (pa_cons (pu_lst pa_nil (n60 rfl)) (pa_cons (pu_lst (pa_cons (pu_var rfl) pa_nil) (n60 rfl)) pa_nil))) (n60 rfl)) pa_nil)) (n60 rfl)) pa_nil) (n60 rfl)) (cat_L (n60 rfl))) (fun m8 s8 => ?_)
  show wSeq _ _ _ [_, _, _, _, _, _, _, _, _, _, _, _] _
  refine go_ssetP (pu_lst (pa_cons (pu_tup (pa_cons (pu_lst (pa_cons (pu_tup (pa_cons (pu_var rfl) (pa_cons pu_c (pa_cons (pu_var rfl) (pa_cons (pu_var rfl) (pa_cons pu_c pa_nil))))) (n60 rfl)) (pa_cons (pu_var rfl) (pa_cons (pu_var rfl) pa_nil))) (n60 rfl)) (pa_cons (pu_tup (pa_cons pu_c (pa_cons (pu_var rfl) (pa_cons (pu_var rfl) pa_nil))) (n60 rfl)) pa_nil)) (n60 rfl)) (pa_cons (pu_tup (pa_cons (pu_lst (pa_cons (pu_var rfl) (pa_cons (pu_tup (pa_cons (pu_var rfl) (pa_cons (pu_var rfl) (pa_cons (pu_var rfl) (pa_cons (pu_var rfl) (pa_cons pu_c pa_nil))))) (n60 rfl)) pa_nil)) (n60 rfl)) (pa_cons (pu_tup (pa_cons pu_c (pa_cons (pu_var rfl) (pa_cons (pu_var rfl) pa_nil))) (n60 rfl)) pa_nil)) (n60 rfl)) pa_nil)) (n60 rfl)) (fun m9 s9 => ?_)
  show wSeq _ _ _ [_, _, _, _, _, _, _, _, _, _, _, _] _
  refine go_ssetP (pu_op (pu_var rfl) (pu_lst (pa_cons (pu_tup (pa_cons (pu_lst (pa_cons (pu_var rfl) (pa_cons (pu_tup (pa_cons (pu_var rfl) (pa_cons (pu_var rfl) (pa_cons (pu_var rfl) (pa_cons (pu_var rfl) (pa_cons pu_c pa_nil))))) (n60 rfl)) (pa_cons (pu_tup (pa_cons (pu_var rfl) (pa_cons (pu_var rfl) (pa_cons (pu_var rfl) (pa_cons (pu_var rfl) (pa_cons pu_c pa_nil))))) (n60 rfl)) (pa_cons (pu_tup (pa_cons (pu_var rfl) (pa_cons (pu_var rfl) (pa_cons (pu_var rfl) (pa_cons (pu_var rfl) (pa_cons pu_c pa_nil))))) (n60 rfl)) pa_nil)))) (n60 rfl)) (pa_cons (pu_tup (pa_cons pu_c (pa_cons (pu_var rfl) (pa_cons (pu_var rfl) pa_nil))) (n60 rfl)) pa_nil)) (n60 rfl)) pa_nil) (n60 rfl)) (cat_L (n60 rfl))) (fun m10 s10 => ?_)
  show wSeq _ _ _ [_, _, _, _, _, _, _, _, _, _, _, _] _
  refine go_ssetP (pu_op (pu_var rfl) (pu_lst (pa_cons (pu_tup (pa_cons (pu_lst (pa_cons (pu_var rfl) (pa_cons (pu_tup (pa_cons (pu_var rfl) (pa_cons (pu_var rfl) (pa_cons pu_c (pa_cons pu_c (pa_cons pu_c pa_nil))))) (n60 rfl)) (pa_cons (pu_tup (pa_cons (pu_var rfl) (pa_cons (pu_var rfl) (pa_cons pu_c (pa_cons pu_c (pa_cons pu_c pa_nil))))) (n60 rfl)) pa_nil))) (n60 rfl)) (pa_cons (pu_tup (pa_cons pu_c (pa_cons pu_c (pa_cons (pu_var rfl) pa_nil))) (n60 rfl)) pa_nil)) (n60 rfl)) pa_nil) (n60 rfl)) (cat_L (n60 rfl))) (fun m11 s11 => ?_)
  show wSeq _ _ _ [_, _, _, _, _, _, _, _, _, _, _, _] _
  refine go_ssetP (pu_op (pu_var rfl) (pu_lst (pa_cons (pu_tup (pa_cons (pu_lst (pa_cons (pu_var rfl) (pa_cons (pu_tup (pa_cons (pu_var rfl) (pa_cons (pu_var rfl) (pa_cons (pu_var rfl) (pa_cons (pu_var rfl) (pa_cons pu_c pa_nil))))) (n60 rfl)) (pa_cons (pu_tup (pa_cons (pu_var rfl) (pa_cons (pu_var rfl) (pa_cons (pu_var rfl) (pa_cons (pu_var rfl) (pa_cons pu_c pa_nil))))) (n60 rfl)) pa_nil))) (n60 rfl)) (pa_cons (pu_tup (pa_cons pu_c (pa_cons (pu_var rfl) (pa_cons (pu_var rfl) pa_nil))) (n60 rfl)) pa_nil)) (n60 rfl)) pa_nil) (n60 rfl)) (cat_L (n60 rfl))) (fun m12 s12 => ?_)
  show wRet _ _ [_, _, _, _, _, _, _, _, _, _, _, _] _
  exact go_retP (pu_and (b := true) (c := true) (call1 (pu_var rfl) (sp_free (C := tLedF) mo led_f)) fun _ => (call1 (pu_var rfl) (sp_barred (C := tLedB) mo led_b))) (fun mz sz => hq _ (((((((((((((s0.trans s1).trans s2).trans s3).trans s4).trans s5).trans s6).trans s7).trans s8).trans s9).trans s10).trans s11).trans s12).trans sz))
theorem sp_lost (h : Ri a b c d e g) (hp : m p = some (.lst [.int a, .int b, .int c, .int d, .int e])) : PuS S__law_lost_right [.ref p, .int g] m (.bl true) := fun m' Q sb hq => by
  have mo := ph_mo h
  refine ⟨rfl, ?_⟩
  show w__law_lost_right { nx := fun _ m' => Q .non m', rt := Q } [some (.ref p), some (.int g), none, none, none, none, none, none, none, none, none, none, none] m'
  unfold w__law_lost_right
  refine go_seq (go_asg (go_var rfl (go_gseq (st_asQ (sb _ _ hp)) rfl ⟨rfl, ?_⟩)))
  dsimp only
  show wSeq _ _ _ [some (.ref p), some (.int g), some (.int a), some (.int b), some (.int c), some (.int d), some (.int e), none, none, none, none, none, none] m'
  refine go_sparP (pa_cons (pu_tup (pa_cons (pu_var rfl) (pa_cons pu_c (pa_cons (pu_var rfl) (pa_cons (pu_var rfl) (pa_cons pu_c pa_nil))))) (n60 rfl)) (pa_cons (pu_tup (pa_cons (pu_var rfl) (pa_cons pu_c (pa_cons (pu_var rfl) (pa_cons (pu_var rfl) (pa_cons pu_c pa_nil))))) (n60 rfl)) pa_nil)) (fun m0 s0 => ?_)
  show wSeq _ _ _ [_, _, _, _, _, _, _, _, _, _, _, _, _] _
  refine go_ssetP (pu_lst (pa_cons (pu_tup (pa_cons (pu_var rfl) (pa_cons (pu_var rfl) (pa_cons (pu_var rfl) (pa_cons (pu_var rfl) (pa_cons pu_c pa_nil))))) (n60 rfl)) (pa_cons (pu_tup (pa_cons (pu_var rfl) (pa_cons (pu_var rfl) (pa_cons (pu_var rfl) (pa_cons (pu_var rfl) (pa_cons pu_c pa_nil))))) (n60 rfl)) pa_nil)) (n60 rfl)) (fun m1 s1 => ?_)
  show wSeq _ _ _ [_, _, _, _, _, _, _, _, _, _, _, _, _] _
  refine go_ssetP (pu_lst (pa_cons (pu_tup (pa_cons (pu_op (pu_lst (pa_cons (pu_var rfl) pa_nil) (n60 rfl)) (pu_var rfl) (cat_L (n60 rfl))) (pa_cons (pu_tup (pa_cons (pu_lst (pa_cons (pu_var rfl) pa_nil) (n60 rfl)) (pa_cons (pu_lst pa_nil (n60 rfl)) (pa_cons (pu_lst pa_nil (n60 rfl)) pa_nil))) (n60 rfl)) pa_nil)) (n60 rfl)) (pa_cons (pu_tup (pa_cons (pu_lst (pa_cons (pu_tup (pa_cons (pu_var rfl) (pa_cons pu_c (pa_cons (pu_var rfl) (pa_cons (pu_var rfl) (pa_cons pu_c pa_nil))))) (n60 rfl)) (pa_cons (pu_tup (pa_cons (pu_var rfl) (pa_cons (pu_var rfl) (pa_cons (pu_var rfl) (pa_cons (pu_var rfl) (pa_cons pu_c pa_nil))))) (n60 rfl)) (pa_cons (pu_tup (pa_cons (pu_var rfl) (pa_cons (pu_var rfl) (pa_cons (pu_var rfl) (pa_cons (pu_var rfl) (pa_cons (pu_neg pu_c) pa_nil))))) (n60 rfl)) pa_nil))) (n60 rfl)) (pa_cons (pu_tup (pa_cons (pu_lst (pa_cons (pu_var rfl) pa_nil) (n60 rfl)) (pa_cons (pu_lst pa_nil (n60 rfl)) (pa_cons (pu_lst pa_nil (n60 rfl)) pa_nil))) (n60 rfl)) pa_nil)) (n60 rfl)) pa_nil)) (n60 rfl)) (fun m2 s2 => ?_)
  show wSeq _ _ _ [_, _, _, _, _, _, _, _, _, _, _, _, _] _
  refine go_ssetP (pu_op (pu_var rfl) (pu_lst (pa_cons (pu_tup (pa_cons (pu_op (pu_op (pu_lst (pa_cons (pu_var rfl) pa_nil) (n60 rfl)) (pu_var rfl) (cat_L (n60 rfl))) (pu_lst (pa_cons (pu_tup (pa_cons (pu_var rfl) (pa_cons (pu_var rfl) (pa_cons (pu_var rfl) (pa_cons (pu_var rfl) (pa_cons pu_c pa_nil))))) (n60 rfl)) (pa_cons (pu_tup (pa_cons (pu_var rfl) (pa_cons (pu_var rfl) (pa_cons (pu_var rfl) (pa_cons (pu_var rfl) (pa_cons pu_c pa_nil))))) (n60 rfl)) pa_nil)) (n60 rfl)) (cat_L (n60 rfl))) (pa_cons (pu_tup (pa_cons (pu_lst (pa_cons (pu_var rfl) pa_nil) (n60 rfl)) (pa_cons (pu_lst pa_nil (n60 rfl)) (pa_cons (pu_lst pa_nil (n60 rfl)) pa_nil))) (n60 rfl)) pa_nil)) (n60 rfl)) pa_nil) (n60 rfl)) (cat_L (n60 rfl))) (fun m3 s3 => ?_)
  show wSeq _ _ _ [_, _, _, _, _, _, _, _, _, _, _, _, _] _
  refine go_ssetP (pu_op (pu_var rfl) (pu_lst (pa_cons (pu_tup (pa_cons (pu_lst (pa_cons (pu_tup (pa_cons (pu_var rfl) (pa_cons pu_c (pa_cons pu_c (pa_cons (pu_var rfl) (pa_cons pu_c pa_nil))))) (n60 rfl)) (pa_cons (pu_tup (pa_cons (pu_var rfl) (pa_cons (pu_var rfl) (pa_cons pu_c (pa_cons (pu_var rfl) (pa_cons pu_c pa_nil))))) (n60 rfl)) pa_nil)) (n60 rfl)) (pa_cons (pu_tup (pa_cons (pu_lst pa_nil (n60 rfl)) (pa_cons (pu_lst (pa_cons (pu_var rfl) pa_nil) (n60 rfl)) (pa_cons (pu_lst pa_nil (n60 rfl)) pa_nil))) (n60 rfl)) pa_nil)) (n60 rfl)) pa_nil) (n60 rfl)) (cat_L (n60 rfl))) (fun m4 s4 => ?_)
  show wSeq _ _ _ [_, _, _, _, _, _, _, _, _, _, _, _, _] _
  refine go_ssetP (pu_op (pu_var rfl) (pu_lst (pa_cons (pu_tup (pa_cons (pu_lst (pa_cons (pu_tup (pa_cons (pu_var rfl) (pa_cons pu_c (pa_cons pu_c (pa_cons pu_c (pa_cons pu_c pa_nil))))) (n60 rfl)) (pa_cons (pu_tup (pa_cons (pu_var rfl) (pa_cons (pu_var rfl) (pa_cons pu_c (pa_cons (pu_var rfl) (pa_cons pu_c pa_nil))))) (n60 rfl)) pa_nil)) (n60 rfl)) (pa_cons (pu_tup (pa_cons (pu_lst pa_nil (n60 rfl)) (pa_cons (pu_lst pa_nil (n60 rfl)) (pa_cons (pu_lst pa_nil (n60 rfl)) pa_nil))) (n60 rfl)) pa_nil)) (n60 rfl)) pa_nil) (n60 rfl)) (cat_L (n60 rfl))) (fun m5 s5 => ?_)
  show wSeq _ _ _ [_, _, _, _, _, _, _, _, _, _, _, _, _] _
  refine go_ssetP (pu_lst (pa_cons (pu_tup (pa_cons (pu_op (pu_lst (pa_cons (pu_var rfl) pa_nil) (n60 rfl)) (pu_var rfl) (cat_L (n60 rfl))) (pa_cons (pu_tup (pa_cons pu_c (pa_cons (pu_var rfl) (pa_cons (pu_var rfl) pa_nil))) (n60 rfl)) pa_nil)) (n60 rfl)) pa_nil) (n60 rfl)) (fun m6 s6 => ?_)
  show wSeq _ _ _ [_, _, _, _, _, _, _, _, _, _, _, _, _] _
  refine go_ssetP (pu_op (pu_var rfl) (pu_lst (pa_cons (pu_tup (pa_cons (pu_lst (pa_cons (pu_var rfl) (pa_cons (pu_op (pu_var rfl) pu_c (ix_L (k := 0) rfl)) (pa_cons (pu_tup (pa_cons (pu_var rfl) (pa_cons (pu_var rfl) (pa_cons (pu_var rfl) (pa_cons (pu_var rfl) (pa_cons pu_c pa_nil))))) (n60 rfl)) (pa_cons (pu_tup (pa_cons (pu_var rfl) (pa_cons (pu_var rfl) (pa_cons (pu_var rfl) (pa_cons (pu_var rfl) (pa_cons pu_c pa_nil))))) (n60 rfl)) pa_nil)))) (n60 rfl)) (pa_cons (pu_tup (pa_cons pu_c (pa_cons (pu_var rfl) (pa_cons (pu_var rfl) pa_nil))) (n60 rfl)) pa_nil)) (n60 rfl)) pa_nil) (n60 rfl)) (cat_L (n60 rfl))) (fun m7 s7 => ?_)
  show wSeq _ _ _ [_, _, _, _, _, _, _, _, _, _, _, _, _] _
  refine go_ssetP (pu_op (pu_var rfl) (pu_lst (pa_cons (pu_tup (pa_cons (pu_lst (pa_cons (pu_tup (pa_cons (pu_var rfl) (pa_cons pu_c (pa_cons (pu_var rfl) (pa_cons (pu_var rfl) (pa_cons pu_c pa_nil))))) (n60 rfl)) (pa_cons (pu_tup (pa_cons (pu_var rfl) (pa_cons (pu_var rfl) (pa_cons (pu_var rfl) (pa_cons (pu_var rfl) (pa_cons pu_c pa_nil))))) (n60 rfl)) (pa_cons (pu_tup (pa_cons (pu_var rfl) (pa_cons (pu_var rfl) (pa_cons (pu_var rfl) (pa_cons (pu_var rfl) (pa_cons pu_c pa_nil))))) (n60 rfl)) pa_nil))) (n60 rfl)) (pa_cons (pu_tup (pa_cons pu_c (pa_cons (pu_var rfl) (pa_cons (pu_var rfl) pa_nil))) (n60 rfl)) pa_nil)) (n60 rfl)) pa_nil) (n60 rfl)) (cat_L (n60 rfl))) (fun m8 s8 => ?_)
  show wSeq _ _ _ [_, _, _, _, _, _, _, _, _, _, _, _, _] _
  refine go_ssetP (pu_op (pu_var rfl) (pu_lst (pa_cons (pu_tup (pa_cons (pu_lst (pa_cons (pu_var rfl) (pa_cons (pu_tup (pa_cons (pu_var rfl) (pa_cons (pu_var rfl) (pa_cons (pu_var rfl) (pa_cons (pu_var rfl) (pa_cons pu_c pa_nil))))) (n60 rfl)) (pa_cons (pu_tup (pa_cons (pu_var rfl) (pa_cons (pu_var rfl) (pa_cons (pu_var rfl) (pa_cons (pu_var rfl) (pa_cons pu_c pa_nil))))) (n60 rfl)) pa_nil))) (n60 rfl)) (pa_cons (pu_tup (pa_cons pu_c (pa_cons (pu_var rfl) (pa_cons (pu_var rfl) pa_nil))) (n60 rfl)) pa_nil)) (n60 rfl)) pa_nil) (n60 rfl)) (cat_L (n60 rfl))) (fun m9 s9 => ?_)
  show wSeq _ _ _ [_, _, _, _, _, _, _, _, _, _, _, _, _] _
  refine go_ssetP (pu_tup (pa_cons (pu_var rfl) (pa_cons (pu_var rfl) (pa_cons (pu_var rfl) (pa_cons (pu_var rfl) (pa_cons pu_c pa_nil))))) (n60 rfl)) (fun m10 s10 => ?_)
  show wSeq _ _ _ [_, _, _, _, _, _, _, _, _, _, _, _, _] _
  refine go_ssetP (pu_op (pu_var rfl) (pu_lst (pa_cons (pu_tup (pa_cons (pu_lst (pa_cons (pu_var rfl) (pa_cons (pu_var rfl) (pa_cons (pu_tup (pa_cons (pu_var rfl) (pa_cons (pu_var rfl) (pa_cons (pu_var rfl) (pa_cons (pu_var rfl) (pa_cons pu_c pa_nil))))) (n60 rfl)) (pa_cons (pu_tup (pa_cons (pu_var rfl) (pa_cons (pu_var rfl) (pa_cons (pu_var rfl) (pa_cons (pu_var rfl) (pa_cons pu_c pa_nil))))) (n60 rfl)) pa_nil)))) (n60 rfl)) (pa_cons (pu_tup (pa_cons pu_c (pa_cons (pu_var rfl) pa_nil)) (n60 rfl)) pa_nil)) (n60 rfl)) pa_nil) (n60 rfl)) (cat_L (n60 rfl))) (fun m11 s11 => ?_)
  show wSeq _ _ _ [_, _, _, _, _, _, _, _, _, _, _, _, _] _
  refine go_ssetP (pu_op (pu_var rfl) (pu_lst (pa_cons (pu_tup (pa_cons (pu_lst (pa_cons (pu_var rfl) (pa_cons (pu_var rfl) (pa_cons (pu_tup (pa_cons (pu_var rfl) (pa_cons (pu_var rfl) (pa_cons (pu_var rfl) (pa_cons (pu_var rfl) (pa_cons pu_c pa_nil))))) (n60 rfl)) (pa_cons (pu_tup (pa_cons (pu_var rfl) (pa_cons (pu_var rfl) (pa_cons (pu_var rfl) (pa_cons (pu_var rfl) (pa_cons pu_c pa_nil))))) (n60 rfl)) pa_nil)))) (n60 rfl)) (pa_cons (pu_tup (pa_cons pu_c (pa_cons (pu_var rfl) pa_nil)) (n60 rfl)) pa_nil)) (n60 rfl)) pa_nil) (n60 rfl)) (cat_L (n60 rfl))) (fun m12 s12 => ?_)
  show wSeq _ _ _ [_, _, _, _, _, _, _, _, _, _, _, _, _] _
  refine go_ssetP (pu_op (pu_var rfl) (pu_lst (pa_cons (pu_tup (pa_cons (pu_lst (pa_cons (pu_var rfl) (pa_cons (pu_var rfl) (pa_cons (pu_tup (pa_cons (pu_var rfl) (pa_cons (pu_var rfl) (pa_cons (pu_var rfl) (pa_cons (pu_var rfl) (pa_cons pu_c pa_nil))))) (n60 rfl)) pa_nil))) (n60 rfl)) (pa_cons (pu_tup (pa_cons pu_c (pa_cons (pu_var rfl) pa_nil)) (n60 rfl)) pa_nil)) (n60 rfl)) (pa_cons (pu_tup (pa_cons (pu_lst (pa_cons (pu_var rfl) (pa_cons (pu_tup (pa_cons (pu_var rfl) (pa_cons (pu_var rfl) (pa_cons (pu_var rfl) (pa_cons pu_c (pa_cons pu_c pa_nil))))) (n60 rfl)) pa_nil)) (n60 rfl)) (pa_cons (pu_tup (pa_cons pu_c (pa_cons pu_c pa_nil)) (n60 rfl)) pa_nil)) (n60 rfl)) pa_nil)) (n60 rfl)) (cat_L (n60 rfl))) (fun m13 s13 => ?_)
  show wSeq _ _ _ [_, _, _, _, _, _, _, _, _, _, _, _, _] _
  refine go_ssetP (pu_op (pu_var rfl) (pu_lst (pa_cons (pu_tup (pa_cons (pu_lst (pa_cons (pu_var rfl) (pa_cons (pu_var rfl) (pa_cons (pu_tup (pa_cons (pu_var rfl) (pa_cons (pu_var rfl) (pa_cons (pu_var rfl) (pa_cons (pu_var rfl) (pa_cons pu_c pa_nil))))) (n60 rfl)) pa_nil))) (n60 rfl)) (pa_cons (pu_tup (pa_cons pu_c (pa_cons (pu_var rfl) pa_nil)) (n60 rfl)) pa_nil)) (n60 rfl)) (pa_cons (pu_tup (pa_cons (pu_op (pu_op (pu_lst (pa_cons (pu_var rfl) pa_nil) (n60 rfl)) (pu_var rfl) (cat_L (n60 rfl))) (pu_lst (pa_cons (pu_tup (pa_cons (pu_var rfl) (pa_cons (pu_var rfl) (pa_cons (pu_var rfl) (pa_cons (pu_var rfl) (pa_cons pu_c pa_nil))))) (n60 rfl)) pa_nil) (n60 rfl)) (cat_L (n60 rfl))) (pa_cons (pu_tup (pa_cons pu_c (pa_cons (pu_var rfl) pa_nil)) (n60 rfl)) pa_nil)) (n60 rfl)) pa_nil)) (n60 rfl)) (cat_L (n60 rfl))) (fun m14 s14 => ?_)
  show wRet _ _ [_, _, _, _, _, _, _, _, _, _, _, _, _] _
  exact go_retP (pu_and (b := true) (c := true) (call1 (pu_var rfl) (sp_free (C := tLostF) mo lost_f)) fun _ => (call1 (pu_var rfl) (sp_barred (C := tLostB) mo lost_b))) (fun mz sz => hq _ (((((((((((((((s0.trans s1).trans s2).trans s3).trans s4).trans s5).trans s6).trans s7).trans s8).trans s9).trans s10).trans s11).trans s12).trans s13).trans s14).trans sz))
theorem sp_ringsr (h : Ri a b c d e g) (hp : m p = some (.lst [.int a, .int b, .int c, .int d, .int e])) : PuS S__law_rings_right [.ref p] m (.bl true) := fun m' Q sb hq => by
  have mo := ph_mo h
  refine ⟨rfl, ?_⟩
  show w__law_rings_right { nx := fun _ m' => Q .non m', rt := Q } [some (.ref p), none, none, none, none, none, none, none, none, none, none, none] m'
  unfold w__law_rings_right
  refine go_seq (go_asg (go_var rfl (go_gseq (st_asQ (sb _ _ hp)) rfl ⟨rfl, ?_⟩)))
  dsimp only
  show wSeq _ _ _ [some (.ref p), some (.int a), some (.int b), some (.int c), some (.int d), some (.int e), none, none, none, none, none, none] m'
  refine go_ssetP (pu_tup (pa_cons (pu_var rfl) (pa_cons pu_c (pa_cons (pu_var rfl) (pa_cons (pu_var rfl) (pa_cons pu_c pa_nil))))) (n60 rfl)) (fun m0 s0 => ?_)
  show wSeq _ _ _ [_, _, _, _, _, _, _, _, _, _, _, _] _
  refine go_ssetP (pu_lst (pa_cons (pu_var rfl) (pa_cons (pu_tup (pa_cons (pu_var rfl) (pa_cons (pu_var rfl) (pa_cons (pu_var rfl) (pa_cons (pu_var rfl) (pa_cons pu_c pa_nil))))) (n60 rfl)) (pa_cons (pu_tup (pa_cons (pu_var rfl) (pa_cons (pu_var rfl) (pa_cons (pu_var rfl) (pa_cons (pu_var rfl) (pa_cons pu_c pa_nil))))) (n60 rfl)) pa_nil))) (n60 rfl)) (fun m1 s1 => ?_)
  show wSeq _ _ _ [_, _, _, _, _, _, _, _, _, _, _, _] _
  refine go_ssetP (pu_lst (pa_cons (pu_var rfl) (pa_cons (pu_tup (pa_cons (pu_var rfl) (pa_cons (pu_var rfl) (pa_cons (pu_var rfl) (pa_cons (pu_var rfl) (pa_cons pu_c pa_nil))))) (n60 rfl)) (pa_cons (pu_tup (pa_cons (pu_var rfl) (pa_cons (pu_var rfl) (pa_cons (pu_var rfl) (pa_cons (pu_var rfl) (pa_cons pu_c pa_nil))))) (n60 rfl)) (pa_cons (pu_tup (pa_cons (pu_var rfl) (pa_cons (pu_var rfl) (pa_cons (pu_var rfl) (pa_cons (pu_var rfl) (pa_cons pu_c pa_nil))))) (n60 rfl)) (pa_cons (pu_tup (pa_cons (pu_var rfl) (pa_cons (pu_var rfl) (pa_cons (pu_var rfl) (pa_cons (pu_var rfl) (pa_cons pu_c pa_nil))))) (n60 rfl)) pa_nil))))) (n60 rfl)) (fun m2 s2 => ?_)
  show wSeq _ _ _ [_, _, _, _, _, _, _, _, _, _, _, _] _
  refine go_ssetP (pu_lst (pa_cons (pu_tup (pa_cons (pu_var rfl) (pa_cons (pu_tup (pa_cons pu_c (pa_cons (pu_lst (pa_cons (pu_var rfl) pa_nil) (n60 rfl)) pa_nil)) (n60 rfl)) pa_nil)) (n60 rfl)) (pa_cons (pu_tup (pa_cons (pu_var rfl) (pa_cons (pu_tup (pa_cons pu_c (pa_cons (pu_lst (pa_cons (pu_var rfl) (pa_cons (pu_var rfl) pa_nil)) (n60 rfl)) pa_nil)) (n60 rfl)) pa_nil)) (n60 rfl)) (pa_cons (pu_tup (pa_cons (pu_lst (pa_cons (pu_tup (pa_cons (pu_var rfl) (pa_cons pu_c (pa_cons (pu_var rfl) (pa_cons (pu_var rfl) (pa_cons pu_c pa_nil))))) (n60 rfl)) (pa_cons (pu_tup (pa_cons (pu_var rfl) (pa_cons (pu_var rfl) (pa_cons (pu_var rfl) (pa_cons (pu_var rfl) (pa_cons pu_c pa_nil))))) (n60 rfl)) pa_nil)) (n60 rfl)) (pa_cons (pu_tup (pa_cons pu_c (pa_cons (pu_lst (pa_cons (pu_var rfl) pa_nil) (n60 rfl)) pa_nil)) (n60 rfl)) pa_nil)) (n60 rfl)) pa_nil))) (n60 rfl)) (fun m3 s3 => ?_)
  show wSeq _ _ _ [_, _, _, _, _, _, _, _, _, _, _, _] _
  refine go_ssetP (pu_op (pu_var rfl) (pu_lst (pa_cons (pu_tup (pa_cons (pu_lst (pa_cons (pu_tup (pa_cons (pu_var rfl) (pa_cons pu_c (pa_cons (pu_var rfl) (pa_cons (pu_var rfl) (pa_cons pu_c pa_nil))))) (n60 rfl)) (pa_cons (pu_tup (pa_cons (pu_var rfl) (pa_cons (pu_var rfl) (pa_cons (pu_var rfl) (pa_cons (pu_var rfl) (pa_cons pu_c pa_nil))))) (n60 rfl)) pa_nil)) (n60 rfl)) (pa_cons (pu_tup (pa_cons pu_c (pa_cons (pu_var rfl) (pa_cons (pu_var rfl) pa_nil))) (n60 rfl)) pa_nil)) (n60 rfl)) pa_nil) (n60 rfl)) (cat_L (n60 rfl))) (fun m4 s4 => ?_)
  show wSeq _ _ _ [_, _, _, _, _, _, _, _, _, _, _, _] _
  refine go_ssetP (pu_op (pu_var rfl) (pu_lst (pa_cons (pu_tup (pa_cons (pu_lst (pa_cons (pu_var rfl) (pa_cons (pu_tup (pa_cons (pu_var rfl) (pa_cons (pu_var rfl) (pa_cons (pu_var rfl) (pa_cons (pu_var rfl) (pa_cons pu_c pa_nil))))) (n60 rfl)) (pa_cons (pu_tup (pa_cons (pu_var rfl) (pa_cons (pu_var rfl) (pa_cons (pu_var rfl) (pa_cons (pu_var rfl) (pa_cons pu_c pa_nil))))) (n60 rfl)) pa_nil))) (n60 rfl)) (pa_cons (pu_tup (pa_cons pu_c (pa_cons (pu_var rfl) (pa_cons (pu_var rfl) pa_nil))) (n60 rfl)) pa_nil)) (n60 rfl)) pa_nil) (n60 rfl)) (cat_L (n60 rfl))) (fun m5 s5 => ?_)
  show wSeq _ _ _ [_, _, _, _, _, _, _, _, _, _, _, _] _
  refine go_ssetP (pu_lst (pa_cons (pu_var rfl) (pa_cons (pu_tup (pa_cons (pu_var rfl) (pa_cons (pu_var rfl) (pa_cons pu_c (pa_cons pu_c (pa_cons pu_c pa_nil))))) (n60 rfl)) (pa_cons (pu_tup (pa_cons (pu_var rfl) (pa_cons (pu_var rfl) (pa_cons pu_c (pa_cons pu_c (pa_cons pu_c pa_nil))))) (n60 rfl)) (pa_cons (pu_tup (pa_cons (pu_var rfl) (pa_cons (pu_var rfl) (pa_cons pu_c (pa_cons pu_c (pa_cons pu_c pa_nil))))) (n60 rfl)) pa_nil)))) (n60 rfl)) (fun m6 s6 => ?_)
  show wSeq _ _ _ [_, _, _, _, _, _, _, _, _, _, _, _] _
  refine go_ssetP (pu_op (pu_var rfl) (pu_lst (pa_cons (pu_tup (pa_cons pu_c (pa_cons (pu_var rfl) (pa_cons pu_c (pa_cons pu_c (pa_cons pu_c pa_nil))))) (n60 rfl)) (pa_cons (pu_tup (pa_cons pu_c (pa_cons (pu_var rfl) (pa_cons pu_c (pa_cons pu_c (pa_cons pu_c pa_nil))))) (n60 rfl)) (pa_cons (pu_tup (pa_cons pu_c (pa_cons (pu_var rfl) (pa_cons pu_c (pa_cons pu_c (pa_cons pu_c pa_nil))))) (n60 rfl)) pa_nil))) (n60 rfl)) (cat_L (n60 rfl))) (fun m7 s7 => ?_)
  show wSeq _ _ _ [_, _, _, _, _, _, _, _, _, _, _, _] _
  refine go_ssetP (pu_op (pu_var rfl) (pu_lst (pa_cons (pu_tup (pa_cons (pu_var rfl) (pa_cons (pu_tup (pa_cons pu_c (pa_cons (pu_lst (pa_cons (pu_var rfl) (pa_cons (pu_var rfl) (pa_cons (pu_var rfl) pa_nil))) (n60 rfl)) pa_nil)) (n60 rfl)) pa_nil)) (n60 rfl)) pa_nil) (n60 rfl)) (cat_L (n60 rfl))) (fun m8 s8 => ?_)
  show wSeq _ _ _ [_, _, _, _, _, _, _, _, _, _, _, _] _
  refine go_ssetP (pu_lst (pa_cons (pu_tup (pa_cons (pu_lst (pa_cons (pu_var rfl) (pa_cons (pu_tup (pa_cons (pu_var rfl) (pa_cons (pu_var rfl) (pa_cons (pu_var rfl) (pa_cons (pu_var rfl) (pa_cons pu_c pa_nil))))) (n60 rfl)) (pa_cons (pu_tup (pa_cons (pu_var rfl) (pa_cons (pu_var rfl) (pa_cons (pu_var rfl) (pa_cons (pu_var rfl) (pa_cons pu_c pa_nil))))) (n60 rfl)) (pa_cons (pu_tup (pa_cons (pu_var rfl) (pa_cons (pu_var rfl) (pa_cons (pu_var rfl) (pa_cons (pu_var rfl) (pa_cons pu_c pa_nil))))) (n60 rfl)) pa_nil)))) (n60 rfl)) (pa_cons (pu_tup (pa_cons (pu_lst pa_nil (n60 rfl)) (pa_cons (pu_lst pa_nil (n60 rfl)) (pa_cons (pu_lst (pa_cons (pu_var rfl) pa_nil) (n60 rfl)) pa_nil))) (n60 rfl)) pa_nil)) (n60 rfl)) pa_nil) (n60 rfl)) (fun m9 s9 => ?_)
  show wSeq _ _ _ [_, _, _, _, _, _, _, _, _, _, _, _] _
  refine go_sifP (pt_or (b := false) (c := false) (pt_tru (no_ringT (row := [4, 3]) (T := twoT) mo no_two (by decide) (pu_var rfl) (pu_tup (pa_cons pu_c (pa_cons (pu_lst (pa_cons (pu_var rfl) (pa_cons (pu_var rfl) pa_nil)) (n60 rfl)) pa_nil)) (n60 rfl)))) fun _ => pt_tru (no_ringT (row := [3, 5, 4]) (T := farT) mo no_far (by decide) (pu_var rfl) (pu_tup (pa_cons pu_c (pa_cons (pu_lst (pa_cons (pu_var rfl) (pa_cons (pu_var rfl) (pa_cons (pu_var rfl) pa_nil))) (n60 rfl)) pa_nil)) (n60 rfl)))) (fun m10 s10 => ?_)
  show wRet _ _ [_, _, _, _, _, _, _, _, _, _, _, _] _
  exact go_retP (pu_and (b := true) (c := true) (call1 (pu_var rfl) (sp_barred (C := tRingB) mo ring_b)) fun _ => (call1 (pu_var rfl) (sp_free (C := tRingF) mo ring_f))) (fun mz sz => hq _ (((((((((((s0.trans s1).trans s2).trans s3).trans s4).trans s5).trans s6).trans s7).trans s8).trans s9).trans s10).trans sz))
end
end Law
namespace Law
open PySem PySem.Spec PyProof.Rows L2 DL
structure NmJ (p a b : Addr) (m0 : Sto) (i : Nat) (m : Sto) : Prop where
  bx : Bx m p i
  sb : SubX p m0 m
  ex : ∃ ls fs : List Int, m a = some (.lst (ls.map DV.int)) ∧ m b = some (.lst (fs.map DV.int)) ∧ ls.length + i = 28 ∧ fs.length = i ∧ (ls ++ fs).Nodup ∧ ∀ n ∈ ls ++ fs, 2 ≤ n ∧ n ≤ 29
theorem nums28 : ∃ ls : List Int, rgD 2 28 = ls.map DV.int ∧ ls.length = 28 ∧ ls.Nodup ∧ ∀ n ∈ ls, 2 ≤ n ∧ n ≤ 29 := ⟨[2, 3, 4, 5, 6, 7, 8, 9, 10, 11, 12, 13, 14, 15, 16, 17, 18, 19, 20, 21, 22, 23, 24, 25, 26, 27, 28, 29], rfl, rfl, by decide, by decide⟩
theorem five {fs : List Int} (hl : fs.length = 5) (hn : fs.Nodup) (hr : ∀ n ∈ fs, 2 ≤ n ∧ n ≤ 29) : ∃ a b c d e, sortI fs = [a, b, c, d, e] ∧ 1 < a ∧ a < b ∧ b < c ∧ c < d ∧ d < e ∧ e ≤ 29 := by
  have h1 := sortI_sorted fs
  have h2 := sortI_perm fs
  have h3 := h2.nodup_iff.mpr hn
  have h4 : (sortI fs).length = 5 := by rw [h2.length_eq, hl]
  have h5 : ∀ n ∈ sortI fs, 2 ≤ n ∧ n ≤ 29 := fun n hx => hr n (h2.mem_iff.mp hx)
  clear h2
  revert h1 h3 h4 h5
  generalize sortI fs = l
  intro h1 h3 h4 h5
  match l, h4 with
  | [a, b, c, d, e], _ =>
    have p1 := List.pairwise_cons.mp h1
    have p2 := List.pairwise_cons.mp p1.2
    have p3 := List.pairwise_cons.mp p2.2
    have p4 := List.pairwise_cons.mp p3.2
    have n1 := List.nodup_cons.mp h3
    have n2 := List.nodup_cons.mp n1.2
    have n3 := List.nodup_cons.mp n2.2
    have n4 := List.nodup_cons.mp n3.2
    have a1 := p1.1 b (by simp)
    have a2 := p2.1 c (by simp)
    have a3 := p3.1 d (by simp)
    have a4 := p4.1 e (by simp)
    have b1 : a ≠ b := fun z => n1.1 (by simp [z])
    have b2 : b ≠ c := fun z => n2.1 (by simp [z])
    have b3 : c ≠ d := fun z => n3.1 (by simp [z])
    have b4 : d ≠ e := fun z => n4.1 (by simp [z])
    have c1 := h5 a (by simp)
    have c2 := h5 e (by simp)
    exact ⟨a, b, c, d, e, rfl, by omega, by omega, by omega, by omega, by omega, by omega⟩
section
variable {m : Sto} {p : Addr}
theorem sp_lright (hb : Bx m p 0) {Q : DK} (q : ∀ m', SubX p m m' → Q (.bl true) m') : S__law_right [.ref p] m Q := by
  have big := line_eq
  refine ⟨rfl, ?_⟩
  show w__law_right { nx := fun _ m' => Q .non m', rt := Q } [some (.ref p), none, none, none, none] m
  unfold w__law_right
  obtain ⟨ls0, e0, l0, d0, n0⟩ := nums28
  refine go_spar (go_cons ?_)
  show RgOk 2 30 ∧ newL true (rgD 2 28) m _
  refine ⟨⟨by decide, by decide, by decide, by decide, by decide⟩, ?_⟩
  rw [e0]
  refine go_new fun a ha => ?_
  refine go_cons (go_lst (go_nil ⟨Nat.zero_le _, go_new fun b hb2 => go_nil ?_⟩))
  show wSeq _ _ _ [some (.ref p), some (.ref a), some (.ref b), none, none] _
  obtain ⟨bx, by', be, bm, bh⟩ := hb.ex
  have hpa : p ≠ a := fun z => by rw [z, ha] at bm; cases bm
  have hba : b ≠ a := fun z => by rw [z, put_same] at hb2; cases hb2
  have hb3 : m b = none := by rw [put_ne hba] at hb2; exact hb2
  have hpb : p ≠ b := fun z => by rw [z, hb3] at bm; cases bm
  have s0 : Sub m (DL.put (DL.put m a (.lst (ls0.map DV.int))) b (.lst [])) := (Sub.put ha).trans (Sub.put hb2)
  have hI0 : NmJ p a b m 0 (DL.put (DL.put m a (.lst (ls0.map DV.int))) b (.lst [])) := by
    refine ⟨hb.sub s0, Sub.x s0, ls0, [], ?_, ?_, l0, rfl, by simpa using d0, by simpa using n0⟩
    · rw [put_ne hba.symm, put_same]
    · rw [put_same]; rfl
  refine go_seq (go_range (go_cons (go_c (go_nil ⟨by decide, by decide, ?_⟩))))
  refine fx_for (xs := rgD 0 (5 : Int).toNat) rfl rfl (fun i δ m1 => NmJ p a b m i m1 ∧ ∃ z, δ = [some (.ref p), some (.ref a), some (.ref b), z, none]) (fun _ _ _ _ => trivial) ⟨hI0, _, rfl⟩ ?_ gN_mono ?_
  · rintro i y δ m1 hy ⟨hI, z, rfl⟩
    obtain ⟨ls, fs, hma, hmb, hl1, hl2, hnd, hnm⟩ := hI.ex
    have hi : i < 5 := by
      have := (List.getElem?_eq_some_iff.mp hy).1
      simpa [rgD] using this
    intro D' hnx hrt hbk hct
    refine go_drop (go_m (go_var rfl ⟨ofTy_lst hmb, go_cons (go_m (go_var rfl ⟨ofTy_lst hma, ?_⟩))⟩))
    refine go_cons (go_call (go_cons (go_var rfl (go_cons (go_b (go_cons (go_var rfl (go_nil (go_lenI (asQ_ref hma) (go_nil ?_))))))))))
    rw [List.length_map]
    refine sp_take hI.bx (by omega) (by omega) (by omega) fun r2 o2 hr3 hr4 hbx2 => go_nil ?_
    have hma2 : (DL.put m1 p o2) a = some (.lst (ls.map DV.int)) := by rw [put_ne hpa.symm]; exact hma
    refine pop_at hma2 hr3 (by rw [List.length_map]; exact hr4) (by rw [List.length_map]; omega) fun d hd => go_nil ?_
    obtain ⟨n, hn, rfl⟩ := map_get hd
    have hlt : r2.toNat < ls.length := (List.getElem?_eq_some_iff.mp hn).1
    have hng : ls[r2.toNat] = n := (List.getElem?_eq_some_iff.mp hn).2
    have hmb2 : (DL.put (DL.put m1 p o2) a (.lst ((ls.map DV.int).eraseIdx r2.toNat))) b = some (.lst (fs.map DV.int)) := by rw [put_ne hba, put_ne hpb.symm]; exact hmb
    refine app_at hmb2 (by rw [List.length_map]; omega) (hnx _ _ ⟨⟨?_, ?_, ls.eraseIdx r2.toNat, fs ++ [n], ?_, ?_, ?_, ?_, ?_, ?_⟩, _, rfl⟩)
    · obtain ⟨x, y, e, h1, h2⟩ := hbx2.ex
      refine ⟨x, y, e, ?_, h2⟩
      rw [put_ne hpb, put_ne hpa]
      exact h1
    · intro x u hx hu
      have hxa : x ≠ a := fun z => by rw [z, ha] at hu; cases hu
      have hxb : x ≠ b := fun z => by rw [z, hb3] at hu; cases hu
      rw [put_ne hxb, put_ne hxa, put_ne hx]
      exact hI.sb x u hx hu
    · rw [put_ne hba.symm, put_same, er_map]
    · rw [put_same, List.map_append]; rfl
    · rw [List.length_eraseIdx_of_lt hlt]; omega
    · rw [List.length_append, hl2]; rfl
    · have pm : (ls.eraseIdx r2.toNat ++ (fs ++ [n])).Perm (ls ++ fs) := by
        have h1 : (ls.eraseIdx r2.toNat ++ [n]).Perm ls := by
          refine List.perm_append_comm.trans ?_
          exact er_perm hn
        have h2 : (ls.eraseIdx r2.toNat ++ (fs ++ [n])).Perm (ls.eraseIdx r2.toNat ++ ([n] ++ fs)) := List.perm_append_comm.append_left _
        refine h2.trans ?_
        rw [← List.append_assoc]
        exact h1.append_right fs
      exact pm.nodup_iff.mpr hnd
    · intro x hx
      refine hnm x ?_
      rcases List.mem_append.mp hx with h | h
      · exact List.mem_append_left _ (List.mem_of_mem_eraseIdx h)
      · rcases List.mem_append.mp h with h | h
        · exact List.mem_append_right _ h
        · rw [List.mem_singleton.mp h, ← hng]
          exact List.mem_append_left _ (List.getElem_mem hlt)
  · rintro δ m1 ⟨hI, z, rfl⟩
    dsimp only
    obtain ⟨ls, fs, hma, hmb, hl1, hl2, hnd, hnm⟩ := hI.ex
    have hl5 : fs.length = 5 := hl2
    obtain ⟨n1, n2, n3, n4, n5, es, r1, r2, r3, r4, r5, r6⟩ := five hl5 (List.nodup_append.mp hnd).2.1 fun n hn => hnm n (List.mem_append_right _ hn)
    refine go_spar (go_cons (go_b (go_cons (go_var rfl (go_nil ?_)))))
    have ea : asL m1 (.ref b) = some (fs.map DV.int) := st_asL hmb
    unfold dSorted
    simp only [ea, DL.ints_of]
    rw [es]
    refine go_new fun c hc => ?_
    have sc : Sub m1 (DL.put m1 c (.lst ([n1, n2, n3, n4, n5].map DV.int))) := Sub.put hc
    refine go_cons (go_op (go_c (go_call (go_cons (go_var rfl (go_cons (go_c (go_nil ?_))))))))
    refine sp_take (hI.bx.sub sc) (by decide) (by decide) (by decide) fun r o hr0 hr1 hbx => go_add (go_nil ?_)
    obtain ⟨bx2, by2, be2, bm2, _⟩ := hI.bx.ex
    have hcp : c ≠ p := fun z => by rw [z, bm2] at hc; cases hc
    show wRet _ _ [some (.ref p), some (.ref a), some (.ref c), z, some (.int (31 + r))] _
    have hm : (DL.put (DL.put m1 c (.lst ([n1, n2, n3, n4, n5].map DV.int))) p o) c = some (.lst [.int n1, .int n2, .int n3, .int n4, .int n5]) := by
      rw [put_ne hcp, put_same]; rfl
    have ri : Ri n1 n2 n3 n4 n5 (31 + r) := ⟨r1, r2, r3, r4, r5, by omega, by omega⟩
    refine go_retP (x := .bl true) (pu_and (b := true) (c := true) (call2 (pu_var rfl) (pu_var rfl) (sp_led ri hm)) fun _ => pu_and (b := true) (c := true) (call2 (pu_var rfl) (pu_var rfl) (sp_lost ri hm)) fun _ => call1 (pu_var rfl) (sp_ringsr ri hm)) fun m2 s2 => q m2 ?_
    exact (((hI.sb.trans (Sub.x sc)).trans .put).trans (Sub.x s2))
end
end Law
namespace Law
open PySem PySem.Spec PyProof.Rows L2 DL
section
variable {m m' m0 : Sto} {p k a b : Addr} {δ : Slots} {wa wb wc w wo wi : DE} {c i : Nat}
/-- the law of one script -/
theorem plain (d : DV) (ns : List Int) (m : Sto) (Q : DK) (h : asL m d = some (ns.map DV.int)) (hl : ns.length ≤ 63) (q : ∀ m', Q (.bl true) m') : S_law [d] m Q := by
  have big := line_eq
  refine ⟨rfl, ?_⟩
  show w_law { nx := fun _ m' => Q .non m', rt := Q } [some d, none] m
  unfold w_law
  refine go_ret ?_
  have hlen : PuE (wOp (dAdd false) (wC (.int 1)) (wB dMin (wCons (wC (.int 3)) (wCons (wB dLen (wCons (wVar 0) (wNil))) (wNil))))) [some d, none] m (.int (1 + (if (ns.length : Int) < 3 then (ns.length : Int) else 3))) := by
    refine pu_op pu_c (pu_b (pa_cons pu_c (pa_cons (len_Q (pu_var rfl) fun m' s => asL_Q (asL_sub h s)) pa_nil)) fun m' Q _ q => ?_) add_I
    rw [List.length_map] 
    exact q _ (.refl _)
  generalize hj : 1 + (if (ns.length : Int) < 3 then (ns.length : Int) else 3) = j at hlen
  have hj1 : 0 ≤ j ∧ j ≤ 4 := by split at hj <;> omega
  have hI : PuI (iRngD (wCons (wOp (dAdd false) (wC (.int 1)) (wB dMin (wCons (wC (.int 3)) (wCons (wB dLen (wCons (wVar 0) (wNil))) (wNil))))) (wNil))) [some d, none] m (rgD 0 j.toNat) := fun m' K s k =>
    (pa_cons hlen pa_nil) m' _ s fun m1 s1 => ⟨by omega, by omega, k _ m1 s1 rfl rfl fun _ _ => trivial⟩
  have lc := pu_lc (m := m) (δ := [some d, none]) (g := gN 1) (vs := [1]) (tt := wYes) (te := wCall S__law_right [] (wCons (wCall S__law_box [] (wCons (wVar 0) (wCons (wVar 1) (wNil)))) (wNil))) (fun _ => true) (fun _ => .bl true) hI (by unfold rgD; rw [List.length_map, List.length_range]; omega) fun y hy => by
    obtain ⟨i, hi⟩ := List.getElem?_of_mem hy
    obtain ⟨h1, rfl⟩ := rg_get hi
    refine ⟨_, fun m Q q => q, pt_yes, fun _ m' Q s q => ?_⟩
    refine go_call (go_cons (go_call (go_cons (go_var rfl (go_cons (go_var rfl (go_nil ?_)))))))
    refine sp_box (k := i) (asL_sub h s) hl (by omega) fun p x y hp hx hy1 hy2 => ?_
    refine go_nil ?_
    have hbx : Bx (DL.put m' p (.lst [.int x, .int y, .int 0])) p 0 := ⟨x, y, 0, put_same, hx, hy1, hy2, Nat.le_refl _⟩
    refine sp_lright hbx fun m2 sx => q m2 fun a o e => ?_
    have hap : a ≠ p := fun z => by rw [z, hp] at e; cases e
    exact sx a o hap (by rw [put_ne hap]; exact e)
  refine pos_pu (pu_all lc fun b hb => ?_) fun m2 _ => q m2
  rw [lcF_map] at hb
  obtain ⟨_, _, rfl⟩ := List.mem_map.mp hb
  rfl
end
end Law
open PySem PySem.W PySem.Calls PyProof.Rows
theorem PySem.Challenge.cw_treethaw_k35_known_families_holds : PySem.Challenge.rw_treethaw_k35_known_families.Holds := by
  w_on; o_law
  refine HandSHeadRun.head_any (r := OpenLaw.row PySem.Challenge.rw_treethaw_k35_known_families) (q := view (OpenLaw.row PySem.Challenge.rw_treethaw_k35_known_families).prog [26]) (H := Law.hk) (ob := Law.ob) (M := 20000) (loose := Law.looseP) (d := HandSHeadRun.topDef (OpenLaw.row PySem.Challenge.rw_treethaw_k35_known_families).prog 26) (kwd := []) Law.ob_eq
    (by kernel_rfl) (fun s => by kernel_rfl) Law.run (by kernel_rfl) (by kernel_rfl) (by kernel_rfl) (by rfl) (by first | assumption | decide +kernel) (by decide +kernel) ⟨rfl, rfl, rfl, rfl, rfl, by decide +kernel⟩ ?hw ?hc
  case hw => w_witness2
  case hc =>
    refine DL.walk_ofG (l := PySem.Challenge.rw_treethaw_k35_known_families) (n := 63) (k := 11) (x := "_law_script") (CX := L2.CX0) rfl (by decide) (by kernel_rfl) ⟨rfl, by decide, by decide⟩ ?F (fun _ _ _ _ z => z)
    intro w mg fa h Y G hmg0
    obtain ⟨K, KX, c⟩ := Y
    have hmg : mg ("law" : PySem.Str) = some (.ref fa) := by
      have e : (HandSHeadRun.topDef (OpenLaw.row PySem.Challenge.rw_treethaw_k35_known_families).prog 26).name = ("law" : PySem.Str) := by kernel_rfl
      rw [← e]
      exact hmg0
    have cx := Law.cxt_of KX G c
    have ea := hmg.symm.trans (He.glo_ok KX G (c.fact 60 (f := .glo "law") rfl))
    cases ea
    obtain ⟨fd, Fd, Fu⟩ := Law.ok_law (P := (PySem.Challenge.rw_treethaw_k35_known_families).prog) (w := w) (base := h) cx
    refine ⟨K, fd, _, KX, fun s v => (Fu.bindsA (ps := ["_law_script"]) (fun _ _ _ _ _ _ us hl => match us, hl with | [_], _ => rfl)) s [v] rfl, fun H a ns hl hb _ hS => Law.law_sp Law.plain H a ns hl hS, fun base _ _ => ?_⟩
    obtain ⟨fd2, Fd2, Fu2⟩ := Law.ok_law (P := (PySem.Challenge.rw_treethaw_k35_known_families).prog) (w := w) (base := base) cx
    cases DL.funD_fd Fu Fu2
    exact Fd2.ok
