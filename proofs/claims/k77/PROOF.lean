import PyProof.Rows.All
import Wide.All
import OpenK.AllK
import Wide.FinOn
import HandS.ForMost
import HandS.Defaults
import HandS.More
import HandS.Flow
import HandS.Style
import HandS.IsInst
import HandS.Zip
import HandS.Walk
import HandS.Deep
import HandS.TupAny
import HandS.Conv
import HandS.Wide
import HandS.SetKeys
import HandS.HeadHook4
import HandS.HeadEnd
import KE.KDictKeyed
import KE.SortData
import KE.GoesEnum
import KE.KDictItemsList
import KE.KDictPairs
import HandS.DictComp
import HandS.ListItems
import PySem.Challenge.RW_cutsumsways_k77_whole_points_counted
import HandS.Head0
import HandS.Head1
import HandS.Head2
set_option Elab.async false
set_option linter.all false
set_option maxRecDepth 100000
set_option maxHeartbeats 4000000
/-! PD0: pure data and mutable objects over the hand layer: worlds, their order, the judgements -/
namespace PD
open PySem PySem.Spec PyProof.Rows L2

/-- what a variable holds: pure data, or the n-th mutable object -/
inductive DV where
  | d (x : PyData)
  | r (n : Nat)
  /-- the script: a list that is read alone -/
  | s (xs : List PyData)
inductive MO where
  | lst (xs : List PyData)
  | dct (kvs : List (Key × PyData))
  /-- keys: tuples of whole numbers, nested -/
  | dcn (kvs : List (PyData × PyData))
  | ins (C : Str) (fs : List (Str × DV))
abbrev Store := List (Option MO)
/-- a world: where the mutable objects stand, what they are, the heap; ex: objects that others are making -/
structure Wd where
  as : List Addr
  st : Store
  H : Hp
  ex : List Addr

def Live (as : List Addr) (st : Store) (a : Addr) : Prop := ∃ (n : Nat) (mo : MO), as[n]? = some a ∧ st[n]? = some (some mo)
def Wd.L (w : Wd) : Addr → Prop := fun a => Live w.as w.st a ∨ a ∈ w.ex

def TupAt (K : PySem.W.Frag) (L : Addr → Prop) (H : Hp) (a : Addr) (vs : List V) : Prop := (¬ L a ∧ Rd H a (.tup vs)) ∨ SqT K (fun _ => none) a vs
def LstAt (L : Addr → Prop) (H : Hp) (a : Addr) (vs : List V) : Prop := ¬ L a ∧ H a = some (.lst vs)
theorem rd_none {a : Addr} {o : HO} (h : Rd (fun _ => none) a o) : False := by
  rcases h with h | ⟨_, h⟩ <;> cases h
theorem TupAt.sq {K : PySem.W.Frag} {L : Addr → Prop} {H : Hp} {a : Addr} {vs : List V} (h : TupAt K L H a vs) : SqT K H a vs := by
  rcases h with h | h | h
  · exact .inl h.2
  · exact (rd_none h).elim
  · exact .inr h
theorem LstAt.sq {K : PySem.W.Frag} {L : Addr → Prop} {H : Hp} {a : Addr} {vs : List V} (h : LstAt L H a vs) : SqL K H a vs := SqL.of h.2
def Ext (L : Addr → Prop) (H : Hp) (L' : Addr → Prop) (H' : Hp) : Prop := ∀ b o, H b = some o → ¬ L b → H' b = some o ∧ ¬ L' b
theorem Ext.refl {L : Addr → Prop} {H : Hp} : Ext L H L H := fun _ _ h n => ⟨h, n⟩
theorem Ext.trans {L L1 L2 : Addr → Prop} {H H1 H2 : Hp} (a : Ext L H L1 H1) (b : Ext L1 H1 L2 H2) : Ext L H L2 H2 := fun c o h n => b c o (a c o h n).1 (a c o h n).2
theorem Ext.rd {L L' : Addr → Prop} {H H' : Hp} (e : Ext L H L' H') {a : Addr} {o : HO} (n : ¬ L a) (h : Rd H a o) : ¬ L' a ∧ Rd H' a o := by
  rcases h with h | ⟨o', h⟩
  · exact ⟨(e a _ h n).2, .inl (e a _ h n).1⟩
  · exact ⟨(e a _ h n).2, .inr ⟨o', (e a _ h n).1⟩⟩
theorem TupAt.mono {K : PySem.W.Frag} {L L' : Addr → Prop} {H H' : Hp} (e : Ext L H L' H') {a : Addr} {vs : List V} (h : TupAt K L H a vs) : TupAt K L' H' a vs := by
  rcases h with ⟨n, h⟩ | h
  · exact .inl (e.rd n h)
  · exact .inr h
theorem LstAt.mono {L L' : Addr → Prop} {H H' : Hp} (e : Ext L H L' H') {a : Addr} {vs : List V} (h : LstAt L H a vs) : LstAt L' H' a vs := ⟨(e a _ h.2 h.1).2, (e a _ h.2 h.1).1⟩

mutual
/-- pure data stands as a value -/
def RelP (K : PySem.W.Frag) (L : Addr → Prop) (H : Hp) : PyData → V → Prop
  | .none, v => v = .non
  | .bool b, v => v = .bl b
  | .int i, v => v = .int i
  | .str s, v => v = .str s
  | .list ds, v => ∃ a vs, v = .ref a ∧ LstAt L H a vs ∧ RelPs K L H ds vs
  | .tuple ds, v => ∃ a vs, v = .ref a ∧ TupAt K L H a vs ∧ RelPs K L H ds vs
  | .dict _, _ => False
def RelPs (K : PySem.W.Frag) (L : Addr → Prop) (H : Hp) : List PyData → List V → Prop
  | [], vs => vs = []
  | d :: ds, vs => ∃ v vr, vs = v :: vr ∧ RelP K L H d v ∧ RelPs K L H ds vr
end
section
variable {K : PySem.W.Frag} {L L' : Addr → Prop} {H H' : Hp}
mutual
theorem RelP.mono (e : Ext L H L' H') : ∀ (d : PyData) (v : V), RelP K L H d v → RelP K L' H' d v
  | .none, _, h => h
  | .bool _, _, h => h
  | .int _, _, h => h
  | .str _, _, h => h
  | .list ds, v, h => by
    simp only [RelP] at h ⊢
    obtain ⟨a, vs, h1, h2, h3⟩ := h
    exact ⟨a, vs, h1, h2.mono e, RelPs.mono e ds vs h3⟩
  | .tuple ds, v, h => by
    simp only [RelP] at h ⊢
    obtain ⟨a, vs, h1, h2, h3⟩ := h
    exact ⟨a, vs, h1, h2.mono e, RelPs.mono e ds vs h3⟩
  | .dict _, _, h => h
theorem RelPs.mono (e : Ext L H L' H') : ∀ (ds : List PyData) (vs : List V), RelPs K L H ds vs → RelPs K L' H' ds vs
  | [], _, h => h
  | d :: ds, vs, h => by
    simp only [RelPs] at h ⊢
    obtain ⟨v, vr, h1, h2, h3⟩ := h
    exact ⟨v, vr, h1, RelP.mono e d v h2, RelPs.mono e ds vr h3⟩
end
mutual
theorem RelP.dp : ∀ (d : PyData) (v : V), RelP K L H d v → Dp K H v d
  | .none, _, h => by cases h; exact .non
  | .bool b, _, h => by cases h; exact .bl b
  | .int i, _, h => by cases h; exact .int i
  | .str s, _, h => by cases h; exact .str s
  | .list ds, v, h => by
    simp only [RelP] at h
    obtain ⟨a, vs, rfl, h2, h3⟩ := h
    exact .lst h2.sq (RelPs.dp ds vs h3)
  | .tuple ds, v, h => by
    simp only [RelP] at h
    obtain ⟨a, vs, rfl, h2, h3⟩ := h
    exact .tup h2.sq (RelPs.dp ds vs h3)
  | .dict _, _, h => h.elim
theorem RelPs.dp : ∀ (ds : List PyData) (vs : List V), RelPs K L H ds vs → DpAll K H vs ds
  | [], _, h => by cases h; exact .nil
  | d :: ds, vs, h => by
    simp only [RelPs] at h
    obtain ⟨v, vr, rfl, h2, h3⟩ := h
    exact .cons (RelP.dp d v h2) (RelPs.dp ds vr h3)
end
theorem RelPs.length : ∀ {ds : List PyData} {vs : List V}, RelPs K L H ds vs → vs.length = ds.length
  | [], _, h => by cases h; rfl
  | d :: ds, vs, h => by
    simp only [RelPs] at h
    obtain ⟨v, vr, rfl, h2, h3⟩ := h
    simp [RelPs.length h3]
theorem RelPs.get : ∀ {ds : List PyData} {vs : List V} {i : Nat} {d : PyData}, RelPs K L H ds vs → ds[i]? = some d → ∃ v, vs[i]? = some v ∧ RelP K L H d v
  | [], _, _, _, _, e => by simp at e
  | d :: ds, vs, 0, _, h, e => by
    simp only [RelPs] at h
    obtain ⟨v, vr, rfl, h2, h3⟩ := h
    simp at e; subst e
    exact ⟨v, rfl, h2⟩
  | d :: ds, vs, i + 1, _, h, e => by
    simp only [RelPs] at h
    obtain ⟨v, vr, rfl, h2, h3⟩ := h
    obtain ⟨u, h4, h5⟩ := RelPs.get (i := i) h3 (by simpa using e)
    exact ⟨u, by simpa using h4, h5⟩
theorem RelPs.getV : ∀ {ds : List PyData} {vs : List V} {i : Nat} {v : V}, RelPs K L H ds vs → vs[i]? = some v → ∃ d, ds[i]? = some d ∧ RelP K L H d v
  | [], _, _, _, h, e => by cases h; simp at e
  | d :: ds, vs, 0, _, h, e => by
    simp only [RelPs] at h
    obtain ⟨v, vr, rfl, h2, h3⟩ := h
    simp at e; subst e
    exact ⟨d, rfl, h2⟩
  | d :: ds, vs, i + 1, _, h, e => by
    simp only [RelPs] at h
    obtain ⟨v, vr, rfl, h2, h3⟩ := h
    obtain ⟨u, h4, h5⟩ := RelPs.getV (i := i) h3 (by simpa using e)
    exact ⟨u, by simpa using h4, h5⟩
theorem RelPs.append : ∀ {ds es : List PyData} {vs us : List V}, RelPs K L H ds vs → RelPs K L H es us → RelPs K L H (ds ++ es) (vs ++ us)
  | [], _, _, _, h, k => by cases h; exact k
  | d :: ds, es, vs, us, h, k => by
    simp only [RelPs] at h
    obtain ⟨v, vr, rfl, h2, h3⟩ := h
    show ∃ _ _, _
    exact ⟨v, vr ++ us, rfl, h2, RelPs.append h3 k⟩
theorem RelPs.one {d : PyData} {v : V} (h : RelP K L H d v) : RelPs K L H [d] [v] := ⟨v, [], rfl, h, rfl⟩
theorem RelPs.take : ∀ {ds : List PyData} {vs : List V} (n : Nat), RelPs K L H ds vs → RelPs K L H (ds.take n) (vs.take n)
  | [], _, n, h => by cases h; simp [RelPs]
  | d :: ds, vs, 0, h => by simp [RelPs]
  | d :: ds, vs, n + 1, h => by
    simp only [RelPs] at h
    obtain ⟨v, vr, rfl, h2, h3⟩ := h
    show ∃ _ _, _
    exact ⟨v, vr.take n, rfl, h2, RelPs.take n h3⟩
theorem RelPs.drop : ∀ {ds : List PyData} {vs : List V} (n : Nat), RelPs K L H ds vs → RelPs K L H (ds.drop n) (vs.drop n)
  | [], _, n, h => by cases h; simp [RelPs]
  | d :: ds, vs, 0, h => h
  | d :: ds, vs, n + 1, h => by
    simp only [RelPs] at h
    obtain ⟨v, vr, rfl, h2, h3⟩ := h
    exact RelPs.drop n h3
theorem RelPs.reverse : ∀ {ds : List PyData} {vs : List V}, RelPs K L H ds vs → RelPs K L H ds.reverse vs.reverse
  | [], _, h => by cases h; simp [RelPs]
  | d :: ds, vs, h => by
    simp only [RelPs] at h
    obtain ⟨v, vr, rfl, h2, h3⟩ := h
    rw [List.reverse_cons, List.reverse_cons]
    exact (RelPs.reverse h3).append (.one h2)
theorem RelPs.set : ∀ {ds : List PyData} {vs : List V} (i : Nat) {d : PyData} {v : V}, RelPs K L H ds vs → RelP K L H d v → RelPs K L H (ds.set i d) (vs.set i v)
  | [], _, i, _, _, h, _ => by cases h; simp [RelPs]
  | d :: ds, vs, 0, _, u, h, k => by
    simp only [RelPs] at h
    obtain ⟨v, vr, rfl, h2, h3⟩ := h
    exact ⟨u, vr, rfl, k, h3⟩
  | d :: ds, vs, i + 1, _, _, h, k => by
    simp only [RelPs] at h
    obtain ⟨v, vr, rfl, h2, h3⟩ := h
    exact ⟨v, vr.set i _, rfl, h2, RelPs.set i h3 k⟩
end

/-- a list that is read alone -/
def ScrAt (K : PySem.W.Frag) (L : Addr → Prop) (H : Hp) (a : Addr) (vs : List V) : Prop := (¬ L a ∧ ∃ o, H a = some (.frz o (.lst vs))) ∨ SqL K (fun _ => none) a vs
theorem ScrAt.sq {K : PySem.W.Frag} {L : Addr → Prop} {H : Hp} {a : Addr} {vs : List V} (h : ScrAt K L H a vs) : SqL K H a vs := by
  rcases h with ⟨_, h⟩ | h | h
  · exact .inl (.inr h)
  · exact (rd_none h).elim
  · exact .inr h
theorem ScrAt.mono {K : PySem.W.Frag} {L L' : Addr → Prop} {H H' : Hp} (e : Ext L H L' H') {a : Addr} {vs : List V} (h : ScrAt K L H a vs) : ScrAt K L' H' a vs := by
  rcases h with ⟨n, o, h⟩ | h
  · exact .inl ⟨(e a _ h n).2, o, (e a _ h n).1⟩
  · exact .inr h
/-- what a variable holds stands as a value -/
def RelD (K : PySem.W.Frag) (w : Wd) : DV → V → Prop
  | .d x, v => RelP K w.L w.H x v
  | .r n, v => ∃ a, w.as[n]? = some a ∧ v = .ref a
  | .s xs, v => ∃ a vs, v = .ref a ∧ ScrAt K w.L w.H a vs ∧ RelPs K w.L w.H xs vs
/-- a dict's pairs -/
def RelK (K : PySem.W.Frag) (w : Wd) : List (Key × PyData) → List (Key × V) → Prop
  | [], vs => vs = []
  | (k, d) :: r, vs => ∃ v vr, vs = (k, v) :: vr ∧ RelP K w.L w.H d v ∧ RelK K w r vr
theorem RelK.keys {K : PySem.W.Frag} {w : Wd} : ∀ {kvs : List (Key × PyData)} {kvs' : List (Key × V)}, RelK K w kvs kvs' → kvs'.map (·.1) = kvs.map (·.1)
  | [], _, h => by cases h; rfl
  | (k, d) :: r, vs, h => by
    simp only [RelK] at h
    obtain ⟨v, vr, rfl, h2, h3⟩ := h
    simp [RelK.keys h3]
mutual
/-- of whole numbers alone -/
def numK : NestedKey → Bool
  | .num _ => true
  | .tup ks => numKs ks
  | _ => false
def numKs : List NestedKey → Bool
  | [] => true
  | k :: ks => numK k && numKs ks
end
/-- the pairs of a dict whose keys are tuples -/
def RelN (K : PySem.W.Frag) (w : Wd) : List (PyData × PyData) → List (NestedKey × Addr × Value) → Prop
  | [], xs => xs = []
  | (kd, vd) :: r, xs => ∃ (k : NestedKey) (b : Addr) (u : Value) (v : V) (xr : List (NestedKey × Addr × Value)), xs = (k, b, u) :: xr ∧ k.data = kd ∧ numK k = true ∧ k.depth ≤ 8 ∧ RelP K w.L w.H kd (.ref b) ∧ RelP K w.L w.H vd v ∧ L2.RelV v u ∧ RelN K w r xr
/-- a dict's object with these entries -/
def rawD (a : Addr) (es : List DictEntry) : HO := .ext fun h => ∃ (o : Obj) (ep : Nat), h.get? a = some o ∧ o.ExactDict ∧ o.data = .dict es.toArray ep
def RelF (K : PySem.W.Frag) (w : Wd) : List (Str × DV) → List (Str × V) → Prop
  | [], vs => vs = []
  | (x, d) :: fs, vs => ∃ v vr, vs = (x, v) :: vr ∧ RelD K w d v ∧ RelF K w fs vr
/-- a mutable object stands as an object of the heap -/
def MOAt (K : PySem.W.Frag) (w : Wd) (a : Addr) : MO → HO → Prop
  | .lst xs, o => ∃ vs, o = .lst vs ∧ RelPs K w.L w.H xs vs
  | .dct kvs, o => ∃ kvs', o = .dK kvs' ∧ RelK K w kvs kvs'
  | .dcn kvs, o => ∃ (es : List DictEntry) (xs : List (NestedKey × Addr × Value)), o = rawD a es ∧ (a == sysModules) = false ∧ kvs.length ≤ 16777216 ∧ (∀ (prog : Program) (wo : World), es = xs.map (entryOfKey (nestedKind prog wo))) ∧ (xs.map (·.1)).Nodup ∧ RelN K w kvs xs
  | .ins C fs, o => ∃ dx fs', o = .ins (He.ga K C) dx fs' ∧ RelF K w fs fs'
structure Wd.Ok (K : PySem.W.Frag) (w : Wd) : Prop where
  len : w.as.length = w.st.length
  nd : w.as.Nodup
  tr : ∀ a ∈ w.as, ∃ o, w.H a = some o
  xt : ∀ a ∈ w.ex, ∃ o, w.H a = some o
  xd : ∀ a ∈ w.ex, a ∉ w.as
  ob : ∀ (n : Nat) (a : Addr) (mo : MO), w.as[n]? = some a → w.st[n]? = some (some mo) → ∃ o, w.H a = some o ∧ MOAt K w a mo o
structure Wd.Le (w w' : Wd) : Prop where
  pre : ∃ more, w'.as = w.as ++ more
  ext : Ext w.L w.H w'.L w'.H
  xq : w'.ex = w.ex
  xk : ∀ a ∈ w.ex, w'.H a = w.H a
theorem Wd.Le.refl {w : Wd} : w.Le w := ⟨⟨[], by simp⟩, Ext.refl, rfl, fun _ _ => rfl⟩
theorem Wd.Le.trans {w w1 w2 : Wd} (a : w.Le w1) (b : w1.Le w2) : w.Le w2 := by
  obtain ⟨m1, e1⟩ := a.pre
  obtain ⟨m2, e2⟩ := b.pre
  exact ⟨⟨m1 ++ m2, by rw [e2, e1, List.append_assoc]⟩, a.ext.trans b.ext, b.xq.trans a.xq, fun c hc => (b.xk c (by rw [a.xq]; exact hc)).trans (a.xk c hc)⟩
section
variable {K : PySem.W.Frag} {w w' : Wd}
theorem Wd.Le.at_ (l : w.Le w') {n : Nat} {a : Addr} (h : w.as[n]? = some a) : w'.as[n]? = some a := by
  obtain ⟨m, e⟩ := l.pre
  rw [e, List.getElem?_append_left (List.getElem?_eq_some_iff.mp h).1]
  exact h
theorem RelD.mono (l : w.Le w') : ∀ {d : DV} {v : V}, RelD K w d v → RelD K w' d v
  | .d x, v, h => RelP.mono l.ext x v h
  | .r n, v, ⟨a, h1, h2⟩ => ⟨a, l.at_ h1, h2⟩
  | .s xs, v, ⟨a, vs, h1, h2, h3⟩ => ⟨a, vs, h1, h2.mono l.ext, RelPs.mono l.ext xs vs h3⟩
theorem RelK.mono (e : Ext w.L w.H w'.L w'.H) : ∀ {kvs : List (Key × PyData)} {kvs' : List (Key × V)}, RelK K w kvs kvs' → RelK K w' kvs kvs'
  | [], _, h => h
  | (k, d) :: r, vs, h => by
    simp only [RelK] at h ⊢
    obtain ⟨v, vr, h1, h2, h3⟩ := h
    exact ⟨v, vr, h1, RelP.mono e _ _ h2, RelK.mono e h3⟩
theorem RelN.mono (e : Ext w.L w.H w'.L w'.H) : ∀ {kvs : List (PyData × PyData)} {xs : List (NestedKey × Addr × Value)}, RelN K w kvs xs → RelN K w' kvs xs
  | [], _, h => h
  | (kd, vd) :: r, xs, h => by
    simp only [RelN] at h ⊢
    obtain ⟨k, b, u, v, xr, h1, h2, h3, h4, h5, h6, h7, h8⟩ := h
    exact ⟨k, b, u, v, xr, h1, h2, h3, h4, RelP.mono e _ _ h5, RelP.mono e _ _ h6, h7, RelN.mono e h8⟩
theorem RelF.mono (l : w.Le w') : ∀ {fs : List (Str × DV)} {vs : List (Str × V)}, RelF K w fs vs → RelF K w' fs vs
  | [], _, h => h
  | (x, d) :: fs, vs, h => by
    simp only [RelF] at h ⊢
    obtain ⟨v, vr, h1, h2, h3⟩ := h
    exact ⟨v, vr, h1, h2.mono l, RelF.mono l h3⟩
theorem MOAt.mono (l : w.Le w') {a : Addr} : ∀ {mo : MO} {o : HO}, MOAt K w a mo o → MOAt K w' a mo o
  | .lst xs, o, ⟨vs, h1, h2⟩ => ⟨vs, h1, RelPs.mono l.ext xs vs h2⟩
  | .dct kvs, o, ⟨kvs', h1, h2⟩ => ⟨kvs', h1, h2.mono l.ext⟩
  | .dcn kvs, o, ⟨es, xs, h1, h2, h3, h4, h5, h6⟩ => ⟨es, xs, h1, h2, h3, h4, h5, h6.mono l.ext⟩
  | .ins C fs, o, ⟨dx, fs', h1, h2⟩ => ⟨dx, fs', h1, h2.mono l⟩
theorem RelD.monoX (e : Ext w.L w.H w'.L w'.H) (p : ∀ (n : Nat) (a : Addr), w.as[n]? = some a → w'.as[n]? = some a) : ∀ {d : DV} {v : V}, RelD K w d v → RelD K w' d v
  | .d x, v, h => RelP.mono e x v h
  | .r n, v, ⟨a, h1, h2⟩ => ⟨a, p n a h1, h2⟩
  | .s xs, v, ⟨a, vs, h1, h2, h3⟩ => ⟨a, vs, h1, h2.mono e, RelPs.mono e xs vs h3⟩
theorem RelF.monoX (e : Ext w.L w.H w'.L w'.H) (p : ∀ (n : Nat) (a : Addr), w.as[n]? = some a → w'.as[n]? = some a) : ∀ {fs : List (Str × DV)} {vs : List (Str × V)}, RelF K w fs vs → RelF K w' fs vs
  | [], _, h => h
  | (x, d) :: fs, vs, h => by
    simp only [RelF] at h ⊢
    obtain ⟨v, vr, h1, h2, h3⟩ := h
    exact ⟨v, vr, h1, h2.monoX e p, RelF.monoX e p h3⟩
theorem MOAt.monoX (e : Ext w.L w.H w'.L w'.H) (p : ∀ (n : Nat) (a : Addr), w.as[n]? = some a → w'.as[n]? = some a) {a : Addr} : ∀ {mo : MO} {o : HO}, MOAt K w a mo o → MOAt K w' a mo o
  | .lst xs, o, ⟨vs, h1, h2⟩ => ⟨vs, h1, RelPs.mono e xs vs h2⟩
  | .dct kvs, o, ⟨kvs', h1, h2⟩ => ⟨kvs', h1, h2.mono e⟩
  | .dcn kvs, o, ⟨es, xs, h1, h2, h3, h4, h5, h6⟩ => ⟨es, xs, h1, h2, h3, h4, h5, h6.mono e⟩
  | .ins C fs, o, ⟨dx, fs', h1, h2⟩ => ⟨dx, fs', h1, h2.monoX e p⟩
theorem mem_of_get {α : Type} {l : List α} {n : Nat} {a : α} (h : l[n]? = some a) : a ∈ l := List.mem_of_getElem? h
theorem Live.mem {as : List Addr} {st : Store} {a : Addr} (h : Live as st a) : a ∈ as := by
  obtain ⟨n, mo, h1, _⟩ := h
  exact mem_of_get h1
theorem nd_at {l : List Addr} (hN : l.Nodup) {i j : Nat} {x : Addr} (a : l[i]? = some x) (b : l[j]? = some x) : i = j := L2.nd_ix hN a b
theorem Wd.Ok.nomem (ok : w.Ok K) {p : Addr} (h : w.H p = none) : p ∉ w.as := fun z => by
  obtain ⟨o, e⟩ := ok.tr p z
  rw [h] at e; cases e
theorem Wd.Ok.nox (ok : w.Ok K) {p : Addr} (h : w.H p = none) : p ∉ w.ex := fun z => by
  obtain ⟨o, e⟩ := ok.xt p z
  rw [h] at e; cases e
theorem Wd.Ok.newNot (ok : w.Ok K) {p : Addr} (h : w.H p = none) : ¬ w.L p := fun z => z.elim (fun z => ok.nomem h z.mem) (ok.nox h)
theorem upd_keep {H : Hp} {p a : Addr} {o u : HO} (h : H p = none) (e : H a = some u) : upd H p o a = some u := by rw [upd_ne (ne_of_none e h)]; exact e
/-- a new object that is not mutable -/
theorem Wd.Ok.new (ok : w.Ok K) {p : Addr} {o : HO} (h : w.H p = none) : w.Le ⟨w.as, w.st, upd w.H p o, w.ex⟩ ∧ Wd.Ok K ⟨w.as, w.st, upd w.H p o, w.ex⟩ := by
  have l : w.Le ⟨w.as, w.st, upd w.H p o, w.ex⟩ := ⟨⟨[], by simp⟩, fun b u e n => ⟨upd_keep h e, n⟩, rfl, fun a ha => by
    obtain ⟨u, e⟩ := ok.xt a ha
    exact (upd_keep h e).trans e.symm⟩
  refine ⟨l, ok.len, ok.nd, fun a ha => ?_, fun a ha => ?_, ok.xd, fun n a mo h1 h2 => ?_⟩
  · obtain ⟨u, e⟩ := ok.tr a ha
    exact ⟨u, upd_keep h e⟩
  · obtain ⟨u, e⟩ := ok.xt a ha
    exact ⟨u, upd_keep h e⟩
  · obtain ⟨u, e, m⟩ := ok.ob n a mo h1 h2
    exact ⟨u, upd_keep h e, m.mono l⟩
/-- a new mutable object -/
theorem Wd.Ok.newM (ok : w.Ok K) {p : Addr} {o : HO} {mo : MO} (h : w.H p = none) (hm : w.Le ⟨w.as ++ [p], w.st ++ [some mo], upd w.H p o, w.ex⟩ → MOAt K ⟨w.as ++ [p], w.st ++ [some mo], upd w.H p o, w.ex⟩ p mo o) :
    w.Le ⟨w.as ++ [p], w.st ++ [some mo], upd w.H p o, w.ex⟩ ∧ Wd.Ok K ⟨w.as ++ [p], w.st ++ [some mo], upd w.H p o, w.ex⟩ ∧ (w.as ++ [p])[w.st.length]? = some p := by
  have hp := ok.nomem h
  have at_ : (w.as ++ [p])[w.st.length]? = some p := by rw [← ok.len]; simp
  have l : w.Le ⟨w.as ++ [p], w.st ++ [some mo], upd w.H p o, w.ex⟩ := ⟨⟨[p], rfl⟩, fun b u e n => ⟨upd_keep h e, fun z => by
    rcases z with z | z
    · obtain ⟨k, mo', z1, z2⟩ := z
      have z1 : (w.as ++ [p])[k]? = some b := z1
      have z2 : (w.st ++ [some mo])[k]? = some (some mo') := z2
      by_cases hk : k < w.as.length
      · rw [List.getElem?_append_left hk] at z1
        rw [List.getElem?_append_left (by rw [← ok.len]; exact hk)] at z2
        exact n (.inl ⟨k, mo', z1, z2⟩)
      · have hk2 : k = w.as.length := by
          have := (List.getElem?_eq_some_iff.mp z1).1
          simp at this
          omega
        subst hk2
        have : p = b := by simpa using z1
        subst this
        rw [h] at e; cases e
    · exact n (.inr z)⟩, rfl, fun a ha => by
    obtain ⟨u, e⟩ := ok.xt a ha
    exact (upd_keep h e).trans e.symm⟩
  refine ⟨l, ⟨by simp [ok.len], ?_, fun a ha => ?_, fun a ha => ?_, fun a ha => ?_, fun n a mo' h1 h2 => ?_⟩, at_⟩
  · show (w.as ++ [p]).Nodup
    rw [List.nodup_append]
    refine ⟨ok.nd, by simp, fun a ha b hb e => ?_⟩
    have : b = p := by simpa using hb
    subst this
    subst e
    exact hp ha
  · have ha : a ∈ w.as ++ [p] := ha
    rcases List.mem_append.mp ha with ha | ha
    · obtain ⟨u, e⟩ := ok.tr a ha
      exact ⟨u, upd_keep h e⟩
    · have : a = p := by simpa using ha
      subst this
      exact ⟨o, upd_same⟩
  · obtain ⟨u, e⟩ := ok.xt a ha
    exact ⟨u, upd_keep h e⟩
  · show a ∉ w.as ++ [p]
    intro z
    rcases List.mem_append.mp z with z | z
    · exact ok.xd a ha z
    · have : a = p := by simpa using z
      subst this
      exact ok.nox h ha
  · have h1 : (w.as ++ [p])[n]? = some a := h1
    have h2 : (w.st ++ [some mo])[n]? = some (some mo') := h2
    by_cases hk : n < w.as.length
    · rw [List.getElem?_append_left hk] at h1
      rw [List.getElem?_append_left (by rw [← ok.len]; exact hk)] at h2
      obtain ⟨u, e, m⟩ := ok.ob n a mo' h1 h2
      exact ⟨u, upd_keep h e, m.mono l⟩
    · have hk2 : n = w.as.length := by
        have := (List.getElem?_eq_some_iff.mp h1).1
        simp at this
        omega
      subst hk2
      have e1 : p = a := by simpa using h1
      subst e1
      rw [ok.len] at h2
      have e2 : mo = mo' := by simpa using h2
      subst e2
      exact ⟨o, upd_same, hm l⟩
/-- a mutable object is written -/
theorem Wd.Ok.write (ok : w.Ok K) {n : Nat} {p : Addr} {o : HO} {mo mo' : MO} (h1 : w.as[n]? = some p) (h2 : w.st[n]? = some (some mo)) (hm : ∀ w', w.Le w' → w'.as = w.as → MOAt K w' p mo' o) :
    w.Le ⟨w.as, w.st.set n (some mo'), upd w.H p o, w.ex⟩ ∧ Wd.Ok K ⟨w.as, w.st.set n (some mo'), upd w.H p o, w.ex⟩ := by
  have hn : n < w.st.length := (List.getElem?_eq_some_iff.mp h2).1
  have lv : ∀ b, Live w.as (w.st.set n (some mo')) b → Live w.as w.st b := fun b ⟨k, m2, z1, z2⟩ => by
    by_cases hk : k = n
    · subst hk; exact ⟨k, mo, z1, h2⟩
    · rw [List.getElem?_set_ne (Ne.symm hk)] at z2
      exact ⟨k, m2, z1, z2⟩
  have px : ∀ a ∈ w.ex, a ≠ p := fun a ha z => ok.xd a ha (by rw [z]; exact mem_of_get h1)
  have l : w.Le ⟨w.as, w.st.set n (some mo'), upd w.H p o, w.ex⟩ := ⟨⟨[], by simp⟩, fun b u e nl => by
    have nb : b ≠ p := fun z => nl (.inl (by rw [z]; exact ⟨n, mo, h1, h2⟩))
    exact ⟨by show upd w.H p o b = _; rw [upd_ne nb]; exact e, fun z => nl (z.elim (fun z => .inl (lv b z)) .inr)⟩, rfl, fun a ha => upd_ne (px a ha)⟩
  refine ⟨l, by simp [ok.len], ok.nd, fun a ha => ?_, fun a ha => ?_, ok.xd, fun k a m2 z1 z2 => ?_⟩
  · by_cases e : a = p
    · subst e; exact ⟨o, upd_same⟩
    · obtain ⟨u, e2⟩ := ok.tr a ha
      exact ⟨u, by show upd w.H p o a = _; rw [upd_ne e]; exact e2⟩
  · obtain ⟨u, e2⟩ := ok.xt a ha
    exact ⟨u, by show upd w.H p o a = _; rw [upd_ne (px a ha)]; exact e2⟩
  · have z1 : w.as[k]? = some a := z1
    have z2 : (w.st.set n (some mo'))[k]? = some (some m2) := z2
    by_cases hk : k = n
    · subst hk
      rw [h1] at z1; cases z1
      rw [List.getElem?_set_self hn] at z2
      cases z2
      exact ⟨o, upd_same, hm _ l rfl⟩
    · rw [List.getElem?_set_ne (Ne.symm hk)] at z2
      obtain ⟨u, e, m⟩ := ok.ob k a m2 z1 z2
      have nb : a ≠ p := fun z => hk (nd_at ok.nd z1 (by rw [z]; exact h1))
      exact ⟨u, by show upd w.H p o a = _; rw [upd_ne nb]; exact e, m.mono l⟩
/-- a mutable object is mutable no more -/
theorem Wd.Ok.freeze (ok : w.Ok K) (n : Nat) : w.Le ⟨w.as, w.st.set n none, w.H, w.ex⟩ ∧ Wd.Ok K ⟨w.as, w.st.set n none, w.H, w.ex⟩ := by
  have lv : ∀ b, Live w.as (w.st.set n none) b → Live w.as w.st b := fun b ⟨k, m2, z1, z2⟩ => by
    by_cases hk : k = n
    · subst hk
      rw [List.getElem?_set_self'] at z2
      cases h : w.st[k]? with
      | none => rw [h] at z2; cases z2
      | some x => rw [h] at z2; cases z2
    · rw [List.getElem?_set_ne (Ne.symm hk)] at z2
      exact ⟨k, m2, z1, z2⟩
  have l : w.Le ⟨w.as, w.st.set n none, w.H, w.ex⟩ := ⟨⟨[], by simp⟩, fun b u e nl => ⟨e, fun z => nl (z.elim (fun z => .inl (lv b z)) .inr)⟩, rfl, fun _ _ => rfl⟩
  refine ⟨l, by simp [ok.len], ok.nd, ok.tr, ok.xt, ok.xd, fun k a m2 z1 z2 => ?_⟩
  have z2 : (w.st.set n none)[k]? = some (some m2) := z2
  by_cases hk : k = n
  · subst hk
    rw [List.getElem?_set_self'] at z2
    cases h : w.st[k]? with
    | none => rw [h] at z2; cases z2
    | some x => rw [h] at z2; cases z2
  · rw [List.getElem?_set_ne (Ne.symm hk)] at z2
    obtain ⟨u, e, m⟩ := ok.ob k a m2 z1 z2
    exact ⟨u, e, m.mono l⟩
theorem Wd.Ok.not_live (ok : w.Ok K) {n : Nat} {p : Addr} (h1 : w.as[n]? = some p) (h2 : ∀ mo, w.st[n]? ≠ some (some mo)) : ¬ w.L p := fun z => by
  rcases z with ⟨k, m, z1, z2⟩ | z
  · have := nd_at ok.nd z1 h1
    subst this
    exact h2 m z2
  · exact ok.xd p z (mem_of_get h1)
end

/-! ### the slots -/
abbrev SE := List (Option DV)
def RelE (K : PySem.W.Frag) (w : Wd) (s : SE) (σ : L2.St) : Prop := s.length = σ.length ∧ ∀ (i : Nat) (d : DV), s[i]? = some (some d) → ∃ v, σ[i]? = some (some v) ∧ RelD K w d v
theorem RelE.mono {K : PySem.W.Frag} {w w' : Wd} (l : w.Le w') {s : SE} {σ : L2.St} (h : RelE K w s σ) : RelE K w' s σ := ⟨h.1, fun i d e => by
  obtain ⟨v, h1, h2⟩ := h.2 i d e
  exact ⟨v, h1, h2.mono l⟩⟩
theorem RelE.set {K : PySem.W.Frag} {w : Wd} {s : SE} {σ : L2.St} {i : Nat} {d : DV} {v : V} (h : RelE K w s σ) (r : RelD K w d v) : RelE K w (s.set i (some d)) (σ.set i (some v)) := by
  refine ⟨by simp [h.1], fun j d' e => ?_⟩
  by_cases hj : j = i
  · subst hj
    have hl : j < s.length := by
      have := (List.getElem?_eq_some_iff.mp e).1
      simpa using this
    rw [List.getElem?_set_self hl] at e
    cases e
    exact ⟨v, by rw [List.getElem?_set_self (by rw [← h.1]; exact hl)], r⟩
  · rw [List.getElem?_set_ne (Ne.symm hj)] at e ⊢
    exact h.2 j d' e

/-! ### the meanings -/
abbrev EM := SE → Store → Option (DV × Store)
abbrev TM := SE → Store → Option (Bool × Store)
abbrev AM := SE → Store → Option (List DV × Store)
inductive SR where
  | nx (s : SE) (st : Store)
  | ret (d : DV) (st : Store)
  | bk (s : SE) (st : Store)
  | ct (s : SE) (st : Store)
abbrev SM := SE → Store → Option SR

def RelDs (K : PySem.W.Frag) (w : Wd) : List DV → List V → Prop
  | [], vs => vs = []
  | d :: ds, vs => ∃ v vr, vs = v :: vr ∧ RelD K w d v ∧ RelDs K w ds vr
theorem RelDs.mono {K : PySem.W.Frag} {w w' : Wd} (l : w.Le w') : ∀ {ds : List DV} {vs : List V}, RelDs K w ds vs → RelDs K w' ds vs
  | [], _, h => h
  | d :: ds, vs, h => by
    simp only [RelDs] at h ⊢
    obtain ⟨v, vr, h1, h2, h3⟩ := h
    exact ⟨v, vr, h1, h2.mono l, RelDs.mono l h3⟩
theorem RelDs.length {K : PySem.W.Frag} {w : Wd} : ∀ {ds : List DV} {vs : List V}, RelDs K w ds vs → vs.length = ds.length
  | [], _, h => by cases h; rfl
  | d :: ds, vs, h => by
    simp only [RelDs] at h
    obtain ⟨v, vr, rfl, h2, h3⟩ := h
    simp [RelDs.length h3]
/-- what is wanted of a value behind -/
def KE (K : PySem.W.Frag) (w : Wd) (d : DV) (st' : Store) (Q : VK) : Prop := ∀ (v : V) (w' : Wd), w'.st = st' → w.Le w' → w'.Ok K → RelD K w' d v → Q v w'.H
def KB (K : PySem.W.Frag) (w : Wd) (b : Bool) (st' : Store) (Q : Bool → Hp → Prop) : Prop := ∀ (w' : Wd), w'.st = st' → w.Le w' → w'.Ok K → Q b w'.H
def KA (K : PySem.W.Frag) (w : Wd) (ds : List DV) (st' : Store) (Q : List V → Hp → Prop) : Prop := ∀ (vs : List V) (w' : Wd), w'.st = st' → w.Le w' → w'.Ok K → RelDs K w' ds vs → Q vs w'.H
def KS (K : PySem.W.Frag) (w : Wd) (D : Ends) : SR → Prop
  | .nx s st' => ∀ (σ : L2.St) (w' : Wd), w'.st = st' → w.Le w' → w'.Ok K → RelE K w' s σ → D.nx σ w'.H
  | .ret d st' => KE K w d st' D.rt
  | .bk s st' => ∀ (σ : L2.St) (w' : Wd), w'.st = st' → w.Le w' → w'.Ok K → RelE K w' s σ → D.bk σ w'.H
  | .ct s st' => ∀ (σ : L2.St) (w' : Wd), w'.st = st' → w.Le w' → w'.Ok K → RelE K w' s σ → D.ct σ w'.H
theorem KE.le {K : PySem.W.Frag} {w w1 : Wd} {d : DV} {st' : Store} {Q : VK} (h : KE K w d st' Q) (l : w.Le w1) : KE K w1 d st' Q := fun v w' e l' => h v w' e (l.trans l')
theorem KS.le {K : PySem.W.Frag} {w w1 : Wd} {D : Ends} (l : w.Le w1) : ∀ {r : SR}, KS K w D r → KS K w1 D r
  | .nx _ _, h => fun σ w' e l' => h σ w' e (l.trans l')
  | .ret _ _, h => KE.le h l
  | .bk _ _, h => fun σ w' e l' => h σ w' e (l.trans l')
  | .ct _ _, h => fun σ w' e l' => h σ w' e (l.trans l')

def LiftE (K : PySem.W.Frag) (m : EM) : TE := fun σ H Q => ∃ (w : Wd) (s : SE) (d : DV) (st' : Store), w.H = H ∧ w.Ok K ∧ RelE K w s σ ∧ m s w.st = some (d, st') ∧ KE K w d st' Q
def LiftT (K : PySem.W.Frag) (m : TM) : TT := fun σ H Q => ∃ (w : Wd) (s : SE) (b : Bool) (st' : Store), w.H = H ∧ w.Ok K ∧ RelE K w s σ ∧ m s w.st = some (b, st') ∧ KB K w b st' Q
def LiftA (K : PySem.W.Frag) (m : AM) : TA := fun σ H Q => ∃ (w : Wd) (s : SE) (ds : List DV) (st' : Store), w.H = H ∧ w.Ok K ∧ RelE K w s σ ∧ m s w.st = some (ds, st') ∧ KA K w ds st' Q
def LiftS (K : PySem.W.Frag) (m : SM) : TS := fun D σ H => ∃ (w : Wd) (s : SE) (r : SR), w.H = H ∧ w.Ok K ∧ RelE K w s σ ∧ m s w.st = some r ∧ KS K w D r

abbrev PDE (X : Cx) (e : Expr) (m : EM) : Prop := PE X e (LiftE X.K m)
abbrev PDT (X : Cx) (e : Expr) (m : TM) : Prop := PT X e (LiftT X.K m)
abbrev PDW (X : Cx) (e : Expr) (m : TM) : Prop := PW X e (LiftT X.K m)
abbrev PDA (X : Cx) (es : List Expr) (m : AM) : Prop := PA X es (LiftA X.K m)
abbrev PDS (X : Cx) (st : Stmt) (m : SM) : Prop := PS X st (LiftS X.K m)
abbrev PDB (X : Cx) (sts : List Stmt) (m : SM) : Prop := PSs X sts (LiftS X.K m)

section
variable {X : Cx}
theorem PE.imp {e : Expr} {t t' : TE} (h : PE X e t) (i : ∀ σ H Q, t' σ H Q → t σ H Q) : PE X e t' := ⟨fun pins s σ H Q I hw => h.run pins s σ H Q I (i σ H Q hw)⟩
theorem PT.imp {e : Expr} {t t' : TT} (h : PT X e t) (i : ∀ σ H Q, t' σ H Q → t σ H Q) : PT X e t' := ⟨fun pins s σ H Q I hw => h.run pins s σ H Q I (i σ H Q hw)⟩
theorem PW.imp {e : Expr} {t t' : TT} (h : PW X e t) (i : ∀ σ H Q, t' σ H Q → t σ H Q) : PW X e t' := ⟨fun wh pins s σ H Q I hw => h.run wh pins s σ H Q I (i σ H Q hw)⟩
theorem PA.imp {es : List Expr} {t t' : TA} (h : PA X es t) (i : ∀ σ H Q, t' σ H Q → t σ H Q) : PA X es t' := ⟨fun ps pins s σ H Q I hw => h.run ps pins s σ H Q I (i σ H Q hw)⟩
theorem PS.imp {st : Stmt} {t t' : TS} (h : PS X st t) (i : ∀ D σ H, t' D σ H → t D σ H) : PS X st t' := ⟨fun pins s σ H D I hw => h.run pins s σ H D I (i D σ H hw)⟩
theorem PSs.imp {st : List Stmt} {t t' : TS} (h : PSs X st t) (i : ∀ D σ H, t' D σ H → t D σ H) : PSs X st t' := ⟨fun pins s σ H D I hw => h.run pins s σ H D I (i D σ H hw)⟩
end
theorem KE.here {K : PySem.W.Frag} {w : Wd} {d : DV} {Q : VK} (h : KE K w d w.st Q) (ok : w.Ok K) {v : V} (r : RelD K w d v) : Q v w.H := h v w rfl .refl ok r
end PD

set_option Elab.async false
set_option linter.all false
set_option maxRecDepth 100000
set_option maxHeartbeats 4000000
/-! PD1: expressions -/
namespace PD
open PySem PySem.Spec PyProof.Rows L2

/-! ### places of new objects -/
section
variable {K : PySem.W.Frag} {w : Wd}
theorem KE.tup {ds : List PyData} {vs : List V} {Q : VK} (h : KE K w (.d (.tuple ds)) w.st Q) (ok : w.Ok K) (r : RelPs K w.L w.H ds vs) : ∀ p, w.H p = none → Q (.ref p) (upd w.H p (.tup vs)) := fun p hp => by
  obtain ⟨l, ok'⟩ := ok.new (o := .tup vs) hp
  refine h (.ref p) ⟨w.as, w.st, upd w.H p (.tup vs), w.ex⟩ rfl l ok' ?_
  simp only [RelD, RelP]
  exact ⟨p, vs, rfl, .inl ⟨ok.newNot hp, .inl upd_same⟩, RelPs.mono l.ext _ _ r⟩
theorem KE.lst {ds : List PyData} {vs : List V} {Q : VK} (h : KE K w (.d (.list ds)) w.st Q) (ok : w.Ok K) (r : RelPs K w.L w.H ds vs) : ∀ p, w.H p = none → Q (.ref p) (upd w.H p (.lst vs)) := fun p hp => by
  obtain ⟨l, ok'⟩ := ok.new (o := .lst vs) hp
  refine h (.ref p) ⟨w.as, w.st, upd w.H p (.lst vs), w.ex⟩ rfl l ok' ?_
  simp only [RelD, RelP]
  exact ⟨p, vs, rfl, ⟨ok.newNot hp, upd_same⟩, RelPs.mono l.ext _ _ r⟩
theorem KE.newL {ds : List PyData} {vs : List V} {Q : VK} (h : KE K w (.r w.st.length) (w.st ++ [some (.lst ds)]) Q) (ok : w.Ok K) (r : RelPs K w.L w.H ds vs) : ∀ p, w.H p = none → Q (.ref p) (upd w.H p (.lst vs)) := fun p hp => by
  obtain ⟨l, ok', at_⟩ := ok.newM (o := .lst vs) (mo := .lst ds) hp fun l => ⟨vs, rfl, RelPs.mono l.ext _ _ r⟩
  exact h (.ref p) _ rfl l ok' ⟨p, at_, rfl⟩
/-- a value that is there -/
theorem KE.at_ {d : DV} {Q : VK} {v : V} (h : KE K w d w.st Q) (ok : w.Ok K) (r : RelD K w d v) : Q v w.H := h v w rfl .refl ok r
end

/-! ### what stands as a list, a tuple -/
def lstV (st : Store) : DV → Option (List PyData)
  | .d (.list xs) => some xs
  | .r n => match st[n]? with
    | some (some (.lst xs)) => some xs
    | _ => none
  | .s xs => some xs
  | _ => none
def tupV : DV → Option (List PyData)
  | .d (.tuple xs) => some xs
  | _ => none
/-- a list or a tuple -/
def seqV (st : Store) (d : DV) : Option (List PyData) := match tupV d with
  | some xs => some xs
  | none => lstV st d
/-- as pure data -/
def view (st : Store) : DV → Option PyData
  | .d x => some x
  | .r n => match st[n]? with
    | some (some (.lst xs)) => some (.list xs)
    | _ => none
  | .s xs => some (.list xs)
section
variable {K : PySem.W.Frag} {w : Wd} {d : DV} {v : V} {xs : List PyData}
theorem lstV_rel (h : lstV w.st d = some xs) (r : RelD K w d v) (ok : w.Ok K) : ∃ a vs, v = .ref a ∧ SqL K w.H a vs ∧ RelPs K w.L w.H xs vs := by
  unfold lstV at h
  split at h
  · cases h
    simp only [RelD, RelP] at r
    obtain ⟨a, vs, e, h2, h3⟩ := r
    exact ⟨a, vs, e, h2.sq, h3⟩
  · split at h
    · rename_i n _ ys hn
      cases h
      obtain ⟨a, h1, e⟩ := r
      obtain ⟨o, e1, vs, e2, h3⟩ := ok.ob n a _ h1 hn
      subst e2
      exact ⟨a, vs, e, SqL.of e1, h3⟩
    · cases h
  · cases h
    obtain ⟨a, vs, e, h1, h3⟩ := r
    exact ⟨a, vs, e, h1.sq, h3⟩
  · cases h
theorem tupV_rel (h : tupV d = some xs) (r : RelD K w d v) : ∃ a vs, v = .ref a ∧ SqT K w.H a vs ∧ RelPs K w.L w.H xs vs := by
  unfold tupV at h
  split at h
  · cases h
    simp only [RelD, RelP] at r
    obtain ⟨a, vs, e, h2, h3⟩ := r
    exact ⟨a, vs, e, h2.sq, h3⟩
  · cases h
theorem seqV_rel (h : seqV w.st d = some xs) (r : RelD K w d v) (ok : w.Ok K) : ∃ a vs, v = .ref a ∧ (SqL K w.H a vs ∨ SqT K w.H a vs) ∧ RelPs K w.L w.H xs vs := by
  unfold seqV at h
  split at h
  · rename_i ys hy
    cases h
    obtain ⟨a, vs, e, h2, h3⟩ := tupV_rel hy r
    exact ⟨a, vs, e, .inr h2, h3⟩
  · obtain ⟨a, vs, e, h2, h3⟩ := lstV_rel h r ok
    exact ⟨a, vs, e, .inl h2, h3⟩
theorem view_dp {x : PyData} (h : view w.st d = some x) (r : RelD K w d v) (ok : w.Ok K) : Dp K w.H v x := by
  unfold view at h
  split at h
  · cases h
    exact RelP.dp _ _ r
  · split at h
    · rename_i n _ ys hn
      cases h
      obtain ⟨a, vs, e, h2, h3⟩ := lstV_rel (d := .r n) (xs := ys) (by simp [lstV, hn]) r ok
      subst e
      exact .lst h2 (RelPs.dp _ _ h3)
    · cases h
  · cases h
    obtain ⟨a, vs, e, h1, h3⟩ := r
    subst e
    exact .lst h1.sq (RelPs.dp _ _ h3)
end

/-! ### names, constants -/
def mVar (i : Nat) : EM := fun s st => match s[i]? with
  | some (some d) => some (d, st)
  | _ => none
def mC (x : PyData) : EM := fun _ st => some (.d x, st)
section
variable {X : Cx} {pos : Pos}
theorem pd_var (i : Nat) {x : Str} (hN : X.N[i]? = some x := by rfl) (hv : Vis X.env.scope x := by first | exact Or.inl rfl | exact Or.inr (Or.inl rfl) | exact Or.inr (Or.inr rfl)) (hd : (x == ("__debug__" : Str)) = false := by decide)
    (hcd : (x == ("__classdict__" : Str)) = false := by decide) : PDE X (.Name x pos) (mVar i) := by
  refine PE.imp (pe_var hN hv hd hcd) fun σ H Q h => ?_
  obtain ⟨w, s, d, st', rfl, ok, re, hm, hk⟩ := h
  unfold mVar at hm
  split at hm
  · rename_i d' e
    cases hm
    obtain ⟨v, e1, r⟩ := re.2 i _ e
    exact ⟨v, e1, hk.at_ ok r⟩
  · cases hm
theorem LiftE.const {K : PySem.W.Frag} {x : PyData} {v : V} (r : ∀ L H, RelP K L H x v) {σ : L2.St} {H : Hp} {Q : VK} (h : LiftE K (mC x) σ H Q) : tC v σ H Q := by
  obtain ⟨w, s, d, st', rfl, ok, re, hm, hk⟩ := h
  cases hm
  exact hk.at_ ok (r _ _)
theorem pd_int {i : Int} {j : Nat} : PDE X (.Constant (.int i) j pos) (mC (.int i)) := PE.imp pe_int fun σ H Q h => LiftE.const (x := .int i) (v := .int i) (fun _ _ => rfl) h
theorem pd_bl {b : Bool} {j : Nat} : PDE X (.Constant (.bool b) j pos) (mC (.bool b)) := PE.imp pe_bl fun σ H Q h => LiftE.const (x := .bool b) (v := .bl b) (fun _ _ => rfl) h
theorem pd_non {j : Nat} : PDE X (.Constant .none j pos) (mC .none) := PE.imp pe_non fun σ H Q h => LiftE.const (x := .none) (v := .non) (fun _ _ => rfl) h
theorem pd_str {x : Str} {j : Nat} : PDE X (.Constant (.str x) j pos) (mC (.str x)) := PE.imp pe_str fun σ H Q h => LiftE.const (x := .str x) (v := .str x) (fun _ _ => rfl) h
/-- a constant of the module -/
def GC (K : PySem.W.Frag) (mg : Str → Option Value) (x : Str) (d : PyData) : Prop := ∃ (u : Value) (v : V), mg x = some u ∧ RelV v u ∧ ∀ L H, RelP K L H d v
theorem pd_gc {x : Str} {d : PyData} (h : GC X.K X.mg x d) (hg : Gl X x := by rfl) (hd : (x == ("__debug__" : Str)) = false := by decide) : PDE X (.Name x pos) (mC d) := by
  obtain ⟨u, v, h1, h2, h3⟩ := h
  exact PE.imp (pe_glob hg h1 h2 hd) fun σ H Q h => LiftE.const h3 h
end

/-! ### operators on two values -/
abbrev F1 := DV → Store → Option (DV × Store)
abbrev F2 := DV → DV → Store → Option (DV × Store)
def mBin (f : F2) (a b : EM) : EM := fun s st => match a s st with
  | some (x, s1) => (match b s s1 with
    | some (y, s2) => f x y s2
    | none => none)
  | none => none
def mUn (f : F1) (a : EM) : EM := fun s st => match a s st with
  | some (x, s1) => f x s1
  | none => none
def Sound2 (K : PySem.W.Frag) (f : F2) (r : R2) : Prop := ∀ (w : Wd) (x y d : DV) (u v : V) (st' : Store) (Q : VK), w.Ok K → RelD K w x u → RelD K w y v → f x y w.st = some (d, st') → KE K w d st' Q → r u v w.H Q
def Sound1 (K : PySem.W.Frag) (f : F1) (r : V → Hp → VK → Prop) : Prop := ∀ (w : Wd) (x d : DV) (u : V) (st' : Store) (Q : VK), w.Ok K → RelD K w x u → f x w.st = some (d, st') → KE K w d st' Q → r u w.H Q
theorem mBin_some {f : F2} {a b : EM} {s : SE} {st : Store} {r : DV × Store} (h : mBin f a b s st = some r) : ∃ x s1 y s2, a s st = some (x, s1) ∧ b s s1 = some (y, s2) ∧ f x y s2 = some r := by
  unfold mBin at h
  split at h
  · rename_i x s1 e1
    split at h
    · rename_i y s2 e2
      exact ⟨x, s1, y, s2, e1, e2, h⟩
    · cases h
  · cases h
theorem mUn_some {f : F1} {a : EM} {s : SE} {st : Store} {r : DV × Store} (h : mUn f a s st = some r) : ∃ x s1, a s st = some (x, s1) ∧ f x s1 = some r := by
  unfold mUn at h
  split at h
  · rename_i x s1 e1
    exact ⟨x, s1, e1, h⟩
  · cases h
theorem LiftE.bin {K : PySem.W.Frag} {f : F2} {r : R2} (hs : Sound2 K f r) {a b : EM} {σ : L2.St} {H : Hp} {Q : VK} (h : LiftE K (mBin f a b) σ H Q) : tOp r (LiftE K a) (LiftE K b) σ H Q := by
  obtain ⟨w, s, d, st', rfl, ok, re, hm, hk⟩ := h
  obtain ⟨x, s1, y, s2, e1, e2, e3⟩ := mBin_some hm
  refine ⟨w, s, x, s1, rfl, ok, re, e1, fun u w1 q1 l1 ok1 r1 => ?_⟩
  subst q1
  refine ⟨w1, s, y, s2, rfl, ok1, re.mono l1, e2, fun v w2 q2 l2 ok2 r2 => ?_⟩
  subst q2
  exact hs w2 x y d u v st' Q ok2 (r1.mono l2) r2 e3 (hk.le (l1.trans l2))
theorem LiftE.un {K : PySem.W.Frag} {f : F1} {r : V → Hp → VK → Prop} (hs : Sound1 K f r) {a : EM} {σ : L2.St} {H : Hp} {Q : VK} (h : LiftE K (mUn f a) σ H Q) : tUn r (LiftE K a) σ H Q := by
  obtain ⟨w, s, d, st', rfl, ok, re, hm, hk⟩ := h
  obtain ⟨x, s1, e1, e3⟩ := mUn_some hm
  refine ⟨w, s, x, s1, rfl, ok, re, e1, fun u w1 q1 l1 ok1 r1 => ?_⟩
  subst q1
  exact hs w1 x d u st' Q ok1 r1 e3 (hk.le l1)
section
variable {X : Cx} {pos : Pos} {a b : Expr} {ma mb : EM}
theorem pd_op {op : Operator} {f : F2} {r : R2} (ho : OpR X (binaryOp op) r) (hs : Sound2 X.K f r) (ha : PDE X a ma) (hb : PDE X b mb) : PDE X (.BinOp a op b pos) (mBin f ma mb) :=
  PE.imp (pe_op ho ha hb) fun σ H Q h => LiftE.bin hs h
theorem pd_cmp {op : CmpOp} {f : F2} {r : R2} (ho : OpR X (compareOp op) r) (hs : Sound2 X.K f r) (ha : PDE X a ma) (hb : PDE X b mb) (hm : behindInMarks op b = false) : PDE X (.Compare a [op] [b] pos) (mBin f ma mb) :=
  PE.imp (pe_cmpR ho ha hb hm) fun σ H Q h => LiftE.bin hs h
theorem pd_ix {f : F2} {r : R2} (hr : IxR X r) (hs : Sound2 X.K f r) (ha : PDE X a ma) (hb : PDE X b mb) (hx : PlainIx b := by intro _ _; rfl) : PDE X (.Subscript a b pos) (mBin f ma mb) :=
  PE.imp (pe_ix hr ha hb hx) fun σ H Q h => LiftE.bin hs h
theorem pd_un {op : UnaryOp} {f : F1} {r : V → Hp → VK → Prop} (ho : UnR X (unaryOp op) r) (hs : Sound1 X.K f r) (ha : PDE X a ma) : PDE X (.UnaryOp op a pos) (mUn f ma) :=
  PE.imp (pe_un ho ha) fun σ H Q h => LiftE.un hs h
end

/-! ### the operators -/
def mulOk (i j : Int) : Bool := decide (i.natAbs.log2 < 64) || decide (j.natAbs.log2 < 64) || decide (i.natAbs.log2 + j.natAbs.log2 < 1000000)
def divOk (j : Int) : Bool := decide (j ≠ 0) && decide (j.natAbs.log2 < 9000)
def ret (x : PyData) (st : Store) : Option (DV × Store) := some (.d x, st)
def catOk (m n : Nat) : Bool := decide (m + n ≤ 16777216)
def fAdd : F2 := fun x y st => match x, y with
  | .d (.int i), .d (.int j) => ret (.int (i + j)) st
  | .d (.str a), .d (.str b) => if catOk a.length b.length then ret (.str (a ++ b)) st else none
  | x, y => match tupV x, tupV y with
    | some a, some b => if catOk a.length b.length then ret (.tuple (a ++ b)) st else none
    | _, _ => match lstV st x, lstV st y with
      | some a, some b => if catOk a.length b.length then ret (.list (a ++ b)) st else none
      | _, _ => none
def fSub : F2 := fun x y st => match x, y with
  | .d (.int i), .d (.int j) => ret (.int (i - j)) st
  | _, _ => none
def fMul : F2 := fun x y st => match x, y with
  | .d (.int i), .d (.int j) => if mulOk i j then ret (.int (i * j)) st else none
  | _, _ => none
def fDiv : F2 := fun x y st => match x, y with
  | .d (.int i), .d (.int j) => if divOk j then ret (.int (i.fdiv j)) st else none
  | _, _ => none
def fMod : F2 := fun x y st => match x, y with
  | .d (.int i), .d (.int j) => if decide (j ≠ 0) then ret (.int (i.fmod j)) st else none
  | _, _ => none
def fPow : F2 := fun x y st => match x, y with
  | .d (.int i), .d (.int j) => if decide (0 ≤ j) && decide (j ≤ 1000000) && decide (i.natAbs < 18446744073709551616) then ret (.int (i ^ j.toNat)) st else none
  | _, _ => none
def fNeg : F1 := fun x st => match x with
  | .d (.int i) => ret (.int (-i)) st
  | _ => none
theorem catOk_le {m n : Nat} (h : catOk m n = true) : m + n ≤ sizeLine := by rw [sizeLine_eq]; exact of_decide_eq_true h
theorem mulOk_ok {i j : Int} (h : mulOk i j = true) : IntMulOk i j := by
  unfold mulOk at h
  simp only [Bool.or_eq_true, decide_eq_true_eq] at h
  have big : ∀ {k : Int}, k.natAbs.log2 < 64 → -(2 ^ 64) < k ∧ k < 2 ^ 64 := fun {k} hk => by
    by_cases h0 : k.natAbs = 0
    · have : k = 0 := by omega
      subst this; decide
    · have := (Nat.log2_lt h0).mp hk
      omega
  rcases h with (h | h) | h
  · exact CMul.ok (.inl (big h))
  · exact CMul.ok (.inr (big h))
  · exact CMulW.ok h
section
variable {X : Cx}
theorem op_catS : OpR X (binaryOp .Add) (fun x y H Q => ∃ l b xs zs, x = .ref l ∧ y = .ref b ∧ SqL X.K H l xs ∧ SqL X.K H b zs ∧ xs.length + zs.length ≤ sizeLine ∧ ∀ p, H p = none → Q (.ref p) (upd H p (.lst (xs ++ zs)))) := by
  intro pins s σ H x y v u Q I rx ry h
  obtain ⟨l, b, xs, zs, rfl, rfl, hH, hB, hz, q⟩ := h
  cases rx
  cases ry
  obtain ⟨its, r, hl, z⟩ := I.list hH
  obtain ⟨its2, r2, hb, z2⟩ := I.list hB
  have e1 := r.length
  have e2 := r2.length
  obtain ⟨⟨cls, dd, data, sl⟩, n, ho, hc, hdd, hd⟩ := id hl
  obtain ⟨⟨cls2, dd2, data2, sl2⟩, n2, ho2, hc2, hdd2, hd2⟩ := id hb
  simp only at hc hd hc2 hd2
  subst hc hd hc2 hd2
  have e : its.toArray ++ its2.toArray = (its ++ its2).toArray := by simp
  refine concat_meets ⟨_, ho, rfl⟩ ⟨_, ho2, rfl⟩ noFill_list_add seq_list_add PySem.F.slot_list_add PySem.F.entry_list_add (PySem.F.args_list_add_2 _ _) (list_addW l b its.toArray its2.toArray n n2 dd dd2 sl sl2 (by rw [List.size_toArray, List.size_toArray]; omega)) ⟨ho, ho2, ?_⟩
  rw [e]
  exact ⟨.ref _, _, I.lnew (t' := s.toks) (r.append r2) (by rw [List.length_append]; omega), rfl, q _ I.fresh⟩
end
end PD

set_option Elab.async false
set_option linter.all false
set_option maxRecDepth 100000
set_option maxHeartbeats 4000000
/-! PD2: operators, comparisons, tests, subscripts, slices, displays, built-ins -/
namespace PD
open PySem PySem.Spec PyProof.Rows L2
section
variable {X : Cx}
theorem op_fdivA : OpR X (binaryOp .FloorDiv) (rI (fun _ j => j ≠ 0 ∧ j.natAbs.log2 < 9000) fun i j => .int (i.fdiv j)) := opI fun _ _ _ _ _ _ _ hc q => floordiv_int hc.1 q (.inl (PyProof.noPylong_of_log2 hc.2))
theorem op_mulA : OpR X (binaryOp .Mult) (rI IntMulOk fun i j => .int (i * j)) := opI fun _ _ _ _ _ _ _ hc q => mul_int q hc
abbrev rAddA (K : PySem.W.Frag) : R2 := fun x y H Q => rI0 (fun i j => .int (i + j)) x y H Q ∨ ((∃ i j, x = .str i ∧ y = .str j ∧ i.length + j.length ≤ sizeLine ∧ Q (.str (i ++ j)) H) ∨ (rCatA K x y H Q ∨
  (∃ l b xs zs, x = .ref l ∧ y = .ref b ∧ SqL K H l xs ∧ SqL K H b zs ∧ xs.length + zs.length ≤ sizeLine ∧ ∀ p, H p = none → Q (.ref p) (upd H p (.lst (xs ++ zs))))))
theorem op_addA : OpR X (binaryOp .Add) (rAddA X.K) := op_add.or (op_add_str.or (op_catA.or op_catS))
end
section
variable {K : PySem.W.Frag}
theorem RelPs.nil_iff {L : Addr → Prop} {H : Hp} {ds : List PyData} {vs : List V} (r : RelPs K L H ds vs) : vs = [] ↔ ds = [] := by
  have := r.length
  constructor
  · intro e; subst e; simpa using this.symm
  · intro e; subst e; simpa using this
theorem relTup {w : Wd} {ds : List PyData} {a : Addr} {vs : List V} (h : TupAt K w.L w.H a vs) (r : RelPs K w.L w.H ds vs) : RelD K w (.d (.tuple ds)) (.ref a) := by
  simp only [RelD, RelP]
  exact ⟨a, vs, rfl, h, r⟩
theorem relTup_inv {w : Wd} {ds : List PyData} {v : V} (h : RelD K w (.d (.tuple ds)) v) : ∃ a vs, v = .ref a ∧ TupAt K w.L w.H a vs ∧ RelPs K w.L w.H ds vs := by
  simpa only [RelD, RelP] using h
theorem tupV_eq {d : DV} {xs : List PyData} (h : tupV d = some xs) : d = .d (.tuple xs) := by
  unfold tupV at h
  split at h
  · cases h; rfl
  · cases h
theorem sound_add : Sound2 K fAdd (rAddA K) := by
  intro w x y d u v st' Q ok rx ry h hk
  unfold fAdd at h
  split at h
  · cases h
    cases rx
    cases ry
    exact .inl ⟨_, _, rfl, rfl, hk.at_ ok rfl⟩
  · split at h
    · rename_i hc
      cases h
      cases rx
      cases ry
      exact .inr (.inl ⟨_, _, rfl, rfl, catOk_le hc, hk.at_ ok rfl⟩)
    · cases h
  · split at h
    · rename_i xs ys hx hy
      split at h
      · rename_i hc
        cases h
        have ex := tupV_eq hx
        have ey := tupV_eq hy
        subst ex
        subst ey
        obtain ⟨a, vs, rfl, ha, ra⟩ := relTup_inv rx
        obtain ⟨b, us, rfl, hb, rb⟩ := relTup_inv ry
        refine .inr (.inr (.inl ⟨a, b, vs, us, rfl, rfl, ha.sq, hb.sq, by rw [ra.length, rb.length]; exact catOk_le hc, fun e => ?_, fun _ e => ?_, fun _ _ => hk.tup ok (ra.append rb)⟩))
        · have e1 := ra.nil_iff.mp e
          subst e1
          exact hk.at_ ok (relTup hb rb)
        · have e1 := rb.nil_iff.mp e
          subst e1
          exact hk.at_ ok (relTup ha (by rw [List.append_nil]; exact ra))
      · cases h
    · split at h
      · rename_i xs ys hx hy
        split at h
        · rename_i hc
          cases h
          obtain ⟨a, vs, rfl, ha, ra⟩ := lstV_rel hx rx ok
          obtain ⟨b, us, rfl, hb, rb⟩ := lstV_rel hy ry ok
          exact .inr (.inr (.inr ⟨a, b, vs, us, rfl, rfl, ha, hb, by rw [ra.length, rb.length]; exact catOk_le hc, hk.lst ok (ra.append rb)⟩))
        · cases h
      · cases h
theorem sound_sub : Sound2 K fSub (rI0 fun i j => .int (i - j)) := by
  intro w x y d u v st' Q ok rx ry h hk
  unfold fSub at h
  split at h
  · cases h
    cases rx
    cases ry
    exact ⟨_, _, rfl, rfl, hk.at_ ok rfl⟩
  · cases h
theorem sound_mul : Sound2 K fMul (rI IntMulOk fun i j => .int (i * j)) := by
  intro w x y d u v st' Q ok rx ry h hk
  unfold fMul at h
  split at h
  · split at h
    · rename_i hc
      cases h
      cases rx
      cases ry
      exact ⟨_, _, rfl, rfl, mulOk_ok hc, hk.at_ ok rfl⟩
    · cases h
  · cases h
theorem sound_div : Sound2 K fDiv (rI (fun _ j => j ≠ 0 ∧ j.natAbs.log2 < 9000) fun i j => .int (i.fdiv j)) := by
  intro w x y d u v st' Q ok rx ry h hk
  unfold fDiv at h
  split at h
  · split at h
    · rename_i hc
      cases h
      cases rx
      cases ry
      unfold divOk at hc
      simp only [Bool.and_eq_true, decide_eq_true_eq] at hc
      exact ⟨_, _, rfl, rfl, hc, hk.at_ ok rfl⟩
    · cases h
  · cases h
theorem sound_mod : Sound2 K fMod (rI (fun _ j => j ≠ 0) fun i j => .int (i.fmod j)) := by
  intro w x y d u v st' Q ok rx ry h hk
  unfold fMod at h
  split at h
  · split at h
    · rename_i hc
      cases h
      cases rx
      cases ry
      exact ⟨_, _, rfl, rfl, of_decide_eq_true hc, hk.at_ ok rfl⟩
    · cases h
  · cases h
theorem sound_pow : Sound2 K fPow (rI CPow fun i j => .int (i ^ j.toNat)) := by
  intro w x y d u v st' Q ok rx ry h hk
  unfold fPow at h
  split at h
  · split at h
    · rename_i hc
      cases h
      cases rx
      cases ry
      simp only [Bool.and_eq_true, decide_eq_true_eq] at hc
      exact ⟨_, _, rfl, rfl, ⟨hc.1.1, hc.1.2, by simpa using hc.2⟩, hk.at_ ok rfl⟩
    · cases h
  · cases h
theorem sound_neg : Sound1 K fNeg (rU fun i => .int (-i)) := by
  intro w x d u st' Q ok rx h hk
  unfold fNeg at h
  split at h
  · cases h
    cases rx
    exact ⟨_, rfl, hk.at_ ok rfl⟩
  · cases h
end
section
variable {X : Cx} {pos : Pos} {a b : Expr} {ma mb : EM}
theorem pd_add (ha : PDE X a ma) (hb : PDE X b mb) : PDE X (.BinOp a .Add b pos) (mBin fAdd ma mb) := pd_op op_addA sound_add ha hb
theorem pd_sub (ha : PDE X a ma) (hb : PDE X b mb) : PDE X (.BinOp a .Sub b pos) (mBin fSub ma mb) := pd_op op_sub sound_sub ha hb
theorem pd_mul (ha : PDE X a ma) (hb : PDE X b mb) : PDE X (.BinOp a .Mult b pos) (mBin fMul ma mb) := pd_op op_mulA sound_mul ha hb
theorem pd_div (ha : PDE X a ma) (hb : PDE X b mb) : PDE X (.BinOp a .FloorDiv b pos) (mBin fDiv ma mb) := pd_op op_fdivA sound_div ha hb
theorem pd_mod (ha : PDE X a ma) (hb : PDE X b mb) : PDE X (.BinOp a .Mod b pos) (mBin fMod ma mb) := pd_op op_modN sound_mod ha hb
theorem pd_pow (ha : PDE X a ma) (hb : PDE X b mb) : PDE X (.BinOp a .Pow b pos) (mBin fPow ma mb) := pd_op op_pow sound_pow ha hb
theorem pd_neg (ha : PDE X a ma) : PDE X (.UnaryOp .USub a pos) (mUn fNeg ma) := pd_un un_neg sound_neg ha
end

/-! ### comparisons -/
def rb (b : Bool) (st : Store) : Option (DV × Store) := some (.d (.bool b), st)
def fCmpI (p : Int → Int → Bool) : F2 := fun x y st => match x, y with
  | .d (.int i), .d (.int j) => rb (p i j) st
  | _, _ => none
abbrev fLt : F2 := fCmpI fun i j => decide (i < j)
abbrev fLe : F2 := fCmpI fun i j => decide (i ≤ j)
abbrev fGt : F2 := fCmpI fun i j => decide (j < i)
abbrev fGe : F2 := fCmpI fun i j => decide (j ≤ i)
def fEqB (neg : Bool) : F2 := fun x y st => match view st x, view st y with
  | some a, some b => if SeqAt.shaped a && SeqAt.shaped b then rb (neg ^^ PyData.eqv a b) st else none
  | _, _ => none
abbrev fEq : F2 := fEqB false
abbrev fNe : F2 := fEqB true
/-- in, not in: of a list, a tuple (deep), of a text; dicts: PD4 -/
def strIn (a b : Str) : Bool := !(Builtin.Str.occurrences b a 0 b.length 1).isEmpty
def fInB (neg : Bool) : F2 := fun x y st => match y with
  | .d (.str b) => (match x with
    | .d (.str a) => rb (neg ^^ strIn a b) st
    | _ => none)
  | .r n => (match st[n]? with
    | some (some (.dct kvs)) => (match x with
      | .d (.int i) => rb (neg ^^ (kvs.any fun kv => decide (kv.1 = Sum.inl i))) st
      | .d (.str s) => rb (neg ^^ (kvs.any fun kv => decide (kv.1 = Sum.inr s))) st
      | _ => none)
    | some (some (.lst xs)) => (match x with
      | .d a => if SeqAt.shaped a && SeqAt.shaped (.list xs) then rb (neg ^^ (xs.any fun z => PyData.eqv z a)) st else none
      | _ => none)
    | _ => none)
  | .d (.list xs) => (match x with
    | .d a => if SeqAt.shaped a && SeqAt.shaped (.list xs) then rb (neg ^^ (xs.any fun z => PyData.eqv z a)) st else none
    | _ => none)
  | .d (.tuple xs) => (match x with
    | .d a => if SeqAt.shaped a && SeqAt.shaped (.tuple xs) then rb (neg ^^ (xs.any fun z => PyData.eqv z a)) st else none
    | _ => none)
  | _ => none
abbrev fIn : F2 := fInB false
abbrev fNotIn : F2 := fInB true
def fIsNone (neg : Bool) : F2 := fun x y st => match y with
  | .d .none => (match x with
    | .d .none => rb (!neg) st
    | _ => rb neg st)
  | .d (.bool b) => (match x with
    | .d (.bool a) => rb (neg ^^ decide (a = b)) st
    | _ => none)
  | _ => none
section
variable {K : PySem.W.Frag}
theorem sound_cmpI {p : Int → Int → Bool} : Sound2 K (fCmpI p) (rI0 fun i j => .bl (p i j)) := by
  intro w x y d u v st' Q ok rx ry h hk
  unfold fCmpI at h
  split at h
  · cases h
    cases rx
    cases ry
    exact ⟨_, _, rfl, rfl, hk.at_ ok rfl⟩
  · cases h
theorem sound_eq : Sound2 K fEq (rEqD K) := by
  intro w x y d u v st' Q ok rx ry h hk
  unfold fEq fEqB at h
  split at h
  · rename_i a b ha hb
    split at h
    · rename_i hc
      cases h
      rw [Bool.and_eq_true] at hc
      exact ⟨a, b, view_dp ha rx ok, view_dp hb ry ok, hc.1, hc.2, hk.at_ ok (by simp [RelD, RelP])⟩
    · cases h
  · cases h
theorem sound_ne : Sound2 K fNe (rNeD K) := by
  intro w x y d u v st' Q ok rx ry h hk
  unfold fNe fEqB at h
  split at h
  · rename_i a b ha hb
    split at h
    · rename_i hc
      cases h
      rw [Bool.and_eq_true] at hc
      exact ⟨a, b, view_dp ha rx ok, view_dp hb ry ok, hc.1, hc.2, hk.at_ ok (by simp [RelD, RelP])⟩
    · cases h
  · cases h
end
section
variable {X : Cx} {pos : Pos} {a b : Expr} {ma mb : EM}
theorem pd_lt (ha : PDE X a ma) (hb : PDE X b mb) : PDE X (.Compare a [.Lt] [b] pos) (mBin fLt ma mb) := pd_cmp op_lt sound_cmpI ha hb (nomark _)
theorem pd_le (ha : PDE X a ma) (hb : PDE X b mb) : PDE X (.Compare a [.LtE] [b] pos) (mBin fLe ma mb) := pd_cmp op_le sound_cmpI ha hb (nomark _)
theorem pd_gt (ha : PDE X a ma) (hb : PDE X b mb) : PDE X (.Compare a [.Gt] [b] pos) (mBin fGt ma mb) := pd_cmp op_gt sound_cmpI ha hb (nomark _)
theorem pd_ge (ha : PDE X a ma) (hb : PDE X b mb) : PDE X (.Compare a [.GtE] [b] pos) (mBin fGe ma mb) := pd_cmp op_ge sound_cmpI ha hb (nomark _)
theorem pd_eq {k : Nat} (hr : Room k X.A) (ha : PDE X a ma) (hb : PDE X b mb) : PDE X (.Compare a [.Eq] [b] pos) (mBin fEq ma mb) := pd_cmp (op_eqD hr.units) sound_eq ha hb (nomark _)
theorem pd_ne {k : Nat} (hr : Room k X.A) (ha : PDE X a ma) (hb : PDE X b mb) : PDE X (.Compare a [.NotEq] [b] pos) (mBin fNe ma mb) := pd_cmp (op_neD hr.units) sound_ne ha hb (nomark _)
end
end PD

set_option Elab.async false
set_option linter.all false
set_option maxRecDepth 100000
set_option maxHeartbeats 4000000
/-! PD3: in, is, tests, subscripts, slices, displays -/
namespace PD
open PySem PySem.Spec PyProof.Rows L2
section
variable {X : Cx}
theorem Room.units65 {k : Nat} {A : Around} (r : Room k A) : A.units + 65 < cLine := by have := r.un; omega
/-- in, not in, by values -/
def rInA (K : PySem.W.Frag) (neg : Bool) : R2 := fun x y H Q =>
  (∃ i j, x = .str i ∧ y = .str j ∧ Q (.bl (neg ^^ !(Builtin.Str.occurrences j i 0 j.length 1).isEmpty)) H) ∨
  (∃ d ds, Dp K H x d ∧ (Dp K H y (.list ds) ∧ SeqAt.shaped (.list ds) = true ∨ Dp K H y (.tuple ds) ∧ SeqAt.shaped (.tuple ds) = true) ∧ SeqAt.shaped d = true ∧ Q (.bl (neg ^^ ds.any fun z => PyData.eqv z d)) H) ∨
  (∃ a kvs k, y = .ref a ∧ H a = some (.dK kvs) ∧ x = kV k ∧ Q (.bl (neg ^^ (valV kvs k).isSome)) H)
theorem op_inA {k : Nat} (hr : Room k X.A) : OpR X (compareOp .In) (rInA X.K false) := by
  intro pins s σ H x y v u Q I rx ry h
  rcases h with ⟨i, j, rfl, rfl, q⟩ | ⟨d, ds, hd, he, sd, q⟩ | ⟨a, kvs, k, rfl, ha, rfl, q⟩
  · exact op_in_str pins s σ H _ _ v u Q I rx ry ⟨i, j, rfl, rfl, by simpa using q⟩
  · obtain ⟨as, r1⟩ := Dp.reads I d x v hd rx
    rw [Bool.false_xor] at q
    rcases he with ⟨he, se⟩ | ⟨he, se⟩
    · obtain ⟨bs, r2⟩ := Dp.reads I (.list ds) y u he ry
      exact SeqAt.in_list_reads r2 r1 (SeqAt.canLay_of_shaped se) (SeqAt.canLay_of_shaped sd) (PyProof.Rows.room_in_shaped sd (Room.units65 hr)) ⟨.bl _, H, I, rfl, q⟩
    · obtain ⟨bs, r2⟩ := Dp.reads I (.tuple ds) y u he ry
      exact SeqAt.in_tuple_reads r2 r1 (SeqAt.canLay_of_shaped se) (SeqAt.canLay_of_shaped sd) (PyProof.Rows.room_in_shaped sd (Room.units65 hr)) ⟨.bl _, H, I, rfl, q⟩
  · cases ry
    exact d_in (hu_of hr) I (DGet.k ha) rx fun s' I' => ⟨.bl _, H, I', rfl, by simpa using q⟩
theorem op_notInA {k : Nat} (hr : Room k X.A) : OpR X (compareOp .NotIn) (rInA X.K true) := by
  intro pins s σ H x y v u Q I rx ry h
  rcases h with ⟨i, j, rfl, rfl, q⟩ | ⟨d, ds, hd, he, sd, q⟩ | ⟨a, kvs, k, rfl, ha, rfl, q⟩
  · exact op_notIn_str pins s σ H _ _ v u Q I rx ry ⟨i, j, rfl, rfl, by simpa using q⟩
  · obtain ⟨as, r1⟩ := Dp.reads I d x v hd rx
    rw [Bool.true_xor] at q
    rcases he with ⟨he, se⟩ | ⟨he, se⟩
    · obtain ⟨bs, r2⟩ := Dp.reads I (.list ds) y u he ry
      exact SeqAt.notIn_list_reads r2 r1 (SeqAt.canLay_of_shaped se) (SeqAt.canLay_of_shaped sd) (PyProof.Rows.room_in_shaped sd (Room.units65 hr)) ⟨.bl _, H, I, rfl, q⟩
    · obtain ⟨bs, r2⟩ := Dp.reads I (.tuple ds) y u he ry
      exact SeqAt.notIn_tuple_reads r2 r1 (SeqAt.canLay_of_shaped se) (SeqAt.canLay_of_shaped sd) (PyProof.Rows.room_in_shaped sd (Room.units65 hr)) ⟨.bl _, H, I, rfl, q⟩
  · cases ry
    exact d_notIn (hu_of hr) I (DGet.k ha) rx fun s' I' => ⟨.bl _, H, I', rfl, by simpa using q⟩
def rIsA (neg : Bool) : R2 := fun x y H Q => (y = .non ∧ Q (.bl (neg ^^ decide (x = .non))) H) ∨ ∃ a b : Bool, x = .bl a ∧ y = .bl b ∧ Q (.bl (neg ^^ decide (a = b))) H
theorem op_isA : OpR X (compareOp .Is) (rIsA false) := by
  intro pins s σ H x y v u Q I rx ry h
  rcases h with ⟨e, q⟩ | ⟨a, b, e1, e2, q⟩
  · exact op_isN pins s σ H x y v u Q I rx ry ⟨e, by simpa using q⟩
  · exact op_isBl pins s σ H x y v u Q I rx ry ⟨a, b, e1, e2, by simpa using q⟩
theorem op_isNotA : OpR X (compareOp .IsNot) (rIsA true) := by
  intro pins s σ H x y v u Q I rx ry h
  rcases h with ⟨e, q⟩ | ⟨a, b, e1, e2, q⟩
  · exact op_notN pins s σ H x y v u Q I rx ry ⟨e, by simpa using q⟩
  · exact op_notBl pins s σ H x y v u Q I rx ry ⟨a, b, e1, e2, by simpa using q⟩
end
section
variable {K : PySem.W.Frag}
theorem RelD.boolK {w : Wd} {b : Bool} : RelD K w (.d (.bool b)) (.bl b) := by simp [RelD, RelP]
theorem kvs_any {kvs : List (Key × PyData)} {kvs' : List (Key × V)} (h : kvs'.map (·.1) = kvs.map (·.1)) (k : Key) : (valV kvs' k).isSome = kvs.any fun kv => decide (kv.1 = k) := by
  rw [← valV_any]
  have e : ∀ {β : Type} (l : List (Key × β)), (l.any fun kv => decide (kv.1 = k)) = ((l.map (·.1)).any fun x => decide (x = k)) := fun l => by rw [List.any_map]; rfl
  rw [e, e, h]
theorem sound_in (neg : Bool) : Sound2 K (fInB neg) (rInA K neg) := by
  intro w x y d u v st' Q ok rx ry h hk
  unfold fInB at h
  split at h
  · split at h
    · cases h
      cases rx
      cases ry
      exact .inl ⟨_, _, rfl, rfl, hk.at_ ok RelD.boolK⟩
    · cases h
  · split at h
    · rename_i n _ kvs hn
      obtain ⟨a, h1, e⟩ := ry
      subst e
      obtain ⟨o, e1, kvs', e2, hr⟩ := ok.ob n a _ h1 hn
      subst e2
      split at h
      · cases h
        cases rx
        refine .inr (.inr ⟨a, kvs', Sum.inl _, rfl, e1, rfl, ?_⟩)
        rw [kvs_any hr.keys]
        exact hk.at_ ok RelD.boolK
      · cases h
        cases rx
        refine .inr (.inr ⟨a, kvs', Sum.inr _, rfl, e1, rfl, ?_⟩)
        rw [kvs_any hr.keys]
        exact hk.at_ ok RelD.boolK
      · cases h
    · rename_i n _ xs hn
      split at h
      · split at h
        · rename_i hc
          cases h
          rw [Bool.and_eq_true] at hc
          exact .inr (.inl ⟨_, xs, RelP.dp _ _ rx, .inl ⟨view_dp (d := .r n) (by simp [view, hn]) ry ok, hc.2⟩, hc.1, hk.at_ ok RelD.boolK⟩)
        · cases h
      · cases h
    · cases h
  · split at h
    · split at h
      · rename_i hc
        cases h
        rw [Bool.and_eq_true] at hc
        exact .inr (.inl ⟨_, _, RelP.dp _ _ rx, .inl ⟨RelP.dp _ _ ry, hc.2⟩, hc.1, hk.at_ ok RelD.boolK⟩)
      · cases h
    · cases h
  · split at h
    · split at h
      · rename_i hc
        cases h
        rw [Bool.and_eq_true] at hc
        exact .inr (.inl ⟨_, _, RelP.dp _ _ rx, .inr ⟨RelP.dp _ _ ry, hc.2⟩, hc.1, hk.at_ ok RelD.boolK⟩)
      · cases h
    · cases h
  · cases h
theorem RelD.none_iff {w : Wd} {x : DV} {v : V} (r : RelD K w x v) (h : x ≠ .d .none) : v ≠ .non := by
  intro e
  subst e
  cases x with
  | d x => cases x <;> simp only [RelD, RelP] at r <;> first | (exact absurd rfl h) | (obtain ⟨_, _, e, _⟩ := r; cases e) | cases r
  | r n => obtain ⟨_, _, e⟩ := r; cases e
  | s xs => obtain ⟨_, _, e, _⟩ := r; cases e
theorem sound_is (neg : Bool) : Sound2 K (fIsNone neg) (rIsA neg) := by
  intro w x y d u v st' Q ok rx ry h hk
  unfold fIsNone at h
  split at h
  · cases ry
    split at h
    · cases h
      cases rx
      refine .inl ⟨rfl, ?_⟩
      have := hk.at_ ok RelD.boolK
      simpa using this
    · rename_i hx
      cases h
      refine .inl ⟨rfl, ?_⟩
      rw [decide_eq_false (rx.none_iff fun e => hx e), Bool.xor_false]
      exact hk.at_ ok RelD.boolK
  · split at h
    · cases h
      cases rx
      cases ry
      exact .inr ⟨_, _, rfl, rfl, hk.at_ ok RelD.boolK⟩
    · cases h
  · cases h
end
section
variable {X : Cx} {pos : Pos} {a b c : Expr} {ma mb mc : EM}
theorem pd_in {k : Nat} (hr : Room k X.A) (ha : PDE X a ma) (hb : PDE X b mb) (hm : behindInMarks .In b = false := by rfl) : PDE X (.Compare a [.In] [b] pos) (mBin fIn ma mb) := pd_cmp (op_inA hr) (sound_in false) ha hb hm
theorem pd_notin {k : Nat} (hr : Room k X.A) (ha : PDE X a ma) (hb : PDE X b mb) (hm : behindInMarks .NotIn b = false := by rfl) : PDE X (.Compare a [.NotIn] [b] pos) (mBin fNotIn ma mb) := pd_cmp (op_notInA hr) (sound_in true) ha hb hm
theorem pd_is (ha : PDE X a ma) (hb : PDE X b mb) : PDE X (.Compare a [.Is] [b] pos) (mBin (fIsNone false) ma mb) := pd_cmp op_isA (sound_is false) ha hb (nomark _)
theorem pd_isnot (ha : PDE X a ma) (hb : PDE X b mb) : PDE X (.Compare a [.IsNot] [b] pos) (mBin (fIsNone true) ma mb) := pd_cmp op_isNotA (sound_is true) ha hb (nomark _)
end

/-! ### tests -/
def mB (m : EM) : TM := fun s st => match m s st with
  | some (.d (.bool b), st') => some (b, st')
  | _ => none
theorem mB_some {m : EM} {s : SE} {st : Store} {b : Bool} {st' : Store} (h : mB m s st = some (b, st')) : m s st = some (.d (.bool b), st') := by
  unfold mB at h
  split at h
  · rename_i e
    cases h
    exact e
  · cases h
def mNotT (t : TM) : TM := fun s st => match t s st with
  | some (b, st') => some (!b, st')
  | none => none
def mAndT (t u : TM) : TM := fun s st => match t s st with
  | some (true, st') => u s st'
  | some (false, st') => some (false, st')
  | none => none
def mOrT (t u : TM) : TM := fun s st => match t s st with
  | some (true, st') => some (true, st')
  | some (false, st') => u s st'
  | none => none
def mOfT (t : TM) : EM := fun s st => match t s st with
  | some (b, st') => some (.d (.bool b), st')
  | none => none
/-- a and b, a or b as values: the last one may be anything -/
def mAndV (t : EM) (u : EM) : EM := fun s st => match t s st with
  | some (.d (.bool true), st') => u s st'
  | some (.d (.bool false), st') => some (.d (.bool false), st')
  | _ => none
def mOrV (t : EM) (u : EM) : EM := fun s st => match t s st with
  | some (.d (.bool true), st') => some (.d (.bool true), st')
  | some (.d (.bool false), st') => u s st'
  | _ => none
def mIf (t : TM) (a b : EM) : EM := fun s st => match t s st with
  | some (true, st') => a s st'
  | some (false, st') => b s st'
  | none => none
def mNotV (a : EM) : EM := fun s st => match a s st with
  | some (.d (.bool b), st') => some (.d (.bool !b), st')
  | _ => none
/-- a op b op' c -/
def mChain (f g : F2) (a b c : EM) : EM := fun s st => match a s st with
  | some (x, s1) => (match b s s1 with
    | some (y, s2) => (match f x y s2 with
      | some (.d (.bool true), s3) => (match c s s3 with
        | some (z, s4) => g y z s4
        | none => none)
      | some (.d (.bool false), s3) => some (.d (.bool false), s3)
      | _ => none)
    | none => none)
  | none => none
section
variable {X : Cx} {pos : Pos} {a b c : Expr} {ma mb mc : EM} {ta tb : TM} {rest : List Expr}
theorem LiftT.of {K : PySem.W.Frag} {m : EM} {σ : L2.St} {H : Hp} {Q : Bool → Hp → Prop} (h : LiftT K (mB m) σ H Q) : LiftE K m σ H fun x H1 => ∃ k, x = .bl k ∧ Q k H1 := by
  obtain ⟨w, s, d, st', rfl, ok, re, hm, hk⟩ := h
  refine ⟨w, s, _, st', rfl, ok, re, mB_some hm, fun v w' e l ok' r => ?_⟩
  cases r
  exact ⟨_, rfl, hk w' e l ok'⟩
theorem pt_e {e : Expr} {m : EM} (h : PDE X e m) (he : ∀ whole, isTrue e X.env whole = (do let v ← whole; standAt e.pos; holding [v] (truthy v)) := by intro _; rfl) : PDT X e (mB m) :=
  PT.imp (pt_val h he) fun σ H Q h => LiftT.of h
theorem pt_cmpD {op : CmpOp} {f : F2} {r : R2} (ho : OpR X (compareOp op) r) (hs : Sound2 X.K f r) (ha : PDE X a ma) (hb : PDE X b mb) (hm : behindInMarks op b = false) : PDT X (.Compare a [op] [b] pos) (mB (mBin f ma mb)) :=
  PT.imp (pt_cmpR ho ha hb hm) fun σ H Q h => LiftE.bin hs (LiftT.of h)
theorem pt_lt (ha : PDE X a ma) (hb : PDE X b mb) : PDT X (.Compare a [.Lt] [b] pos) (mB (mBin fLt ma mb)) := pt_cmpD op_lt sound_cmpI ha hb (nomark _)
theorem pt_le (ha : PDE X a ma) (hb : PDE X b mb) : PDT X (.Compare a [.LtE] [b] pos) (mB (mBin fLe ma mb)) := pt_cmpD op_le sound_cmpI ha hb (nomark _)
theorem pt_gt (ha : PDE X a ma) (hb : PDE X b mb) : PDT X (.Compare a [.Gt] [b] pos) (mB (mBin fGt ma mb)) := pt_cmpD op_gt sound_cmpI ha hb (nomark _)
theorem pt_ge (ha : PDE X a ma) (hb : PDE X b mb) : PDT X (.Compare a [.GtE] [b] pos) (mB (mBin fGe ma mb)) := pt_cmpD op_ge sound_cmpI ha hb (nomark _)
theorem pt_eq {k : Nat} (hr : Room k X.A) (ha : PDE X a ma) (hb : PDE X b mb) : PDT X (.Compare a [.Eq] [b] pos) (mB (mBin fEq ma mb)) := pt_cmpD (op_eqD hr.units) sound_eq ha hb (nomark _)
theorem pt_ne {k : Nat} (hr : Room k X.A) (ha : PDE X a ma) (hb : PDE X b mb) : PDT X (.Compare a [.NotEq] [b] pos) (mB (mBin fNe ma mb)) := pt_cmpD (op_neD hr.units) sound_ne ha hb (nomark _)
theorem pt_in {k : Nat} (hr : Room k X.A) (ha : PDE X a ma) (hb : PDE X b mb) (hm : behindInMarks .In b = false := by rfl) : PDT X (.Compare a [.In] [b] pos) (mB (mBin fIn ma mb)) := pt_cmpD (op_inA hr) (sound_in false) ha hb hm
theorem pt_notin {k : Nat} (hr : Room k X.A) (ha : PDE X a ma) (hb : PDE X b mb) (hm : behindInMarks .NotIn b = false := by rfl) : PDT X (.Compare a [.NotIn] [b] pos) (mB (mBin fNotIn ma mb)) := pt_cmpD (op_notInA hr) (sound_in true) ha hb hm
theorem pt_is (ha : PDE X a ma) (hb : PDE X b mb) : PDT X (.Compare a [.Is] [b] pos) (mB (mBin (fIsNone false) ma mb)) := pt_cmpD op_isA (sound_is false) ha hb (nomark _)
theorem pt_isnot (ha : PDE X a ma) (hb : PDE X b mb) : PDT X (.Compare a [.IsNot] [b] pos) (mB (mBin (fIsNone true) ma mb)) := pt_cmpD op_isNotA (sound_is true) ha hb (nomark _)
theorem pt_notD (ha : PDT X a ta) : PDT X (.UnaryOp .Not a pos) (mNotT ta) := PT.imp (pt_not ha) fun σ H Q h => by
  obtain ⟨w, s, d, st', rfl, ok, re, hm, hk⟩ := h
  unfold mNotT at hm
  split at hm
  · rename_i e
    cases hm
    exact ⟨w, s, _, _, rfl, ok, re, e, hk⟩
  · cases hm
theorem pw_and1D (ha : PDT X a ta) : PDW X (.BoolOp .And [a] pos) ta := pw_and1 ha
theorem pw_or1D (ha : PDT X a ta) : PDW X (.BoolOp .Or [a] pos) ta := pw_or1 ha
theorem pw_andD (ha : PDT X a ta) (hb : PDW X (.BoolOp .And (b :: rest) pos) tb) : PDW X (.BoolOp .And (a :: b :: rest) pos) (mAndT ta tb) := PW.imp (pw_and ha hb) fun σ H Q h => by
  obtain ⟨w, s, d, st', rfl, ok, re, hm, hk⟩ := h
  unfold mAndT at hm
  split at hm
  · rename_i s1 e
    refine ⟨w, s, true, s1, rfl, ok, re, e, fun w1 e1 l1 ok1 => ?_⟩
    refine iteT ?_
    subst e1
    exact ⟨w1, s, d, st', rfl, ok1, re.mono l1, hm, fun w2 e2 l2 ok2 => hk w2 e2 (l1.trans l2) ok2⟩
  · rename_i s1 e
    cases hm
    refine ⟨w, s, false, _, rfl, ok, re, e, fun w1 e1 l1 ok1 => ?_⟩
    refine iteF ?_
    exact hk w1 e1 l1 ok1
  · cases hm
theorem pw_orD (ha : PDT X a ta) (hb : PDW X (.BoolOp .Or (b :: rest) pos) tb) : PDW X (.BoolOp .Or (a :: b :: rest) pos) (mOrT ta tb) := PW.imp (pw_or ha hb) fun σ H Q h => by
  obtain ⟨w, s, d, st', rfl, ok, re, hm, hk⟩ := h
  unfold mOrT at hm
  split at hm
  · rename_i s1 e
    cases hm
    refine ⟨w, s, true, _, rfl, ok, re, e, fun w1 e1 l1 ok1 => ?_⟩
    refine iteT ?_
    exact hk w1 e1 l1 ok1
  · rename_i s1 e
    refine ⟨w, s, false, s1, rfl, ok, re, e, fun w1 e1 l1 ok1 => ?_⟩
    refine iteF ?_
    subst e1
    exact ⟨w1, s, d, st', rfl, ok1, re.mono l1, hm, fun w2 e2 l2 ok2 => hk w2 e2 (l1.trans l2) ok2⟩
  · cases hm
theorem pd_one {op : BoolOp} (h : PDE X a ma) : PDE X (.BoolOp op [a] pos) ma := pe_one h
theorem pd_and (ha : PDE X a ma) (hb : PDE X (.BoolOp .And (b :: rest) pos) mb) : PDE X (.BoolOp .And (a :: b :: rest) pos) (mAndV ma mb) := PE.imp (pe_and ha hb) fun σ H Q h => by
  obtain ⟨w, s, d, st', rfl, ok, re, hm, hk⟩ := h
  unfold mAndV at hm
  split at hm
  · rename_i s1 e
    refine ⟨w, s, _, s1, rfl, ok, re, e, fun v w1 e1 l1 ok1 r1 => ?_⟩
    cases r1
    refine ⟨true, rfl, ?_⟩
    refine iteT ?_
    subst e1
    exact ⟨w1, s, d, st', rfl, ok1, re.mono l1, hm, hk.le l1⟩
  · rename_i s1 e
    cases hm
    refine ⟨w, s, _, _, rfl, ok, re, e, fun v w1 e1 l1 ok1 r1 => ?_⟩
    cases r1
    refine ⟨false, rfl, ?_⟩
    refine iteF ?_
    exact hk _ w1 e1 l1 ok1 RelD.boolK
  · cases hm
theorem pd_or (ha : PDE X a ma) (hb : PDE X (.BoolOp .Or (b :: rest) pos) mb) : PDE X (.BoolOp .Or (a :: b :: rest) pos) (mOrV ma mb) := PE.imp (pe_or ha hb) fun σ H Q h => by
  obtain ⟨w, s, d, st', rfl, ok, re, hm, hk⟩ := h
  unfold mOrV at hm
  split at hm
  · rename_i s1 e
    cases hm
    refine ⟨w, s, _, _, rfl, ok, re, e, fun v w1 e1 l1 ok1 r1 => ?_⟩
    cases r1
    refine ⟨true, rfl, ?_⟩
    refine iteT ?_
    exact hk _ w1 e1 l1 ok1 RelD.boolK
  · rename_i s1 e
    refine ⟨w, s, _, s1, rfl, ok, re, e, fun v w1 e1 l1 ok1 r1 => ?_⟩
    cases r1
    refine ⟨false, rfl, ?_⟩
    refine iteF ?_
    subst e1
    exact ⟨w1, s, d, st', rfl, ok1, re.mono l1, hm, hk.le l1⟩
  · cases hm
theorem pd_not (ha : PDE X a ma) : PDE X (.UnaryOp .Not a pos) (mNotV ma) := PE.imp (pe_not ha) fun σ H Q h => by
  obtain ⟨w, s, d, st', rfl, ok, re, hm, hk⟩ := h
  unfold mNotV at hm
  split at hm
  · rename_i b s1 e
    cases hm
    refine ⟨w, s, _, _, rfl, ok, re, e, fun v w1 e1 l1 ok1 r1 => ?_⟩
    cases r1
    exact ⟨b, rfl, hk _ w1 e1 l1 ok1 RelD.boolK⟩
  · cases hm
theorem pd_if (hc : PDT X c ta) (ha : PDE X a ma) (hb : PDE X b mb) : PDE X (.IfExp c a b pos) (mIf ta ma mb) := PE.imp (pe_ifExp hc ha hb) fun σ H Q h => by
  obtain ⟨w, s, d, st', rfl, ok, re, hm, hk⟩ := h
  unfold mIf at hm
  split at hm
  · rename_i s1 e
    refine ⟨w, s, true, s1, rfl, ok, re, e, fun w1 e1 l1 ok1 => ?_⟩
    refine iteT ?_
    subst e1
    exact ⟨w1, s, d, st', rfl, ok1, re.mono l1, hm, hk.le l1⟩
  · rename_i s1 e
    refine ⟨w, s, false, s1, rfl, ok, re, e, fun w1 e1 l1 ok1 => ?_⟩
    refine iteF ?_
    subst e1
    exact ⟨w1, s, d, st', rfl, ok1, re.mono l1, hm, hk.le l1⟩
  · cases hm
theorem LiftE.chain {K : PySem.W.Frag} {f g : F2} {r r' : R2} (hf : Sound2 K f r) (hg : Sound2 K g r') {σ : L2.St} {H : Hp} {Q : VK} (h : LiftE K (mChain f g ma mb mc) σ H Q) : tChain r r' (LiftE K ma) (LiftE K mb) (LiftE K mc) σ H Q := by
  obtain ⟨w, s, d, st', rfl, ok, re, hm, hk⟩ := h
  unfold mChain at hm
  split at hm
  · rename_i x s1 e1
    split at hm
    · rename_i y s2 e2
      refine ⟨w, s, x, s1, rfl, ok, re, e1, fun u w1 q1 l1 ok1 r1 => ?_⟩
      subst q1
      refine ⟨w1, s, y, s2, rfl, ok1, re.mono l1, e2, fun v w2 q2 l2 ok2 r2 => ?_⟩
      subst q2
      split at hm
      · rename_i s3 e3
        refine hf w2 x y _ u v s3 _ ok2 (r1.mono l2) r2 e3 fun z w3 q3 l3 ok3 r3 => ?_
        cases r3
        subst q3
        refine ⟨true, rfl, ?_⟩
        refine iteT ?_
        split at hm
        · rename_i z s4 e4
          refine ⟨w3, s, z, s4, rfl, ok3, ((re.mono l1).mono l2).mono l3, e4, fun t w4 q4 l4 ok4 r4 => ?_⟩
          subst q4
          exact hg w4 y z d v t st' Q ok4 ((r2.mono l3).mono l4) r4 hm (hk.le (((l1.trans l2).trans l3).trans l4))
        · cases hm
      · rename_i s3 e3
        cases hm
        refine hf w2 x y _ u v _ _ ok2 (r1.mono l2) r2 e3 fun z w3 q3 l3 ok3 r3 => ?_
        cases r3
        refine ⟨false, rfl, ?_⟩
        refine iteF ?_
        exact hk _ w3 q3 ((l1.trans l2).trans l3) ok3 RelD.boolK
      · cases hm
    · cases hm
  · cases hm
theorem pd_chain {op op' : CmpOp} {f g : F2} {r r' : R2} (ho : OpR X (compareOp op) r) (ho' : OpR X (compareOp op') r') (hf : Sound2 X.K f r) (hg : Sound2 X.K g r') (ha : PDE X a ma) (hb : PDE X b mb) (hc : PDE X c mc)
    (hm : lastMarks [op, op'] [b, c] = false := by with_unfolding_all rfl) : PDE X (.Compare a [op, op'] [b, c] pos) (mChain f g ma mb mc) := PE.imp (pe_chain ho ho' ha hb hc hm) fun σ H Q h => LiftE.chain hf hg h
theorem pt_chainD {op op' : CmpOp} {f g : F2} {r r' : R2} (ho : OpR X (compareOp op) r) (ho' : OpR X (compareOp op') r') (hf : Sound2 X.K f r) (hg : Sound2 X.K g r') (ha : PDE X a ma) (hb : PDE X b mb) (hc : PDE X c mc)
    (hm : lastMarks [op, op'] [b, c] = false := by with_unfolding_all rfl) : PDT X (.Compare a [op, op'] [b, c] pos) (mB (mChain f g ma mb mc)) := PT.imp (pt_chain ho ho' ha hb hc hm) fun σ H Q h => LiftE.chain hf hg (LiftT.of h)
theorem pd_le_le (ha : PDE X a ma) (hb : PDE X b mb) (hc : PDE X c mc) (hm : lastMarks [.LtE, .LtE] [b, c] = false := by with_unfolding_all rfl) : PDE X (.Compare a [.LtE, .LtE] [b, c] pos) (mChain fLe fLe ma mb mc) := pd_chain op_le op_le sound_cmpI sound_cmpI ha hb hc hm
theorem pt_le_le (ha : PDE X a ma) (hb : PDE X b mb) (hc : PDE X c mc) (hm : lastMarks [.LtE, .LtE] [b, c] = false := by with_unfolding_all rfl) : PDT X (.Compare a [.LtE, .LtE] [b, c] pos) (mB (mChain fLe fLe ma mb mc)) := pt_chainD op_le op_le sound_cmpI sound_cmpI ha hb hc hm
theorem pd_lt_lt (ha : PDE X a ma) (hb : PDE X b mb) (hc : PDE X c mc) (hm : lastMarks [.Lt, .Lt] [b, c] = false := by with_unfolding_all rfl) : PDE X (.Compare a [.Lt, .Lt] [b, c] pos) (mChain fLt fLt ma mb mc) := pd_chain op_lt op_lt sound_cmpI sound_cmpI ha hb hc hm
theorem pt_lt_lt (ha : PDE X a ma) (hb : PDE X b mb) (hc : PDE X c mc) (hm : lastMarks [.Lt, .Lt] [b, c] = false := by with_unfolding_all rfl) : PDT X (.Compare a [.Lt, .Lt] [b, c] pos) (mB (mChain fLt fLt ma mb mc)) := pt_chainD op_lt op_lt sound_cmpI sound_cmpI ha hb hc hm
end
end PD

set_option Elab.async false
set_option linter.all false
set_option maxRecDepth 100000
set_option maxHeartbeats 4000000
/-! PD4: subscripts, slices, displays, built-ins -/
namespace PD
open PySem PySem.Spec PyProof.Rows L2

/-! ### subscripts -/
def valP (kvs : List (Key × PyData)) (k : Key) : Option PyData := (kvs.find? fun kv => decide (kv.1 = k)).map (·.2)
def opt (o : Option PyData) (st : Store) : Option (DV × Store) := match o with
  | some x => some (.d x, st)
  | none => none
def strOk (z : Str) : Bool := decide (z.length ≤ 16777216)
def fIx : F2 := fun x y st => match y with
  | .d (.int i) => (match x with
    | .d (.list xs) => opt (atI xs i) st
    | .d (.tuple xs) => opt (atI xs i) st
    | .d (.str z) => if strOk z then opt ((atI z.cps.toList i).map fun c => .str ⟨#[c]⟩) st else none
    | .r n => (match st[n]? with
      | some (some (.lst xs)) => opt (atI xs i) st
      | some (some (.dct kvs)) => opt (valP kvs (.inl i)) st
      | _ => none)
    | _ => none)
  | .d (.str z) => (match x with
    | .r n => (match st[n]? with
      | some (some (.dct kvs)) => opt (valP kvs (.inr z)) st
      | _ => none)
    | _ => none)
  | _ => none
def rIxA (K : PySem.W.Frag) : R2 := fun x y H Q => rIx K x y H Q ∨ ∃ a v, x = .ref a ∧ DGet H a y (some v) ∧ Q v H
section
variable {X : Cx}
theorem ix_dict {k : Nat} (hr : Room k X.A) : IxR X (fun x y H Q => ∃ a v, x = .ref a ∧ DGet H a y (some v) ∧ Q v H) := by
  intro value slice pins s σ H x y v u Q I rx ry h hs
  obtain ⟨a, z, rfl, g, q⟩ := h
  cases rx
  exact tail_any (dict_typeIs I g) PySem.F.slot_dict_getitem.lookup (d_getItem (hu_of hr) I g ry fun w' s3 I3 rw' => ⟨z, H, I3, rw', q⟩) hs
theorem ix_any {k : Nat} (hr : Room k X.A) : IxR X (rIxA X.K) := ix_seq.or (ix_dict hr)
end
section
variable {K : PySem.W.Frag}
theorem atI_rel {L : Addr → Prop} {H : Hp} {ds : List PyData} {vs : List V} {i : Int} {d : PyData} (r : RelPs K L H ds vs) (h : atI ds i = some d) : ∃ v, atI vs i = some v ∧ RelP K L H d v := by
  unfold atI at h ⊢
  rw [r.length]
  cases e : ixN ds.length i with
  | none => rw [e] at h; cases h
  | some j =>
    rw [e] at h
    obtain ⟨v, h1, h2⟩ := r.get (i := j) h
    exact ⟨v, h1, h2⟩
theorem RelK.val {w : Wd} : ∀ {kvs : List (Key × PyData)} {kvs' : List (Key × V)} (k : Key), RelK K w kvs kvs' → (∀ x, valP kvs k = some x → ∃ v, valV kvs' k = some v ∧ RelP K w.L w.H x v) ∧ (valP kvs k = none → valV kvs' k = none)
  | [], _, k, h => by cases h; exact ⟨fun x e => by simp [valP] at e, fun _ => rfl⟩
  | (j, d) :: r, vs, k, h => by
    simp only [RelK] at h
    obtain ⟨v, vr, rfl, h2, h3⟩ := h
    have ih := RelK.val k h3
    by_cases e : j = k
    · refine ⟨fun x q => ?_, fun q => ?_⟩
      · simp [valP, e] at q
        subst q
        exact ⟨v, valV_pos e, h2⟩
      · simp [valP, e] at q
    · have ev : valV ((j, v) :: vr) k = valV vr k := valV_neg e
      have ep : valP ((j, d) :: r) k = valP r k := by simp [valP, e]
      rw [ev, ep]
      exact ih
theorem sound_ix : Sound2 K fIx (rIxA K) := by
  intro w x y d u v st' Q ok rx ry h hk
  have fin : ∀ {o : Option PyData}, opt o w.st = some (d, st') → ∃ z, o = some z ∧ d = .d z ∧ st' = w.st := fun {o} e => by
    cases o with
    | none => cases e
    | some z => cases e; exact ⟨z, rfl, rfl, rfl⟩
  have dk : ∀ {n : Nat} {kvs : List (Key × PyData)} {k : Key} {z : PyData}, w.st[n]? = some (some (.dct kvs)) → RelD K w (.r n) u → valP kvs k = some z → v = kV k → d = .d z → st' = w.st → rIxA K u v w.H Q := fun {n kvs k z} hn r e ev ed es => by
    obtain ⟨a, h1, e1⟩ := r
    obtain ⟨o, e2, kvs', e3, hr⟩ := ok.ob n a _ h1 hn
    subst e3
    obtain ⟨b, h4, h5⟩ := (hr.val k).1 z e
    subst ed
    subst es
    refine .inr ⟨a, b, e1, ?_, hk.at_ ok h5⟩
    rw [ev, ← h4]
    exact DGet.k e2
  unfold fIx at h
  split at h
  · cases ry
    split at h
    · obtain ⟨z, e, rfl, rfl⟩ := fin h
      obtain ⟨a, vs, rfl, hs, hr⟩ := lstV_rel (xs := _) rfl rx ok
      obtain ⟨v, h1, h2⟩ := atI_rel hr e
      exact .inl (.inl ⟨a, vs, _, v, rfl, rfl, hs, h1, hk.at_ ok h2⟩)
    · obtain ⟨z, e, rfl, rfl⟩ := fin h
      obtain ⟨a, vs, rfl, hs, hr⟩ := tupV_rel (xs := _) rfl rx
      obtain ⟨v, h1, h2⟩ := atI_rel hr e
      exact .inl (.inr (.inl ⟨a, vs, _, v, rfl, rfl, hs, h1, hk.at_ ok h2⟩))
    · split at h
      · rename_i hz
        obtain ⟨z, e, rfl, rfl⟩ := fin h
        cases rx
        cases e2 : atI (Array.toList (Str.cps _)) _ with
        | none => rw [e2] at e; cases e
        | some c =>
          rw [e2] at e
          cases e
          exact .inl (.inr (.inr ⟨_, _, c, rfl, rfl, by rw [sizeLine_eq]; exact of_decide_eq_true hz, e2, hk.at_ ok (by simp [RelD, RelP])⟩))
      · cases h
    · split at h
      · rename_i n _ xs hn
        obtain ⟨z, e, rfl, rfl⟩ := fin h
        obtain ⟨a, vs, rfl, hs, hr⟩ := lstV_rel (d := .r n) (xs := xs) (by simp [lstV, hn]) rx ok
        obtain ⟨v, h1, h2⟩ := atI_rel hr e
        exact .inl (.inl ⟨a, vs, _, v, rfl, rfl, hs, h1, hk.at_ ok h2⟩)
      · rename_i n _ kvs hn
        obtain ⟨z, e, e2, e3⟩ := fin h
        exact dk hn rx e rfl e2 e3
      · cases h
    · cases h
  · cases ry
    split at h
    · split at h
      · rename_i n _ kvs hn
        obtain ⟨z, e, e2, e3⟩ := fin h
        exact dk hn rx e rfl e2 e3
      · cases h
    · cases h
  · cases h
end

/-! ### slices -/
def cutP (xs : List PyData) (lo hi : Option Int) : List PyData := (xs.drop (HT.sIx xs.length 0 lo)).take (HT.sIx xs.length xs.length hi - HT.sIx xs.length 0 lo)
abbrev OM := SE → Store → Option (Option Int × Store)
def mNoPart : OM := fun _ st => some (none, st)
def mPart (m : EM) : OM := fun s st => match m s st with
  | some (.d (.int i), st') => some (some i, st')
  | _ => none
def cutD (x : DV) (lo hi : Option Int) (st : Store) : Option (DV × Store) := match x with
  | .d (.list xs) => ret (.list (cutP xs lo hi)) st
  | .d (.tuple xs) => ret (.tuple (cutP xs lo hi)) st
  | .d (.str z) => if strOk z then ret (.str (cutS z lo hi)) st else none
  | .r n => (match st[n]? with
    | some (some (.lst xs)) => ret (.list (cutP xs lo hi)) st
    | _ => none)
  | .s xs => ret (.list (cutP xs lo hi)) st
  | _ => none
def mSl (e : EM) (lo hi : OM) : EM := fun s st => match e s st with
  | some (x, s1) => (match lo s s1 with
    | some (l, s2) => (match hi s s2 with
      | some (h, s3) => cutD x l h s3
      | none => none)
    | none => none)
  | none => none
def LiftO (K : PySem.W.Frag) (m : OM) : TO := fun σ H Q => ∃ (w : Wd) (s : SE) (o : Option Int) (st' : Store), w.H = H ∧ w.Ok K ∧ RelE K w s σ ∧ m s w.st = some (o, st') ∧ ∀ (w' : Wd), w'.st = st' → w.Le w' → w'.Ok K → Q o w'.H
abbrev PDO (X : Cx) (e : Option Expr) (m : OM) : Prop := PO X e (LiftO X.K m)
section
variable {K : PySem.W.Frag} {L : Addr → Prop} {H : Hp} {ds : List PyData} {vs : List V}
theorem cutP_rel (r : RelPs K L H ds vs) (lo hi : Option Int) : RelPs K L H (cutP ds lo hi) (cutV vs lo hi) := by
  unfold cutP cutV
  rw [r.length]
  exact (r.drop _).take _
theorem cutP_whole {xs : List PyData} {lo hi : Option Int} (h : HT.sIx xs.length 0 lo = 0 ∧ HT.sIx xs.length xs.length hi = xs.length) : cutP xs lo hi = xs := by
  unfold cutP
  rw [h.1, h.2]
  simp
end
def rSlAny (K : PySem.W.Frag) : V → Option Int → Option Int → Hp → VK → Prop := fun x lo hi H Q => rSlL K x lo hi H Q ∨ (rSlA K x lo hi H Q ∨ rSlS x lo hi H Q)
section
variable {X : Cx} {pos p2 : Pos} {e : Expr} {lo hi : Option Expr} {m : EM} {ml mh : OM}
theorem po_noneD : PDO X none mNoPart := ⟨fun pins s σ H Q I h => by
  obtain ⟨w, s', o, st', rfl, ok, re, hm, hk⟩ := h
  cases hm
  exact po_none.run pins s σ w.H Q I (hk w rfl .refl ok)⟩
theorem po_someD (h : PDE X e m) : PDO X (some e) (mPart m) := ⟨fun pins s σ H Q I hw => by
  refine (po_some h).run pins s σ H Q I ?_
  obtain ⟨w, s', o, st', rfl, ok, re, hm, hk⟩ := hw
  unfold mPart at hm
  split at hm
  · rename_i e1
    cases hm
    refine ⟨w, s', _, _, rfl, ok, re, e1, fun v w' q l ok' r => ?_⟩
    cases r
    exact ⟨_, rfl, hk w' q l ok'⟩
  · cases hm⟩
theorem pd_slice (he : PDE X e m) (hl : PDO X lo ml) (hh : PDO X hi mh) : PDE X (.Subscript e (.Slice lo hi none p2) pos) (mSl m ml mh) :=
  PE.imp (pe_slice (r := rSlAny X.K) (sl_list.or (sl_tupA.or sl_str)) he hl hh) fun σ H Q h => by
    obtain ⟨w, s, d, st', rfl, ok, re, hm, hk⟩ := h
    unfold mSl at hm
    split at hm
    · rename_i x s1 e1
      split at hm
      · rename_i l s2 e2
        split at hm
        · rename_i h s3 e3
          refine ⟨w, s, x, s1, rfl, ok, re, e1, fun u w1 q1 l1 ok1 r1 => ?_⟩
          subst q1
          refine ⟨w1, s, l, s2, rfl, ok1, re.mono l1, e2, fun w2 q2 l2 ok2 => ?_⟩
          subst q2
          refine ⟨w2, s, h, s3, rfl, ok2, (re.mono l1).mono l2, e3, fun w3 q3 l3 ok3 => ?_⟩
          subst q3
          have hk3 := hk.le ((l1.trans l2).trans l3)
          have r3 := (r1.mono l2).mono l3
          unfold cutD at hm
          split at hm
          · cases hm
            obtain ⟨a, vs, rfl, hs, hr⟩ := lstV_rel (xs := _) rfl r3 ok3
            exact .inl ⟨a, vs, rfl, hs, hk3.lst ok3 (cutP_rel hr _ _)⟩
          · cases hm
            obtain ⟨a, vs, rfl, hs, hr⟩ := relTup_inv r3
            refine .inr (.inl ⟨a, vs, rfl, hs.sq, fun q => ?_, fun _ => hk3.tup ok3 (cutP_rel hr _ _)⟩)
            rw [hr.length] at q
            rw [cutP_whole q] at hk3
            exact hk3.at_ ok3 (relTup hs hr)
          · split at hm
            · rename_i hz
              cases hm
              cases r3
              exact .inr (.inr ⟨_, rfl, by rw [sizeLine_eq]; exact of_decide_eq_true hz, hk3.at_ ok3 (by simp [RelD, RelP])⟩)
            · cases hm
          · split at hm
            · rename_i n _ xs hn
              cases hm
              obtain ⟨a, vs, rfl, hs, hr⟩ := lstV_rel (d := .r n) (xs := xs) (by simp [lstV, hn]) r3 ok3
              exact .inl ⟨a, vs, rfl, hs, hk3.lst ok3 (cutP_rel hr _ _)⟩
            · cases hm
          · cases hm
            obtain ⟨a, vs, rfl, hs, hr⟩ := r3
            exact .inl ⟨a, vs, rfl, hs.sq, hk3.lst ok3 (cutP_rel hr _ _)⟩
          · cases hm
        · cases hm
      · cases hm
    · cases hm
/-- xs[::-1] -/
def mRev (m : EM) : EM := fun s st => match m s st with
  | some (x, s1) => (match lstV s1 x with
    | some xs => ret (.list xs.reverse) s1
    | none => none)
  | none => none
theorem pd_rev {k : Nat} {p1 p3 p4 : Pos} (he : PDE X e m) : PDE X (.Subscript e (.Slice none none (some (.UnaryOp .USub (.Constant (.int 1) k p1) p2)) p3) p4) (mRev m) :=
  PE.imp (pe_revL he) fun σ H Q h => by
    obtain ⟨w, s, d, st', rfl, ok, re, hm, hk⟩ := h
    unfold mRev at hm
    split at hm
    · rename_i x s1 e1
      split at hm
      · rename_i xs ex
        cases hm
        refine ⟨w, s, x, _, rfl, ok, re, e1, fun u w1 q1 l1 ok1 r1 => ?_⟩
        subst q1
        obtain ⟨a, vs, rfl, hs, hr⟩ := lstV_rel ex r1 ok1
        exact ⟨a, vs, rfl, hs, (hk.le l1).lst ok1 hr.reverse⟩
      · cases hm
    · cases hm
theorem pd_sub_ {k : Nat} {a b : Expr} {ma mb : EM} (hr : Room k X.A) (ha : PDE X a ma) (hb : PDE X b mb) (hx : PlainIx b := by intro _ _; rfl) : PDE X (.Subscript a b pos) (mBin fIx ma mb) := pd_ix (ix_any hr) sound_ix ha hb hx
end

/-! ### argument lists, displays -/
def mNil : AM := fun _ st => some ([], st)
def mCons (e : EM) (r : AM) : AM := fun s st => match e s st with
  | some (x, s1) => (match r s s1 with
    | some (xs, s2) => some (x :: xs, s2)
    | none => none)
  | none => none
def pures : List DV → Option (List PyData)
  | [] => some []
  | .d x :: r => (match pures r with
    | some xs => some (x :: xs)
    | none => none)
  | .r _ :: _ => none
  | .s _ :: _ => none
def mTup (a : AM) : EM := fun s st => match a s st with
  | some (ds, s1) => (match pures ds with
    | some xs => if decide (xs.length ≤ 1000) then ret (.tuple xs) s1 else none
    | none => none)
  | none => none
def mLst (a : AM) : EM := fun s st => match a s st with
  | some (ds, s1) => (match pures ds with
    | some xs => if decide (xs.length ≤ 1000) then ret (.list xs) s1 else none
    | none => none)
  | none => none
/-- a list display that will be changed -/
def mLstM (a : AM) : EM := fun s st => match a s st with
  | some (ds, s1) => (match pures ds with
    | some xs => if decide (xs.length ≤ 1000) then some (.r s1.length, s1 ++ [some (.lst xs)]) else none
    | none => none)
  | none => none
theorem pures_rel {K : PySem.W.Frag} {w : Wd} : ∀ {ds : List DV} {xs : List PyData} {vs : List V}, pures ds = some xs → RelDs K w ds vs → RelPs K w.L w.H xs vs
  | [], _, _, h, r => by
    cases h
    exact r
  | .d x :: ds, xs, vs, h, r => by
    simp only [pures] at h
    simp only [RelDs] at r
    obtain ⟨v, vr, rfl, h2, h3⟩ := r
    cases e : pures ds with
    | none => rw [e] at h; cases h
    | some ys =>
      rw [e] at h
      cases h
      exact ⟨v, vr, rfl, h2, pures_rel e h3⟩
  | .r _ :: _, _, _, h, _ => by cases h
  | .s _ :: _, _, _, h, _ => by cases h
section
variable {X : Cx} {pos : Pos} {e : Expr} {es : List Expr} {m : EM} {ms : AM}
theorem pda_nil : PDA X [] mNil := PA.imp pa_nil fun σ H Q h => by
  obtain ⟨w, s, d, st', rfl, ok, re, hm, hk⟩ := h
  cases hm
  exact hk [] w rfl .refl ok rfl
theorem pda_cons (ha : PDE X e m) (hr : PDA X es ms) (hs : starEach (e :: es) X.env = (false, eval e X.env) :: starEach es X.env := by rfl) : PDA X (e :: es) (mCons m ms) := PA.imp (pa_cons ha hr hs) fun σ H Q h => by
  obtain ⟨w, s, d, st', rfl, ok, re, hm, hk⟩ := h
  unfold mCons at hm
  split at hm
  · rename_i x s1 e1
    split at hm
    · rename_i xs s2 e2
      cases hm
      refine ⟨w, s, x, s1, rfl, ok, re, e1, fun u w1 q1 l1 ok1 r1 => ?_⟩
      subst q1
      refine ⟨w1, s, xs, _, rfl, ok1, re.mono l1, e2, fun vs w2 q2 l2 ok2 r2 => ?_⟩
      subst q2
      exact hk (u :: vs) w2 rfl (l1.trans l2) ok2 ⟨u, vs, rfl, r1.mono l2, r2⟩
    · cases hm
  · cases hm
theorem le1000 {n : Nat} (h : n ≤ 1000) : n ≤ sizeLine := by rw [sizeLine_eq]; omega
theorem pd_tup {x1 : Nat} (h : PDA X es ms) : PDE X (.Tuple es x1 pos) (mTup ms) := PE.imp (pe_tup h) fun σ H Q h => by
  obtain ⟨w, s, d, st', rfl, ok, re, hm, hk⟩ := h
  unfold mTup at hm
  split at hm
  · rename_i ds s1 e1
    split at hm
    · rename_i xs ex
      split at hm
      · rename_i hl
        cases hm
        refine ⟨w, s, ds, _, rfl, ok, re, e1, fun vs w1 q1 l1 ok1 r1 => ?_⟩
        subst q1
        have rp := pures_rel ex r1
        exact ⟨by rw [rp.length]; exact le1000 (of_decide_eq_true hl), (hk.le l1).tup ok1 rp⟩
      · cases hm
    · cases hm
  · cases hm
theorem pd_lst (h : PDA X es ms) : PDE X (.List es pos) (mLst ms) := PE.imp (pe_lst h) fun σ H Q h => by
  obtain ⟨w, s, d, st', rfl, ok, re, hm, hk⟩ := h
  unfold mLst at hm
  split at hm
  · rename_i ds s1 e1
    split at hm
    · rename_i xs ex
      split at hm
      · rename_i hl
        cases hm
        refine ⟨w, s, ds, _, rfl, ok, re, e1, fun vs w1 q1 l1 ok1 r1 => ?_⟩
        subst q1
        have rp := pures_rel ex r1
        exact ⟨by rw [rp.length]; exact le1000 (of_decide_eq_true hl), (hk.le l1).lst ok1 rp⟩
      · cases hm
    · cases hm
  · cases hm
theorem pd_lstM (h : PDA X es ms) : PDE X (.List es pos) (mLstM ms) := PE.imp (pe_lst h) fun σ H Q h => by
  obtain ⟨w, s, d, st', rfl, ok, re, hm, hk⟩ := h
  unfold mLstM at hm
  split at hm
  · rename_i ds s1 e1
    split at hm
    · rename_i xs ex
      split at hm
      · rename_i hl
        cases hm
        refine ⟨w, s, ds, _, rfl, ok, re, e1, fun vs w1 q1 l1 ok1 r1 => ?_⟩
        subst q1
        have rp := pures_rel ex r1
        exact ⟨by rw [rp.length]; exact le1000 (of_decide_eq_true hl), (hk.le l1).newL ok1 rp⟩
      · cases hm
    · cases hm
  · cases hm
end

/-! ### built-ins by name -/
abbrev FN := List DV → Store → Option (DV × Store)
def mApp (f : FN) (a : AM) : EM := fun s st => match a s st with
  | some (ds, s1) => f ds s1
  | none => none
def SoundN (K : PySem.W.Frag) (f : FN) (r : List V → Hp → VK → Prop) : Prop := ∀ (w : Wd) (ds : List DV) (d : DV) (vs : List V) (st' : Store) (Q : VK), w.Ok K → RelDs K w ds vs → f ds w.st = some (d, st') → KE K w d st' Q → r vs w.H Q
theorem LiftE.app {K : PySem.W.Frag} {f : FN} {r : List V → Hp → VK → Prop} (hs : SoundN K f r) {a : AM} {σ : L2.St} {H : Hp} {Q : VK} (h : LiftE K (mApp f a) σ H Q) : tCB r (LiftA K a) σ H Q := by
  obtain ⟨w, s, d, st', rfl, ok, re, hm, hk⟩ := h
  unfold mApp at hm
  split at hm
  · rename_i ds s1 e1
    refine ⟨w, s, ds, s1, rfl, ok, re, e1, fun vs w1 q1 l1 ok1 r1 => ?_⟩
    subst q1
    exact hs w1 ds d vs st' Q ok1 r1 hm (hk.le l1)
  · cases hm
section
variable {X : Cx} {pos p : Pos} {e : Expr} {es : List Expr} {ms : AM}
theorem pd_callB {id : String} {x : Str} {f : FN} {r : List V → Hp → VK → Prop} (hc : CallR X (.builtin id) r) (hs : SoundN X.K f r) (hv : bootBuiltins x = some (.builtin id)) (hm : X.mg x = none) (ha : PDA X (e :: es) ms) (hg : Gl X x := by rfl) (hn : x ≠ "__name__" := by decide)
    (hdb : (x == ("__debug__" : Str)) = false := by decide) (he : starEach (e :: es) X.env = (false, eval e X.env) :: starEach es X.env := by rfl) (hpl : (backTo pos (starEach es X.env)).any (·.1) = false := by rfl) :
    PDE X (.Call (.Name x p) (e :: es) [] pos) (mApp f ms) := PE.imp (pe_callB hc hg hm hv ha hn hdb he hpl) fun σ H Q h => LiftE.app hs h
theorem pd_callTy {T : String} {x : Str} {f : FN} {r : List V → Hp → VK → Prop} (hc : CallR X (.type T) r) (hs : SoundN X.K f r) (hv : bootBuiltins x = some (.type T)) (hm : X.mg x = none) (ha : PDA X (e :: es) ms) (hg : Gl X x := by rfl) (hn : x ≠ "__name__" := by decide)
    (hdb : (x == ("__debug__" : Str)) = false := by decide) (he : starEach (e :: es) X.env = (false, eval e X.env) :: starEach es X.env := by rfl) (hpl : (backTo pos (starEach es X.env)).any (·.1) = false := by rfl) :
    PDE X (.Call (.Name x p) (e :: es) [] pos) (mApp f ms) := PE.imp (pe_callTy hc hg hm hv ha hn hdb he hpl) fun σ H Q h => LiftE.app hs h
end
end PD

set_option Elab.async false
set_option linter.all false
set_option maxRecDepth 100000
set_option maxHeartbeats 4000000
/-! PD5: built-in functions, isinstance, calls of defs -/
namespace PD
open PySem PySem.Spec PyProof.Rows L2
section
variable {K : PySem.W.Frag}
theorem RelD.intK {w : Wd} {i : Int} : RelD K w (.d (.int i)) (.int i) := by simp [RelD, RelP]
theorem RelD.strK {w : Wd} {i : Str} : RelD K w (.d (.str i)) (.str i) := by simp [RelD, RelP]
theorem RelDs.one {w : Wd} {d : DV} {vs : List V} (h : RelDs K w [d] vs) : ∃ v, vs = [v] ∧ RelD K w d v := by
  simp only [RelDs] at h
  obtain ⟨v, vr, rfl, h2, rfl⟩ := h
  exact ⟨v, rfl, h2⟩
theorem RelDs.two {w : Wd} {d e : DV} {vs : List V} (h : RelDs K w [d, e] vs) : ∃ v u, vs = [v, u] ∧ RelD K w d v ∧ RelD K w e u := by
  simp only [RelDs] at h
  obtain ⟨v, vr, rfl, h2, u, ur, rfl, h3, rfl⟩ := h
  exact ⟨v, u, rfl, h2, h3⟩
end

/-! ### len -/
def fLen : FN := fun ds st => match ds with
  | [.d (.str z)] => if strOk z then ret (.int z.length) st else none
  | [.d (.list xs)] => ret (.int xs.length) st
  | [.d (.tuple xs)] => ret (.int xs.length) st
  | [.r n] => (match st[n]? with
    | some (some (.lst xs)) => ret (.int xs.length) st
    | some (some (.dct kvs)) => ret (.int kvs.length) st
    | _ => none)
  | _ => none
def rLenA (K : PySem.W.Frag) : List V → Hp → VK → Prop := fun xs H Q => (∃ x n, xs = [x] ∧ LenV K x H n ∧ Q (.int n) H) ∨ ∃ a kvs, xs = [V.ref a] ∧ H a = some (.dK kvs) ∧ Q (.int kvs.length) H
/-! ### abs, int, tuple, list, all, any, min, max, str -/
def fAbs : FN := fun ds st => match ds with
  | [.d (.int i)] => ret (.int (if i < 0 then -i else i)) st
  | _ => none
def fInt : FN := fun ds st => match ds with
  | [.d (.int i)] => ret (.int i) st
  | [.d (.bool b)] => ret (.int (if b then 1 else 0)) st
  | [.d (.str z)] => if decide (z.length ≤ 640) then (match PySem.intText? z with
    | some n => ret (.int n) st
    | none => none) else none
  | _ => none
def rIntA : List V → Hp → VK → Prop := fun xs H Q => ((∃ i, xs = [.int i] ∧ Q (.int i) H) ∨ ∃ k, xs = [.bl k] ∧ Q (.int (if k then 1 else 0)) H) ∨ ∃ a n, xs = [.str a] ∧ PySem.intText? a = some n ∧ a.length ≤ 640 ∧ Q (.int n) H
def fTuple : FN := fun ds st => match ds with
  | [d] => (match tupV d with
    | some xs => some (d, st)
    | none => (match lstV st d with
      | some xs => ret (.tuple xs) st
      | none => none))
  | _ => none
def fList : FN := fun ds st => match ds with
  | [d] => (match seqV st d with
    | some xs => ret (.list xs) st
    | none => none)
  | _ => none
def fListM : FN := fun ds st => match ds with
  | [d] => (match seqV st d with
    | some xs => some (.r st.length, st ++ [some (.lst xs)])
    | none => none)
  | _ => none
def bools : List PyData → Option (List Bool)
  | [] => some []
  | .bool b :: r => (match bools r with
    | some bs => some (b :: bs)
    | none => none)
  | _ :: _ => none
def fAll : FN := fun ds st => match ds with
  | [d] => (match lstV st d with
    | some xs => (match bools xs with
      | some bs => rb (bs.all id) st
      | none => none)
    | none => none)
  | _ => none
def fAny : FN := fun ds st => match ds with
  | [d] => (match lstV st d with
    | some xs => (match bools xs with
      | some bs => rb (bs.any id) st
      | none => none)
    | none => none)
  | _ => none
def fMax2 : FN := fun ds st => match ds with
  | [.d (.int i), .d (.int j)] => ret (.int (if j > i then j else i)) st
  | _ => none
def fMin2 : FN := fun ds st => match ds with
  | [.d (.int i), .d (.int j)] => ret (.int (if j < i then j else i)) st
  | _ => none
def fStr : FN := fun ds st => match ds with
  | [.d (.int i)] => if decide (i.natAbs.log2 < 1920) then ret (.str (toString i)) st else none
  | _ => none
section
variable {X : Cx}
theorem call_lenA : CallR X (.builtin "len") (rLenA X.K) := call_len.or call_lenD
theorem call_intA : CallR X (.type "int") rIntA := call_int1.or call_int_str
end
section
variable {K : PySem.W.Frag}
theorem sound_len : SoundN K fLen (rLenA K) := by
  intro w ds d vs st' Q ok rs h hk
  unfold fLen at h
  split at h
  · split at h
    · rename_i hz
      cases h
      obtain ⟨v, rfl, r⟩ := rs.one
      cases r
      exact .inl ⟨_, _, rfl, ⟨by rw [sizeLine_eq]; exact of_decide_eq_true hz, rfl⟩, hk.at_ ok RelD.intK⟩
    · cases h
  · cases h
    obtain ⟨v, rfl, r⟩ := rs.one
    obtain ⟨a, vs, rfl, hs, hr⟩ := lstV_rel (xs := _) rfl r ok
    exact .inl ⟨_, _, rfl, .inl ⟨vs, hs, hr.length.symm⟩, hk.at_ ok RelD.intK⟩
  · cases h
    obtain ⟨v, rfl, r⟩ := rs.one
    obtain ⟨a, vs, rfl, hs, hr⟩ := tupV_rel (xs := _) rfl r
    exact .inl ⟨_, _, rfl, .inr ⟨vs, hs, hr.length.symm⟩, hk.at_ ok RelD.intK⟩
  · split at h
    · rename_i n _ xs hn
      cases h
      obtain ⟨v, rfl, r⟩ := rs.one
      obtain ⟨a, vs, rfl, hs, hr⟩ := lstV_rel (d := .r n) (xs := xs) (by simp [lstV, hn]) r ok
      exact .inl ⟨_, _, rfl, .inl ⟨vs, hs, hr.length.symm⟩, hk.at_ ok RelD.intK⟩
    · rename_i n _ kvs hn
      cases h
      obtain ⟨v, rfl, r⟩ := rs.one
      obtain ⟨a, h1, rfl⟩ := r
      obtain ⟨o, e1, kvs', e2, hr⟩ := ok.ob n a _ h1 hn
      subst e2
      refine .inr ⟨a, kvs', rfl, e1, ?_⟩
      have e : kvs'.length = kvs.length := by
        have := congrArg List.length hr.keys
        simpa using this
      rw [e]
      exact hk.at_ ok RelD.intK
    · cases h
  · cases h
theorem sound_abs : SoundN K fAbs (fun xs H Q => ∃ i, xs = [.int i] ∧ Q (.int (if i < 0 then -i else i)) H) := by
  intro w ds d vs st' Q ok rs h hk
  unfold fAbs at h
  split at h
  · cases h
    obtain ⟨v, rfl, r⟩ := rs.one
    cases r
    exact ⟨_, rfl, hk.at_ ok RelD.intK⟩
  · cases h
theorem sound_int : SoundN K fInt rIntA := by
  intro w ds d vs st' Q ok rs h hk
  unfold fInt at h
  split at h
  · cases h
    obtain ⟨v, rfl, r⟩ := rs.one
    cases r
    exact .inl (.inl ⟨_, rfl, hk.at_ ok RelD.intK⟩)
  · cases h
    obtain ⟨v, rfl, r⟩ := rs.one
    cases r
    exact .inl (.inr ⟨_, rfl, hk.at_ ok RelD.intK⟩)
  · split at h
    · rename_i hz
      split at h
      · rename_i n hn
        cases h
        obtain ⟨v, rfl, r⟩ := rs.one
        cases r
        exact .inr ⟨_, n, rfl, hn, of_decide_eq_true hz, hk.at_ ok RelD.intK⟩
      · cases h
    · cases h
  · cases h
theorem sound_tuple : SoundN K fTuple (fun xs H Q => ∃ p ys, xs = [.ref p] ∧ ((SqL K H p ys ∧ ∀ l, H l = none → Q (.ref l) (upd H l (.tup ys))) ∨ (SqT K H p ys ∧ Q (.ref p) H))) := by
  intro w ds d vs st' Q ok rs h hk
  unfold fTuple at h
  split at h
  · rename_i d0
    split at h
    · rename_i xs hx
      cases h
      obtain ⟨v, rfl, r⟩ := rs.one
      have e := tupV_eq hx
      subst e
      obtain ⟨a, vs, rfl, hs, hr⟩ := relTup_inv r
      exact ⟨a, vs, rfl, .inr ⟨hs.sq, hk.at_ ok r⟩⟩
    · split at h
      · rename_i xs hx
        cases h
        obtain ⟨v, rfl, r⟩ := rs.one
        obtain ⟨a, vs, rfl, hs, hr⟩ := lstV_rel hx r ok
        exact ⟨a, vs, rfl, .inl ⟨hs, hk.tup ok hr⟩⟩
      · cases h
  · cases h
theorem sound_list : SoundN K fList (fun xs H Q => ∃ p ys, xs = [.ref p] ∧ (SqL K H p ys ∨ SqT K H p ys) ∧ ∀ l, H l = none → Q (.ref l) (upd H l (.lst ys))) := by
  intro w ds d vs st' Q ok rs h hk
  unfold fList at h
  split at h
  · split at h
    · rename_i xs hx
      cases h
      obtain ⟨v, rfl, r⟩ := rs.one
      obtain ⟨a, vs, rfl, hs, hr⟩ := seqV_rel hx r ok
      exact ⟨a, vs, rfl, hs, hk.lst ok hr⟩
    · cases h
  · cases h
theorem sound_listM : SoundN K fListM (fun xs H Q => ∃ p ys, xs = [.ref p] ∧ (SqL K H p ys ∨ SqT K H p ys) ∧ ∀ l, H l = none → Q (.ref l) (upd H l (.lst ys))) := by
  intro w ds d vs st' Q ok rs h hk
  unfold fListM at h
  split at h
  · split at h
    · rename_i xs hx
      cases h
      obtain ⟨v, rfl, r⟩ := rs.one
      obtain ⟨a, vs, rfl, hs, hr⟩ := seqV_rel hx r ok
      exact ⟨a, vs, rfl, hs, hk.newL ok hr⟩
    · cases h
  · cases h
theorem bools_rel {L : Addr → Prop} {H : Hp} : ∀ {xs : List PyData} {bs : List Bool} {vs : List V}, bools xs = some bs → RelPs K L H xs vs → vs = bs.map V.bl
  | [], _, _, h, r => by cases h; exact r
  | .bool b :: xs, bs, vs, h, r => by
    simp only [bools] at h
    simp only [RelPs] at r
    obtain ⟨v, vr, rfl, h2, h3⟩ := r
    cases e : bools xs with
    | none => rw [e] at h; cases h
    | some ys =>
      rw [e] at h
      cases h
      cases h2
      rw [bools_rel e h3]
      rfl
  | .none :: _, _, _, h, _ => by cases h
  | .int _ :: _, _, _, h, _ => by cases h
  | .str _ :: _, _, _, h, _ => by cases h
  | .list _ :: _, _, _, h, _ => by cases h
  | .tuple _ :: _, _, _, h, _ => by cases h
  | .dict _ :: _, _, _, h, _ => by cases h
theorem sound_all : SoundN K fAll (rAll K) := by
  intro w ds d vs st' Q ok rs h hk
  unfold fAll at h
  split at h
  · split at h
    · rename_i xs hx
      split at h
      · rename_i bs hb
        cases h
        obtain ⟨v, rfl, r⟩ := rs.one
        obtain ⟨a, vs, rfl, hs, hr⟩ := lstV_rel hx r ok
        have e := bools_rel hb hr
        subst e
        exact ⟨a, bs, rfl, hs, hk.at_ ok RelD.boolK⟩
      · cases h
    · cases h
  · cases h
theorem sound_any : SoundN K fAny (rAny K) := by
  intro w ds d vs st' Q ok rs h hk
  unfold fAny at h
  split at h
  · split at h
    · rename_i xs hx
      split at h
      · rename_i bs hb
        cases h
        obtain ⟨v, rfl, r⟩ := rs.one
        obtain ⟨a, vs, rfl, hs, hr⟩ := lstV_rel hx r ok
        have e := bools_rel hb hr
        subst e
        exact ⟨a, bs, rfl, hs, hk.at_ ok RelD.boolK⟩
      · cases h
    · cases h
  · cases h
theorem sound_max2 : SoundN K fMax2 (fun xs H Q => ∃ i j, xs = [.int i, .int j] ∧ Q (.int (if j > i then j else i)) H) := by
  intro w ds d vs st' Q ok rs h hk
  unfold fMax2 at h
  split at h
  · cases h
    obtain ⟨v, u, rfl, r1, r2⟩ := rs.two
    cases r1
    cases r2
    exact ⟨_, _, rfl, hk.at_ ok RelD.intK⟩
  · cases h
theorem sound_min2 : SoundN K fMin2 (fun xs H Q => ∃ i j, xs = [.int i, .int j] ∧ Q (.int (if j < i then j else i)) H) := by
  intro w ds d vs st' Q ok rs h hk
  unfold fMin2 at h
  split at h
  · cases h
    obtain ⟨v, u, rfl, r1, r2⟩ := rs.two
    cases r1
    cases r2
    exact ⟨_, _, rfl, hk.at_ ok RelD.intK⟩
  · cases h
theorem sound_str : SoundN K fStr (fun xs H Q => ∃ i, xs = [.int i] ∧ i.natAbs.log2 < 1920 ∧ Q (.str (toString i)) H) := by
  intro w ds d vs st' Q ok rs h hk
  unfold fStr at h
  split at h
  · split at h
    · rename_i hl
      cases h
      obtain ⟨v, rfl, r⟩ := rs.one
      cases r
      exact ⟨_, rfl, of_decide_eq_true hl, hk.at_ ok RelD.strK⟩
    · cases h
  · cases h
end
section
variable {X : Cx} {pos p : Pos} {e e2 : Expr} {m m2 : EM} {ms : AM}
theorem pd_len (hm : X.mg "len" = none) (ha : PDE X e m) (hg : Gl X "len" := by rfl) (he : starEach [e] X.env = (false, eval e X.env) :: starEach [] X.env := by rfl) (hpl : (backTo pos (starEach [] X.env)).any (·.1) = false := by rfl) : PDE X (.Call (.Name "len" p) [e] [] pos) (mApp fLen (mCons m mNil)) :=
  pd_callB call_lenA sound_len PySem.boot_len hm (pda_cons ha pda_nil he) hg (he := he) (hpl := hpl)
theorem pd_abs (hm : X.mg "abs" = none) (ha : PDE X e m) (hg : Gl X "abs" := by rfl) (he : starEach [e] X.env = (false, eval e X.env) :: starEach [] X.env := by rfl) (hpl : (backTo pos (starEach [] X.env)).any (·.1) = false := by rfl) : PDE X (.Call (.Name "abs" p) [e] [] pos) (mApp fAbs (mCons m mNil)) :=
  pd_callB call_abs sound_abs (by decide +kernel) hm (pda_cons ha pda_nil he) hg (he := he) (hpl := hpl)
theorem pd_intOf (hm : X.mg "int" = none) (ha : PDE X e m) (hg : Gl X "int" := by rfl) (he : starEach [e] X.env = (false, eval e X.env) :: starEach [] X.env := by rfl) (hpl : (backTo pos (starEach [] X.env)).any (·.1) = false := by rfl) : PDE X (.Call (.Name "int" p) [e] [] pos) (mApp fInt (mCons m mNil)) :=
  pd_callTy call_intA sound_int (by decide +kernel) hm (pda_cons ha pda_nil he) hg (he := he) (hpl := hpl)
theorem pd_strOf (hm : X.mg "str" = none) (ha : PDE X e m) (hg : Gl X "str" := by rfl) (he : starEach [e] X.env = (false, eval e X.env) :: starEach [] X.env := by rfl) (hpl : (backTo pos (starEach [] X.env)).any (·.1) = false := by rfl) : PDE X (.Call (.Name "str" p) [e] [] pos) (mApp fStr (mCons m mNil)) :=
  pd_callTy call_str_int sound_str (by decide +kernel) hm (pda_cons ha pda_nil he) hg (he := he) (hpl := hpl)
theorem pd_tupleOf (hm : X.mg "tuple" = none) (ha : PDE X e m) (hg : Gl X "tuple" := by rfl) (he : starEach [e] X.env = (false, eval e X.env) :: starEach [] X.env := by rfl) (hpl : (backTo pos (starEach [] X.env)).any (·.1) = false := by rfl) : PDE X (.Call (.Name "tuple" p) [e] [] pos) (mApp fTuple (mCons m mNil)) :=
  pd_callTy call_tuple_of sound_tuple (by decide +kernel) hm (pda_cons ha pda_nil he) hg (he := he) (hpl := hpl)
theorem pd_listOf (hm : X.mg "list" = none) (ha : PDE X e m) (hg : Gl X "list" := by rfl) (he : starEach [e] X.env = (false, eval e X.env) :: starEach [] X.env := by rfl) (hpl : (backTo pos (starEach [] X.env)).any (·.1) = false := by rfl) : PDE X (.Call (.Name "list" p) [e] [] pos) (mApp fList (mCons m mNil)) :=
  pd_callTy call_list_of sound_list (by decide +kernel) hm (pda_cons ha pda_nil he) hg (he := he) (hpl := hpl)
theorem pd_listOfM (hm : X.mg "list" = none) (ha : PDE X e m) (hg : Gl X "list" := by rfl) (he : starEach [e] X.env = (false, eval e X.env) :: starEach [] X.env := by rfl) (hpl : (backTo pos (starEach [] X.env)).any (·.1) = false := by rfl) : PDE X (.Call (.Name "list" p) [e] [] pos) (mApp fListM (mCons m mNil)) :=
  pd_callTy call_list_of sound_listM (by decide +kernel) hm (pda_cons ha pda_nil he) hg (he := he) (hpl := hpl)
theorem pd_all (hc : X.calm = true) (hm : X.mg "all" = none) (ha : PDE X e m) (hg : Gl X "all" := by rfl) (he : starEach [e] X.env = (false, eval e X.env) :: starEach [] X.env := by rfl) (hpl : (backTo pos (starEach [] X.env)).any (·.1) = false := by rfl) : PDE X (.Call (.Name "all" p) [e] [] pos) (mApp fAll (mCons m mNil)) :=
  pd_callB (cr_all hc) sound_all (by decide +kernel) hm (pda_cons ha pda_nil he) hg (he := he) (hpl := hpl)
theorem pd_any (hc : X.calm = true) (hm : X.mg "any" = none) (ha : PDE X e m) (hg : Gl X "any" := by rfl) (he : starEach [e] X.env = (false, eval e X.env) :: starEach [] X.env := by rfl) (hpl : (backTo pos (starEach [] X.env)).any (·.1) = false := by rfl) : PDE X (.Call (.Name "any" p) [e] [] pos) (mApp fAny (mCons m mNil)) :=
  pd_callB (cr_any hc) sound_any (by decide +kernel) hm (pda_cons ha pda_nil he) hg (he := he) (hpl := hpl)
theorem pd_max2 (hc : X.calm = true) (hm : X.mg "max" = none) (ha : PDE X e m) (hb : PDE X e2 m2) (hg : Gl X "max" := by rfl) (he : starEach [e, e2] X.env = (false, eval e X.env) :: starEach [e2] X.env := by rfl) (he2 : starEach [e2] X.env = (false, eval e2 X.env) :: starEach [] X.env := by rfl) (hpl : (backTo pos (starEach [e2] X.env)).any (·.1) = false := by rfl) : PDE X (.Call (.Name "max" p) [e, e2] [] pos) (mApp fMax2 (mCons m (mCons m2 mNil))) :=
  pd_callB (call_max2 hc) sound_max2 (by decide +kernel) hm (pda_cons ha (pda_cons hb pda_nil he2) he) hg (he := he) (hpl := hpl)
theorem pd_min2 (hc : X.calm = true) (hm : X.mg "min" = none) (ha : PDE X e m) (hb : PDE X e2 m2) (hg : Gl X "min" := by rfl) (he : starEach [e, e2] X.env = (false, eval e X.env) :: starEach [e2] X.env := by rfl) (he2 : starEach [e2] X.env = (false, eval e2 X.env) :: starEach [] X.env := by rfl) (hpl : (backTo pos (starEach [e2] X.env)).any (·.1) = false := by rfl) : PDE X (.Call (.Name "min" p) [e, e2] [] pos) (mApp fMin2 (mCons m (mCons m2 mNil))) :=
  pd_callB (call_min2 hc) sound_min2 (by decide +kernel) hm (pda_cons ha (pda_cons hb pda_nil he2) he) hg (he := he) (hpl := hpl)
end

/-! ### isinstance -/
def tyName (st : Store) : DV → Option String
  | .d .none => some "NoneType"
  | .d (.bool _) => some "bool"
  | .d (.int _) => some "int"
  | .d (.str _) => some "str"
  | .d (.list _) => some "list"
  | .d (.tuple _) => some "tuple"
  | .r n => (match st[n]? with
    | some (some (.lst _)) => some "list"
    | some (some (.dct _)) => some "dict"
    | _ => none)
  | _ => none
def isSub (a b : String) : Bool := a == b || (a == "bool" && b == "int")
def tyNames : List String := ["NoneType", "bool", "int", "str", "list", "tuple", "dict"]
theorem kit_tab : ∀ a ∈ tyNames, ∀ b ∈ ["bool", "int", "str", "list", "tuple", "dict"], kitB a b = some (isSub a b) := by decide +kernel
def mIsi (e : EM) (T : String) : EM := fun s st => match e s st with
  | some (d, s1) => (match tyName s1 d with
    | some t => rb (isSub t T) s1
    | none => none)
  | none => none
section
variable {K : PySem.W.Frag}
theorem tyName_mem {st : Store} {d : DV} {t : String} (h : tyName st d = some t) : t ∈ tyNames := by
  unfold tyName at h
  split at h <;> first | (cases h; decide) | skip
  · split at h <;> first | (cases h; decide) | cases h
  · cases h
theorem sqT_ty {H : Hp} {a : Addr} {vs : List V} (h : SqT K H a vs) : TyX K H (.ref a) (.type "tuple") := by
  rcases h with (h | ⟨o, h⟩) | ⟨o, its, n, h1, h2, _⟩
  · exact .base (.tup h)
  · exact .fTuple h
  · exact .kTuple h1 h2
theorem sqL_ty {H : Hp} {a : Addr} {vs : List V} (h : SqL K H a vs) : TyX K H (.ref a) (.type "list") := by
  rcases h with (h | ⟨o, h⟩) | ⟨o, its, n, h1, h2, _⟩
  · exact .base (.lst h)
  · exact .base (.frz h)
  · exact .kList h1 h2
theorem tyName_ok {w : Wd} {d : DV} {v : V} {t : String} (h : tyName w.st d = some t) (r : RelD K w d v) (ok : w.Ok K) : TyX K w.H v (.type t) := by
  unfold tyName at h
  split at h
  · cases h; cases r; exact .base .non
  · cases h; cases r; exact .base (.bl _)
  · cases h; cases r; exact .base (.int _)
  · cases h; cases r; exact .base (.str _)
  · cases h
    obtain ⟨a, vs, rfl, hs, hr⟩ := lstV_rel (xs := _) rfl r ok
    exact sqL_ty hs
  · cases h
    obtain ⟨a, vs, rfl, hs, hr⟩ := tupV_rel (xs := _) rfl r
    exact sqT_ty hs
  · split at h
    · rename_i n _ xs hn
      cases h
      obtain ⟨a, vs, rfl, hs, hr⟩ := lstV_rel (d := .r n) (xs := xs) (by simp [lstV, hn]) r ok
      exact sqL_ty hs
    · rename_i n _ kvs hn
      cases h
      obtain ⟨a, h1, rfl⟩ := r
      obtain ⟨o, e1, kvs', e2, hr⟩ := ok.ob n a _ h1 hn
      subst e2
      exact .base (.dK e1)
    · cases h
  · cases h
end
section
variable {X : Cx} {pos p p2 : Pos} {e : Expr} {m : EM}
theorem pd_isi (T : String) {x : Str} (hT : T ∈ ["bool", "int", "str", "list", "tuple", "dict"] := by decide) (hi : X.mg "isinstance" = none) (hm : X.mg x = none) (ha : PDE X e m) (hv : bootBuiltins x = some (.type T) := by decide +kernel) (hg : Gl X "isinstance" := by rfl) (hg2 : Gl X x := by rfl) (hn : x ≠ "__name__" := by decide) (hdb : (x == ("__debug__" : Str)) = false := by decide)
    (he : starEach [e, .Name x p2] X.env = (false, eval e X.env) :: starEach [.Name x p2] X.env := by rfl) (he2 : starEach [.Name x p2] X.env = (false, eval (.Name x p2) X.env) :: starEach [] X.env := by rfl) (hpl : (backTo pos (starEach [.Name x p2] X.env)).any (·.1) = false := by rfl) :
    PDE X (.Call (.Name "isinstance" p) [e, .Name x p2] [] pos) (mIsi m T) :=
  PE.imp (pe_callB call_isi hg hi (by decide +kernel) (pa_cons ha (pa_cons (pe_bltn (v := .ty T) hg2 hm hv rfl hn hdb) pa_nil he2) he) (by decide) (by decide) he hpl) fun σ H Q h => by
    obtain ⟨w, s, d, st', rfl, ok, re, hm, hk⟩ := h
    unfold mIsi at hm
    split at hm
    · rename_i d0 s1 e1
      split at hm
      · rename_i t ht
        cases hm
        refine ⟨w, s, d0, _, rfl, ok, re, e1, fun u w1 q1 l1 ok1 r1 => ?_⟩
        subst q1
        exact ⟨u, .ty T, .type t, .type T, isSub t T, rfl, .ty T, tyName_ok ht r1 ok1, kit_ty (kit_tab t (tyName_mem ht) T hT), (hk.le l1).at_ ok1 RelD.boolK⟩
      · cases hm
    · cases hm
end

/-! ### the call of a def -/
def closedMO (k : Nat) : Option MO → Bool
  | some (.ins _ fs) => fs.all fun f => match f.2 with
    | .r n => decide (n < k)
    | _ => true
  | _ => true
/-- the objects made behind the first k are forgotten, where none is held -/
def cutSt (k : Nat) (st : Store) : Store := if (st.take k).all (closedMO k) then st.take k else st
def leave (k : Nat) (d : DV) (st : Store) : DV × Store := match d with
  | .d x => (.d x, cutSt k st)
  | .r n => (.r n, st)
  | .s xs => (.s xs, st)
/-- a def of n parameters, N names -/
def runFn (n N : Nat) (body : SM) : FN := fun ds st => if decide (ds.length = n) then (match body (ds.map some ++ List.replicate (N - n) none) st with
  | some (.nx _ st') => some (.d .none, cutSt st.length st')
  | some (.ret d st') => some (leave st.length d st')
  | _ => none) else none
def spOf (K : PySem.W.Frag) (f : FN) : Sp := fun vs H Q _ => ∃ (w : Wd) (ds : List DV) (d : DV) (st' : Store), w.H = H ∧ w.Ok K ∧ RelDs K w ds vs ∧ f ds w.st = some (d, st') ∧ KE K w d st' Q
section
variable {K : PySem.W.Frag} {w w' : Wd}
theorem Wd.Le.cut (ok : w.Ok K) (ok' : w'.Ok K) (l : w.Le w') : ∃ w2 : Wd, w2.H = w'.H ∧ w2.st = cutSt w.st.length w'.st ∧ w.Le w2 ∧ w2.Ok K ∧ ∀ x v, RelP K w'.L w'.H x v → RelP K w2.L w2.H x v := by
  by_cases hc : (w'.st.take w.st.length).all (closedMO w.st.length) = true
  · obtain ⟨more, em⟩ := l.pre
    have ea : w'.as.take w.st.length = w.as := by rw [em, ← ok.len, List.take_left']; rfl
    have lv : ∀ b, Live w.as (w'.st.take w.st.length) b → Live w'.as w'.st b := fun b ⟨k, m2, z1, z2⟩ => by
      refine ⟨k, m2, l.at_ z1, ?_⟩
      rw [List.getElem?_take] at z2
      split at z2
      · exact z2
      · cases z2
    have ex : Ext w'.L w'.H (Wd.L ⟨w.as, w'.st.take w.st.length, w'.H, w'.ex⟩) w'.H := fun b o e n => ⟨e, fun z => n (z.elim (fun z => .inl (lv b z)) .inr)⟩
    have lt : w.st.length ≤ w'.st.length := by rw [← ok.len, ← ok'.len, em, List.length_append]; omega
    have key : ∀ (fs : List (Str × DV)) (fs' : List (Str × V)), fs.all (fun f => match f.2 with | .r n => decide (n < w.st.length) | _ => true) = true → RelF K w' fs fs' → RelF K ⟨w.as, w'.st.take w.st.length, w'.H, w'.ex⟩ fs fs' := by
      intro fs
      induction fs with
      | nil => intro fs' _ q2; exact q2
      | cons f fs ih =>
        obtain ⟨x, d⟩ := f
        intro fs' hcl q2
        simp only [RelF] at q2
        obtain ⟨v, vr, e, hd, hr⟩ := q2
        rw [List.all_cons, Bool.and_eq_true] at hcl
        refine ⟨v, vr, e, ?_, ih vr hcl.2 hr⟩
        cases d with
        | d x => exact RelP.mono ex x v hd
        | s xs =>
          obtain ⟨a, us, z1, z2, z3⟩ := hd
          exact ⟨a, us, z1, z2.mono ex, RelPs.mono ex xs us z3⟩
        | r j =>
          obtain ⟨b, z1, z2⟩ := hd
          refine ⟨b, ?_, z2⟩
          show w.as[j]? = some b
          have hj : j < w.st.length := of_decide_eq_true hcl.1
          rw [em, List.getElem?_append_left (by rw [ok.len]; exact hj)] at z1
          exact z1
    refine ⟨⟨w.as, w'.st.take w.st.length, w'.H, w'.ex⟩, rfl, ?_, ⟨⟨[], by simp⟩, l.ext.trans ex, l.xq, l.xk⟩, ⟨?_, ok.nd, fun a ha => ok'.tr a (by rw [em]; exact List.mem_append_left _ ha), ok'.xt, fun a ha z => ok'.xd a ha (by rw [em]; exact List.mem_append_left _ z), fun n a mo h1 h2 => ?_⟩, fun x v r => RelP.mono ex x v r⟩
    · unfold cutSt
      rw [if_pos hc]
    · show w.as.length = (w'.st.take w.st.length).length
      rw [List.length_take, ok.len]
      omega
    · have h1 : w.as[n]? = some a := h1
      have h2 : (w'.st.take w.st.length)[n]? = some (some mo) := h2
      have hmem : some mo ∈ w'.st.take w.st.length := mem_of_get h2
      have h3 : w'.st[n]? = some (some mo) := by
        rw [List.getElem?_take] at h2
        split at h2
        · exact h2
        · cases h2
      obtain ⟨o, e1, m⟩ := ok'.ob n a mo (l.at_ h1) h3
      refine ⟨o, e1, ?_⟩
      cases mo with
      | lst xs =>
        obtain ⟨vs, q1, q2⟩ := m
        exact ⟨vs, q1, RelPs.mono ex xs vs q2⟩
      | dct kvs =>
        obtain ⟨kvs', q1, q2⟩ := m
        exact ⟨kvs', q1, RelK.mono (w := w') (w' := ⟨w.as, w'.st.take w.st.length, w'.H, w'.ex⟩) ex q2⟩
      | dcn kvs =>
        obtain ⟨es, xs, q1, q2, q3, q4, q5, q6⟩ := m
        exact ⟨es, xs, q1, q2, q3, q4, q5, RelN.mono (w := w') (w' := ⟨w.as, w'.st.take w.st.length, w'.H, w'.ex⟩) ex q6⟩
      | ins C fs =>
        obtain ⟨dx, fs', q1, q2⟩ := m
        refine ⟨dx, fs', q1, ?_⟩
        have hcl : fs.all (fun f => match f.2 with | .r n => decide (n < w.st.length) | _ => true) = true := List.all_eq_true.mp hc _ hmem
        exact key fs fs' hcl q2
  · refine ⟨w', rfl, ?_, l, ok', fun _ _ r => r⟩
    unfold cutSt
    rw [if_neg hc]
end
/-- a def as the law's text has it, keeps the promise of its meaning -/
structure FnAt (P : Program) (w : World) (K : PySem.W.Frag) (mg : Str → Option Value) (base : Heap) (x : Str) (k : Nat) (ps : List Str) (m : FN) : Prop where
  ex : ∃ (f : Addr) (fd : FuncData), mg x = some (.ref f) ∧ PySem.W.keepIn K (.ref f) = true ∧ Binds K fd ps [] ∧ FnOk P w K mg base CX0 k f fd ps (spOf K m) ∧ ∃ (oc : Value) (od : Option Addr) (osl : Array (Option Value)), K.lookup f = some ⟨oc, od, .func fd, osl⟩
section
variable {P : Program} {w : World} {K : PySem.W.Frag} {mg : Str → Option Value} {base : Heap}
theorem relE_start {w : Wd} : ∀ {ds : List DV} {vs : List V} {n : Nat}, RelDs K w ds vs → RelE K w (ds.map some ++ List.replicate n none) (vs.map some ++ List.replicate n none)
  | [], _, n, h => by
    cases h
    refine ⟨by simp, fun i d e => ?_⟩
    simp [List.getElem?_replicate] at e
  | d :: ds, vs, n, h => by
    simp only [RelDs] at h
    obtain ⟨v, vr, rfl, h2, h3⟩ := h
    have ih := relE_start (n := n) h3
    refine ⟨by simpa using ih.1, fun i d' e => ?_⟩
    cases i with
    | zero =>
      simp at e
      subst e
      exact ⟨v, by simp, h2⟩
    | succ i =>
      obtain ⟨u, h4, h5⟩ := ih.2 i d' (by simpa using e)
      exact ⟨u, by simpa using h4, h5⟩
theorem fn_at {x : Str} {params : Arguments} {body : List Stmt} {scope : Scope} {f : Addr} {fd : FuncData} {N ps : List Str} {k : Nat} {mb : SM} (F : FunD K x x params body scope [] [] f fd) (hm : mg x = some (.ref f)) (S : FnScope N ps scope)
    (hb : ∀ (kV doc pm : Value) (an : Option Addr) (cdv ct : Value) (us : List Value), us.length = ps.length → bindArgs (PySem.W.fnOf x x params body scope .none kV doc pm an cdv ct) ⟨us, []⟩ = pure (ps.zip us))
    (hle : ps.length ≤ N.length)
    (h : ∀ (cdv : Value) (A : Around) (outer : List Env) (s : Shared) (H : Hp) (E : XK), Room k (A.deeper (envOfC x scope s.heap.objs.size f cdv)) → PDB (cxOf CX0 P w K mg base N x scope f cdv A outer s H E).nox body mb) :
    FnAt P w K mg base x (k + 1) ps (runFn ps.length N.length mb) := by
  obtain ⟨zc, zd, _, _, _, _, _, _, _, zl, _, zk, _, _, _⟩ := F.ex
  refine ⟨f, fd, hm, F.kp, F.bindsN hb, ?_, zc, zd, zl, zk⟩
  refine F.ok S (fun vs H Q E hs => ?_) fun cdv A outer s H vs Q E hr hs => ⟨LiftS K mb, PSs.nox (h cdv A outer s H E hr), ?_⟩
  · obtain ⟨w, ds, d, st', _, _, r, e, _⟩ := hs
    unfold runFn at e
    split at e
    · rename_i hl
      rw [r.length]
      exact of_decide_eq_true hl
    · cases e
  · obtain ⟨w, ds, d, st', rfl, ok, r, e, hk⟩ := hs
    unfold runFn at e
    split at e
    · rename_i hl
      have hl := of_decide_eq_true hl
      have es : L2.start N vs = vs.map some ++ List.replicate (N.length - ps.length) none := by
        unfold L2.start
        rw [r.length, hl]
      rw [es]
      have re := relE_start (n := N.length - ps.length) r
      cases eb : mb (ds.map some ++ List.replicate (N.length - ps.length) none) w.st with
      | none => rw [eb] at e; cases e
      | some sr =>
        rw [eb] at e
        refine ⟨w, _, sr, rfl, ok, re, eb, ?_⟩
        cases sr with
        | nx s' st1 =>
          cases e
          intro σ w1 q1 l1 ok1 re1
          subst q1
          obtain ⟨w2, e1, e2, l2, ok2, _⟩ := Wd.Le.cut ok ok1 l1
          have := hk .non w2 e2 l2 ok2 rfl
          rw [e1] at this
          exact this
        | ret d1 st1 =>
          have e : leave w.st.length d1 st1 = (d, st') := Option.some.inj e
          intro v w1 q1 l1 ok1 r1
          subst q1
          cases d1 with
          | d x =>
            cases e
            obtain ⟨w2, e1, e2, l2, ok2, rr⟩ := Wd.Le.cut ok ok1 l1
            have := hk v w2 e2 l2 ok2 (rr x v r1)
            rw [e1] at this
            exact this
          | r n =>
            cases e
            exact hk v w1 rfl l1 ok1 r1
          | s xs =>
            cases e
            exact hk v w1 rfl l1 ok1 r1
        | bk s' st1 => cases e
        | ct s' st1 => cases e
    · cases e
end
section
variable {X : Cx} {pos p : Pos} {e : Expr} {es : List Expr} {ms : AM}
theorem LiftE.call {K : PySem.W.Frag} {f : FN} {a : AM} {σ : L2.St} {H : Hp} {Q : VK} (h : LiftE K (mApp f a) σ H Q) : tCall (spOf K f) [] E0 (LiftA K a) σ H Q := by
  obtain ⟨w, s, d, st', rfl, ok, re, hm, hk⟩ := h
  unfold mApp at hm
  split at hm
  · rename_i ds s1 e1
    refine ⟨w, s, ds, s1, rfl, ok, re, e1, fun vs w1 q1 l1 ok1 r1 => ?_⟩
    subst q1
    rw [List.append_nil]
    exact ⟨w1, ds, d, st', rfl, ok1, r1, hm, hk.le l1⟩
  · cases hm
theorem pd_call {x : Str} {j k : Nat} {ps : List Str} {m : FN} (F : FnAt X.prog X.w X.K X.mg X.base x j ps m) (hr : Room k X.A) (ha : PDA X (e :: es) ms) (hjk : j ≤ k := by decide) (hg : Gl X x := by rfl)
    (hdb : (x == ("__debug__" : Str)) = false := by decide) (he : starEach (e :: es) X.env = (false, eval e X.env) :: starEach es X.env := by rfl) (hpl : (backTo pos (starEach es X.env)).any (·.1) = false := by rfl) :
    PDE X (.Call (.Name x p) (e :: es) [] pos) (mApp m ms) := by
  obtain ⟨f, fd, hm, hk, hb, G, _⟩ := F.ex
  exact PE.imp (pe_call G (hr.mono hjk) hg hm hk hb .nil pass0 ha hdb he hpl) fun σ H Q h => LiftE.call h
theorem pd_call0 {x : Str} {j k : Nat} {ps : List Str} {m : FN} (F : FnAt X.prog X.w X.K X.mg X.base x j ps m) (hr : Room k X.A) (hjk : j ≤ k := by decide) (hg : Gl X x := by rfl)
    (hdb : (x == ("__debug__" : Str)) = false := by decide) : PDE X (.Call (.Name x p) [] [] pos) (mApp m mNil) := by
  obtain ⟨f, fd, hm, hk, hb, G, _⟩ := F.ex
  refine PE.imp (pe_call0 G (hr.mono hjk) hg hm hk hb .nil pass0 hdb) fun σ H Q h => ?_
  have q := LiftE.call h
  obtain ⟨w, s, ds, st', rfl, ok, re, hm, hk⟩ := q
  cases hm
  exact hk [] w rfl .refl ok rfl
end
end PD

set_option Elab.async false
set_option linter.all false
set_option maxRecDepth 100000
set_option maxHeartbeats 4000000
/-! PD6: statements, targets, loops, comprehensions -/
namespace PD
open PySem PySem.Spec PyProof.Rows L2

/-! ### equality of data -/
mutual
def dEq : PyData → PyData → Bool
  | .none, .none => true
  | .bool a, .bool b => a == b
  | .int a, .int b => a == b
  | .str a, .str b => a == b
  | .list xs, .list ys => dEqs xs ys
  | .tuple xs, .tuple ys => dEqs xs ys
  | _, _ => false
def dEqs : List PyData → List PyData → Bool
  | [], [] => true
  | x :: xs, y :: ys => dEq x y && dEqs xs ys
  | _, _ => false
end
mutual
theorem dEq_eq : ∀ (x y : PyData), dEq x y = true → x = y
  | .none, y, h => by cases y <;> simp [dEq] at h; rfl
  | .bool a, y, h => by cases y <;> simp [dEq] at h; rw [h]
  | .int a, y, h => by cases y <;> simp [dEq] at h; rw [h]
  | .str a, y, h => by cases y <;> simp [dEq] at h; rw [h]
  | .list xs, y, h => by cases y <;> simp [dEq] at h; rw [dEqs_eq xs _ h]
  | .tuple xs, y, h => by cases y <;> simp [dEq] at h; rw [dEqs_eq xs _ h]
  | .dict _, y, h => by cases y <;> simp [dEq] at h
theorem dEqs_eq : ∀ (xs ys : List PyData), dEqs xs ys = true → xs = ys
  | [], ys, h => by cases ys <;> simp [dEqs] at h; rfl
  | x :: xs, ys, h => by
    cases ys with
    | nil => simp [dEqs] at h
    | cons y ys =>
      simp only [dEqs, Bool.and_eq_true] at h
      rw [dEq_eq x y h.1, dEqs_eq xs ys h.2]
end
/-! no dict within -/
mutual
def noDict : PyData → Bool
  | .dict _ => false
  | .list xs => noDicts xs
  | .tuple xs => noDicts xs
  | _ => true
def noDicts : List PyData → Bool
  | [] => true
  | x :: xs => noDict x && noDicts xs
end
mutual
theorem dEq_refl : ∀ (x : PyData), noDict x = true → dEq x x = true
  | .none, _ => rfl
  | .bool a, _ => by simp [dEq]
  | .int a, _ => by simp [dEq]
  | .str a, _ => by simp [dEq]
  | .list xs, h => by simp only [dEq]; exact dEqs_refl xs (by simpa [noDict] using h)
  | .tuple xs, h => by simp only [dEq]; exact dEqs_refl xs (by simpa [noDict] using h)
  | .dict _, h => by simp [noDict] at h
theorem dEqs_refl : ∀ (xs : List PyData), noDicts xs = true → dEqs xs xs = true
  | [], _ => rfl
  | x :: xs, h => by
    simp only [noDicts, Bool.and_eq_true] at h
    simp only [dEqs, Bool.and_eq_true]
    exact ⟨dEq_refl x h.1, dEqs_refl xs h.2⟩
end

/-! ### small statements -/
def mNx : SM := fun s st => some (.nx s st)
def mSeq (a b : SM) : SM := fun s st => match a s st with
  | some (.nx s1 st1) => b s1 st1
  | some (.ret d st1) => some (.ret d st1)
  | some (.bk s1 st1) => some (.bk s1 st1)
  | some (.ct s1 st1) => some (.ct s1 st1)
  | none => none
def mDrop (m : EM) : SM := fun s st => match m s st with
  | some (_, st1) => some (.nx s st1)
  | none => none
def mRet (m : EM) : SM := fun s st => match m s st with
  | some (d, st1) => some (.ret d st1)
  | none => none
/-- a mutable list is handed back, no more changed -/
def mRetF (m : EM) : SM := fun s st => match m s st with
  | some (.r n, st1) => (match st1[n]? with
    | some (some (.lst xs)) => some (.ret (.d (.list xs)) (st1.set n none))
    | _ => none)
  | some (.d x, st1) => some (.ret (.d x) st1)
  | _ => none
def mRetN : SM := fun _ st => some (.ret (.d .none) st)
def mIfS (t : TM) (a b : SM) : SM := fun s st => match t s st with
  | some (true, st1) => a s st1
  | some (false, st1) => b s st1
  | none => none
def mBk : SM := fun s st => some (.bk s st)
def mCt : SM := fun s st => some (.ct s st)
def mStuck : SM := fun _ _ => none
def mSet (i : Nat) (m : EM) : SM := fun s st => match m s st with
  | some (d, st1) => some (.nx (s.set i (some d)) st1)
  | none => none
section
variable {X : Cx} {pos : Pos} {e c : Expr} {m : EM} {t : TM} {st : Stmt} {rest a b : List Stmt} {ms mr ma mb : SM}
theorem pb_nil : PDB X [] mNx := PSs.imp pss_nil fun D σ H h => by
  obtain ⟨w, s, r, rfl, ok, re, hm, hk⟩ := h
  cases hm
  exact hk σ w rfl .refl ok re
theorem pb_cons (h1 : PDS X st ms) (h2 : PDB X rest mr) : PDB X (st :: rest) (mSeq ms mr) := PSs.imp (pss_cons h1 h2) fun D σ H h => by
  obtain ⟨w, s, r, rfl, ok, re, hm, hk⟩ := h
  unfold mSeq at hm
  split at hm
  · rename_i s1 st1 e1
    refine ⟨w, s, _, rfl, ok, re, e1, fun σ1 w1 q1 l1 ok1 re1 => ?_⟩
    subst q1
    exact ⟨w1, s1, r, rfl, ok1, re1, hm, hk.le l1⟩
  · rename_i e1
    cases hm
    exact ⟨w, s, _, rfl, ok, re, e1, hk⟩
  · rename_i e1
    cases hm
    exact ⟨w, s, _, rfl, ok, re, e1, hk⟩
  · rename_i e1
    cases hm
    exact ⟨w, s, _, rfl, ok, re, e1, hk⟩
  · cases hm
theorem pb_one (h1 : PDS X st ms) : PDB X [st] ms := pss_one h1
theorem pb_never : PDB X a mStuck := PSs.imp pss_never fun D σ H h => by
  obtain ⟨w, s, r, rfl, ok, re, hm, hk⟩ := h
  cases hm
theorem ps_neverD : PDS X st mStuck := PS.imp ps_never fun D σ H h => by
  obtain ⟨w, s, r, rfl, ok, re, hm, hk⟩ := h
  cases hm
theorem ps_passD : PDS X (.Pass pos) mNx := PS.imp ps_pass fun D σ H h => by
  obtain ⟨w, s, r, rfl, ok, re, hm, hk⟩ := h
  cases hm
  exact hk σ w rfl .refl ok re
theorem ps_bkD : PDS X (.Break pos) mBk := PS.imp ps_break fun D σ H h => by
  obtain ⟨w, s, r, rfl, ok, re, hm, hk⟩ := h
  cases hm
  exact hk σ w rfl .refl ok re
theorem ps_ctD : PDS X (.Continue pos) mCt := PS.imp ps_continue fun D σ H h => by
  obtain ⟨w, s, r, rfl, ok, re, hm, hk⟩ := h
  cases hm
  exact hk σ w rfl .refl ok re
theorem ps_exprD (he : PDE X e m) (hs : swapsWith e none pos.line X.env = pure false := by rfl) : PDS X (.Expr e pos) (mDrop m) := PS.imp (ps_expr he hs) fun D σ H h => by
  obtain ⟨w, s, r, rfl, ok, re, hm, hk⟩ := h
  unfold mDrop at hm
  split at hm
  · rename_i e1
    cases hm
    exact ⟨w, s, _, _, rfl, ok, re, e1, fun v w1 q1 l1 ok1 r1 => hk σ w1 q1 l1 ok1 (re.mono l1)⟩
  · cases hm
theorem ps_retD (he : PDE X e m) : PDS X (.Return (some e) pos) (mRet m) := PS.imp (ps_ret he) fun D σ H h => by
  obtain ⟨w, s, r, rfl, ok, re, hm, hk⟩ := h
  unfold mRet at hm
  split at hm
  · rename_i e1
    cases hm
    exact ⟨w, s, _, _, rfl, ok, re, e1, hk⟩
  · cases hm
theorem ps_retF (he : PDE X e m) : PDS X (.Return (some e) pos) (mRetF m) := PS.imp (ps_ret he) fun D σ H h => by
  obtain ⟨w, s, r, rfl, ok, re, hm, hk⟩ := h
  unfold mRetF at hm
  split at hm
  · rename_i n st1 e1
    split at hm
    · rename_i xs hn
      cases hm
      refine ⟨w, s, _, _, rfl, ok, re, e1, fun v w1 q1 l1 ok1 r1 => ?_⟩
      subst q1
      obtain ⟨l2, ok2⟩ := ok1.freeze n
      obtain ⟨a, h1, rfl⟩ := r1
      obtain ⟨o, h2, vs, rfl, h3⟩ := ok1.ob n a _ h1 hn
      have hl : n < w1.st.length := (List.getElem?_eq_some_iff.mp hn).1
      have nl := ok2.not_live (n := n) (p := a) h1 (fun mo z => by
        have z : (w1.st.set n none)[n]? = some (some mo) := z
        rw [List.getElem?_set_self hl] at z
        cases z)
      refine hk (.ref a) ⟨w1.as, w1.st.set n none, w1.H, w1.ex⟩ rfl (l1.trans l2) ok2 ?_
      simp only [RelD, RelP]
      exact ⟨a, vs, rfl, ⟨nl, h2⟩, RelPs.mono l2.ext _ _ h3⟩
    · cases hm
  · rename_i x st1 e1
    cases hm
    exact ⟨w, s, _, _, rfl, ok, re, e1, hk⟩
  · cases hm
theorem ps_retND : PDS X (.Return none pos) mRetN := PS.imp ps_retN fun D σ H h => by
  obtain ⟨w, s, r, rfl, ok, re, hm, hk⟩ := h
  cases hm
  exact hk .non w rfl .refl ok rfl
theorem ps_ifD (hc : PDT X c t) (ha : PDB X a ma) (hb : PDB X b mb) : PDS X (.If c a b pos) (mIfS t ma mb) := PS.imp (ps_if hc ha hb) fun D σ H h => by
  obtain ⟨w, s, r, rfl, ok, re, hm, hk⟩ := h
  unfold mIfS at hm
  split at hm
  · rename_i s1 e1
    refine ⟨w, s, true, s1, rfl, ok, re, e1, fun w1 q1 l1 ok1 => ?_⟩
    refine iteT ?_
    subst q1
    exact ⟨w1, s, r, rfl, ok1, re.mono l1, hm, hk.le l1⟩
  · rename_i s1 e1
    refine ⟨w, s, false, s1, rfl, ok, re, e1, fun w1 q1 l1 ok1 => ?_⟩
    refine iteF ?_
    subst q1
    exact ⟨w1, s, r, rfl, ok1, re.mono l1, hm, hk.le l1⟩
  · cases hm
end

/-! ### targets: vs, the slots that are stored -/
abbrev GM := DV → SE → Option SE
def LiftG (K : PySem.W.Frag) (vs : List Nat) (g : GM) : TG := fun v σ H Q => ∃ (w : Wd) (s : SE) (d : DV) (s' : SE), w.H = H ∧ w.Ok K ∧ RelE K w s σ ∧ RelD K w d v ∧ g d s = some s' ∧
  ∀ σ' : L2.St, RelE K w s' σ' → (∀ j, j ∉ vs → σ'[j]? = σ[j]?) → σ'.length = σ.length → Q σ' H
def LiftGs (K : PySem.W.Frag) (vs : List Nat) (g : List PyData → SE → Option SE) : TGs := fun us σ H Q => ∃ (w : Wd) (s : SE) (ds : List PyData) (s' : SE), w.H = H ∧ w.Ok K ∧ RelE K w s σ ∧ RelPs K w.L w.H ds us ∧ g ds s = some s' ∧
  ∀ σ' : L2.St, RelE K w s' σ' → (∀ j, j ∉ vs → σ'[j]? = σ[j]?) → σ'.length = σ.length → Q σ' H
abbrev PDG (X : Cx) (tg : Expr) (vs : List Nat) (g : GM) : Prop := PG X tg (LiftG X.K vs g)
abbrev PDGs (X : Cx) (ts : List Expr) (vs : List Nat) (g : List PyData → SE → Option SE) : Prop := PGs X ts (LiftGs X.K vs g)
theorem PG.imp {X : Cx} {tg : Expr} {t t' : TG} (h : PG X tg t) (i : ∀ v σ H Q, t' v σ H Q → t v σ H Q) : PG X tg t' := ⟨fun pins s σ H v u Q I r hw => h.run pins s σ H v u Q I r (i v σ H Q hw)⟩
theorem PGs.imp {X : Cx} {ts : List Expr} {t t' : TGs} (h : PGs X ts t) (i : ∀ v σ H Q, t' v σ H Q → t v σ H Q) : PGs X ts t' := ⟨fun pins s σ H v u Q I r hw => h.run pins s σ H v u Q I r (i v σ H Q hw)⟩
def gmName (i : Nat) : GM := fun d s => some (s.set i (some d))
def gmTup (n : Nat) (g : List PyData → SE → Option SE) : GM := fun d s => match d with
  | .d (.tuple xs) => if decide (xs.length = n) then g xs s else none
  | _ => none
def gmNil : List PyData → SE → Option SE := fun xs s => match xs with
  | [] => some s
  | _ => none
def gmCons (g : GM) (gs : List PyData → SE → Option SE) : List PyData → SE → Option SE := fun xs s => match xs with
  | x :: r => (match g (.d x) s with
    | some s1 => gs r s1
    | none => none)
  | [] => none
section
variable {X : Cx} {pos : Pos} {e : Expr} {es : List Expr}
theorem pg_nameD {i : Nat} {x : Str} (hN : X.N.Nodup) (hi : X.N[i]? = some x := by rfl) (hx : Loc X.env.scope x := by first | exact .inl rfl | exact .inr rfl) (hf : X.fn x = true ∨ X.env.scope.names.lookup x = some .local := by first | exact .inl rfl | exact .inr rfl | assumption) : PDG X (.Name x pos) [i] (gmName i) :=
  PG.imp (pg_name hN hi hx hf) fun v σ H Q h => by
    obtain ⟨w, s, d, s', rfl, ok, re, r, hg, hk⟩ := h
    cases hg
    exact hk _ (re.set r) (fun j hj => List.getElem?_set_ne fun e => hj (by simp [e])) (List.length_set ..)
theorem pgs_nilD : PDGs X [] [] gmNil := PGs.imp pgs_nil fun v σ H Q h => by
  obtain ⟨w, s, ds, s', rfl, ok, re, r, hg, hk⟩ := h
  unfold gmNil at hg
  split at hg
  · cases hg
    cases r
    exact ⟨rfl, hk σ re (fun _ _ => rfl) rfl⟩
  · cases hg
theorem pgs_consD {vs us : List Nat} {g : GM} {gs : List PyData → SE → Option SE} (h1 : PDG X e vs g) (h2 : PDGs X es us gs) (hs : (assignEach (e :: es) X.env).map (·.2) = assign e X.env :: (assignEach es X.env).map (·.2) := by rfl) : PDGs X (e :: es) (vs ++ us) (gmCons g gs) :=
  PGs.imp (pgs_cons h1 h2 hs) fun v σ H Q h => by
    obtain ⟨w, s, ds, s', rfl, ok, re, r, hg, hk⟩ := h
    unfold gmCons at hg
    split at hg
    · rename_i x r'
      split at hg
      · rename_i s1 e1
        simp only [RelPs] at r
        obtain ⟨u, ur, rfl, r1, r2⟩ := r
        refine ⟨u, ur, rfl, w, s, .d x, s1, rfl, ok, re, r1, e1, fun σ1 re1 hj1 hl1 => ?_⟩
        refine ⟨w, s1, r', s', rfl, ok, re1, r2, hg, fun σ2 re2 hj2 hl2 => ?_⟩
        refine hk σ2 re2 (fun j hj => ?_) (hl2.trans hl1)
        rw [List.mem_append] at hj
        exact (hj2 j fun z => hj (.inr z)).trans (hj1 j fun z => hj (.inl z))
      · cases hg
    · cases hg
theorem pg_tupD {k n : Nat} {vs : List Nat} {gs : List PyData → SE → Option SE} (hc : X.calm = true) (h : PDGs X es vs gs) (hn : (assignEach es X.env).length = n := by rfl) (hst : (assignEach es X.env).findIdx? (·.1) = none := by rfl) : PDG X (.Tuple es k pos) vs (gmTup n gs) :=
  PG.imp (pg_tup hc h hn hst) fun v σ H Q h => by
    obtain ⟨w, s, d, s', rfl, ok, re, r, hg, hk⟩ := h
    unfold gmTup at hg
    split at hg
    · split at hg
      · rename_i hl
        obtain ⟨a, us, rfl, ha, hr⟩ := relTup_inv r
        exact ⟨a, us, rfl, ha.sq, by rw [hr.length]; exact of_decide_eq_true hl, w, s, _, s', rfl, ok, re, hr, hg, hk⟩
      · cases hg
    · cases hg
end

/-! ### assignments -/
def mAsg (m : EM) (g : GM) : SM := fun s st => match m s st with
  | some (d, st1) => (match g d s with
    | some s1 => some (.nx s1 st1)
    | none => none)
  | none => none
/-- a, b = x, y -/
def mPar (i j : Nat) (ma mb : EM) : SM := fun s st => match ma s st with
  | some (x, s1) => (match mb s s1 with
    | some (y, s2) => some (.nx ((s.set i (some x)).set j (some y)) s2)
    | none => none)
  | none => none
def mPar3 (i j l : Nat) (ma mb mc : EM) : SM := fun s st => match ma s st with
  | some (x, s1) => (match mb s s1 with
    | some (y, s2) => (match mc s s2 with
      | some (z, s3) => some (.nx (((s.set i (some x)).set j (some y)).set l (some z)) s3)
      | none => none)
    | none => none)
  | none => none
section
variable {X : Cx} {pos pos' : Pos} {e tg : Expr} {m ma mb mc : EM}
theorem ps_asgD {vs : List Nat} {g : GM} (he : PDE X e m) (hg : PDG X tg vs g) (hs : swapsWithSole [tg] e pos.line X.env = pure false := by rfl) (hw : swappedStores [tg] e X.env = pure none := by rfl)
    (h1 : (assignEach [tg] X.env).map (·.2) = [assign tg X.env] := by rfl) : PDS X (.Assign [tg] e pos) (mAsg m g) := PS.imp (ps_asg he hg hs hw h1) fun D σ H h => by
  obtain ⟨w, s, r, rfl, ok, re, hm, hk⟩ := h
  unfold mAsg at hm
  split at hm
  · rename_i d st1 e1
    split at hm
    · rename_i s1 e2
      cases hm
      refine ⟨w, s, d, _, rfl, ok, re, e1, fun v w1 q1 l1 ok1 r1 => ?_⟩
      exact ⟨w1, s, d, s1, rfl, ok1, re.mono l1, r1, e2, fun σ' re' _ _ => hk σ' w1 q1 l1 ok1 re'⟩
    · cases hm
  · cases hm
theorem ps_setD {i : Nat} {x : Str} (hN : X.N.Nodup) (he : PDE X e m) (hi : X.N[i]? = some x := by rfl) (hx : Loc X.env.scope x := by first | exact .inl rfl | exact .inr rfl) (hs : swapsWith e (some (.Name x pos')) pos.line X.env = pure false := by rfl) (hf : X.fn x = true ∨ X.env.scope.names.lookup x = some .local := by first | exact .inl rfl | exact .inr rfl | assumption) :
    PDS X (.Assign [.Name x pos'] e pos) (mSet i m) := PS.imp (ps_set hN hi hx he hs hf) fun D σ H h => by
  obtain ⟨w, s, r, rfl, ok, re, hm, hk⟩ := h
  unfold mSet at hm
  split at hm
  · rename_i d st1 e1
    cases hm
    exact ⟨w, s, d, _, rfl, ok, re, e1, fun v w1 q1 l1 ok1 r1 => hk _ w1 q1 l1 ok1 ((re.mono l1).set r1)⟩
  · cases hm
theorem ps_parD {i j : Nat} {x y : Str} {a b : Expr} {px py pt : Pos} {kt k2 pt2} (hc : X.calm = true) (hN : X.N.Nodup) (ha : PDE X a ma) (hb : PDE X b mb) (hi : X.N[i]? = some x := by rfl) (hj : X.N[j]? = some y := by rfl) (hij : i ≠ j := by decide)
    (hx : X.env.scope.names.lookup x = some .local := by rfl) (hy : X.env.scope.names.lookup y = some .local := by rfl) (hs1 : starEach [a, b] X.env = (false, eval a X.env) :: starEach [b] X.env := by rfl) (hs2 : starEach [b] X.env = (false, eval b X.env) :: starEach [] X.env := by rfl)
    (hw : swappedStores [.Tuple [.Name x px, .Name y py] kt pt] (.Tuple [a, b] k2 pt2) X.env = pure (some [x, y]) := by rfl)
    (hs : swapsWithSole [.Tuple [.Name x px, .Name y py] kt pt] (.Tuple [a, b] k2 pt2) pos.line X.env = pure false := by rfl) :
    PDS X (.Assign [.Tuple [.Name x px, .Name y py] kt pt] (.Tuple [a, b] k2 pt2) pos) (mPar i j ma mb) := PS.imp (ps_par hc hN hi hj hij hx hy (pa_cons ha (pa_cons hb pa_nil hs2) hs1) hw hs) fun D σ H h => by
  obtain ⟨w, s, r, rfl, ok, re, hm, hk⟩ := h
  unfold mPar at hm
  split at hm
  · rename_i x1 s1 e1
    split at hm
    · rename_i y1 s2 e2
      cases hm
      refine ⟨w, s, x1, s1, rfl, ok, re, e1, fun u w1 q1 l1 ok1 r1 => ?_⟩
      subst q1
      refine ⟨w1, s, y1, _, rfl, ok1, re.mono l1, e2, fun v w2 q2 l2 ok2 r2 => ?_⟩
      exact ⟨u, v, rfl, hk _ w2 q2 (l1.trans l2) ok2 ((((re.mono l1).mono l2).set (r1.mono l2)).set r2)⟩
    · cases hm
  · cases hm
theorem ps_par3D {i j l : Nat} {x y z : Str} {a b c : Expr} {px py pz pt : Pos} {kt k2 pt2} (hc : X.calm = true) (hN : X.N.Nodup) (ha : PDE X a ma) (hb : PDE X b mb) (hcc : PDE X c mc) (hi : X.N[i]? = some x := by rfl) (hj : X.N[j]? = some y := by rfl) (hl : X.N[l]? = some z := by rfl) (hij : i ≠ j := by decide) (hil : i ≠ l := by decide) (hjl : j ≠ l := by decide)
    (hx : X.env.scope.names.lookup x = some .local := by rfl) (hy : X.env.scope.names.lookup y = some .local := by rfl) (hz : X.env.scope.names.lookup z = some .local := by rfl) (hs1 : starEach [a, b, c] X.env = (false, eval a X.env) :: starEach [b, c] X.env := by rfl) (hs2 : starEach [b, c] X.env = (false, eval b X.env) :: starEach [c] X.env := by rfl) (hs3 : starEach [c] X.env = (false, eval c X.env) :: starEach [] X.env := by rfl)
    (hw : swappedStores [.Tuple [.Name x px, .Name y py, .Name z pz] kt pt] (.Tuple [a, b, c] k2 pt2) X.env = pure (some [x, y, z]) := by rfl)
    (hs : swapsWithSole [.Tuple [.Name x px, .Name y py, .Name z pz] kt pt] (.Tuple [a, b, c] k2 pt2) pos.line X.env = pure false := by rfl) :
    PDS X (.Assign [.Tuple [.Name x px, .Name y py, .Name z pz] kt pt] (.Tuple [a, b, c] k2 pt2) pos) (mPar3 i j l ma mb mc) := PS.imp (ps_par3 hc hN hi hj hl hij hil hjl hx hy hz (pa_cons ha (pa_cons hb (pa_cons hcc pa_nil hs3) hs2) hs1) hw hs) fun D σ H h => by
  obtain ⟨w, s, r, rfl, ok, re, hm, hk⟩ := h
  unfold mPar3 at hm
  split at hm
  · rename_i x1 s1 e1
    split at hm
    · rename_i y1 s2 e2
      split at hm
      · rename_i z1 s3 e3
        cases hm
        refine ⟨w, s, x1, s1, rfl, ok, re, e1, fun u w1 q1 l1 ok1 r1 => ?_⟩
        subst q1
        refine ⟨w1, s, y1, _, rfl, ok1, re.mono l1, e2, fun v w2 q2 l2 ok2 r2 => ?_⟩
        subst q2
        refine ⟨w2, s, z1, _, rfl, ok2, (re.mono l1).mono l2, e3, fun t w3 q3 l3 ok3 r3 => ?_⟩
        exact ⟨u, v, t, rfl, hk _ w3 q3 ((l1.trans l2).trans l3) ok3 ((((((re.mono l1).mono l2).mono l3).set ((r1.mono l2).mono l3)).set (r2.mono l3)).set r3)⟩
      · cases hm
    · cases hm
  · cases hm
end
end PD

set_option Elab.async false
set_option linter.all false
set_option maxRecDepth 100000
set_option maxHeartbeats 4000000
/-! PD7: loops, comprehensions, what is walked -/
namespace PD
open PySem PySem.Spec PyProof.Rows L2

/-! ### while -/
def whileL (t : TM) (b : SM) : Nat → SE → Store → Option SR
  | 0, _, _ => none
  | n + 1, s, st => match t s st with
    | some (true, st1) => (match b s st1 with
      | some (.nx s2 st2) => whileL t b n s2 st2
      | some (.ct s2 st2) => whileL t b n s2 st2
      | some (.bk s2 st2) => some (.nx s2 st2)
      | some (.ret d st2) => some (.ret d st2)
      | none => none)
    | some (false, st1) => some (.nx s st1)
    | none => none
def fuel : Nat := 2 ^ 20000
def mWhile (t : TM) (b : SM) : SM := fun s st => whileL t b fuel s st
theorem whileL_mono (t : TM) (b : SM) : ∀ (n k : Nat) (s : SE) (st : Store) (r : SR), whileL t b n s st = some r → whileL t b (n + k) s st = some r
  | 0, k, s, st, r, h => by cases h
  | n + 1, k, s, st, r, h => by
    have ih := whileL_mono t b n k
    have e : n + 1 + k = (n + k) + 1 := by omega
    rw [e]
    unfold whileL at h ⊢
    cases e1 : t s st with
    | none => rw [e1] at h; cases h
    | some p =>
      obtain ⟨c, st1⟩ := p
      rw [e1] at h
      cases c with
      | false => exact h
      | true =>
        cases e2 : b s st1 with
        | none => simp only [e2] at h; cases h
        | some q =>
          cases q with
          | nx s2 st2 => simp only [e2] at h ⊢; exact ih s2 st2 r h
          | ct s2 st2 => simp only [e2] at h ⊢; exact ih s2 st2 r h
          | bk s2 st2 => simp only [e2] at h ⊢; exact h
          | ret d st2 => simp only [e2] at h ⊢; exact h
theorem mWhile_of {t : TM} {b : SM} {n : Nat} {s : SE} {st : Store} {r : SR} (h : whileL t b n s st = some r) (hn : n ≤ fuel) : mWhile t b s st = some r := by
  have := whileL_mono t b n (fuel - n) s st r h
  rw [show n + (fuel - n) = fuel by omega] at this
  exact this
section
variable {X : Cx} {pos : Pos} {c : Expr} {body : List Stmt} {t : TM} {mb : SM}
theorem ps_whileD (hp : PassesOwn (model X.prog X.w) X.A X.env X.xe) (hc : PDT X c t) (hb : PDB X body mb) : PDS X (.While c body [] pos) (mWhile t mb) := PS.imp (ps_while hp hc hb) fun D σ H h => by
  obtain ⟨w, s, r, rfl, ok, re, hm, hk⟩ := h
  refine ⟨fun m σ' H' => ∃ (w' : Wd) (s' : SE), w'.H = H' ∧ w.Le w' ∧ w'.Ok X.K ∧ RelE X.K w' s' σ' ∧ whileL t mb m s' w'.st = some r, ⟨fuel, w, s, rfl, .refl, ok, re, hm⟩, ?_⟩
  rintro m σ1 H1 ⟨w1, s1, rfl, l1, ok1, re1, e1⟩
  cases m with
  | zero => cases e1
  | succ m =>
    simp only [whileL] at e1
    split at e1
    · rename_i st2 e2
      refine ⟨w1, s1, true, st2, rfl, ok1, re1, e2, fun w2 q2 l2 ok2 => ?_⟩
      refine iteT ⟨fun σ' H' => ∃ (w' : Wd) (s' : SE), w'.H = H' ∧ w.Le w' ∧ w'.Ok X.K ∧ RelE X.K w' s' σ' ∧ whileL t mb m s' w'.st = some r, fun σ' H' h => ⟨m, Nat.lt_succ_self m, h⟩, ?_⟩
      subst q2
      split at e1
      · rename_i s3 st3 e3
        refine ⟨w2, s1, _, rfl, ok2, re1.mono l2, e3, fun σ3 w3 q3 l3 ok3 re3 => ?_⟩
        subst q3
        exact ⟨w3, s3, rfl, (l1.trans l2).trans l3, ok3, re3, e1⟩
      · rename_i s3 st3 e3
        refine ⟨w2, s1, _, rfl, ok2, re1.mono l2, e3, fun σ3 w3 q3 l3 ok3 re3 => ?_⟩
        subst q3
        exact ⟨w3, s3, rfl, (l1.trans l2).trans l3, ok3, re3, e1⟩
      · rename_i s3 st3 e3
        cases e1
        refine ⟨w2, s1, _, rfl, ok2, re1.mono l2, e3, fun σ3 w3 q3 l3 ok3 re3 => ?_⟩
        exact hk σ3 w3 q3 ((l1.trans l2).trans l3) ok3 re3
      · rename_i d3 st3 e3
        cases e1
        exact ⟨w2, s1, _, rfl, ok2, re1.mono l2, e3, KE.le hk (l1.trans l2)⟩
      · cases e1
    · rename_i st2 e2
      cases e1
      refine ⟨w1, s1, false, _, rfl, ok1, re1, e2, fun w2 q2 l2 ok2 => ?_⟩
      exact iteF (hk σ1 w2 q2 (l1.trans l2) ok2 (re1.mono l2))
    · cases e1
end

/-! ### what is walked -/
structure Wd.Lx (w w' : Wd) : Prop where
  pre : ∃ more, w'.as = w.as ++ more
  ext : Ext w.L w.H w'.L w'.H
theorem Wd.Le.x {w w' : Wd} (l : w.Le w') : w.Lx w' := ⟨l.pre, l.ext⟩
theorem Wd.Lx.refl {w : Wd} : w.Lx w := Wd.Le.refl.x
theorem Wd.Lx.trans {w w1 w2 : Wd} (a : w.Lx w1) (b : w1.Lx w2) : w.Lx w2 := by
  obtain ⟨m1, e1⟩ := a.pre
  obtain ⟨m2, e2⟩ := b.pre
  exact ⟨⟨m1 ++ m2, by rw [e2, e1, List.append_assoc]⟩, a.ext.trans b.ext⟩
theorem Wd.Lx.at_ {w w' : Wd} (l : w.Lx w') (n : Nat) (a : Addr) (h : w.as[n]? = some a) : w'.as[n]? = some a := by
  obtain ⟨m, e⟩ := l.pre
  rw [e, List.getElem?_append_left (List.getElem?_eq_some_iff.mp h).1]
  exact h
theorem RelE.monoX {K : PySem.W.Frag} {w w' : Wd} (l : w.Lx w') {s : SE} {σ : L2.St} (h : RelE K w s σ) : RelE K w' s σ := ⟨h.1, fun i d e => by
  obtain ⟨v, h1, h2⟩ := h.2 i d e
  exact ⟨v, h1, h2.monoX l.ext l.at_⟩⟩
/-- an object that is being made is written -/
theorem Wd.Ok.writeX {K : PySem.W.Frag} {w : Wd} {D : Addr} {o : HO} (ok : w.Ok K) (hD : D ∈ w.ex) : Wd.Ok K ⟨w.as, w.st, upd w.H D o, w.ex⟩ ∧ w.Lx ⟨w.as, w.st, upd w.H D o, w.ex⟩ ∧ ∀ a ∈ w.ex, a ≠ D → upd w.H D o a = w.H a := by
  have l : w.Lx ⟨w.as, w.st, upd w.H D o, w.ex⟩ := ⟨⟨[], by simp⟩, fun b u e n => ⟨by
    have nb : b ≠ D := fun z => n (.inr (by rw [z]; exact hD))
    show upd w.H D o b = _
    rw [upd_ne nb]; exact e, n⟩⟩
  refine ⟨⟨ok.len, ok.nd, fun a ha => ?_, fun a ha => ?_, ok.xd, fun n a mo h1 h2 => ?_⟩, l, fun a _ h => upd_ne h⟩
  · obtain ⟨u, e⟩ := ok.tr a ha
    have nb : a ≠ D := fun z => ok.xd D hD (by rw [← z]; exact ha)
    exact ⟨u, by show upd w.H D o a = _; rw [upd_ne nb]; exact e⟩
  · by_cases e : a = D
    · subst e; exact ⟨o, upd_same⟩
    · obtain ⟨u, e2⟩ := ok.xt a ha
      exact ⟨u, by show upd w.H D o a = _; rw [upd_ne e]; exact e2⟩
  · obtain ⟨u, e, m⟩ := ok.ob n a mo h1 h2
    have nb : a ≠ D := fun z => ok.xd D hD (by rw [← z]; exact mem_of_get h1)
    exact ⟨u, by show upd w.H D o a = _; rw [upd_ne nb]; exact e, m.monoX l.ext l.at_⟩
structure IterOf (K : PySem.W.Frag) (w : Wd) (g : Store → Bool) (ds : List PyData) (J : It) : Prop where
  go : ∀ (i : Nat) (w' : Wd), i < ds.length → w.Lx w' → w'.Ok K → g w'.st = true → J.go i w'.H
  stop : ∀ (w' : Wd), w.Lx w' → w'.Ok K → g w'.st = true → J.stop ds.length w'.H
  yld : ∀ (i : Nat) (w' : Wd) (x : V) (H' : Hp), i < ds.length → w.Lx w' → w'.Ok K → g w'.st = true → J.yld i w'.H x H' → ∃ (d : PyData) (w2 : Wd), ds[i]? = some d ∧ w2.H = H' ∧ w2.st = w'.st ∧ w'.Le w2 ∧ w2.Ok K ∧ RelP K w2.L w2.H d x
abbrev IM := SE → Store → Option ((List PyData × (Store → Bool)) × Store)
def LiftI (K : PySem.W.Frag) (m : IM) : TI := fun σ H R => ∃ (w : Wd) (s : SE) (ds : List PyData) (g : Store → Bool) (st' : Store), w.H = H ∧ w.Ok K ∧ RelE K w s σ ∧ m s w.st = some ((ds, g), st') ∧
  ∀ (J : It) (w' : Wd), w'.st = st' → w.Le w' → w'.Ok K → IterOf K w' g ds J → R J w'.H
abbrev PDI (X : Cx) (tg iter : Expr) (m : IM) : Prop := PI X tg iter (LiftI X.K m)
theorem PI.imp {X : Cx} {tg e : Expr} {t t' : TI} (h : PI X tg e t) (i : ∀ σ H R, t' σ H R → t σ H R) : PI X tg e t' := ⟨fun pins s σ H R I hw => h.run pins s σ H R I (i σ H R hw)⟩
theorem PI.or {X : Cx} {tg e : Expr} {t t' : TI} (h : PI X tg e t) (h' : PI X tg e t') : PI X tg e (fun σ H R => t σ H R ∨ t' σ H R) := ⟨fun pins s σ H R I hw => hw.elim (h.run pins s σ H R I) (h'.run pins s σ H R I)⟩
theorem PE.or {X : Cx} {e : Expr} {t t' : TE} (h : PE X e t) (h' : PE X e t') : PE X e (fun σ H Q => t σ H Q ∨ t' σ H Q) := ⟨fun pins s σ H Q I hw => hw.elim (h.run pins s σ H Q I) (h'.run pins s σ H Q I)⟩
/-- the mutable list at n still holds xs -/
def holds (n : Nat) (xs : List PyData) (st : Store) : Bool := match st[n]? with
  | some (some (.lst ys)) => dEqs ys xs
  | _ => false
theorem holds_of {n : Nat} {xs : List PyData} {st : Store} (h : holds n xs st = true) : st[n]? = some (some (.lst xs)) := by
  unfold holds at h
  split at h
  · rename_i ys e
    rw [e, dEqs_eq _ _ h]
  · cases h
def always : Store → Bool := fun _ => true
/-- a list, a tuple, a text -/
def itOf (d : DV) (st : Store) : Option ((List PyData × (Store → Bool)) × Store) := match d with
  | .d (.list xs) => some ((xs, always), st)
  | .d (.tuple xs) => some ((xs, always), st)
  | .d (.str z) => some ((z.cps.toList.map fun c => .str ⟨#[c]⟩, always), st)
  | .r n => (match st[n]? with
    | some (some (.lst xs)) => some ((xs, holds n xs), st)
    | _ => none)
  | _ => none
def mIt (m : EM) : IM := fun s st => match m s st with
  | some (d, st1) => itOf d st1
  | none => none
section
variable {K : PySem.W.Frag} {w : Wd} {ds : List PyData}
theorem IterOf.ofWalk {J : It} {g : Store → Bool} {G : Hp → Prop} {vs : Wd → List V → Prop} {Y : Nat → Hp → V → Hp → Prop} (W : Walk J ds.length G Y) (hG : ∀ w' : Wd, w.Lx w' → w'.Ok K → g w'.st = true → G w'.H)
    (hY : ∀ (i : Nat) (w' : Wd) (x : V) (H' : Hp), i < ds.length → w.Lx w' → w'.Ok K → g w'.st = true → Y i w'.H x H' → ∃ (d : PyData) (w2 : Wd), ds[i]? = some d ∧ w2.H = H' ∧ w2.st = w'.st ∧ w'.Le w2 ∧ w2.Ok K ∧ RelP K w2.L w2.H d x) : IterOf K w g ds J :=
  ⟨fun i w' hi l ok h => W.goes i w'.H hi (hG w' l ok h), fun w' l ok h => W.stops w'.H (hG w' l ok h), fun i w' x H' hi l ok h y => hY i w' x H' hi l ok h (W.yields i w'.H x H' hi (hG w' l ok h) y)⟩
theorem lstAt_inv {xs : List PyData} {v : V} (r : RelD K w (.d (.list xs)) v) : ∃ a vs, v = .ref a ∧ LstAt w.L w.H a vs ∧ RelPs K w.L w.H xs vs := by
  simpa only [RelD, RelP] using r
theorem iter_list {a : Addr} {vs : List V} (hs : LstAt w.L w.H a vs) (hr : RelPs K w.L w.H ds vs) : IterOf K w always ds (Itl K a) := by
  have hl := hr.length
  refine IterOf.ofWalk (G := fun H => SqL K H a vs) (Y := YAt vs) (vs := fun _ _ => True) (by rw [← hl]; exact walk_list) (fun w' l _ _ => (hs.mono l.ext).sq) fun i w' x H' hi l ok' _ y => ?_
  obtain ⟨e, h⟩ := y
  obtain ⟨d, h1, h2⟩ := hr.getV h
  exact ⟨d, w', h1, e.symm, rfl, .refl, ok', RelP.mono l.ext d x h2⟩
theorem iter_tup {a : Addr} {vs : List V} (hs : TupAt K w.L w.H a vs) (hr : RelPs K w.L w.H ds vs) : IterOf K w always ds (Itt K a) := by
  have hl := hr.length
  refine IterOf.ofWalk (G := fun H => SqT K H a vs) (Y := YAt vs) (vs := fun _ _ => True) (by rw [← hl]; exact walk_tup) (fun w' l _ _ => (hs.mono l.ext).sq) fun i w' x H' hi l ok' _ y => ?_
  obtain ⟨e, h⟩ := y
  obtain ⟨d, h1, h2⟩ := hr.getV h
  exact ⟨d, w', h1, e.symm, rfl, .refl, ok', RelP.mono l.ext d x h2⟩
theorem iter_ref {n : Nat} {a : Addr} (ha : w.as[n]? = some a) : IterOf K w (holds n ds) ds (Itl K a) := by
  have here : ∀ w' : Wd, w.Lx w' → w'.Ok K → holds n ds w'.st = true → ∃ vs, SqL K w'.H a vs ∧ RelPs K w'.L w'.H ds vs := fun w' l ok' h => by
    obtain ⟨o, e, vs, e2, r⟩ := ok'.ob n a _ (l.at_ _ _ ha) (holds_of h)
    subst e2
    exact ⟨vs, SqL.of e, r⟩
  refine ⟨fun i w' hi l ok' h => ?_, fun w' l ok' h => ?_, fun i w' x H' hi l ok' h y => ?_⟩
  · obtain ⟨vs, s, r⟩ := here w' l ok' h
    obtain ⟨v, h1, _⟩ := r.get (i := i) (d := ds[i]) (by simp [hi])
    exact ⟨vs, v, s, h1⟩
  · obtain ⟨vs, s, r⟩ := here w' l ok' h
    exact ⟨vs, s, by rw [r.length]; exact Nat.le_refl _⟩
  · obtain ⟨vs, s, r⟩ := here w' l ok' h
    obtain ⟨e, hy⟩ := y
    obtain ⟨d, h1, h2⟩ := r.getV (hy vs s)
    exact ⟨d, w', h1, e.symm, rfl, .refl, ok', h2⟩
theorem iter_str {z : Str} : IterOf K w always (z.cps.toList.map fun c => .str ⟨#[c]⟩) (Its z) := by
  have hl : (z.cps.toList.map fun c => PyData.str ⟨#[c]⟩).length = z.cps.size := by simp
  refine IterOf.ofWalk (G := fun _ => True) (vs := fun _ _ => True) (by rw [hl]; exact walk_str) (fun _ _ _ _ => trivial) fun i w' x H' hi l ok' _ y => ?_
  obtain ⟨e, c, h1, h2⟩ := y
  subst h2
  refine ⟨.str ⟨#[c]⟩, w', ?_, e.symm, rfl, .refl, ok', by simp [RelP]⟩
  rw [List.getElem?_map]
  have : z.cps.toList[i]? = some c := by simpa using h1
  rw [this]
  rfl
end
section
variable {X : Cx} {tg e : Expr} {m : EM}
theorem pi_d (he : PDE X e m) : PDI X tg e (mIt m) := PI.imp (PI.or (pi_list he) (PI.or (pi_tup he) (pi_str he))) fun σ H R h => by
  obtain ⟨w, s, ds, g, st', rfl, ok, re, hm, hk⟩ := h
  unfold mIt at hm
  split at hm
  · rename_i d st1 e1
    unfold itOf at hm
    split at hm
    · cases hm
      refine .inl ⟨w, s, _, _, rfl, ok, re, e1, fun v w1 q1 l1 ok1 r1 => ?_⟩
      obtain ⟨a, vs, rfl, hs, hr⟩ := lstAt_inv r1
      exact ⟨a, rfl, ⟨vs, hs.sq⟩, hk _ w1 q1 l1 ok1 (iter_list hs hr)⟩
    · cases hm
      refine .inr (.inl ⟨w, s, _, _, rfl, ok, re, e1, fun v w1 q1 l1 ok1 r1 => ?_⟩)
      obtain ⟨a, vs, rfl, hs, hr⟩ := relTup_inv r1
      exact ⟨a, rfl, ⟨vs, hs.sq⟩, hk _ w1 q1 l1 ok1 (iter_tup hs hr)⟩
    · cases hm
      refine .inr (.inr ⟨w, s, _, _, rfl, ok, re, e1, fun v w1 q1 l1 ok1 r1 => ?_⟩)
      cases r1
      exact ⟨_, rfl, hk _ w1 q1 l1 ok1 iter_str⟩
    · split at hm
      · rename_i n _ xs hn
        cases hm
        refine .inl ⟨w, s, _, _, rfl, ok, re, e1, fun v w1 q1 l1 ok1 r1 => ?_⟩
        obtain ⟨a, h1, rfl⟩ := r1
        obtain ⟨o, h2, vs, rfl, _⟩ := ok1.ob n a _ h1 (by rw [q1]; exact hn)
        exact ⟨a, rfl, ⟨vs, SqL.of h2⟩, hk _ w1 q1 l1 ok1 (iter_ref h1)⟩
      · cases hm
    · cases hm
  · cases hm
end
/-- ranges -/
def rngP (i j : Int) : List PyData := (List.range (j - i).toNat).map fun k => .int (i + (k : Nat))
def bd (i : Int) : Bool := decide (-(2 ^ 62) ≤ i) && decide (i < 2 ^ 62)
def mRng1 (m : EM) : IM := fun s st => match m s st with
  | some (.d (.int j), st1) => if bd j then some ((rngP 0 j, always), st1) else none
  | _ => none
def mRng2 (m m' : EM) : IM := fun s st => match m s st with
  | some (.d (.int i), st1) => (match m' s st1 with
    | some (.d (.int j), st2) => if bd i && bd j then some ((rngP i j, always), st2) else none
    | _ => none)
  | _ => none
theorem rngP_length (i j : Int) : (rngP i j).length = (j - i).toNat := by unfold rngP; rw [List.length_map, List.length_range]
theorem rngP_get {i j : Int} {k : Nat} (h : k < (j - i).toNat) : (rngP i j)[k]? = some (.int (i + (k : Nat))) := by
  unfold rngP
  rw [List.getElem?_map, List.getElem?_range h]
  rfl
theorem bd_ok {i : Int} (h : bd i = true) : -(2 ^ 62) ≤ i ∧ i < 2 ^ 62 := by
  unfold bd at h
  simpa only [Bool.and_eq_true, decide_eq_true_eq] using h
theorem iter_rng {K : PySem.W.Frag} {w : Wd} {i j : Int} : IterOf K w always (rngP i j) (Itr i (j - i).toNat) := by
  refine IterOf.ofWalk (G := fun _ => True) (vs := fun _ _ => True) (by rw [rngP_length]; exact walk_range) (fun _ _ _ _ => trivial) fun k w' x H' hi l ok' _ y => ?_
  obtain ⟨e, h2⟩ := y
  subst h2
  rw [rngP_length] at hi
  exact ⟨_, w', rngP_get hi, e.symm, rfl, .refl, ok', by simp [RelP]⟩
section
variable {X : Cx} {tg a b : Expr} {m m' : EM} {p pos : Pos}
theorem pi_rng1 (hm : X.mg "range" = none) (ha : PDE X a m) (hg : Gl X "range" := by rfl) (hs : starEach [a] X.env = [(false, eval a X.env)] := by rfl) : PDI X tg (.Call (.Name "range" p) [a] [] pos) (mRng1 m) :=
  PI.imp (pi_range1 hg hm (pa_cons ha pa_nil hs) hs) fun σ H R h => by
    obtain ⟨w, s, ds, g, st', rfl, ok, re, hm, hk⟩ := h
    unfold mRng1 at hm
    split at hm
    · rename_i j st1 e1
      split at hm
      · rename_i hb
        cases hm
        refine ⟨w, s, _, _, rfl, ok, re, e1, fun v w1 q1 l1 ok1 r1 => ?_⟩
        cases r1
        have hj := bd_ok hb
        have q := hk _ w1 q1 l1 ok1 (iter_rng (i := 0) (j := j))
        rw [Int.sub_zero] at q
        exact ⟨j, rfl, hj.1, hj.2, q⟩
      · cases hm
    · cases hm
theorem pi_rng2 (hm : X.mg "range" = none) (ha : PDE X a m) (hb : PDE X b m') (hg : Gl X "range" := by rfl) (hs : starEach [a, b] X.env = [(false, eval a X.env), (false, eval b X.env)] := by rfl) (hs2 : starEach [b] X.env = [(false, eval b X.env)] := by rfl) : PDI X tg (.Call (.Name "range" p) [a, b] [] pos) (mRng2 m m') :=
  PI.imp (pi_range2 hg hm (pa_cons ha (pa_cons hb pa_nil hs2) (by rw [hs, hs2])) hs hs2) fun σ H R h => by
    obtain ⟨w, s, ds, g, st', rfl, ok, re, hm, hk⟩ := h
    unfold mRng2 at hm
    split at hm
    · rename_i i st1 e1
      split at hm
      · rename_i j st2 e2
        split at hm
        · rename_i hb
          cases hm
          refine ⟨w, s, _, _, rfl, ok, re, e1, fun v w1 q1 l1 ok1 r1 => ?_⟩
          subst q1
          cases r1
          refine ⟨w1, s, _, _, rfl, ok1, re.mono l1, e2, fun v w2 q2 l2 ok2 r2 => ?_⟩
          cases r2
          rw [Bool.and_eq_true] at hb
          have hi := bd_ok hb.1
          have hj := bd_ok hb.2
          exact ⟨i, j, rfl, ⟨hi.1, hi.2, hj.1, hj.2⟩, hk _ w2 q2 (l1.trans l2) ok2 (iter_rng (i := i) (j := j))⟩
        · cases hm
      · cases hm
    · cases hm
end

/-! ### for -/
def forL (gm : GM) (b : SM) (g : Store → Bool) : List PyData → SE → Store → Option SR
  | [], s, st => if g st then some (.nx s st) else none
  | d :: ds, s, st => if g st then (match gm (.d d) s with
    | some s1 => (match b s1 st with
      | some (.nx s2 st2) => forL gm b g ds s2 st2
      | some (.ct s2 st2) => forL gm b g ds s2 st2
      | some (.bk s2 st2) => some (.nx s2 st2)
      | some (.ret d st2) => some (.ret d st2)
      | none => none)
    | none => none) else none
def mFor (mi : IM) (gm : GM) (b : SM) : SM := fun s st => match mi s st with
  | some ((ds, g), st1) => forL gm b g ds s st1
  | none => none
theorem drop_at {α : Type} {l : List α} {i : Nat} (h : i < l.length) : l.drop i = l[i] :: l.drop (i + 1) := List.drop_eq_getElem_cons h
section
variable {X : Cx} {pos : Pos} {tg iter : Expr} {body : List Stmt} {mi : IM} {vs : List Nat} {gm : GM} {mb : SM}
theorem ps_forD (hp : PassesOwn (model X.prog X.w) X.A X.env X.xe) (hc : X.calm = true) (hi : PDI X tg iter mi) (hg : PDG X tg vs gm) (hb : PDB X body mb) (hs : ∀ x, foldedSetIterable iter X.env x = pure x := by intro _; rfl) : PDS X (.For tg iter body [] pos) (mFor mi gm mb) :=
  PS.imp (ps_for hp hc hi hg hb hs) fun D σ H h => by
    obtain ⟨w, s, r, rfl, ok, re, hm, hk⟩ := h
    unfold mFor at hm
    split at hm
    · rename_i ds g st1 e1
      refine ⟨w, s, ds, g, st1, rfl, ok, re, e1, fun J w1 q1 l1 ok1 hJ => ?_⟩
      subst q1
      have kS : KS X.K w1 D r := hk.le l1
      refine ⟨fun i m σ' H' => ∃ (w' : Wd) (s' : SE), w'.H = H' ∧ w1.Le w' ∧ w'.Ok X.K ∧ RelE X.K w' s' σ' ∧ m = ds.length - i ∧ i ≤ ds.length ∧ forL gm mb g (ds.drop i) s' w'.st = some r,
        ⟨ds.length, w1, s, rfl, .refl, ok1, re.mono l1, rfl, Nat.zero_le _, by rw [List.drop_zero]; exact hm⟩, ?_⟩
      rintro i m σ2 H2 ⟨w2, s2, rfl, l2, ok2, re2, rfl, hle, e2⟩
      by_cases hlt : i < ds.length
      · rw [drop_at hlt] at e2
        simp only [forL] at e2
        split at e2
        · rename_i hgd
          split at e2
          · rename_i s3 e3
            refine .inr ⟨hJ.go i w2 hlt l2.x ok2 hgd, fun σ' H' => ∃ (w' : Wd) (s' : SE), w'.H = H' ∧ w1.Le w' ∧ w'.Ok X.K ∧ RelE X.K w' s' σ' ∧ forL gm mb g (ds.drop (i + 1)) s' w'.st = some r,
              fun σ' H' ⟨w', s', a1, a2, a3, a4, a5⟩ => ⟨ds.length - (i + 1), by omega, w', s', a1, a2, a3, a4, rfl, hlt, a5⟩, fun x H' y => ?_⟩
            obtain ⟨d, w3, hd, rfl, hst, l3, ok3, rd⟩ := hJ.yld i w2 x H' hlt l2.x ok2 hgd y
            rw [List.getElem?_eq_getElem hlt] at hd
            cases hd
            refine ⟨w3, s2, .d ds[i], s3, rfl, ok3, re2.mono l3, rd, e3, fun σ3 re3 _ _ => ?_⟩
            rw [← hst] at e2
            split at e2
            · rename_i s4 st4 e4
              refine ⟨w3, s3, _, rfl, ok3, re3, e4, fun σ4 w4 q4 l4 ok4 re4 => ?_⟩
              subst q4
              exact ⟨w4, s4, rfl, (l2.trans l3).trans l4, ok4, re4, e2⟩
            · rename_i s4 st4 e4
              refine ⟨w3, s3, _, rfl, ok3, re3, e4, fun σ4 w4 q4 l4 ok4 re4 => ?_⟩
              subst q4
              exact ⟨w4, s4, rfl, (l2.trans l3).trans l4, ok4, re4, e2⟩
            · rename_i s4 st4 e4
              cases e2
              refine ⟨w3, s3, _, rfl, ok3, re3, e4, fun σ4 w4 q4 l4 ok4 re4 => ?_⟩
              exact kS σ4 w4 q4 ((l2.trans l3).trans l4) ok4 re4
            · rename_i d4 st4 e4
              cases e2
              exact ⟨w3, s3, _, rfl, ok3, re3, e4, KE.le kS (l2.trans l3)⟩
            · cases e2
          · cases e2
        · cases e2
      · have e : i = ds.length := by omega
        subst e
        rw [List.drop_length] at e2
        simp only [forL] at e2
        split at e2
        · rename_i hgd
          cases e2
          exact .inl ⟨hJ.stop w2 l2.x ok2 hgd, kS σ2 w2 rfl l2 ok2 re2⟩
        · cases e2
    · cases hm
end

/-! ### comprehensions -/
def wipeS (s : SE) : List Nat → SE
  | [] => s
  | v :: vs => (wipeS s vs).set v none
def lcL (gm : GM) (t : TM) (e : EM) (g : Store → Bool) : List PyData → SE → Store → Option (List PyData × Store)
  | [], s, st => if g st then some ([], st) else none
  | d :: ds, s, st => if g st then (match gm (.d d) s with
    | some s1 => (match t s1 st with
      | some (true, st1) => (match e s1 st1 with
        | some (.d x, st2) => (match lcL gm t e g ds s st2 with
          | some (xs, st3) => some (x :: xs, st3)
          | none => none)
        | _ => none)
      | some (false, st1) => lcL gm t e g ds s st1
      | none => none)
    | none => none) else none
def mLc (vs : List Nat) (mi : IM) (gm : GM) (t : TM) (e : EM) : EM := fun s st => match mi s st with
  | some ((ds, g), st1) => if decide (ds.length ≤ 16777216) then (match lcL gm t e g ds (wipeS s vs) st1 with
    | some (xs, st2) => some (.d (.list xs), st2)
    | none => none) else none
  | none => none
def mYes : TM := fun _ st => some (true, st)
abbrev PDTs (X : Cx) (ifs : List Expr) (t : TM) : Prop := PTs X ifs (LiftT X.K t)
theorem PTs.imp {X : Cx} {ifs : List Expr} {t t' : TT} (h : PTs X ifs t) (i : ∀ σ H Q, t' σ H Q → t σ H Q) : PTs X ifs t' := ⟨fun pins s σ H Q I hw => h.run pins s σ H Q I (i σ H Q hw)⟩
theorem wipe_rel {K : PySem.W.Frag} {w : Wd} {s : SE} {σ : L2.St} (re : RelE K w s σ) : ∀ vs : List Nat, RelE K w (wipeS s vs) (wipe σ vs)
  | [] => re
  | v :: vs => by
    have ih := wipe_rel re vs
    refine ⟨by simp [wipeS, wipe, ih.1], fun i d e => ?_⟩
    simp only [wipeS] at e
    by_cases h : i = v
    · subst h
      rw [List.getElem?_set_self'] at e
      cases q : (wipeS s vs)[i]? with
      | none => rw [q] at e; cases e
      | some z => rw [q] at e; cases e
    · rw [List.getElem?_set_ne (Ne.symm h)] at e
      simp only [wipe]
      rw [List.getElem?_set_ne (Ne.symm h)]
      exact ih.2 i d e
theorem wipe_get {σ : L2.St} : ∀ (vs : List Nat) (j : Nat), (wipe σ vs)[j]? = if j ∈ vs then (σ[j]?).map (fun _ => none) else σ[j]?
  | [], j => by simp [wipe]
  | v :: vs, j => by
    simp only [wipe]
    by_cases h : j = v
    · subst h
      rw [List.getElem?_set_self', wipe_get vs j]
      have e : ∀ o : Option (Option V), Option.map (Function.const (Option V) (none : Option V)) o = o.map (fun _ => none) := fun o => by cases o <;> rfl
      by_cases h2 : j ∈ vs
      · rw [if_pos h2, if_pos (List.mem_cons_self ..)]; cases σ[j]? <;> rfl
      · rw [if_neg h2, if_pos (List.mem_cons_self ..)]; cases σ[j]? <;> rfl
    · rw [List.getElem?_set_ne (Ne.symm h), wipe_get vs j]
      simp [h]
theorem wipe_wipe {σ σ2 : L2.St} {vs : List Nat} (h : ∀ j, j ∉ vs → σ2[j]? = (wipe σ vs)[j]?) (hl : σ2.length = (wipe σ vs).length) : wipe σ2 vs = wipe σ vs := by
  apply List.ext_getElem?
  intro j
  rw [wipe_get, wipe_get]
  by_cases hj : j ∈ vs
  · rw [if_pos hj, if_pos hj]
    have hl2 : σ2.length = σ.length := by rw [hl, wipe_length]
    by_cases hs : j < σ.length
    · rw [List.getElem?_eq_getElem hs, List.getElem?_eq_getElem (by omega)]
      rfl
    · rw [List.getElem?_eq_none (by omega), List.getElem?_eq_none (by omega)]
  · rw [if_neg hj, if_neg hj, h j hj, wipe_get, if_neg hj]
section
variable {X : Cx}
theorem pts_nilD : PDTs X [] mYes := PTs.imp pts_nil fun σ H Q h => by
  obtain ⟨w, s, b, st', rfl, ok, re, hm, hk⟩ := h
  cases hm
  exact hk w rfl .refl ok
theorem pts_oneD {c : Expr} {t : TM} (h : PDT X c t) : PDTs X [c] t := pts_one h
end
/-- the reading of a comprehension by its meaning -/
theorem LiftE.lc {K : PySem.W.Frag} {vs us : List Nat} {mi : IM} {gm : GM} {t : TM} {me : EM} {σ : L2.St} {H : Hp} {Q : VK} (hus : ∀ j ∈ us, j ∈ vs) (h : LiftE K (mLc vs mi gm t me) σ H Q) : tLc (LiftI K mi) (LiftG K us gm) (LiftT K t) (LiftE K me) vs σ H Q := by
  obtain ⟨w, s, d, st', rfl, ok, re, hm, hk⟩ := h
  unfold mLc at hm
  split at hm
  · rename_i ds g st1 e1
    split at hm
    · rename_i hz
      split at hm
      · rename_i xs st2 e2
        cases hm
        refine ⟨w, s, ds, g, st1, rfl, ok, re, e1, fun J w1 q1 l1 ok1 hJ D hD => ?_⟩
        subst q1
        -- a world in which D is somebody else's
        have hz := of_decide_eq_true hz
        refine ⟨fun i m H' => ∃ (w' : Wd) (acc : List V) (ads rest : List PyData), w'.H = H' ∧ w'.ex = D :: w1.ex ∧ w'.Ok K ∧ (∃ more, w'.as = w1.as ++ more) ∧ Ext w1.L w1.H w'.L w'.H ∧ (∀ a ∈ w1.ex, w'.H a = w1.H a) ∧
          w'.H D = some (.lst acc) ∧ RelPs K w'.L w'.H ads acc ∧ acc.length ≤ i ∧ m = ds.length - i ∧ i ≤ ds.length ∧ lcL gm t me g (ds.drop i) (wipeS s vs) w'.st = some (rest, st') ∧ ads ++ rest = xs, ?_, ?_⟩
        · obtain ⟨l2, ok2⟩ := ok1.new (o := .lst []) hD
          have nD : ¬ w1.L D := ok1.newNot hD
          refine ⟨ds.length, ⟨w1.as, w1.st, upd w1.H D (.lst []), D :: w1.ex⟩, [], [], xs, rfl, rfl, ⟨ok2.len, ok2.nd, ok2.tr, fun a ha => ?_, fun a ha => ?_, fun n a mo h1 h2 => ?_⟩, ⟨[], by simp⟩, fun b o e n => ⟨upd_keep hD e, fun z => ?_⟩, fun a ha => ?_, upd_same, rfl, Nat.le_refl _, rfl, Nat.zero_le _, by rw [List.drop_zero]; exact e2, rfl⟩
          · rcases List.mem_cons.mp ha with e | ha
            · subst e; exact ⟨_, upd_same⟩
            · exact ok2.xt a ha
          · rcases List.mem_cons.mp ha with e | ha
            · subst e; exact ok1.nomem hD
            · exact ok2.xd a ha
          · obtain ⟨o, e, m⟩ := ok2.ob n a mo h1 h2
            refine ⟨o, e, ?_⟩
            have ex : Ext (Wd.L ⟨w1.as, w1.st, upd w1.H D (.lst []), w1.ex⟩) (upd w1.H D (.lst [])) (Wd.L ⟨w1.as, w1.st, upd w1.H D (.lst []), D :: w1.ex⟩) (upd w1.H D (.lst [])) → True := fun _ => trivial
            -- the pairs of mo were held before D came
            obtain ⟨o1, e1', m1⟩ := ok1.ob n a mo h1 h2
            have ha : a ≠ D := fun z => ok1.nomem hD (by rw [← z]; exact mem_of_get h1)
            have eo : o = o1 := by
              have e : upd w1.H D (.lst []) a = some o := e
              rw [upd_ne ha, e1'] at e
              exact (Option.some.inj e).symm
            subst eo
            have ext : Ext w1.L w1.H (Wd.L ⟨w1.as, w1.st, upd w1.H D (.lst []), D :: w1.ex⟩) (upd w1.H D (.lst [])) := fun b u q n => ⟨upd_keep hD q, fun z => by
              rcases z with z | z
              · exact n (.inl z)
              · rcases List.mem_cons.mp z with z | z
                · subst z; rw [hD] at q; cases q
                · exact n (.inr z)⟩
            exact m1.monoX (w' := ⟨w1.as, w1.st, upd w1.H D (.lst []), D :: w1.ex⟩) ext (fun n a h => h)
          · rcases z with z | z
            · exact n (.inl z)
            · rcases List.mem_cons.mp z with z | z
              · subst z; rw [hD] at e; cases e
              · exact n (.inr z)
          · obtain ⟨u, q⟩ := ok1.xt a ha
            exact (upd_keep hD q).trans q.symm
        · rintro i m H2 ⟨w2, acc, ads, rest, rfl, hex, ok2, hpre, hext, hxk, hacc, hr, hal, rfl, hle, e3, exs⟩
          have hDm : D ∈ w2.ex := by rw [hex]; exact List.mem_cons_self
          -- D is ours alone: without it the world is as before
          have back : ∀ w3 : Wd, w3.Ok K → w3.ex = D :: w1.ex → (∃ more, w3.as = w1.as ++ more) → Ext w1.L w1.H w3.L w3.H → (∀ a ∈ w1.ex, w3.H a = w1.H a) → w1.Le ⟨w3.as, w3.st, w3.H, w1.ex⟩ ∧ Wd.Ok K ⟨w3.as, w3.st, w3.H, w1.ex⟩ ∧ Ext w3.L w3.H (Wd.L ⟨w3.as, w3.st, w3.H, w1.ex⟩) w3.H := fun w3 ok3 hx hp he hk3 => by
            have sub : ∀ b, Wd.L ⟨w3.as, w3.st, w3.H, w1.ex⟩ b → w3.L b := fun b z => z.elim .inl fun z => .inr (by rw [hx]; exact List.mem_cons_of_mem _ z)
            have ex3 : Ext w3.L w3.H (Wd.L ⟨w3.as, w3.st, w3.H, w1.ex⟩) w3.H := fun b o e n => ⟨e, fun z => n (sub b z)⟩
            refine ⟨⟨hp, he.trans ex3, rfl, hk3⟩, ⟨ok3.len, ok3.nd, ok3.tr, fun a ha => ok3.xt a (by rw [hx]; exact List.mem_cons_of_mem _ ha), fun a ha => ok3.xd a (by rw [hx]; exact List.mem_cons_of_mem _ ha), fun n a mo h1 h2 => ?_⟩, ex3⟩
            obtain ⟨o, e, m⟩ := ok3.ob n a mo h1 h2
            exact ⟨o, e, m.monoX (w' := ⟨w3.as, w3.st, w3.H, w1.ex⟩) ex3 (fun n a h => h)⟩
          have lx2 : w1.Lx w2 := ⟨hpre, hext⟩
          by_cases hlt : i < ds.length
          · rw [drop_at hlt] at e3
            simp only [lcL] at e3
            split at e3
            · rename_i hgd
              split at e3
              · rename_i s3 e4
                refine .inr ⟨hJ.go i _ hlt lx2 ok2 hgd, fun H' => ∃ (w' : Wd) (acc : List V) (ads rest : List PyData), w'.H = H' ∧ w'.ex = D :: w1.ex ∧ w'.Ok K ∧ (∃ more, w'.as = w1.as ++ more) ∧ Ext w1.L w1.H w'.L w'.H ∧ (∀ a ∈ w1.ex, w'.H a = w1.H a) ∧
                  w'.H D = some (.lst acc) ∧ RelPs K w'.L w'.H ads acc ∧ acc.length ≤ i + 1 ∧ lcL gm t me g (ds.drop (i + 1)) (wipeS s vs) w'.st = some (rest, st') ∧ ads ++ rest = xs,
                  fun H' ⟨w', acc', ads', rest', a1, a2, a3, a4, a5, a6, a7, a8, a9, a10, a11⟩ => ⟨ds.length - (i + 1), by omega, w', acc', ads', rest', a1, a2, a3, a4, a5, a6, a7, a8, a9, rfl, hlt, a10, a11⟩, fun x H' y => ?_⟩
                obtain ⟨d, w3, hd, rfl, hst, l3, ok3, rd⟩ := hJ.yld i w2 x H' hlt lx2 ok2 hgd y
                rw [List.getElem?_eq_getElem hlt] at hd
                cases hd
                have re3 : RelE K w3 (wipeS s vs) (wipe σ vs) := (wipe_rel (re.mono l1) vs).monoX (lx2.trans l3.x)
                refine ⟨w3, wipeS s vs, .d ds[i], s3, rfl, ok3, re3, rd, e4, fun σ3 re3' hj hl => ?_⟩
                refine ⟨wipe_wipe (fun j hj' => hj j fun z => hj' (hus j z)) hl, ?_⟩
                rw [← hst] at e3
                -- from a later world: D as it was
                have at3 : ∀ w4 : Wd, w3.Le w4 → w4.ex = D :: w1.ex ∧ w4.H D = some (.lst acc) ∧ w1.Lx w4 ∧ (∀ a ∈ w1.ex, w4.H a = w1.H a) ∧ RelPs K w4.L w4.H ads acc := fun w4 l4 => by
                  have hx3 : w3.ex = D :: w1.ex := l3.xq.trans hex
                  refine ⟨l4.xq.trans hx3, ?_, lx2.trans (l3.x.trans l4.x), fun a ha => ?_, RelPs.mono (l3.trans l4).ext _ _ hr⟩
                  · rw [(l3.trans l4).xk D hDm]; exact hacc
                  · rw [(l3.trans l4).xk a (by rw [hex]; exact List.mem_cons_of_mem _ ha)]; exact hxk a ha
                split at e3
                · rename_i st4 e5
                  refine ⟨w3, s3, true, st4, rfl, ok3, re3', e5, fun w4 q4 l4 ok4 => ?_⟩
                  subst q4
                  refine iteT ?_
                  split at e3
                  · rename_i x0 st5 e6
                    refine ⟨w4, s3, _, st5, rfl, ok4, re3'.mono l4, e6, fun y w5 q5 l5 ok5 r5 => ?_⟩
                    subst q5
                    obtain ⟨c1, c2, c3, c4, c5⟩ := at3 w5 (l4.trans l5)
                    split at e3
                    · rename_i xs' st6 e7
                      cases e3
                      have hD5 : D ∈ w5.ex := by rw [c1]; exact List.mem_cons_self
                      obtain ⟨ok6, l6, k6⟩ := ok5.writeX (o := .lst (acc ++ [y])) hD5
                      refine ⟨acc, c2, by rw [sizeLine_eq]; omega, ⟨w5.as, w5.st, upd w5.H D (.lst (acc ++ [y])), w5.ex⟩, acc ++ [y], ads ++ [x0], xs', rfl, c1, ok6, (c3.trans l6).pre, (c3.trans l6).ext, fun a ha => ?_, upd_same, ?_, by simp; omega, e7, by rw [List.append_assoc]; exact exs⟩
                      · have nb : a ≠ D := fun z => by
                          subst z
                          obtain ⟨o, q⟩ := ok1.xt a ha
                          rw [hD] at q; cases q
                        exact (upd_ne nb).trans (c4 a ha)
                      · exact RelPs.mono l6.ext _ _ (c5.append (.one r5))
                    · cases e3
                  · cases e3
                · rename_i st4 e5
                  refine ⟨w3, s3, false, st4, rfl, ok3, re3', e5, fun w4 q4 l4 ok4 => ?_⟩
                  subst q4
                  refine iteF ?_
                  obtain ⟨c1, c2, c3, c4, c5⟩ := at3 w4 l4
                  exact ⟨w4, acc, ads, rest, rfl, c1, ok4, c3.pre, c3.ext, c4, c2, c5, by omega, e3, exs⟩
                · cases e3
              · cases e3
            · cases e3
          · have e : i = ds.length := by omega
            subst e
            rw [List.drop_length] at e3
            simp only [lcL] at e3
            split at e3
            · rename_i hgd
              cases e3
              rw [List.append_nil] at exs
              subst exs
              obtain ⟨lb, okb, exb⟩ := back w2 ok2 hex hpre hext hxk
              refine .inl ⟨hJ.stop w2 lx2 ok2 hgd, ?_⟩
              refine hk (.ref D) ⟨w2.as, w2.st, w2.H, w1.ex⟩ rfl (l1.trans lb) okb ?_
              simp only [RelD, RelP]
              refine ⟨D, acc, rfl, ⟨fun z => ?_, hacc⟩, RelPs.mono exb _ _ hr⟩
              rcases z with z | z
              · exact ok2.xd D hDm z.mem
              · obtain ⟨o, q⟩ := ok1.xt D z
                rw [hD] at q; cases q
            · cases e3
      · cases hm
    · cases hm
  · cases hm
section
variable {X : Cx} {elt tg iter : Expr} {ifs : List Expr} {scope : Scope} {own : List (Str × Nat)} {pos : Pos} {mi : IM} {us : List Nat} {gm : GM} {t : TM} {me : EM}
theorem pd_lc (hc : X.calm = true) (hN : X.N.Nodup) (own : List (Str × Nat)) (hi : PDI X tg iter mi) (ok : blkC X.N X.env.scope scope own = true)
    (hg : ∀ (s : Shared) (H : Hp) (C : Addr) (cl : List (Str × Addr)) (fp : List Addr), PDG (X.blk s H scope (compEnvC scope cl C X.env) fp) tg us gm) (ht : ∀ (s : Shared) (H : Hp) (C : Addr) (cl : List (Str × Addr)) (fp : List Addr), PDTs (X.blk s H scope (compEnvC scope cl C X.env) fp) ifs t)
    (he : ∀ (s : Shared) (H : Hp) (C : Addr) (cl : List (Str × Addr)) (fp : List Addr), PDE (X.blk s H scope (compEnvC scope cl C X.env) fp) elt me) (hus : ∀ j ∈ us, j ∈ own.map (·.2) := by decide) (hs : ∀ x, foldedSetIterable iter X.env x = pure x := by intro _; rfl) :
    PDE X (.ListComp elt [⟨tg, iter, ifs, 0⟩] scope pos) (mLc (own.map (·.2)) mi gm t me) := PE.imp (pe_lc hc hN hi (blkOk_by ok) hg ht he hs) fun σ H Q h => LiftE.lc hus h
theorem ps_setLcD {i : Nat} {y : Str} {py spos : Pos} (hc : X.calm = true) (hN : X.N.Nodup) (own : List (Str × Nat)) (hsw : swapsWith (.ListComp elt [⟨tg, iter, ifs, 0⟩] scope pos) (some (.Name y py)) spos.line X.env = pure true) (hi : PDI X tg iter mi) (ok : blkC X.N X.env.scope scope own = true)
    (hg : ∀ (s : Shared) (H : Hp) (C : Addr) (cl : List (Str × Addr)) (fp : List Addr), PDG (X.blk s H scope (compEnvC scope cl C X.env) fp) tg us gm) (ht : ∀ (s : Shared) (H : Hp) (C : Addr) (cl : List (Str × Addr)) (fp : List Addr), PDTs (X.blk s H scope (compEnvC scope cl C X.env) fp) ifs t)
    (he : ∀ (s : Shared) (H : Hp) (C : Addr) (cl : List (Str × Addr)) (fp : List Addr), PDE (X.blk s H scope (compEnvC scope cl C X.env) fp) elt me) (hus : ∀ j ∈ us, j ∈ own.map (·.2) := by decide) (hy : X.N[i]? = some y := by rfl) (hyl : X.env.scope.names.lookup y = some .local := by rfl) (hs : ∀ x, foldedSetIterable iter X.env x = pure x := by intro _; rfl) :
    PDS X (.Assign [.Name y py] (.ListComp elt [⟨tg, iter, ifs, 0⟩] scope pos) spos) (mSet i (mLc (own.map (·.2)) mi gm t me)) := PS.imp (ps_setLc hc hN hy hyl hsw hi (blkOk_by ok) hg ht he hs) fun D σ H h => by
  obtain ⟨w, s, r, rfl, okw, re, hm, hk⟩ := h
  unfold mSet at hm
  split at hm
  · rename_i d st1 e1
    cases hm
    exact LiftE.lc hus ⟨w, s, d, _, rfl, okw, re, e1, fun v w1 q1 l1 ok1 r1 => hk _ w1 q1 l1 ok1 ((re.mono l1).set r1)⟩
  · cases hm
end
end PD

set_option Elab.async false
set_option linter.all false
set_option maxRecDepth 100000
set_option maxHeartbeats 4000000
/-! PD8: lists that are changed, stores in place, enumerate, zip -/
namespace PD
open PySem PySem.Spec PyProof.Rows L2

/-! ### append, extend -/
def setL (st : Store) (n : Nat) (xs : List PyData) : Store := st.set n (some (.lst xs))
def isL (st : Store) (n : Nat) : Bool := match st[n]? with
  | some (some (.lst _)) => true
  | _ => false
def mAppend (m me : EM) : EM := fun s st => match m s st with
  | some (.r n, s1) => if isL s1 n then (match me s s1 with
    | some (.d x, s2) => (match s2[n]? with
      | some (some (.lst xs)) => if decide (xs.length < 16777216) then some (.d .none, setL s2 n (xs ++ [x])) else none
      | _ => none)
    | _ => none) else none
  | _ => none
def mExtend (m me : EM) : EM := fun s st => match m s st with
  | some (.r n, s1) => if isL s1 n then (match me s s1 with
    | some (.d (.list ys), s2) => (match s2[n]? with
      | some (some (.lst xs)) => if catOk xs.length ys.length then some (.d .none, setL s2 n (xs ++ ys)) else none
      | _ => none)
    | _ => none) else none
  | _ => none
def mPop (m : EM) : EM := fun s st => match m s st with
  | some (.r n, s1) => (match s1[n]? with
      | some (some (.lst xs)) => (match xs[xs.length - 1]? with
        | some x => some (.d x, setL s1 n xs.dropLast)
        | none => none)
      | _ => none)
  | _ => none
section
variable {K : PySem.W.Frag} {w w' : Wd}
theorem Wd.Ok.lstAt (ok : w.Ok K) {n : Nat} {a : Addr} {xs : List PyData} (h1 : w.as[n]? = some a) (h2 : w.st[n]? = some (some (.lst xs))) : ∃ vs, w.H a = some (.lst vs) ∧ RelPs K w.L w.H xs vs := by
  obtain ⟨o, e, vs, rfl, r⟩ := ok.ob n a _ h1 h2
  exact ⟨vs, e, r⟩
/-- a mutable list is written -/
theorem Wd.Ok.setLst (ok : w.Ok K) {n : Nat} {a : Addr} {xs ys : List PyData} {us : List V} (h1 : w.as[n]? = some a) (h2 : w.st[n]? = some (some (.lst xs))) (r : RelPs K w.L w.H ys us) :
    w.Le ⟨w.as, setL w.st n ys, upd w.H a (.lst us), w.ex⟩ ∧ Wd.Ok K ⟨w.as, setL w.st n ys, upd w.H a (.lst us), w.ex⟩ :=
  ok.write h1 h2 (mo' := .lst ys) fun w' l _ => ⟨us, rfl, RelPs.mono l.ext _ _ r⟩
theorem isL_ty (ok : w.Ok K) {n : Nat} {a : Addr} (h1 : w.as[n]? = some a) (h : isL w.st n = true) : tyV K "list" (.ref a) w.H := by
  unfold isL at h
  split at h
  · rename_i xs hn
    obtain ⟨vs, e, _⟩ := ok.lstAt h1 hn
    exact .inl ⟨rfl, _, SqL.of e⟩
  · cases h
theorem RelPs.dropLast {L : Addr → Prop} {H : Hp} : ∀ {ds : List PyData} {vs : List V}, RelPs K L H ds vs → RelPs K L H ds.dropLast vs.dropLast := fun {ds vs} r => by
  rw [List.dropLast_eq_take, List.dropLast_eq_take, r.length]
  exact r.take _
end
section
variable {X : Cx} {pos apos cpos : Pos} {o e : Expr} {m me : EM}
theorem pd_append (ho : PDE X o m) (he : PDE X e me)
    (hbase : attributeBase o "append" X.env (eval o X.env) = eval o X.env := by rfl)
    (hfew : ((backTo cpos (starEach [e] X.env)).all (fun x => !x.1) && (backToKw cpos (keywordEach [] X.env)).all (fun x => x.1.isSome)
      && decide ([e].length + ([] : List Keyword).length + (if ([] : List Keyword).isEmpty then 0 else 1) < 30)) = true := by rfl)
    (hline : (apos.endLine == cpos.line) = true := by rfl) (hs : starEach [e] X.env = (false, eval e X.env) :: starEach [] X.env := by rfl) (hplain : (backTo cpos (starEach [] X.env)).any (·.1) = false := by rfl) :
    PDE X (.Call (.Attribute o "append" apos) [e] [] cpos) (mAppend m me) :=
  PE.imp (pe_bm PySem.F.plainAttrs_list PySem.F.slot_list_append PySem.F.type_list_append mt_append ho (pa_cons he pa_nil hs) hbase hfew hline hs hplain) fun σ H Q h => by
    obtain ⟨w, s, d, st', rfl, ok, re, hm, hk⟩ := h
    unfold mAppend at hm
    split at hm
    · rename_i n s1 e1
      split at hm
      · rename_i hl
        split at hm
        · rename_i x s2 e2
          split at hm
          · rename_i xs hn
            split at hm
            · rename_i hz
              cases hm
              refine ⟨w, s, _, _, rfl, ok, re, e1, fun u w1 q1 l1 ok1 r1 => ?_⟩
              subst q1
              obtain ⟨a, h1, rfl⟩ := r1
              refine ⟨isL_ty ok1 h1 hl, w1, s, _, _, rfl, ok1, re.mono l1, e2, fun v w2 q2 l2 ok2 r2 => ?_⟩
              subst q2
              have h2 := l2.at_ h1
              obtain ⟨vs, e3, r3⟩ := ok2.lstAt h2 hn
              obtain ⟨l3, ok3⟩ := ok2.setLst (us := vs ++ [v]) h2 hn (r3.append (.one r2))
              exact ⟨a, vs, v, rfl, rfl, e3, by rw [sizeLine_eq, r3.length]; exact of_decide_eq_true hz, hk .non _ rfl ((l1.trans l2).trans l3) ok3 rfl⟩
            · cases hm
          · cases hm
        · cases hm
      · cases hm
    · cases hm
theorem pd_extend (ho : PDE X o m) (he : PDE X e me)
    (hbase : attributeBase o "extend" X.env (eval o X.env) = eval o X.env := by rfl)
    (hfew : ((backTo cpos (starEach [e] X.env)).all (fun x => !x.1) && (backToKw cpos (keywordEach [] X.env)).all (fun x => x.1.isSome)
      && decide ([e].length + ([] : List Keyword).length + (if ([] : List Keyword).isEmpty then 0 else 1) < 30)) = true := by rfl)
    (hline : (apos.endLine == cpos.line) = true := by rfl) (hs : starEach [e] X.env = (false, eval e X.env) :: starEach [] X.env := by rfl) (hplain : (backTo cpos (starEach [] X.env)).any (·.1) = false := by rfl) :
    PDE X (.Call (.Attribute o "extend" apos) [e] [] cpos) (mExtend m me) :=
  PE.imp (pe_bm PySem.F.plainAttrs_list PySem.F.slot_list_extend PySem.F.type_list_extend mt_extend ho (pa_cons he pa_nil hs) hbase hfew hline hs hplain) fun σ H Q h => by
    obtain ⟨w, s, d, st', rfl, ok, re, hm, hk⟩ := h
    unfold mExtend at hm
    split at hm
    · rename_i n s1 e1
      split at hm
      · rename_i hl
        split at hm
        · rename_i ys s2 e2
          split at hm
          · rename_i xs hn
            split at hm
            · rename_i hz
              cases hm
              refine ⟨w, s, _, _, rfl, ok, re, e1, fun u w1 q1 l1 ok1 r1 => ?_⟩
              subst q1
              obtain ⟨a, h1, rfl⟩ := r1
              refine ⟨isL_ty ok1 h1 hl, w1, s, _, _, rfl, ok1, re.mono l1, e2, fun v w2 q2 l2 ok2 r2 => ?_⟩
              subst q2
              have h2 := l2.at_ h1
              obtain ⟨vs, e3, r3⟩ := ok2.lstAt h2 hn
              obtain ⟨b, us, rfl, hb, rb⟩ := lstAt_inv r2
              obtain ⟨l3, ok3⟩ := ok2.setLst (us := vs ++ us) h2 hn (r3.append rb)
              exact ⟨a, b, vs, us, rfl, rfl, e3, hb.2, by rw [r3.length, rb.length]; exact catOk_le hz, hk .non _ rfl ((l1.trans l2).trans l3) ok3 rfl⟩
            · cases hm
          · cases hm
        · cases hm
      · cases hm
    · cases hm
theorem pd_pop (ho : PDE X o m) (hbase : attributeBase o "pop" X.env (eval o X.env) = eval o X.env := by rfl) (hline : (apos.endLine == cpos.line) = true := by rfl) : PDE X (.Call (.Attribute o "pop" apos) [] [] cpos) (mPop m) :=
  PE.imp (pe_bm0 PySem.F.plainAttrs_list PySem.F.slot_list_pop PySem.F.type_list_pop mt_pop ho hbase hline) fun σ H Q h => by
    obtain ⟨w, s, d, st', rfl, ok, re, hm, hk⟩ := h
    unfold mPop at hm
    split at hm
    · rename_i n s1 e1
      split at hm
      · rename_i xs hn
        split at hm
        · rename_i x hx
          cases hm
          refine ⟨w, s, _, _, rfl, ok, re, e1, fun u w1 q1 l1 ok1 r1 => ?_⟩
          subst q1
          obtain ⟨a, h1, rfl⟩ := r1
          obtain ⟨vs, e3, r3⟩ := ok1.lstAt h1 hn
          obtain ⟨v, hv, rv⟩ := r3.get hx
          obtain ⟨l3, ok3⟩ := ok1.setLst (us := vs.dropLast) h1 hn r3.dropLast
          exact ⟨.inl ⟨rfl, _, SqL.of e3⟩, a, vs, v, rfl, rfl, e3, by rw [r3.length]; exact hv, hk v _ rfl (l1.trans l3) ok3 (RelP.mono l3.ext _ _ rv)⟩
        · cases hm
      · cases hm
    · cases hm
end

/-! ### xs[i] = e, x op= e -/
/-- o[i] = e of a list -/
def mSetIx (me mo mi : EM) : SM := fun s st => match me s st with
  | some (.d x, s1) => (match mo s s1 with
    | some (.r n, s2) => (match mi s s2 with
      | some (.d (.int i), s3) => (match s3[n]? with
        | some (some (.lst xs)) => (match ixN xs.length i with
          | some j => some (.nx s (setL s3 n (xs.set j x)))
          | none => none)
        | _ => none)
      | _ => none)
    | _ => none)
  | _ => none
/-- x op= e -/
def mAug (i : Nat) (f : F2) (m : EM) : SM := fun s st => match s[i]? with
  | some (some x) => (match m s st with
    | some (y, s1) => (match f x y s1 with
      | some (z, s2) => some (.nx (s.set i (some z)) s2)
      | none => none)
    | none => none)
  | _ => none
section
variable {X : Cx} {pos tpos : Pos} {o i e : Expr} {me mo mi : EM}
theorem ps_setIx (he : PDE X e me) (ho : PDE X o mo) (hi : PDE X i mi) (hs : swapsWithSole [.Subscript o i tpos] e pos.line X.env = pure false := by rfl) (hw : swappedStores [.Subscript o i tpos] e X.env = pure none := by rfl)
    (h1 : (assignEach [.Subscript o i tpos] X.env).map (·.2) = [assign (.Subscript o i tpos) X.env] := by rfl)
    (ha : ∀ v, assign (.Subscript o i tpos) X.env v = (do
      let ov ← holding [v] (eval o X.env)
      let iv ← holding [v, ov] (eval i X.env)
      standAt tpos
      holding [v, ov, iv] (setItem ov iv v)
      release [v, ov, iv] []) := by intro _; rfl) :
    PDS X (.Assign [.Subscript o i tpos] e pos) (mSetIx me mo mi) := PS.imp (ps_asg he (pg_sub ho hi set_list ha) hs hw h1) fun D σ H h => by
  obtain ⟨w, s, r, rfl, ok, re, hm, hk⟩ := h
  unfold mSetIx at hm
  split at hm
  · rename_i x s1 e1
    split at hm
    · rename_i n s2 e2
      split at hm
      · rename_i iv s3 e3
        split at hm
        · rename_i xs hn
          split at hm
          · rename_i j hj
            cases hm
            refine ⟨w, s, _, _, rfl, ok, re, e1, fun v w1 q1 l1 ok1 r1 => ?_⟩
            subst q1
            refine ⟨w1, s, _, _, rfl, ok1, re.mono l1, e2, fun ov w2 q2 l2 ok2 r2 => ?_⟩
            subst q2
            refine ⟨w2, s, _, _, rfl, ok2, (re.mono l1).mono l2, e3, fun iv w3 q3 l3 ok3 r3 => ?_⟩
            subst q3
            cases r3
            obtain ⟨a, h1, rfl⟩ := r2
            have h3 := l3.at_ h1
            obtain ⟨vs, e4, r4⟩ := ok3.lstAt h3 hn
            have rv := RelP.mono (l2.trans l3).ext _ _ r1
            obtain ⟨l5, ok5⟩ := ok3.setLst (us := vs.set j v) h3 hn (r4.set j rv)
            exact ⟨a, vs, _, j, rfl, rfl, e4, by rw [r4.length]; exact hj, hk σ _ rfl (((l1.trans l2).trans l3).trans l5) ok5 ((((re.mono l1).mono l2).mono l3).mono l5)⟩
          · cases hm
        · cases hm
      · cases hm
    · cases hm
  · cases hm
theorem ip_mulA : PIp X .Mult (fun x y H Q => ∃ i j, x = .int i ∧ y = .int j ∧ IntMulOk i j ∧ Q (.int (i * j)) H) := by
  intro pins s σ H x y v u Q I r1 r2 h
  obtain ⟨i, j, e1, e2, hz, q⟩ := h
  subst e1; subst e2
  obtain ⟨t, rfl⟩ := r1
  obtain ⟨t', rfl⟩ := r2
  exact PyProof.Rows.imul_int ⟨.int _, H, I.tok _, ⟨_, rfl⟩, q⟩ hz
def SoundIp (K : PySem.W.Frag) (f : F2) (r : TIp) : Prop := ∀ (w : Wd) (x y d : DV) (u v : V) (st' : Store) (Q : VK), w.Ok K → RelD K w x u → RelD K w y v → f x y w.st = some (d, st') → KE K w d st' Q → r u v w.H Q
def fAddI : F2 := fun x y st => match x, y with
  | .d (.int i), .d (.int j) => ret (.int (i + j)) st
  | _, _ => none
theorem ip_addD {K : PySem.W.Frag} : SoundIp K fAddI (ipI fun i j => i + j) := by
  intro w x y d u v st' Q ok rx ry h hk
  unfold fAddI at h
  split at h
  · cases h; cases rx; cases ry
    exact ⟨_, _, rfl, rfl, hk.at_ ok rfl⟩
  · cases h
theorem ip_subD {K : PySem.W.Frag} : SoundIp K fSub (ipI fun i j => i - j) := by
  intro w x y d u v st' Q ok rx ry h hk
  unfold fSub at h
  split at h
  · cases h; cases rx; cases ry
    exact ⟨_, _, rfl, rfl, hk.at_ ok rfl⟩
  · cases h
theorem ip_mulD {K : PySem.W.Frag} : SoundIp K fMul (fun x y H Q => ∃ i j, x = .int i ∧ y = .int j ∧ IntMulOk i j ∧ Q (.int (i * j)) H) := by
  intro w x y d u v st' Q ok rx ry h hk
  unfold fMul at h
  split at h
  · split at h
    · rename_i hc
      cases h; cases rx; cases ry
      exact ⟨_, _, rfl, rfl, mulOk_ok hc, hk.at_ ok rfl⟩
    · cases h
  · cases h
theorem ps_augD {k : Nat} {x : Str} {op : Operator} {f : F2} {t : TIp} {pos' : Pos} (hN : X.N.Nodup) (ho : PIp X op t) (hf : SoundIp X.K f t) (he : PDE X e me) (hi : X.N[k]? = some x := by rfl) (hx : Loc X.env.scope x := by first | exact .inl rfl | exact .inr rfl)
    (hfn : X.fn x = true ∨ X.env.scope.names.lookup x = some .local := by first | exact .inl rfl | exact .inr rfl | assumption) : PDS X (.AugAssign (.Name x pos') op e pos) (mAug k f me) := PS.imp (ps_aug hN hi hx he ho hfn) fun D σ H h => by
  obtain ⟨w, s, r, rfl, ok, re, hm, hk⟩ := h
  unfold mAug at hm
  split at hm
  · rename_i x ex
    split at hm
    · rename_i y s1 e1
      split at hm
      · rename_i z s2 e2
        cases hm
        obtain ⟨u, hu, rx⟩ := re.2 k x ex
        refine ⟨u, hu, w, s, _, _, rfl, ok, re, e1, fun v w1 q1 l1 ok1 r1 => ?_⟩
        subst q1
        exact hf w1 x y z u v s2 _ ok1 (rx.mono l1) r1 e2 fun zv w2 q2 l2 ok2 r2 => hk _ w2 q2 (l1.trans l2) ok2 (((re.mono l1).mono l2).set r2)
      · cases hm
    · cases hm
  · cases hm
theorem ps_addAug {k : Nat} {x : Str} {pos' : Pos} (hN : X.N.Nodup) (he : PDE X e me) (hi : X.N[k]? = some x := by rfl) (hx : Loc X.env.scope x := by first | exact .inl rfl | exact .inr rfl)
    (hfn : X.fn x = true ∨ X.env.scope.names.lookup x = some .local := by first | exact .inl rfl | exact .inr rfl | assumption) : PDS X (.AugAssign (.Name x pos') .Add e pos) (mAug k fAddI me) := ps_augD hN ip_add ip_addD he hi hx hfn
theorem ps_subAug {k : Nat} {x : Str} {pos' : Pos} (hN : X.N.Nodup) (he : PDE X e me) (hi : X.N[k]? = some x := by rfl) (hx : Loc X.env.scope x := by first | exact .inl rfl | exact .inr rfl)
    (hfn : X.fn x = true ∨ X.env.scope.names.lookup x = some .local := by first | exact .inl rfl | exact .inr rfl | assumption) : PDS X (.AugAssign (.Name x pos') .Sub e pos) (mAug k fSub me) := ps_augD hN ip_sub ip_subD he hi hx hfn
theorem ps_mulAug {k : Nat} {x : Str} {pos' : Pos} (hN : X.N.Nodup) (he : PDE X e me) (hi : X.N[k]? = some x := by rfl) (hx : Loc X.env.scope x := by first | exact .inl rfl | exact .inr rfl)
    (hfn : X.fn x = true ∨ X.env.scope.names.lookup x = some .local := by first | exact .inl rfl | exact .inr rfl | assumption) : PDS X (.AugAssign (.Name x pos') .Mult e pos) (mAug k fMul me) := ps_augD hN ip_mulA ip_mulD he hi hx hfn
end

/-! ### enumerate of a tuple -/
theorem meets_enumerate_new1 {v : Value} {o : Obj} {H : Heap → Prop} (B : Begins v o H) :
    Meets (Builtin.«enumerate.__new__» ⟨[.type "enumerate", v], []⟩) (fun _ R s => H s.heap ∧
      R (.ok (.ret (.ref (s.heap.push o).objs.size))) { s with heap := (s.heap.push o).push { cls := .type "enumerate", data := .fields #[.none, .bool false, .ref s.heap.objs.size, rawInt 0, .none, .none] } }) :=
  .of_wp fun prog w A R s h => by
    obtain ⟨hp, g, d, tk, os⟩ := s; obtain ⟨h1, h⟩ := h
    have hsub := sub_enumerate
    have q1 : ∀ {A' : Around} {E : Value → Shared → Prop} {Q : Value → Shared → Prop}, Q (.ref hp.objs.size) ⟨hp.push o, g, d, tk, os⟩ → wpAny (model prog w) A' (pyIter v) Q E ⟨hp, g, d, tk, os⟩ :=
      fun q => B.iter prog w _ _ ⟨hp, g, d, tk, os⟩ _ h1 q
    wp_walk using q1
    refine wpAny_stack_any fun st => wpAny_pure ?_
    split
    · rename_i c _ _ _ _ _
      cases (c == Value.type "enumerate")
      · wp_walk using q1
        exact ⟨_, rfl, h⟩
      · wp_walk using q1
        exact ⟨_, rfl, h⟩
    · wp_walk using q1
      exact ⟨_, rfl, h⟩
theorem enum_begins1 {prog : Program} {w : World} {A : Around} {E : Value → Shared → Prop} {s : Shared} {v : Value} {o : Obj} {H : Heap → Prop} {Q : Value → Shared → Prop} (B : Begins v o H) (h1 : H s.heap)
    (h : ∀ h', IsEnum h' (s.heap.objs.size + 1) s.heap.objs.size 0 .none → h'.get? s.heap.objs.size = some o → h'.objs.size = s.heap.objs.size + 2 →
      (∀ b o, s.heap.get? b = some o → h'.get? b = some o) → Q (.ref (s.heap.objs.size + 1)) { s with heap := h' }) :
    wpAny (model prog w) A (call (.type "enumerate") [v]) Q E s := by
  refine callType_new F.called_enumerate (by decide) (F.typeCall_enumerate_1 _) (F.newCall_enumerate_1 _) (fun obj => F.args_object_init_2 obj _) F.entry_enumerate_new
    (meets_enumerate_new1 B) ⟨h1, ?_⟩
  have hz : (s.heap.push o).objs.size = s.heap.objs.size + 1 := Heap.size_push ..
  show _ ∧ _
  rw [hz]
  have he : IsEnum ((s.heap.push o).push { cls := .type "enumerate", data := .fields #[.none, .bool false, .ref s.heap.objs.size, rawInt 0, .none, .none] }) (s.heap.objs.size + 1) s.heap.objs.size 0 .none := by
    have := Heap.get?_push_size (s.heap.push o) (o := { cls := .type "enumerate", data := .fields #[.none, .bool false, .ref s.heap.objs.size, rawInt 0, .none, .none] }) rfl
    rw [hz] at this; exact this
  refine ⟨⟨_, he, rfl⟩, h _ he (Heap.get?_push_of_some _ (Heap.get?_push_size _ B.free)) (by rw [Heap.size_push, hz]) fun b o x => Heap.get?_push_of_some _ (Heap.get?_push_of_some _ x)⟩
/-- the tuple at a, each item in a new pair -/
def IteT (K : PySem.W.Frag) (a : Addr) : It :=
  ⟨fun i H => ∃ (xs : List V) (x : V), SqT K H a xs ∧ xs[i]? = some x, fun i H v H' => ∃ T x, v = .ref T ∧ H T = none ∧ H' = upd H T (.tup [.int (i : Nat), x]) ∧ ∀ xs, SqT K H a xs → xs[i]? = some x, fun i H => ∃ xs : List V, SqT K H a xs ∧ xs.length = i⟩
theorem walk_enumT {K : PySem.W.Frag} {a : Addr} {xs : List V} : Walk (IteT K a) xs.length (fun H => SqT K H a xs) (YPair (fun i => some (.int (i : Nat))) (fun i => xs[i]?)) := by
  refine ⟨fun i _ hi q => ⟨xs, xs[i], q, by simp [hi]⟩, fun _ q => ⟨xs, q, rfl⟩, fun i H v H' _ q y => ?_⟩
  obtain ⟨T, x, h1, h2, h3, h4⟩ := y
  exact ⟨T, .int (i : Nat), x, h1, h2, h3, rfl, h4 xs q⟩
theorem turn_enumT {P : Program} {w : World} {K : PySem.W.Frag} {elts : List Expr} {kk : Nat} {tpos : Pos} (a e it : Addr) :
    Turn P w K (.Tuple elts kk tpos) (IteT K a) [e, it] e (fun i h => (∃ old, IsEnum h e it ((i : Nat) : Int) old) ∧ h.IsTupleIter it a i ∧ e ≠ it ∧ a ≠ it ∧ e ≠ a) where
  mem := by simp
  obj := fun i h st b hb => by
    obtain ⟨⟨old, he⟩, ⟨o, ho, hc, hd⟩, _⟩ := st
    have e' : b = e ∨ b = it := by simpa using hb
    rcases e' with z | z
    · rw [z]; exact ⟨_, he, fun v q => nomatch q⟩
    · rw [z]; exact ⟨o, ho, fun v q => by rw [hd] at q; cases q⟩
  keep := fun i h h' st k => let ⟨⟨old, he⟩, hi, hne⟩ := st; ⟨⟨old, k e (by simp) _ he⟩, hi.at fun o q => k it (by simp) o q, hne⟩
  item := by
    intro X hP hw hK hc i pins s σ H E I hf st hg
    subst hP hw hK
    obtain ⟨⟨old, he⟩, hit, hne, hai, hea⟩ := st
    obtain ⟨xs, x, hq, hx⟩ := hg
    obtain ⟨its, rv, p, hz⟩ := I.tuple hq
    obtain ⟨u, hu, ru⟩ := rv.get hx
    have hel : e < s.heap.objs.size := Heap.lt_size he
    have hil : it < s.heap.objs.size := by obtain ⟨_, q, _⟩ := hit; exact Heap.lt_size q
    have hT0 : s.heap.IsTuple a its.toArray := p
    have hlt : i < its.toArray.size := by
      have := (List.getElem?_eq_some_iff.mp hu).1
      simpa using this
    refine wpAny_pyNext_enum_itemD (Draws.tuple (A := X.A.in1) (show X.A.in1.handled = none from I.ok.hd hc) it a hai its.toArray) he ⟨hit, hT0⟩ hlt hne (by simp [hne, hea]) fun u' h' tk hP ho hit' hT hsz hk => ?_
    have hP : its.toArray[i]? = some u' := hP
    have eu : u' = u := by
      have hu2 : its.toArray[i]? = some u := by simpa using hu
      rw [hu2] at hP; exact (Option.some.inj hP).symm
    subst eu
    refine ⟨_, rfl, wpAny_letOwnedTupleGo_enum (s := { s with heap := h', toks := tk + 1 }) ho fun h'' he' sb => ?_⟩
    have hT2 : h''.get? s.heap.objs.size = some { cls := .type "tuple", data := .seq #[.int i tk, u'] } := (sb.2 _ (Nat.ne_of_gt hel)).trans hT
    have new : ObjOk X.prog X.w (upd H s.heap.objs.size (.tup [.int (i : Nat), x])) h'' s.heap.objs.size (.tup [.int (i : Nat), x]) :=
      ⟨by show 2 ≤ sizeLine; decide, [.int i tk, u'], .cons ⟨_, rfl⟩ (.cons ru .nil), ⟨_, hT2, rfl, _, rfl⟩⟩
    have I1 : Inv X pins σ (upd H s.heap.objs.size (.tup [.int (i : Nat), x])) { s with heap := h'', toks := tk + 1 } :=
      I.turnedNew (ch := [e, it]) (fun b ob hb q => (sb.2 b (fun z => hb (by simp [z]))).trans (hk b ob (fun z => hb (by simp [z])) (fun z => hb (by simp [z])) q)) hf (Nat.le_refl _) new
    refine ⟨.ref s.heap.objs.size, _, I1, rfl, ⟨_, x, rfl, I.hok.fresh (Nat.le_refl _), rfl, fun ys hy => by rw [I.tuple_inj hy hq]; exact hx⟩, ⟨⟨u', ?_⟩, hit'.1.at fun o q => (sb.2 it (Ne.symm hne)).trans q, hne, hai, hea⟩, fun b hb => ?_⟩
    · have e1 : ((i + 1 : Nat) : Int) = (i : Int) + 1 := by omega
      rw [e1]; exact he'
    · have hb' : b < s.heap.objs.size := by
        have e' : b = e ∨ b = it := by simpa using hb
        rcases e' with z | z
        · rw [z]; exact hel
        · rw [z]; exact hil
      rw [upd_ne (Nat.ne_of_lt hb')]
      exact (hf b hb).1
  done := by
    intro X hP hw hK hc i pins s σ H E I hf st hg
    subst hP hw hK
    obtain ⟨⟨old, he⟩, hit, hne, hai, hea⟩ := st
    obtain ⟨xs, hq, hx⟩ := hg
    obtain ⟨its, rv, p, hz⟩ := I.tuple hq
    obtain ⟨f0, f1, f2, f3, f4, f5⟩ := hf it (by simp)
    have hl := rv.length
    have hT0 : s.heap.IsTuple a its.toArray := p
    have hn : its.toArray.size = i := by rw [List.size_toArray, ← hl]; exact hx
    exact wpAny_pyNext_enum_endD (Draws.tuple (A := X.A.in1) (show X.A.in1.handled = none from I.ok.hd hc) it a hai its.toArray) he ⟨by rw [hn]; exact hit, hT0⟩ fun h' eb => ⟨rfl, I.turned (t' := s.toks) (fun b o hb q => eb b o hb q) f0 f1 f3 f4 f5⟩
  self := fun A i s Q E st h => let ⟨⟨_, he⟩, _⟩ := st; wpAny_pyIter_enum he h
def iEnumT (K : PySem.W.Frag) (ta : TA) : TI := fun σ H R => ta σ H fun vs H1 => ∃ a xs, vs = [.ref a] ∧ SqT K H1 a xs ∧ R (IteT K a) H1
theorem pi_enumT {X : Cx} {e : Expr} {ta : TA} {p pos tpos : Pos} {elts : List Expr} {kk : Nat} (hg : Gl X "enumerate") (hm : X.mg "enumerate" = none) (ha : PA X [e] ta) (hs : starEach [e] X.env = [(false, eval e X.env)] := by rfl) :
    PI X (.Tuple elts kk tpos) (.Call (.Name "enumerate" p) [e] [] pos) (iEnumT X.K ta) := by
  refine ⟨fun pins s σ H R I h => ?_⟩
  refine Call_ (ld_blt I hg hm boot_enumerate (PyProof.Rows.callWith_type1 (thn (ha.run pos pins s σ H _ I h) fun us s1 ⟨vs, H1, I1, r1, q1⟩ => ?_) hs rfl))
  obtain ⟨a, xs, ex, hq, q⟩ := q1
  subst ex
  cases r1 with
  | cons r rr =>
    cases rr
    cases r
    obtain ⟨its, rv, p', hz⟩ := I1.tuple hq
    have hT0 : s1.heap.IsTuple a its.toArray := p'
    have hal : a < s1.heap.objs.size := by obtain ⟨_, q, _⟩ := id hT0; exact Heap.lt_size q
    refine enum_begins1 (begins_tuple a its.toArray) hT0 fun h' he hit hsz hk => wpAny_pyIter_enum he ?_
    have I2 : Inv X pins σ H1 { s1 with heap := h' } := I1.kept (t' := s1.toks) hk
    refine ⟨s1.heap.objs.size + 1, [s1.heap.objs.size + 1, s1.heap.objs.size], _, _, H1, rfl, I2, turn_enumT a (s1.heap.objs.size + 1) s1.heap.objs.size, ⟨⟨.none, he⟩, ⟨_, hit, rfl, rfl⟩, Nat.succ_ne_self _, Nat.ne_of_lt hal, Nat.ne_of_gt (Nat.lt_succ_of_lt hal)⟩, fun b hb => ?_, q⟩
    have e' : b = s1.heap.objs.size + 1 ∨ b = s1.heap.objs.size := by simpa using hb
    have hle : s1.heap.objs.size ≤ b := by
      rcases e' with z | z
      · rw [z]; exact Nat.le_add_right _ _
      · rw [z]; exact Nat.le_refl _
    exact I1.fpOk hle (I1.hok.fresh hle)

/-! ### enumerate, zip: what is walked -/
def enumP (xs : List PyData) : List PyData := xs.mapIdx fun i x => .tuple [.int (i : Nat), x]
def zipP (xs ys : List PyData) : List PyData := List.zipWith (fun x y => .tuple [x, y]) xs ys
def seqOf (d : DV) (st : Store) : Option (List PyData × (Store → Bool)) := match d with
  | .d (.list xs) => some (xs, always)
  | .d (.tuple xs) => some (xs, always)
  | .r n => (match st[n]? with
    | some (some (.lst xs)) => some (xs, holds n xs)
    | _ => none)
  | _ => none
def mEnum (m : EM) : IM := fun s st => match m s st with
  | some (d, st1) => (match seqOf d st1 with
    | some (xs, g) => some ((enumP xs, g), st1)
    | none => none)
  | none => none
def mZip (m m' : EM) : IM := fun s st => match m s st with
  | some (d, st1) => (match m' s st1 with
    | some (d', st2) => (match d, d' with
      | .d (.tuple xs), .d (.tuple ys) => some ((zipP xs ys, always), st2)
      | d, d' => (match seqOf d st2, seqOf d' st2 with
        | some (xs, g), some (ys, g') => if (tupV d).isSome || (tupV d').isSome then none else some ((zipP xs ys, fun st => g st && g' st), st2)
        | _, _ => none))
    | none => none)
  | none => none
section
variable {K : PySem.W.Frag} {w : Wd} {ds es : List PyData}
theorem enumP_get {xs : List PyData} {i : Nat} {x : PyData} (h : xs[i]? = some x) : (enumP xs)[i]? = some (.tuple [.int (i : Nat), x]) := by
  unfold enumP
  rw [List.getElem?_mapIdx, h]
  rfl
theorem enumP_length {xs : List PyData} : (enumP xs).length = xs.length := by unfold enumP; exact List.length_mapIdx
theorem zipP_get {xs ys : List PyData} {i : Nat} {x y : PyData} (h : xs[i]? = some x) (h' : ys[i]? = some y) : (zipP xs ys)[i]? = some (.tuple [x, y]) := by
  unfold zipP
  rw [List.getElem?_zipWith, h, h']
theorem zipP_length {xs ys : List PyData} : (zipP xs ys).length = min xs.length ys.length := by unfold zipP; exact List.length_zipWith
/-- a pair newly laid -/
theorem newPair (ok : w.Ok K) {T : Addr} {x y : V} {dx dy : PyData} (hT : w.H T = none) (rx : RelP K w.L w.H dx x) (ry : RelP K w.L w.H dy y) :
    ∃ w2 : Wd, w2.H = upd w.H T (.tup [x, y]) ∧ w2.st = w.st ∧ w.Le w2 ∧ w2.Ok K ∧ RelP K w2.L w2.H (.tuple [dx, dy]) (.ref T) := by
  obtain ⟨l, ok2⟩ := ok.new (o := .tup [x, y]) hT
  refine ⟨⟨w.as, w.st, upd w.H T (.tup [x, y]), w.ex⟩, rfl, rfl, l, ok2, ?_⟩
  simp only [RelP]
  exact ⟨T, [x, y], rfl, .inl ⟨ok.newNot hT, .inl upd_same⟩, ⟨x, [y], rfl, RelP.mono l.ext _ _ rx, ⟨y, [], rfl, RelP.mono l.ext _ _ ry, rfl⟩⟩⟩
/-- a list that stands and may be walked -/
def Std (K : PySem.W.Frag) (w : Wd) (g : Store → Bool) (S : Hp → List V → Prop) (ds : List PyData) : Prop := ∀ w' : Wd, w.Lx w' → w'.Ok K → g w'.st = true → ∃ vs, S w'.H vs ∧ RelPs K w'.L w'.H ds vs
theorem std_lst {a : Addr} {vs : List V} (hs : LstAt w.L w.H a vs) (hr : RelPs K w.L w.H ds vs) : Std K w always (fun H => SqL K H a) ds := fun w' l _ _ => ⟨vs, (hs.mono l.ext).sq, RelPs.mono l.ext _ _ hr⟩
theorem std_tup {a : Addr} {vs : List V} (hs : TupAt K w.L w.H a vs) (hr : RelPs K w.L w.H ds vs) : Std K w always (fun H => SqT K H a) ds := fun w' l _ _ => ⟨vs, (hs.mono l.ext).sq, RelPs.mono l.ext _ _ hr⟩
theorem std_ref {n : Nat} {a : Addr} (ha : w.as[n]? = some a) : Std K w (holds n ds) (fun H => SqL K H a) ds := fun w' l ok' h => by
  obtain ⟨vs, e, r⟩ := ok'.lstAt (l.at_ _ _ ha) (holds_of h)
  exact ⟨vs, SqL.of e, r⟩
theorem iter_enumL {a : Addr} {g : Store → Bool} (S : Std K w g (fun H => SqL K H a) ds) : IterOf K w g (enumP ds) (Ite K a) := by
  refine ⟨fun i w' hi l ok' h => ?_, fun w' l ok' h => ?_, fun i w' x H' hi l ok' h y => ?_⟩
  · obtain ⟨vs, s, r⟩ := S w' l ok' h
    rw [enumP_length] at hi
    obtain ⟨v, h1, _⟩ := r.get (i := i) (d := ds[i]) (by simp [hi])
    exact ⟨vs, v, s, h1⟩
  · obtain ⟨vs, s, r⟩ := S w' l ok' h
    exact ⟨vs, s, by rw [r.length, enumP_length]; exact Nat.le_refl _⟩
  · obtain ⟨vs, s, r⟩ := S w' l ok' h
    obtain ⟨T, x0, rfl, hT, rfl, hy⟩ := y
    obtain ⟨d, h1, h2⟩ := r.getV (hy vs s)
    obtain ⟨w2, e1, e2, l2, ok2, r2⟩ := newPair ok' hT (dx := .int (i : Nat)) (x := .int (i : Nat)) (by simp [RelP]) h2
    exact ⟨_, w2, enumP_get h1, e1, e2, l2, ok2, r2⟩
theorem iter_enumT {a : Addr} {g : Store → Bool} (S : Std K w g (fun H => SqT K H a) ds) : IterOf K w g (enumP ds) (IteT K a) := by
  refine ⟨fun i w' hi l ok' h => ?_, fun w' l ok' h => ?_, fun i w' x H' hi l ok' h y => ?_⟩
  · obtain ⟨vs, s, r⟩ := S w' l ok' h
    rw [enumP_length] at hi
    obtain ⟨v, h1, _⟩ := r.get (i := i) (d := ds[i]) (by simp [hi])
    exact ⟨vs, v, s, h1⟩
  · obtain ⟨vs, s, r⟩ := S w' l ok' h
    exact ⟨vs, s, by rw [r.length, enumP_length]⟩
  · obtain ⟨vs, s, r⟩ := S w' l ok' h
    obtain ⟨T, x0, rfl, hT, rfl, hy⟩ := y
    obtain ⟨d, h1, h2⟩ := r.getV (hy vs s)
    obtain ⟨w2, e1, e2, l2, ok2, r2⟩ := newPair ok' hT (dx := .int (i : Nat)) (x := .int (i : Nat)) (by simp [RelP]) h2
    exact ⟨_, w2, enumP_get h1, e1, e2, l2, ok2, r2⟩
theorem iter_zipL {a b : Addr} {g g' : Store → Bool} (S : Std K w g (fun H => SqL K H a) ds) (S' : Std K w g' (fun H => SqL K H b) es) : IterOf K w (fun st => g st && g' st) (zipP ds es) (Itz K a b) := by
  refine ⟨fun i w' hi l ok' h => ?_, fun w' l ok' h => ?_, fun i w' x H' hi l ok' h y => ?_⟩ <;>
    obtain ⟨vs, s, r⟩ := S w' l ok' (by rw [Bool.and_eq_true] at h; exact h.1) <;> obtain ⟨us, s', r'⟩ := S' w' l ok' (by rw [Bool.and_eq_true] at h; exact h.2)
  · rw [zipP_length] at hi
    have h1 : i < ds.length := by omega
    have h2 : i < es.length := by omega
    obtain ⟨v, e1, _⟩ := r.get (i := i) (d := ds[i]) (by simp [h1])
    obtain ⟨u, e2, _⟩ := r'.get (i := i) (d := es[i]) (by simp [h2])
    exact ⟨vs, us, v, u, s, s', e1, e2⟩
  · refine ⟨vs, us, s, s', ?_⟩
    rw [r.length, r'.length, zipP_length]
    omega
  · obtain ⟨T, x0, y0, rfl, hT, rfl, hx, hy⟩ := y
    obtain ⟨d, h1, h2⟩ := r.getV (hx vs s)
    obtain ⟨d', h1', h2'⟩ := r'.getV (hy us s')
    obtain ⟨w2, e1, e2, l2, ok2, r2⟩ := newPair ok' hT h2 h2'
    exact ⟨_, w2, zipP_get h1 h1', e1, e2, l2, ok2, r2⟩
theorem iter_zipT {a b : Addr} {g g' : Store → Bool} (S : Std K w g (fun H => SqT K H a) ds) (S' : Std K w g' (fun H => SqT K H b) es) : IterOf K w (fun st => g st && g' st) (zipP ds es) (RZ.ItzT K a b) := by
  refine ⟨fun i w' hi l ok' h => ?_, fun w' l ok' h => ?_, fun i w' x H' hi l ok' h y => ?_⟩ <;>
    obtain ⟨vs, s, r⟩ := S w' l ok' (by rw [Bool.and_eq_true] at h; exact h.1) <;> obtain ⟨us, s', r'⟩ := S' w' l ok' (by rw [Bool.and_eq_true] at h; exact h.2)
  · rw [zipP_length] at hi
    have h1 : i < ds.length := by omega
    have h2 : i < es.length := by omega
    obtain ⟨v, e1, _⟩ := r.get (i := i) (d := ds[i]) (by simp [h1])
    obtain ⟨u, e2, _⟩ := r'.get (i := i) (d := es[i]) (by simp [h2])
    exact ⟨vs, us, v, u, s, s', e1, e2⟩
  · refine ⟨vs, us, s, s', ?_⟩
    rw [r.length, r'.length, zipP_length]
    omega
  · obtain ⟨T, x0, y0, rfl, hT, rfl, hx, hy⟩ := y
    obtain ⟨d, h1, h2⟩ := r.getV (hx vs s)
    obtain ⟨d', h1', h2'⟩ := r'.getV (hy us s')
    obtain ⟨w2, e1, e2, l2, ok2, r2⟩ := newPair ok' hT h2 h2'
    exact ⟨_, w2, zipP_get h1 h1', e1, e2, l2, ok2, r2⟩
/-- a value that is walked as a list or as a tuple -/
theorem seqOf_std {d : DV} {v : V} {g : Store → Bool} (h : seqOf d w.st = some (ds, g)) (r : RelD K w d v) (ok : w.Ok K) :
    (tupV d = none ∧ ∃ a vs, v = .ref a ∧ SqL K w.H a vs ∧ Std K w g (fun H => SqL K H a) ds) ∨ (d = .d (.tuple ds) ∧ g = always ∧ ∃ a vs, v = .ref a ∧ SqT K w.H a vs ∧ Std K w g (fun H => SqT K H a) ds) := by
  unfold seqOf at h
  split at h
  · cases h
    obtain ⟨a, vs, rfl, hs, hr⟩ := lstAt_inv r
    exact .inl ⟨rfl, a, vs, rfl, hs.sq, std_lst hs hr⟩
  · cases h
    obtain ⟨a, vs, rfl, hs, hr⟩ := relTup_inv r
    exact .inr ⟨rfl, rfl, a, vs, rfl, hs.sq, std_tup hs hr⟩
  · split at h
    · rename_i n _ xs hn
      cases h
      obtain ⟨a, h1, rfl⟩ := r
      obtain ⟨vs, e, _⟩ := ok.lstAt h1 hn
      exact .inl ⟨rfl, a, vs, rfl, SqL.of e, std_ref h1⟩
    · cases h
  · cases h
end
section
variable {X : Cx} {e e2 : Expr} {m m' : EM} {elts : List Expr} {kk : Nat} {tpos p pos : Pos}
theorem pi_enumD (hm : X.mg "enumerate" = none) (he : PDE X e m) (hg : Gl X "enumerate" := by rfl) (hs : starEach [e] X.env = [(false, eval e X.env)] := by rfl) : PDI X (.Tuple elts kk tpos) (.Call (.Name "enumerate" p) [e] [] pos) (mEnum m) :=
  PI.imp (PI.or (pi_enum hg hm (pa_cons he pa_nil hs) hs) (pi_enumT hg hm (pa_cons he pa_nil hs) hs)) fun σ H R h => by
    obtain ⟨w, s, ds, g, st', rfl, ok, re, hm, hk⟩ := h
    unfold mEnum at hm
    split at hm
    · rename_i d st1 e1
      split at hm
      · rename_i xs g e2
        cases hm
        cases ht : tupV d with
        | none =>
          refine .inl ⟨w, s, _, _, rfl, ok, re, e1, fun v w1 q1 l1 ok1 r1 => ?_⟩
          subst q1
          rcases seqOf_std e2 r1 ok1 with ⟨_, a, vs, rfl, hs, S⟩ | ⟨rfl, _⟩
          · exact ⟨a, vs, rfl, hs, hk _ w1 rfl l1 ok1 (iter_enumL S)⟩
          · cases ht
        | some ys =>
          refine .inr ⟨w, s, _, _, rfl, ok, re, e1, fun v w1 q1 l1 ok1 r1 => ?_⟩
          subst q1
          rcases seqOf_std e2 r1 ok1 with ⟨hn, _⟩ | ⟨rfl, rfl, a, vs, rfl, hs, S⟩
          · rw [ht] at hn; cases hn
          · exact ⟨a, vs, rfl, hs, hk _ w1 rfl l1 ok1 (iter_enumT S)⟩
      · cases hm
    · cases hm
theorem pi_zipD (hm : X.mg "zip" = none) (he : PDE X e m) (he2 : PDE X e2 m') (hg : Gl X "zip" := by rfl)
    (hs : starEach [e, e2] X.env = (false, eval e X.env) :: starEach [e2] X.env := by rfl) (hs2 : starEach [e2] X.env = (false, eval e2 X.env) :: starEach [] X.env := by rfl) (hpl : (backTo pos (starEach [e2] X.env)).any (·.1) = false := by rfl) :
    PDI X (.Tuple elts kk tpos) (.Call (.Name "zip" p) [e, e2] [] pos) (mZip m m') :=
  PI.imp (RZ.pi_zipA hg hm (pa_cons he (pa_cons he2 pa_nil hs2) hs) hs hpl) fun σ H R h => by
    obtain ⟨w, s, ds, g, st', rfl, ok, re, hm, hk⟩ := h
    unfold mZip at hm
    split at hm
    · rename_i d st1 e1
      split at hm
      · rename_i d' st2 e2
        split at hm
        · rename_i xs ys
          cases hm
          refine ⟨w, s, _, _, rfl, ok, re, e1, fun v w1 q1 l1 ok1 r1 => ?_⟩
          subst q1
          refine ⟨w1, s, _, _, rfl, ok1, re.mono l1, e2, fun v' w2 q2 l2 ok2 r2 => ?_⟩
          subst q2
          obtain ⟨a, vs, rfl, hs, hr⟩ := relTup_inv (r1.mono l2)
          obtain ⟨b, us, rfl, hs', hr'⟩ := relTup_inv r2
          exact ⟨a, b, vs, us, rfl, .inr ⟨hs.sq, hs'.sq, hk _ w2 rfl (l1.trans l2) ok2 (iter_zipT (std_tup hs hr) (std_tup hs' hr'))⟩⟩
        · split at hm
          · rename_i xs g1 ys g2 q1 q2
            split at hm
            · cases hm
            · rename_i hn
              cases hm
              have hn1 : tupV d = none := by
                cases z : tupV d with
                | none => rfl
                | some z' => exact (hn (by rw [z]; rfl)).elim
              have hn2 : tupV d' = none := by
                cases z : tupV d' with
                | none => rfl
                | some z' => exact (hn (by rw [z, Bool.or_comm]; rfl)).elim
              refine ⟨w, s, _, _, rfl, ok, re, e1, fun v w1 q1' l1 ok1 r1 => ?_⟩
              subst q1'
              refine ⟨w1, s, _, _, rfl, ok1, re.mono l1, e2, fun v' w2 q2' l2 ok2 r2 => ?_⟩
              subst q2'
              rcases seqOf_std q1 (r1.mono l2) ok2 with ⟨_, a, vs, rfl, hs, S⟩ | ⟨rfl, _⟩
              · rcases seqOf_std q2 r2 ok2 with ⟨_, b, us, rfl, hs', S'⟩ | ⟨rfl, _⟩
                · exact ⟨a, b, vs, us, rfl, .inl ⟨hs, hs', hk _ w2 rfl (l1.trans l2) ok2 (iter_zipL S S')⟩⟩
                · cases hn2
              · cases hn1
          · cases hm
      · cases hm
    · cases hm
end
end PD

set_option Elab.async false
set_option linter.all false
set_option maxRecDepth 100000
set_option maxHeartbeats 4000000
/-! PD9: dicts; keys: whole numbers and texts, or tuples of whole numbers, nested -/
namespace PD
open PySem PySem.Spec PyProof.Rows L2

/-! ### keys that are tuples -/
mutual
def nkOf : PyData → Option NestedKey
  | .int i => some (.num i)
  | .tuple xs => (match nksOf xs with
    | some ks => some (.tup ks)
    | none => none)
  | _ => none
def nksOf : List PyData → Option (List NestedKey)
  | [] => some []
  | x :: xs => (match nkOf x with
    | some k => (match nksOf xs with
      | some ks => some (k :: ks)
      | none => none)
    | none => none)
end
mutual
theorem nkOf_some : ∀ (d : PyData) (k : NestedKey), nkOf d = some k → k.data = d ∧ numK k = true
  | .int i, k, h => by
    simp only [nkOf, Option.some.injEq] at h
    subst h
    exact ⟨rfl, rfl⟩
  | .tuple xs, k, h => by
    simp only [nkOf] at h
    split at h
    · rename_i ks e
      cases h
      obtain ⟨h1, h2⟩ := nksOf_some xs ks e
      exact ⟨by rw [NestedKey.data, h1], by rw [numK]; exact h2⟩
    · cases h
  | .none, k, h => by simp [nkOf] at h
  | .bool _, k, h => by simp [nkOf] at h
  | .str _, k, h => by simp [nkOf] at h
  | .list _, k, h => by simp [nkOf] at h
  | .dict _, k, h => by simp [nkOf] at h
theorem nksOf_some : ∀ (ds : List PyData) (ks : List NestedKey), nksOf ds = some ks → NestedKey.datas ks = ds ∧ numKs ks = true
  | [], ks, h => by
    simp only [nksOf, Option.some.injEq] at h
    subst h
    exact ⟨rfl, rfl⟩
  | d :: ds, ks, h => by
    simp only [nksOf] at h
    split at h
    · rename_i k e
      split at h
      · rename_i ks' e'
        cases h
        obtain ⟨h1, h2⟩ := nkOf_some d k e
        obtain ⟨h3, h4⟩ := nksOf_some ds ks' e'
        exact ⟨by rw [NestedKey.datas, h1, h3], by rw [numKs, h2, h4]; rfl⟩
      · cases h
    · cases h
end
mutual
theorem data_inj : ∀ (a b : NestedKey), numK a = true → a.data = b.data → a = b
  | .num i, b, _, h => by cases b <;> simp [NestedKey.data] at h; rw [h]
  | .tup ks, b, n, h => by
    cases b <;> simp only [NestedKey.data] at h <;> first | (cases h; done) | skip
    rename_i ls
    rw [numK] at n
    rw [datas_inj ks ls n (PyData.tuple.inj h)]
  | .none, _, n, _ => by simp [numK] at n
  | .text _, _, n, _ => by simp [numK] at n
theorem datas_inj : ∀ (as bs : List NestedKey), numKs as = true → NestedKey.datas as = NestedKey.datas bs → as = bs
  | [], bs, _, h => by cases bs <;> simp [NestedKey.datas] at h; rfl
  | a :: as, bs, n, h => by
    cases bs with
    | nil => simp [NestedKey.datas] at h
    | cons b bs =>
      simp only [NestedKey.datas, List.cons.injEq] at h
      rw [numKs, Bool.and_eq_true] at n
      rw [data_inj a b n.1 h.1, datas_inj as bs n.2 h.2]
end
mutual
theorem noDict_num : ∀ (k : NestedKey), noDict k.data = true
  | .none => rfl
  | .num _ => rfl
  | .text _ => rfl
  | .tup ks => by rw [NestedKey.data, noDict]; exact noDicts_num ks
theorem noDicts_num : ∀ (ks : List NestedKey), noDicts (NestedKey.datas ks) = true
  | [] => rfl
  | k :: ks => by rw [NestedKey.datas, noDicts, noDict_num k, noDicts_num ks]; rfl
end
theorem dEq_data {a b : NestedKey} (ha : numK a = true) : dEq a.data b.data = decide (a = b) := by
  by_cases e : a = b
  · subst e
    rw [dEq_refl _ (noDict_num a)]
    simp
  · have : dEq a.data b.data = false := Bool.eq_false_iff.mpr fun h => e (data_inj a b ha (dEq_eq _ _ h))
    rw [this]
    simp [e]
/-- a tuple that may be a key -/
def keyOk (d : PyData) : Bool := match d with
  | .tuple xs => (match nkOf (.tuple xs) with
    | some k => decide (k.depth ≤ 8)
    | none => false)
  | _ => false
theorem keyOk_some {d : PyData} (h : keyOk d = true) : ∃ k, k.data = d ∧ numK k = true ∧ k.depth ≤ 8 ∧ ∃ xs, d = .tuple xs := by
  unfold keyOk at h
  split at h
  · rename_i xs
    split at h
    · rename_i k e
      obtain ⟨h1, h2⟩ := nkOf_some _ k e
      exact ⟨k, h1, h2, of_decide_eq_true h, xs, rfl⟩
    · cases h
  · cases h

/-! ### the pairs -/
def valN (kvs : List (PyData × PyData)) (k : PyData) : Option PyData := (kvs.find? fun kv => dEq kv.1 k).map (·.2)
def putN (kvs : List (PyData × PyData)) (k v : PyData) : List (PyData × PyData) := if (valN kvs k).isSome then kvs.map fun kv => if dEq kv.1 k then (kv.1, v) else kv else kvs ++ [(k, v)]
def putP (kvs : List (Key × PyData)) (k : Key) (v : PyData) : List (Key × PyData) := if kvs.any (fun kv => decide (kv.1 = k)) then kvs.map fun kv => if kv.1 = k then (kv.1, v) else kv else kvs ++ [(k, v)]
section
variable {K : PySem.W.Frag} {w : Wd}
theorem RelN.length : ∀ {kvs : List (PyData × PyData)} {xs : List (NestedKey × Addr × Value)}, RelN K w kvs xs → xs.length = kvs.length
  | [], _, h => by cases h; rfl
  | (kd, vd) :: r, xs, h => by
    simp only [RelN] at h
    obtain ⟨k, b, u, v, xr, rfl, _, _, _, _, _, _, h8⟩ := h
    simp [RelN.length h8]
theorem RelN.get : ∀ {kvs : List (PyData × PyData)} {xs : List (NestedKey × Addr × Value)} {i : Nat} {x : NestedKey × Addr × Value}, RelN K w kvs xs → xs[i]? = some x →
    ∃ kd vd v, kvs[i]? = some (kd, vd) ∧ x.1.data = kd ∧ numK x.1 = true ∧ x.1.depth ≤ 8 ∧ RelP K w.L w.H kd (.ref x.2.1) ∧ RelP K w.L w.H vd v ∧ L2.RelV v x.2.2
  | [], _, _, _, h, e => by cases h; simp at e
  | (kd, vd) :: r, xs, 0, x, h, e => by
    simp only [RelN] at h
    obtain ⟨k, b, u, v, xr, rfl, h1, h2, h3, h4, h5, h6, h8⟩ := h
    simp at e
    subst e
    exact ⟨kd, vd, v, rfl, h1, h2, h3, h4, h5, h6⟩
  | (kd, vd) :: r, xs, i + 1, x, h, e => by
    simp only [RelN] at h
    obtain ⟨k, b, u, v, xr, rfl, h1, h2, h3, h4, h5, h6, h8⟩ := h
    obtain ⟨kd', vd', v', q, rest⟩ := RelN.get (i := i) h8 (by simpa using e)
    exact ⟨kd', vd', v', by simpa using q, rest⟩
theorem RelN.find {k : NestedKey} : ∀ {kvs : List (PyData × PyData)} {xs : List (NestedKey × Addr × Value)}, RelN K w kvs xs →
    (atKey xs k = none ∧ valN kvs k.data = none) ∨ ∃ b u v d, atKey xs k = some (b, u) ∧ valN kvs k.data = some d ∧ RelP K w.L w.H d v ∧ L2.RelV v u
  | [], _, h => by cases h; exact .inl ⟨rfl, rfl⟩
  | (kd, vd) :: r, xs, h => by
    simp only [RelN] at h
    obtain ⟨k', b, u, v, xr, rfl, h1, h2, h3, h4, h5, h6, h8⟩ := h
    subst h1
    by_cases e : k' = k
    · subst e
      exact .inr ⟨b, u, v, vd, by simp [atKey], by simp [valN, dEq_data h2], h5, h6⟩
    · have e1 : atKey ((k', b, u) :: xr) k = atKey xr k := by simp [atKey, e]
      have e2 : valN ((k'.data, vd) :: r) k.data = valN r k.data := by simp [valN, dEq_data h2, e]
      rw [e1, e2]
      exact RelN.find h8
theorem RelN.mapPut {k : NestedKey} {d : PyData} {v : V} {u : Value} (rd : RelP K w.L w.H d v) (rv : L2.RelV v u) : ∀ {kvs : List (PyData × PyData)} {xs : List (NestedKey × Addr × Value)}, RelN K w kvs xs →
    RelN K w (kvs.map fun kv => if dEq kv.1 k.data then (kv.1, d) else kv) (xs.map (putAt k u))
  | [], _, h => by cases h; rfl
  | (kd, vd) :: r, xs, h => by
    simp only [RelN] at h
    obtain ⟨k', b, u', v', xr, rfl, h1, h2, h3, h4, h5, h6, h8⟩ := h
    subst h1
    have ih := RelN.mapPut (k := k) rd rv h8
    by_cases e : k' = k
    · subst e
      have e1 : ((k'.data, vd) :: r).map (fun kv => if dEq kv.1 k'.data then (kv.1, d) else kv) = (k'.data, d) :: r.map (fun kv => if dEq kv.1 k'.data then (kv.1, d) else kv) := by simp [dEq_data h2]
      rw [e1]
      simp only [RelN]
      exact ⟨k', b, u, v, xr.map (putAt k' u), by simp [putAt], rfl, h2, h3, h4, rd, rv, ih⟩
    · have e1 : ((k'.data, vd) :: r).map (fun kv => if dEq kv.1 k.data then (kv.1, d) else kv) = (k'.data, vd) :: r.map (fun kv => if dEq kv.1 k.data then (kv.1, d) else kv) := by simp [dEq_data h2, e]
      rw [e1]
      simp only [RelN]
      exact ⟨k', b, u', v', xr.map (putAt k u), by simp [putAt, e], rfl, h2, h3, h4, h5, h6, ih⟩
theorem RelN.snoc {k : NestedKey} {b : Addr} {d : PyData} {v : V} {u : Value} (hn : numK k = true) (hd : k.depth ≤ 8) (rk : RelP K w.L w.H k.data (.ref b)) (rd : RelP K w.L w.H d v) (rv : L2.RelV v u) : ∀ {kvs : List (PyData × PyData)} {xs : List (NestedKey × Addr × Value)}, RelN K w kvs xs →
    RelN K w (kvs ++ [(k.data, d)]) (xs ++ [(k, b, u)])
  | [], _, h => by
    cases h
    exact ⟨k, b, u, v, [], rfl, rfl, hn, hd, rk, rd, rv, rfl⟩
  | (kd, vd) :: r, xs, h => by
    simp only [RelN] at h
    obtain ⟨k', b', u', v', xr, rfl, h1, h2, h3, h4, h5, h6, h8⟩ := h
    show RelN K w ((kd, vd) :: (r ++ [(k.data, d)])) _
    simp only [RelN]
    exact ⟨k', b', u', v', xr ++ [(k, b, u)], rfl, h1, h2, h3, h4, h5, h6, RelN.snoc hn hd rk rd rv h8⟩
theorem RelN.put {k : NestedKey} {b : Addr} {d : PyData} {v : V} {u : Value} {kvs : List (PyData × PyData)} {xs : List (NestedKey × Addr × Value)} (h : RelN K w kvs xs) (hn : numK k = true) (hd : k.depth ≤ 8) (rk : RelP K w.L w.H k.data (.ref b)) (rd : RelP K w.L w.H d v) (rv : L2.RelV v u) :
    RelN K w (putN kvs k.data d) (storedH xs k b u) := by
  unfold putN storedH
  rcases h.find (k := k) with ⟨e1, e2⟩ | ⟨b', u', v', d', e1, e2, _⟩
  · rw [e1, e2]
    exact h.snoc hn hd rk rd rv
  · rw [e1, e2]
    exact h.mapPut rd rv
theorem RelK.mapPut {k : Key} {d : PyData} {v : V} (rd : RelP K w.L w.H d v) : ∀ {kvs : List (Key × PyData)} {kvs' : List (Key × V)}, RelK K w kvs kvs' → RelK K w (kvs.map fun kv => if kv.1 = k then (kv.1, d) else kv) (kvs'.map fun kv => if kv.1 = k then (kv.1, v) else kv)
  | [], _, h => by cases h; rfl
  | (j, x) :: r, vs, h => by
    simp only [RelK] at h
    obtain ⟨y, vr, rfl, h2, h3⟩ := h
    have ih := RelK.mapPut (k := k) rd h3
    by_cases e : j = k
    · rw [List.map_cons, List.map_cons, if_pos e, if_pos e]
      simp only [RelK]
      exact ⟨v, _, rfl, rd, ih⟩
    · rw [List.map_cons, List.map_cons, if_neg e, if_neg e]
      simp only [RelK]
      exact ⟨y, _, rfl, h2, ih⟩
theorem RelK.snoc {k : Key} {d : PyData} {v : V} (rd : RelP K w.L w.H d v) : ∀ {kvs : List (Key × PyData)} {kvs' : List (Key × V)}, RelK K w kvs kvs' → RelK K w (kvs ++ [(k, d)]) (kvs' ++ [(k, v)])
  | [], _, h => by cases h; exact ⟨v, [], rfl, rd, rfl⟩
  | (j, x) :: r, vs, h => by
    simp only [RelK] at h
    obtain ⟨y, vr, rfl, h2, h3⟩ := h
    show RelK K w ((j, x) :: (r ++ [(k, d)])) _
    simp only [RelK]
    exact ⟨y, vr ++ [(k, v)], rfl, h2, RelK.snoc rd h3⟩
theorem RelK.put {k : Key} {d : PyData} {v : V} {kvs : List (Key × PyData)} {kvs' : List (Key × V)} (h : RelK K w kvs kvs') (rd : RelP K w.L w.H d v) : RelK K w (putP kvs k d) (putK kvs' k v) := by
  unfold putP putK
  have e : ∀ {β : Type} (l : List (Key × β)), (l.any fun kv => decide (kv.1 = k)) = ((l.map (·.1)).any fun x => decide (x = k)) := fun l => by rw [List.any_map]; rfl
  rw [e kvs, e kvs', h.keys]
  split
  · exact h.mapPut rd
  · exact h.snoc rd
theorem RelK.length {kvs : List (Key × PyData)} {kvs' : List (Key × V)} (h : RelK K w kvs kvs') : kvs'.length = kvs.length := by
  have := congrArg List.length h.keys
  simpa using this
end

/-! ### what stands in the heap -/
section
variable {X : Cx} {pins : List (Addr × Obj)} {σ : L2.St} {H : Hp} {s : Shared} {L : Addr → Prop}
mutual
theorem key_is (I : Inv X pins σ H s) : ∀ (k : NestedKey) (v : V) (u : Value), RelP X.K L H k.data v → numK k = true → L2.RelV v u → NestedIs s.heap k u
  | .num i, v, u, r, _, rv => by
    simp only [NestedKey.data, RelP] at r
    subst r
    obtain ⟨t, rfl⟩ := rv
    exact .int i t
  | .tup ks, v, u, r, n, rv => by
    simp only [NestedKey.data, RelP] at r
    obtain ⟨a, vs, rfl, ha, hr⟩ := r
    cases rv
    obtain ⟨its, r2, p, _⟩ := I.tuple ha.sq
    obtain ⟨o, h1, h2, m, h3⟩ := id p
    rw [numK] at n
    exact .tup h1 h2 h3 (by simpa using keys_are I ks vs its hr n r2)
  | .none, _, _, _, n, _ => by simp [numK] at n
  | .text _, _, _, _, n, _ => by simp [numK] at n
theorem keys_are (I : Inv X pins σ H s) : ∀ (ks : List NestedKey) (vs : List V) (us : List Value), RelPs X.K L H (NestedKey.datas ks) vs → numKs ks = true → Vals vs us → NestedAll s.heap ks us
  | [], vs, us, r, _, rv => by
    simp only [NestedKey.datas, RelPs] at r
    subst r
    cases rv
    exact .nil
  | k :: ks, vs, us, r, n, rv => by
    simp only [NestedKey.datas, RelPs] at r
    obtain ⟨v, vr, rfl, h1, h2⟩ := r
    rw [numKs, Bool.and_eq_true] at n
    cases rv with
    | cons h t => exact .cons (key_is I k v _ h1 n.1 h) (keys_are I ks vr _ h2 n.2 t)
end
theorem raw_at {a : Addr} {es : List DictEntry} (I : Inv X pins σ H s) (h : H a = some (rawD a es)) : ∃ (o : Obj) (ep : Nat), s.heap.get? a = some o ∧ o.ExactDict ∧ o.data = .dict es.toArray ep := (I.hok a _ h).1
theorem raw_ok {P : Program} {w : World} {H : Hp} {h : Heap} {a : Addr} {es : List DictEntry} {o : Obj} {ep : Nat} (h1 : h.get? a = some o) (h2 : o.ExactDict) (h3 : o.data = .dict es.toArray ep) : ObjOk P w H h a (rawD a es) :=
  ⟨⟨o, ep, h1, h2, h3⟩, ⟨o, h1⟩, fun _ _ ⟨o, ep, e1, e2, e3⟩ k => ⟨o, ep, k o e1, e2, e3⟩⟩
end
section
variable {X : Cx} {pins : List (Addr × Obj)} {σ : L2.St} {w : Wd} {s : Shared} {a : Addr} {kvs : List (PyData × PyData)} {o : HO}
abbrev NAt (K : PySem.W.Frag) (w : Wd) (a : Addr) (kvs : List (PyData × PyData)) (es : List DictEntry) (xs : List (NestedKey × Addr × Value)) : Prop :=
  (a == sysModules) = false ∧ kvs.length ≤ 16777216 ∧ (∀ (prog : Program) (wo : World), es = xs.map (entryOfKey (nestedKind prog wo))) ∧ (xs.map (·.1)).Nodup ∧ RelN K w kvs xs
theorem dictN (I : Inv X pins σ w.H s) {es : List DictEntry} {xs : List (NestedKey × Addr × Value)} (ha : w.H a = some (rawD a es)) (m : NAt X.K w a kvs es xs) : s.heap.DictOfH (nestedKind X.prog X.w) a xs := by
  obtain ⟨o, ep, h1, h2, h3⟩ := raw_at I ha
  obtain ⟨hs, hz, he, nd, r⟩ := m
  refine ⟨o, es.toArray, ep, h1, h2, h3, by rw [List.toList_toArray]; exact he _ _, fun x hx => ?_, nd⟩
  obtain ⟨i, hi⟩ := List.mem_iff_getElem?.mp hx
  obtain ⟨kd, vd, v, _, e1, e2, e3, e4, _, _⟩ := r.get hi
  subst e1
  exact ⟨key_is I x.1 (.ref x.2.1) _ e4 e2 rfl, e3⟩
theorem room_nested {prog : Program} {w : World} {k : Nat} {A : Around} (r : Room k A) : (nestedKind prog w).room A.in1.in1 := by
  have := r.un
  show A.units + 1 + 1 + 8 < cLine
  omega
theorem room_nested1 {prog : Program} {w : World} {k : Nat} {A : Around} (r : Room k A) : (nestedKind prog w).room A.in1 := by
  have := r.un
  show A.units + 1 + 8 < cLine
  omega
end

mutual
theorem hash_num (w w' : World) : ∀ k : NestedKey, numK k = true → NestedKey.hash w k = NestedKey.hash w' k
  | .num _, _ => rfl
  | .tup ks, n => by
    rw [numK] at n
    rw [NestedKey.hash, NestedKey.hash, hashes_num w w' ks n]
  | .none, n => by simp [numK] at n
  | .text _, n => by simp [numK] at n
theorem hashes_num (w w' : World) : ∀ ks : List NestedKey, numKs ks = true → NestedKey.hashes w ks = NestedKey.hashes w' ks
  | [], _ => rfl
  | k :: ks, n => by
    rw [numKs, Bool.and_eq_true] at n
    rw [NestedKey.hashes, NestedKey.hashes, hash_num w w' k n.1, hashes_num w w' ks n.2]
end
theorem RelN.es {K : PySem.W.Frag} {w : Wd} {kvs : List (PyData × PyData)} {xs : List (NestedKey × Addr × Value)} (r : RelN K w kvs xs) (P P' : Program) (W W' : World) : xs.map (entryOfKey (nestedKind P W)) = xs.map (entryOfKey (nestedKind P' W')) :=
  List.map_congr_left fun x hx => by
    obtain ⟨i, hi⟩ := List.mem_iff_getElem?.mp hx
    obtain ⟨kd, vd, v, _, e1, e2, _⟩ := r.get hi
    show (⟨NestedKey.hash W x.1, _, _⟩ : DictEntry) = ⟨NestedKey.hash W' x.1, _, _⟩
    rw [hash_num W W' x.1 e2]

/-! ### making, writing -/
def mNewN : EM := fun _ st => some (.r st.length, st ++ [some (.dcn [])])
def mNewK : EM := fun _ st => some (.r st.length, st ++ [some (.dct [])])
section
variable {X : Cx} {pos : Pos}
theorem pe_newN : PE X (.Dict [] [] pos) (fun _ H Q => ∀ p, H p = none → (p == sysModules) = false → Q (.ref p) (upd H p (rawD p []))) := ⟨fun pins s σ H Q I h =>
  wpAny_Dict_empty ⟨.ref s.heap.objs.size, _, I.laid (a := s.heap.objs.size) (o := rawD s.heap.objs.size []) (t' := s.toks) (fun _ _ q => Heap.get?_push_of_some _ q) (Nat.le_refl _) (raw_ok (Heap.get?_push_size _ rfl) ⟨rfl, rfl, rfl⟩ (ep := 0) rfl), rfl,
    h _ (I.hok.fresh (Nat.le_refl _)) (beq_eq_false_iff_ne.mpr (Ne.symm (Nat.ne_of_lt I.big)))⟩⟩
theorem pd_newN : PDE X (.Dict [] [] pos) mNewN := PE.imp pe_newN fun σ H Q h => by
  obtain ⟨w, s, d, st', rfl, ok, re, hm, hk⟩ := h
  cases hm
  intro p hp hs
  obtain ⟨l, ok2, ha⟩ := ok.newM (o := rawD p []) (mo := .dcn []) hp fun _ => ⟨[], [], rfl, hs, by simp, fun _ _ => rfl, List.nodup_nil, rfl⟩
  exact hk _ _ rfl l ok2 ⟨p, ha, rfl⟩
theorem pd_newK : PDE X (.Dict [] [] pos) mNewK := PE.imp pe_dnewK fun σ H Q h => by
  obtain ⟨w, s, d, st', rfl, ok, re, hm, hk⟩ := h
  cases hm
  intro p hp
  obtain ⟨l, ok2, ha⟩ := ok.newM (o := .dK []) (mo := .dct []) hp fun _ => ⟨[], rfl, rfl⟩
  exact hk _ _ rfl l ok2 ⟨p, ha, rfl⟩
end

/-! ### reading, by values: at the world -/
def toKey : PyData → Option Key
  | .int i => some (.inl i)
  | .str z => some (.inr z)
  | _ => none
/-- what a dict holds at a key: none: not such a key -/
def dget (mo : Option (Option MO)) (k : PyData) : Option (Option PyData) := match mo with
  | some (some (.dct kvs)) => (match toKey k with
    | some j => some (valP kvs j)
    | none => none)
  | some (some (.dcn kvs)) => if keyOk k then some (valN kvs k) else none
  | _ => none
def dput (mo : Option (Option MO)) (k v : PyData) : Option MO := match mo with
  | some (some (.dct kvs)) => (match toKey k with
    | some j => if decide (kvs.length < 16777216) then some (.dct (putP kvs j v)) else none
    | none => none)
  | some (some (.dcn kvs)) => if keyOk k && decide (kvs.length < 16777216) then some (.dcn (putN kvs k v)) else none
  | _ => none
theorem toKey_rel {K : PySem.W.Frag} {L : Addr → Prop} {H : Hp} {d : PyData} {k : Key} {v : V} (h : toKey d = some k) (r : RelP K L H d v) : v = kV k := by
  unfold toKey at h
  split at h
  · cases h; exact r
  · cases h; exact r
  · cases h
/-- the promise of a look into a dict: at any state of the world w -/
def LookAt (X : Cx) (w : Wd) (a : Addr) (y : V) (o : Option PyData) (A : Around) : Prop := (∃ kvs' ov, w.H a = some (.dK kvs') ∧ DGet w.H a y ov ∧ ((∃ d v, o = some d ∧ ov = some v ∧ RelP X.K w.L w.H d v) ∨ (o = none ∧ ov = none))) ∨
  ∃ (es : List DictEntry) (xs : List (NestedKey × Addr × Value)) (kvs : List (PyData × PyData)) (k : NestedKey) (b : Addr), w.H a = some (rawD a es) ∧ NAt X.K w a kvs es xs ∧ y = .ref b ∧ RelP X.K w.L w.H k.data (.ref b) ∧ numK k = true ∧ k.depth ≤ 8 ∧
    ((∃ b' u v d, atKey xs k = some (b', u) ∧ o = some d ∧ RelP X.K w.L w.H d v ∧ L2.RelV v u) ∨ (atKey xs k = none ∧ o = none))
theorem look_at {X : Cx} {w : Wd} {n : Nat} {a : Addr} {kd : PyData} {y : V} {o : Option PyData} {A : Around} (ok : w.Ok X.K) (ha : w.as[n]? = some a) (h : dget w.st[n]? kd = some o) (r : RelP X.K w.L w.H kd y) : LookAt X w a y o A := by
  unfold dget at h
  split at h
  · rename_i kvs hn
    split at h
    · rename_i j hj
      cases h
      obtain ⟨ob, e, kvs', e2, rk⟩ := ok.ob n a _ ha hn
      subst e2
      have ey := toKey_rel hj r
      subst ey
      refine .inl ⟨kvs', valV kvs' j, e, DGet.k e, ?_⟩
      cases q : valP kvs j with
      | none => exact .inr ⟨rfl, (rk.val j).2 q⟩
      | some d =>
        obtain ⟨v, h1, h2⟩ := (rk.val j).1 d q
        exact .inl ⟨d, v, rfl, h1, h2⟩
    · cases h
  · rename_i kvs hn
    split at h
    · rename_i hk
      cases h
      obtain ⟨ob, e, es, xs, e2, m⟩ := ok.ob n a _ ha hn
      subst e2
      obtain ⟨k, h1, h2, h3, ys, h4⟩ := keyOk_some hk
      subst h1
      have m' : NAt X.K w a kvs es xs := m
      obtain ⟨b, eb⟩ : ∃ b, y = .ref b := by
        rw [h4] at r
        simp only [RelP] at r
        obtain ⟨b, _, e, _⟩ := r
        exact ⟨b, e⟩
      subst eb
      refine .inr ⟨es, xs, kvs, k, b, e, m', rfl, r, h2, h3, ?_⟩
      rcases m'.2.2.2.2.find (k := k) with ⟨q1, q2⟩ | ⟨b', u, v, d, q1, q2, q3, q4⟩
      · exact .inr ⟨q1, q2⟩
      · exact .inl ⟨b', u, v, d, q1, q2, q3, q4⟩
    · cases h
  · cases h
section
variable {X : Cx} {pins : List (Addr × Obj)} {σ : L2.St} {w : Wd} {s : Shared} {a : Addr} {y : V} {o : Option PyData} {A : Around} {E : Value → Shared → Prop} {u : Value}
/-- y in d -/
theorem look_in {k : Nat} {Q : Value → Shared → Prop} (hr : Room k A) (I : Inv X pins σ w.H s) (g : LookAt X w a y o A) (ry : L2.RelV y u) (h : ∀ s', Inv X pins σ w.H s' → Q (.bool o.isSome) s') : wpAny (model X.prog X.w) A (compareOp .In u (.ref a)) Q E s := by
  rcases g with ⟨kvs', ov, e, g, hv⟩ | ⟨es, xs, kvs, k, b, e, m, rfl, rk, hn, hd, hv⟩
  · have eo : ov.isSome = o.isSome := by rcases hv with ⟨d, v, rfl, rfl, _⟩ | ⟨rfl, rfl⟩ <;> rfl
    exact d_in (hu_of hr) I g ry fun s' I' => by rw [eo]; exact h s' I'
  · cases ry
    have eo : (atKey xs k).isSome = o.isSome := by rcases hv with ⟨b', u, v, d, e1, rfl, _⟩ | ⟨e1, rfl⟩ <;> rw [e1] <;> rfl
    refine wpAny_in_heap (room_nested1 hr) ⟨key_is I k _ _ rk hn rfl, hd⟩ m.1 (dictN I e m) ?_
    rw [eo]
    exact h _ (I.tok _)
theorem look_notIn {k : Nat} {Q : Value → Shared → Prop} (hr : Room k A) (I : Inv X pins σ w.H s) (g : LookAt X w a y o A) (ry : L2.RelV y u) (h : ∀ s', Inv X pins σ w.H s' → Q (.bool (!o.isSome)) s') : wpAny (model X.prog X.w) A (compareOp .NotIn u (.ref a)) Q E s := by
  rcases g with ⟨kvs', ov, e, g, hv⟩ | ⟨es, xs, kvs, k, b, e, m, rfl, rk, hn, hd, hv⟩
  · have eo : ov.isSome = o.isSome := by rcases hv with ⟨d, v, rfl, rfl, _⟩ | ⟨rfl, rfl⟩ <;> rfl
    exact d_notIn (hu_of hr) I g ry fun s' I' => by rw [eo]; exact h s' I'
  · cases ry
    have eo : (atKey xs k).isSome = o.isSome := by rcases hv with ⟨b', u, v, d, e1, rfl, _⟩ | ⟨e1, rfl⟩ <;> rw [e1] <;> rfl
    refine wpAny_notIn_heap (room_nested1 hr) ⟨key_is I k _ _ rk hn rfl, hd⟩ m.1 (dictN I e m) ?_
    rw [eo]
    exact h _ (I.tok _)
/-- d[y], there -/
theorem look_getItem {k : Nat} {d : PyData} {Q : Value → Shared → Prop} (hr : Room k A) (I : Inv X pins σ w.H s) (g : LookAt X w a y (some d) A) (ry : L2.RelV y u) (h : ∀ v w' s', RelP X.K w.L w.H d v → Inv X pins σ w.H s' → L2.RelV v w' → Q w' s') : wpAny (model X.prog X.w) A (getItem (.ref a) u) Q E s := by
  rcases g with ⟨kvs', ov, e, g, hv⟩ | ⟨es, xs, kvs, k, b, e, m, rfl, rk, hn, hd, hv⟩
  · rcases hv with ⟨d, v, e1, rfl, rv⟩ | ⟨e1, _⟩
    · cases e1
      exact d_getItem (hu_of hr) I g ry fun w' s' I' r' => h v w' s' rv I' r'
    · cases e1
  · cases ry
    rcases hv with ⟨b', u, v, d, e1, e2, rv, r'⟩ | ⟨_, e1⟩
    · cases e2
      exact wpAny_getItem_heap (room_nested1 hr) ⟨key_is I k _ _ rk hn rfl, hd⟩ (dictN I e m) e1 (h v _ _ rv (I.tok _) r')
    · cases e1
/-- d.get(y, z) -/
theorem look_get2 {k : Nat} {z : Value} {zv : V} {Q : Value → Shared → Prop} (hr : Room k A) (I : Inv X pins σ w.H s) (g : LookAt X w a y o A) (ry : L2.RelV y u) (rz : L2.RelV zv z) (h : ∀ v w' s', ((∃ d, o = some d ∧ RelP X.K w.L w.H d v) ∨ (o = none ∧ v = zv)) → Inv X pins σ w.H s' → L2.RelV v w' → Q w' s') :
    wpAny (model X.prog X.w) A (call (.builtin "dict.get") [.ref a, u, z]) Q E s := by
  rcases g with ⟨kvs', ov, e, g, hv⟩ | ⟨es, xs, kvs, k, b, e, m, rfl, rk, hn, hd, hv⟩
  · refine d_get2 (hu_of hr) I g ry rz fun w' s' I' r' => h _ w' s' ?_ I' r'
    rcases hv with ⟨d, v, rfl, rfl, rv⟩ | ⟨rfl, rfl⟩
    · exact .inl ⟨d, rfl, rv⟩
    · exact .inr ⟨rfl, rfl⟩
  · cases ry
    refine call_meetsIn F.slot_dict_get (dictN I e m).typeIs F.entry_dict_get (F.args_dict_get_3 _ _ _) (meetsH_dict_get_default (nestedKind X.prog X.w) a b m.1 z) ⟨room_nested1 hr, k, xs, ⟨key_is I k _ _ rk hn rfl, hd⟩, dictN I e m, ?_⟩
    rcases hv with ⟨b', u, v, d, e1, rfl, rv, r'⟩ | ⟨e1, rfl⟩
    · rw [e1]
      exact h v _ _ (.inl ⟨d, rfl, rv⟩) (I.tok _) r'
    · rw [e1]
      exact h zv _ _ (.inr ⟨rfl, rfl⟩) (I.tok _) rz
end
/-- what is written into a dict -/
theorem put_at {X : Cx} {w : Wd} {n : Nat} {a : Addr} {kd vd : PyData} {y v : V} {mo : MO} (ok : w.Ok X.K) (ha : w.as[n]? = some a) (h : dput w.st[n]? kd vd = some mo) (rk : RelP X.K w.L w.H kd y) (rv : RelP X.K w.L w.H vd v) {Q : Hp → Prop}
    (hq : ∀ w' : Wd, w'.st = w.st.set n (some mo) → w.Le w' → w'.Ok X.K → Q w'.H) {pins : List (Addr × Obj)} {σ : L2.St} {s : Shared} {k : Nat} {u r : Value} {A : Around} {E : Value → Shared → Prop} (hr : Room k A) (I : Inv X pins σ w.H s) (ry : L2.RelV y u) (rr : L2.RelV v r) :
    wpAny (model X.prog X.w) A (setItem (.ref a) u r) (fun _ s' => ∃ H', Inv X pins σ H' s' ∧ Q H') E s := by
  unfold dput at h
  split at h
  · rename_i kvs hn
    split at h
    · rename_i j hj
      split at h
      · rename_i hz
        cases h
        obtain ⟨ob, e, kvs', e2, rl⟩ := ok.ob n a _ ha hn
        subst e2
        have ey := toKey_rel hj rk
        subst ey
        obtain ⟨l, ok2⟩ := ok.write (o := .dK (putK kvs' j v)) (mo' := .dct (putP kvs j vd)) ha hn fun w' l _ => ⟨_, rfl, (rl.put rv).mono (w' := w') l.ext⟩
        exact d_setItem (hu_of hr) I (DPut.k e (by rw [rl.length, sizeLine_eq]; exact of_decide_eq_true hz)) ry rr fun s' I' => ⟨_, I', hq _ rfl l ok2⟩
      · cases h
    · cases h
  · rename_i kvs hn
    split at h
    · rename_i hk
      cases h
      rw [Bool.and_eq_true] at hk
      have hz := of_decide_eq_true hk.2
      obtain ⟨ob, e, es, xs, e2, m⟩ := ok.ob n a _ ha hn
      subst e2
      have m' : NAt X.K w a kvs es xs := m
      obtain ⟨k', h1, h2, h3, ys, h4⟩ := keyOk_some hk.1
      subst h1
      obtain ⟨b, eb⟩ : ∃ b, y = .ref b := by
        rw [h4] at rk
        simp only [RelP] at rk
        obtain ⟨b, _, e, _⟩ := rk
        exact ⟨b, e⟩
      subst eb
      cases ry
      have rn := m'.2.2.2.2
      have hl := rn.length
      refine wpAny_setItem_heap (hsz := by rw [hl, sizeLine_eq]; omega) (room_nested1 hr) ⟨key_is I k' _ _ rk h2 rfl, h3⟩ (dictN I e m') fun h' hm' hs => ?_
      obtain ⟨o, es', ep, f1, f2, f3, f4, f5, f6⟩ := hm'
      have hes : o.data = .dict (es'.toList).toArray ep := by rw [Array.toArray_toList]; exact f3
      have rn2 := rn.put h2 h3 rk rv rr
      have hlen : (putN kvs k'.data vd).length ≤ 16777216 := by
        unfold putN
        split
        · rw [List.length_map]; omega
        · rw [List.length_append, List.length_singleton]; omega
      obtain ⟨l, ok2⟩ := ok.write (o := rawD a es'.toList) (mo' := .dcn (putN kvs k'.data vd)) ha hn fun w' l _ => ⟨_, _, rfl, m'.1, hlen, fun P W => by rw [f4]; exact rn2.es _ _ _ _, f6, rn2.mono l.ext⟩
      exact ⟨_, d_write I (by rw [e]; trivial) hs ⟨o, f1⟩ (raw_ok f1 f2 hes), hq _ rfl l ok2⟩
    · cases h
  · cases h
end PD

set_option Elab.async false
set_option linter.all false
set_option maxRecDepth 100000
set_option maxHeartbeats 4000000
/-! PDA: dicts in expressions and statements -/
namespace PD
open PySem PySem.Spec PyProof.Rows L2

/-! ### in, not in -/
def fInA (neg : Bool) : F2 := fun x y st => match y with
  | .r n => (match x with
    | .d k => (match dget st[n]? k with
      | some o => rb (neg ^^ o.isSome) st
      | none => fInB neg x y st)
    | _ => fInB neg x y st)
  | _ => fInB neg x y st
def rInN (X : Cx) (neg : Bool) : R2 := fun x y H Q => ∃ (w : Wd) (a : Addr) (o : Option PyData), w.H = H ∧ y = .ref a ∧ LookAt X w a x o X.A ∧ Q (.bl (neg ^^ o.isSome)) H
def rInAll (X : Cx) (neg : Bool) : R2 := fun x y H Q => rInA X.K neg x y H Q ∨ rInN X neg x y H Q
section
variable {X : Cx}
theorem op_inN {k : Nat} (hr : Room k X.A) : OpR X (compareOp .In) (rInN X false) := by
  intro pins s σ H x y v u Q I rx ry h
  obtain ⟨w, a, o, rfl, rfl, g, q⟩ := h
  cases ry
  exact look_in hr I g rx fun s' I' => ⟨.bl _, _, I', rfl, by simpa using q⟩
theorem op_notInN {k : Nat} (hr : Room k X.A) : OpR X (compareOp .NotIn) (rInN X true) := by
  intro pins s σ H x y v u Q I rx ry h
  obtain ⟨w, a, o, rfl, rfl, g, q⟩ := h
  cases ry
  exact look_notIn hr I g rx fun s' I' => ⟨.bl _, _, I', rfl, by simpa using q⟩
theorem op_inAll {k : Nat} (hr : Room k X.A) : OpR X (compareOp .In) (rInAll X false) := (op_inA hr).or (op_inN hr)
theorem op_notInAll {k : Nat} (hr : Room k X.A) : OpR X (compareOp .NotIn) (rInAll X true) := (op_notInA hr).or (op_notInN hr)
theorem sound_inA (neg : Bool) : Sound2 X.K (fInA neg) (rInAll X neg) := by
  intro w x y d u v st' Q ok rx ry h hk
  unfold fInA at h
  split at h
  · split at h
    · split at h
      · rename_i o ho
        cases h
        obtain ⟨a, h1, rfl⟩ := ry
        exact .inr ⟨w, a, o, rfl, rfl, look_at ok h1 ho rx, hk.at_ ok RelD.boolK⟩
      · exact .inl (sound_in neg w _ _ d u v st' Q ok rx ry h hk)
    · exact .inl (sound_in neg w _ _ d u v st' Q ok rx ry h hk)
  · exact .inl (sound_in neg w _ _ d u v st' Q ok rx ry h hk)
variable {pos : Pos} {a b : Expr} {ma mb : EM}
theorem pd_inD {k : Nat} (hr : Room k X.A) (ha : PDE X a ma) (hb : PDE X b mb) (hm : behindInMarks .In b = false := by rfl) : PDE X (.Compare a [.In] [b] pos) (mBin (fInA false) ma mb) := pd_cmp (op_inAll hr) (sound_inA false) ha hb hm
theorem pd_notinD {k : Nat} (hr : Room k X.A) (ha : PDE X a ma) (hb : PDE X b mb) (hm : behindInMarks .NotIn b = false := by rfl) : PDE X (.Compare a [.NotIn] [b] pos) (mBin (fInA true) ma mb) := pd_cmp (op_notInAll hr) (sound_inA true) ha hb hm
theorem pt_inD {k : Nat} (hr : Room k X.A) (ha : PDE X a ma) (hb : PDE X b mb) (hm : behindInMarks .In b = false := by rfl) : PDT X (.Compare a [.In] [b] pos) (mB (mBin (fInA false) ma mb)) := pt_cmpD (op_inAll hr) (sound_inA false) ha hb hm
theorem pt_notinD {k : Nat} (hr : Room k X.A) (ha : PDE X a ma) (hb : PDE X b mb) (hm : behindInMarks .NotIn b = false := by rfl) : PDT X (.Compare a [.NotIn] [b] pos) (mB (mBin (fInA true) ma mb)) := pt_cmpD (op_notInAll hr) (sound_inA true) ha hb hm
end

/-! ### d.get(k, x) -/
def isDct (mo : Option (Option MO)) : Bool := match mo with
  | some (some (.dct _)) => true
  | some (some (.dcn _)) => true
  | _ => false
def mGet2 (mo mk mz : EM) : EM := fun s st => match mo s st with
  | some (.r n, s1) => if isDct s1[n]? then (match mk s s1 with
    | some (.d k, s2) => (match mz s s2 with
      | some (z, s3) => (match dget s3[n]? k with
        | some (some x) => some (.d x, s3)
        | some none => some (z, s3)
        | none => none)
      | none => none)
    | _ => none) else none
  | _ => none
/-- a is a dict -/
def IsDX (H : Hp) (a : Addr) : Prop := IsD H a ∨ ∃ es, H a = some (rawD a es) ∧ (a == sysModules) = false
theorem isDX_at {X : Cx} {pins : List (Addr × Obj)} {σ : L2.St} {H : Hp} {s : Shared} {a : Addr} (I : Inv X pins σ H s) (h : IsDX H a) : s.TypeIs (.ref a) "dict" ∧ (∀ b, Value.ref a = .ref b → ∃ ob, s.heap.get? b = some ob ∧ ob.dict = none) ∧ (a == sysModules) = false := by
  rcases h with h | ⟨es, e, hs⟩
  · exact isD_at I h
  · obtain ⟨ob, ep, h1, h2, h3⟩ := raw_at I e
    refine ⟨⟨ob, h1, h2.1⟩, fun b q => ?_, hs⟩
    cases q
    exact ⟨ob, h1, h2.2.1⟩
theorem isDX_of {K : PySem.W.Frag} {w : Wd} (ok : w.Ok K) {n : Nat} {a : Addr} (ha : w.as[n]? = some a) (h : isDct w.st[n]? = true) : IsDX w.H a := by
  unfold isDct at h
  split at h
  · rename_i kvs hn
    obtain ⟨o, e, kvs', e2, _⟩ := ok.ob n a _ ha hn
    subst e2
    exact .inl (.inl ⟨kvs', .inl e⟩)
  · rename_i kvs hn
    obtain ⟨o, e, es, xs, e2, m⟩ := ok.ob n a _ ha hn
    subst e2
    exact .inr ⟨es, e, m.1⟩
  · cases h
def tG2 (X : Cx) (td ty tx : TE) : TE := fun σ H Q => td σ H fun x H1 => ∃ a, x = .ref a ∧ IsDX H1 a ∧ ty σ H1 fun y H2 => tx σ H2 fun z H3 => ∃ (w : Wd) (o : Option PyData), w.H = H3 ∧ LookAt X w a y o X.A ∧
  ∀ v, ((∃ d, o = some d ∧ RelP X.K w.L w.H d v) ∨ (o = none ∧ v = z)) → Q v H3
section
variable {X : Cx} {o e f : Expr} {mo mk mz : EM} {apos cpos : Pos} {k : Nat} {td ty tx : TE}
theorem pe_g2 (hr : Room k X.A) (ho : PE X o td) (he : PE X e ty) (hf : PE X f tx) (m : M2 X o "get" apos e f cpos) : PE X (.Call (.Attribute o "get" apos) [e, f] [] cpos) (tG2 X td ty tx) := by
  refine ⟨fun pins s σ H Q I h => ?_⟩
  refine wpAny_Call_method m.base m.few m.line PySem.F.plainAttrs_dict PySem.F.slot_dict_get PySem.F.type_dict_get (thn (ho.run pins s σ H _ I h) fun u s1 ⟨x, H1, I1, rx, a, ex, d, q1⟩ => ?_)
  subst ex
  obtain rfl : u = Value.ref a := rx
  obtain ⟨t1, t2, _⟩ := isDX_at I1 d
  refine ⟨t1, t2, ?_⟩
  rw [m.trees]
  refine Calls.callWith_builtin rfl (Calls.evalArgs_plain (Calls.spliced_cons (thn (he.run pins s1 σ H1 _ I1 q1) fun iv s2 ⟨y, H2, I2, ry, q2⟩ =>
    Calls.spliced_cons (thn (hf.run pins s2 σ H2 _ I2 q2) fun fv s3 ⟨z, H3, I3, rz, w, o, eH, g, q3⟩ => Calls.spliced_nil ?_))))
  subst eH
  exact look_get2 hr I3 g ry rz fun v w' s4 hv I4 r4 => ⟨v, _, I4, r4, q3 v hv⟩
theorem pd_get2 (hr : Room k X.A) (ho : PDE X o mo) (he : PDE X e mk) (hf : PDE X f mz) (m : M2 X o "get" apos e f cpos := by exact ⟨rfl, rfl, rfl, rfl⟩) : PDE X (.Call (.Attribute o "get" apos) [e, f] [] cpos) (mGet2 mo mk mz) :=
  PE.imp (pe_g2 hr ho he hf m) fun σ H Q h => by
    obtain ⟨w, s', d, st', rfl, ok, re, hm, hk⟩ := h
    unfold mGet2 at hm
    split at hm
    · rename_i n s1 e1
      split at hm
      · rename_i hd
        split at hm
        · rename_i kd s2 e2
          split at hm
          · rename_i z s3 e3
            refine ⟨w, s', _, _, rfl, ok, re, e1, fun u w1 q1 l1 ok1 r1 => ?_⟩
            subst q1
            obtain ⟨a, h1, rfl⟩ := r1
            refine ⟨a, rfl, isDX_of ok1 h1 hd, w1, s', _, _, rfl, ok1, re.mono l1, e2, fun y w2 q2 l2 ok2 r2 => ?_⟩
            subst q2
            refine ⟨w2, s', _, _, rfl, ok2, (re.mono l1).mono l2, e3, fun zv w3 q3 l3 ok3 r3 => ?_⟩
            subst q3
            have hk3 := hk.le ((l1.trans l2).trans l3)
            have h3 := l3.at_ (l2.at_ h1)
            have rk := RelP.mono l3.ext _ _ r2
            split at hm
            · rename_i x ho
              cases hm
              refine ⟨w3, some x, rfl, look_at ok3 h3 ho rk, fun v hv => ?_⟩
              rcases hv with ⟨d, e, r⟩ | ⟨e, _⟩
              · cases e; exact hk3.at_ ok3 r
              · cases e
            · rename_i ho
              cases hm
              refine ⟨w3, none, rfl, look_at ok3 h3 ho rk, fun v hv => ?_⟩
              rcases hv with ⟨d, e, r⟩ | ⟨_, e⟩
              · cases e
              · subst e; exact hk3.at_ ok3 r3
            · cases hm
          · cases hm
        · cases hm
      · cases hm
    · cases hm
end

/-! ### o[i] = e -/
/-- what is written at a place of a list, or of a dict -/
def putO (mo : Option (Option MO)) (i x : PyData) : Option MO := match mo with
  | some (some (.lst xs)) => (match i with
    | .int j => (match ixN xs.length j with
      | some j => some (.lst (xs.set j x))
      | none => none)
    | _ => none)
  | mo => dput mo i x
theorem putO_ok {X : Cx} {w : Wd} {n : Nat} {a : Addr} {kd vd : PyData} {y v : V} {mo : MO} (ok : w.Ok X.K) (ha : w.as[n]? = some a) (h : putO w.st[n]? kd vd = some mo) (rk : RelP X.K w.L w.H kd y) (rv : RelP X.K w.L w.H vd v) {Q : Hp → Prop}
    (hq : ∀ w' : Wd, w'.st = w.st.set n (some mo) → w.Le w' → w'.Ok X.K → Q w'.H) {pins : List (Addr × Obj)} {σ : L2.St} {s : Shared} {k : Nat} {u r : Value} (hr : Room k X.A) (I : Inv X pins σ w.H s) (ry : L2.RelV y u) (rr : L2.RelV v r) :
    wpAny (model X.prog X.w) X.A (setItem (.ref a) u r) (fun _ s' => ∃ H', Inv X pins σ H' s' ∧ Q H') X.xe s := by
  unfold putO at h
  split at h
  · rename_i xs hn
    split at h
    · split at h
      · rename_i j hj
        cases h
        cases rk
        obtain ⟨vs, e4, r4⟩ := ok.lstAt ha hn
        obtain ⟨l5, ok5⟩ := ok.setLst (us := vs.set j v) ha hn (r4.set j rv)
        exact set_list pins s σ w.H (.ref a) (.int _) v (.ref a) u r Q I rfl ry rr ⟨a, vs, _, j, rfl, rfl, e4, by rw [r4.length]; exact hj, hq _ rfl l5 ok5⟩
      · cases h
    · cases h
  · exact put_at ok ha h rk rv hq hr I ry rr
def mPut (me mo mi : EM) : SM := fun s st => match me s st with
  | some (.d x, s1) => (match mo s s1 with
    | some (.r n, s2) => (match mi s s2 with
      | some (.d i, s3) => (match putO s3[n]? i x with
        | some ob => some (.nx s (s3.set n (some ob)))
        | none => none)
      | _ => none)
    | _ => none)
  | _ => none
/-- o[i] op= e -/
def mPutAug (f : F2) (mo mi me : EM) : SM := fun s st => match mo s st with
  | some (.r n, s1) => (match mi s s1 with
    | some (.d i, s2) => (match dget s2[n]? i with
      | some (some old) => (match me s s2 with
        | some (y, s3) => (match f (.d old) y s3 with
          | some (.d z, s4) => (match putO s4[n]? i z with
            | some ob => some (.nx s (s4.set n (some ob)))
            | none => none)
          | _ => none)
        | none => none)
      | _ => none)
    | _ => none)
  | _ => none
section
variable {X : Cx} {pos tpos : Pos} {o i e : Expr} {me mo mi : EM} {k : Nat}
theorem ps_putD (hr : Room k X.A) (he : PDE X e me) (ho : PDE X o mo) (hi : PDE X i mi) (hs : swapsWith e (some (.Subscript o i tpos)) pos.line X.env = pure false := by rfl) : PDS X (.Assign [.Subscript o i tpos] e pos) (mPut me mo mi) := by
  refine ⟨fun pins s σ H D I h => ?_⟩
  obtain ⟨w, s', r, rfl, ok, re, hm, hk⟩ := h
  unfold mPut at hm
  split at hm
  · rename_i x s1 e1
    split at hm
    · rename_i n s2 e2
      split at hm
      · rename_i iv s3 e3
        split at hm
        · rename_i ob hob
          cases hm
          have step : LiftE X.K me σ w.H fun v H1 => LiftE X.K mo σ H1 fun ov H2 => LiftE X.K mi σ H2 fun iw H3 => ∃ (w3 : Wd) (a : Addr), w3.H = H3 ∧ w3.st = s3 ∧ w.Le w3 ∧ w3.Ok X.K ∧ RelE X.K w3 s' σ ∧ ov = .ref a ∧ w3.as[n]? = some a ∧ RelP X.K w3.L w3.H iv iw ∧ RelP X.K w3.L w3.H x v := by
            refine ⟨w, s', _, _, rfl, ok, re, e1, fun v w1 q1 l1 ok1 r1 => ?_⟩
            subst q1
            refine ⟨w1, s', _, _, rfl, ok1, re.mono l1, e2, fun ov w2 q2 l2 ok2 r2 => ?_⟩
            subst q2
            refine ⟨w2, s', _, _, rfl, ok2, (re.mono l1).mono l2, e3, fun iw w3 q3 l3 ok3 r3 => ?_⟩
            obtain ⟨a, h1, rfl⟩ := r2
            exact ⟨w3, a, rfl, q3, (l1.trans l2).trans l3, ok3, ((re.mono l1).mono l2).mono l3, rfl, l3.at_ h1, r3, RelP.mono (l2.trans l3).ext _ _ r1⟩
          refine wpAny_Assign_Subscript (thn (he.run pins s σ w.H _ I step) fun rv t1 ⟨v, H1, I1, rr, p1⟩ => thn (ho.run pins t1 σ H1 _ I1 p1) fun u t2 ⟨ov, H2, I2, rx, p2⟩ => thn (hi.run pins t2 σ H2 _ I2 p2) fun iw t3 ⟨y, H3, I3, ry, w3, a, z1, z2, z3, z4, z5, z6, z7, z8, z9⟩ => ?_) hs
          subst z1 z6
          obtain rfl : u = Value.ref a := rx
          subst z2
          exact thn (putO_ok z4 z7 hob z8 z9 (Q := fun H' => ∃ w' : Wd, w'.H = H' ∧ w'.st = w3.st.set n (some ob) ∧ w3.Le w' ∧ w'.Ok X.K) (fun w' y1 y2 y3 => ⟨w', rfl, y1, y2, y3⟩) hr I3 ry rr) fun _ t4 ⟨H4, I4, w4, y1, y2, y3, y4⟩ => by
            subst y1
            exact ⟨σ, _, I4, hk σ w4 y2 (z3.trans y3) y4 (z5.mono y3)⟩
        · cases hm
      · cases hm
    · cases hm
  · cases hm
theorem ps_putAugD {op : Operator} {f : F2} {t : TIp} (hr : Room k X.A) (ho : PDE X o mo) (hi : PDE X i mi) (he : PDE X e me) (hp : PIp X op t) (hf : SoundIp X.K f t)
    (ha : ∀ ov iv new, augStore i ov iv new = (do holding [new, ov, iv] (setItem ov iv new); release [new, ov, iv] []; pure .next) := by intros; rfl) : PDS X (.AugAssign (.Subscript o i tpos) op e pos) (mPutAug f mo mi me) := by
  refine ⟨fun pins s σ H D I h => ?_⟩
  obtain ⟨w, s', r, rfl, ok, re, hm, hk⟩ := h
  unfold mPutAug at hm
  split at hm
  · rename_i n s1 e1
    split at hm
    · rename_i iv s2 e2
      split at hm
      · rename_i old hold
        split at hm
        · rename_i y0 s3 e3
          split at hm
          · rename_i z s4 e4
            split at hm
            · rename_i ob hob
              cases hm
              have step : LiftE X.K mo σ w.H fun ov H1 => LiftE X.K mi σ H1 fun iw H2 => ∃ (w2 : Wd) (a : Addr), w2.H = H2 ∧ w2.st = s2 ∧ w.Le w2 ∧ w2.Ok X.K ∧ RelE X.K w2 s' σ ∧ ov = .ref a ∧ w2.as[n]? = some a ∧ RelP X.K w2.L w2.H iv iw := by
                refine ⟨w, s', _, _, rfl, ok, re, e1, fun ov w1 q1 l1 ok1 r1 => ?_⟩
                subst q1
                refine ⟨w1, s', _, _, rfl, ok1, re.mono l1, e2, fun iw w2 q2 l2 ok2 r2 => ?_⟩
                obtain ⟨a, h1, rfl⟩ := r1
                exact ⟨w2, a, rfl, q2, l1.trans l2, ok2, (re.mono l1).mono l2, rfl, l2.at_ h1, r2⟩
              refine wpAny_AugAssign_SubscriptAny (thn (ho.run pins s σ w.H _ I step) fun u t1 ⟨ov, H1, I1, rx, p1⟩ => thn (hi.run pins t1 σ H1 _ I1 p1) fun iw t2 ⟨yk, H2, I2, ry, w2, a, z1, z2, z3, z4, z5, z6, z7, z8⟩ => ?_) ha
              subst z1 z6
              obtain rfl : u = Value.ref a := rx
              subst z2
              refine look_getItem hr I2 (look_at z4 z7 hold z8) ry fun v w' t3 rv I3 r3 => ?_
              have step2 : LiftE X.K me σ w2.H fun y H3 => t v y H3 fun zv H4 => ∃ w4 : Wd, w4.H = H4 ∧ w4.st = s4 ∧ w2.Le w4 ∧ w4.Ok X.K ∧ RelP X.K w4.L w4.H z zv := by
                refine ⟨w2, s', _, _, rfl, z4, z5, e3, fun y w3 q3 l3 ok3 r4 => ?_⟩
                subst q3
                exact hf w3 (.d old) y0 (.d z) v y s4 _ ok3 (RelP.mono l3.ext _ _ rv) r4 e4 fun zv w4 q4 l4 ok4 r5 => ⟨w4, rfl, q4, l3.trans l4, ok4, r5⟩
              refine thn (he.run pins t3 σ w2.H _ I3 step2) fun ev t4 ⟨y, H3, I4, r4, p4⟩ => thn (hp pins t4 σ H3 v y w' ev _ I4 r3 r4 p4) fun nv t5 ⟨zv, H4, I5, r5, w4, y1, y2, y3, y4, y5⟩ => ?_
              subst y1
              subst y2
              exact thn (putO_ok y4 (y3.at_ z7) hob (RelP.mono y3.ext _ _ z8) y5 (Q := fun H' => ∃ w' : Wd, w'.H = H' ∧ w'.st = w4.st.set n (some ob) ∧ w4.Le w' ∧ w'.Ok X.K) (fun w' y1 y2 y3 => ⟨w', rfl, y1, y2, y3⟩) hr I5 ry r5) fun _ t6 ⟨H6, I6, w6, x1, x2, x3, x4⟩ => by
                subst x1
                exact ⟨σ, _, I6, hk σ w6 x2 ((z3.trans y3).trans x3) x4 (z5.mono (y3.trans x3))⟩
            · cases hm
          · cases hm
        · cases hm
      · cases hm
    · cases hm
  · cases hm
theorem ps_putAdd (hr : Room k X.A) (ho : PDE X o mo) (hi : PDE X i mi) (he : PDE X e me)
    (ha : ∀ ov iv new, augStore i ov iv new = (do holding [new, ov, iv] (setItem ov iv new); release [new, ov, iv] []; pure .next) := by intros; rfl) : PDS X (.AugAssign (.Subscript o i tpos) .Add e pos) (mPutAug fAddI mo mi me) := ps_putAugD hr ho hi he ip_add ip_addD ha
end
end PD

set_option Elab.async false
set_option linter.all false
set_option maxRecDepth 100000
set_option maxHeartbeats 4000000
/-! PDB: dict comprehensions, items, dict(pairs), isinstance of a dict, sorted -/
namespace PD
open PySem PySem.Spec PyProof.Rows L2

/-! ### the heap grows -/
theorem Wd.Ok.grow {K : PySem.W.Frag} {w : Wd} (ok : w.Ok K) {H' : Hp} (k : ∀ b o, w.H b = some o → H' b = some o) : w.Le ⟨w.as, w.st, H', w.ex⟩ ∧ Wd.Ok K ⟨w.as, w.st, H', w.ex⟩ := by
  have l : w.Le ⟨w.as, w.st, H', w.ex⟩ := ⟨⟨[], by simp⟩, fun b u e n => ⟨k b u e, n⟩, rfl, fun a ha => by
    obtain ⟨u, e⟩ := ok.xt a ha
    exact (k a u e).trans e.symm⟩
  refine ⟨l, ok.len, ok.nd, fun a ha => ?_, fun a ha => ?_, ok.xd, fun n a mo h1 h2 => ?_⟩
  · obtain ⟨u, e⟩ := ok.tr a ha
    exact ⟨u, k a u e⟩
  · obtain ⟨u, e⟩ := ok.xt a ha
    exact ⟨u, k a u e⟩
  · obtain ⟨u, e, m⟩ := ok.ob n a mo h1 h2
    exact ⟨u, k a u e, m.mono l⟩

/-! ### {k: v for ..} -/
def dcL (gm : GM) (t : TM) (mk me : EM) (g : Store → Bool) : List PyData → SE → Store → List (Key × PyData) → Option (List (Key × PyData) × Store)
  | [], _, st, acc => if g st then some (acc, st) else none
  | d :: ds, s, st, acc => if g st then (match gm (.d d) s with
    | some s1 => (match t s1 st with
      | some (true, st1) => (match mk s1 st1 with
        | some (.d k, st2) => (match me s1 st2 with
          | some (.d x, st3) => (match toKey k with
            | some j => if decide (acc.length < 16777216) then dcL gm t mk me g ds s st3 (putP acc j x) else none
            | none => none)
          | _ => none)
        | _ => none)
      | some (false, st1) => dcL gm t mk me g ds s st1 acc
      | none => none)
    | none => none) else none
def mDc (vs : List Nat) (mi : IM) (gm : GM) (t : TM) (mk me : EM) : EM := fun s st => match mi s st with
  | some ((ds, g), st1) => (match dcL gm t mk me g ds (wipeS s vs) st1 [] with
    | some (kvs, st2) => some (.r st2.length, st2 ++ [some (.dct kvs)])
    | none => none)
  | none => none
theorem LiftE.dc {K : PySem.W.Frag} {vs us : List Nat} {mi : IM} {gm : GM} {t : TM} {mk me : EM} {σ : L2.St} {H : Hp} {Q : VK} (hus : ∀ j ∈ us, j ∈ vs) (h : LiftE K (mDc vs mi gm t mk me) σ H Q) : tDc (LiftI K mi) (LiftG K us gm) (LiftT K t) (LiftE K mk) (LiftE K me) vs σ H Q := by
  obtain ⟨w, s, d, st', rfl, ok, re, hm, hk⟩ := h
  unfold mDc at hm
  split at hm
  · rename_i ds g st1 e1
    split at hm
    · rename_i kvs st2 e2
      cases hm
      refine ⟨w, s, ds, g, st1, rfl, ok, re, e1, fun J w1 q1 l1 ok1 hJ D hD => ?_⟩
      subst q1
      refine ⟨fun i m H' => ∃ (w' : Wd) (acc : List (Key × V)) (ads : List (Key × PyData)), w'.H = H' ∧ w'.ex = D :: w1.ex ∧ w'.Ok K ∧ (∃ more, w'.as = w1.as ++ more) ∧ Ext w1.L w1.H w'.L w'.H ∧ (∀ a ∈ w1.ex, w'.H a = w1.H a) ∧
        w'.H D = some (.dK acc) ∧ RelK K w' ads acc ∧ m = ds.length - i ∧ i ≤ ds.length ∧ dcL gm t mk me g (ds.drop i) (wipeS s vs) w'.st ads = some (kvs, st2), ?_, ?_⟩
      · obtain ⟨l2, ok2⟩ := ok1.new (o := .dK []) hD
        have nD : ¬ w1.L D := ok1.newNot hD
        refine ⟨ds.length, ⟨w1.as, w1.st, upd w1.H D (.dK []), D :: w1.ex⟩, [], [], rfl, rfl, ⟨ok2.len, ok2.nd, ok2.tr, fun a ha => ?_, fun a ha => ?_, fun n a mo h1 h2 => ?_⟩, ⟨[], by simp⟩, fun b o e n => ⟨upd_keep hD e, fun z => ?_⟩, fun a ha => ?_, upd_same, rfl, rfl, Nat.zero_le _, by rw [List.drop_zero]; exact e2⟩
        · rcases List.mem_cons.mp ha with e | ha
          · subst e; exact ⟨_, upd_same⟩
          · exact ok2.xt a ha
        · rcases List.mem_cons.mp ha with e | ha
          · subst e; exact ok1.nomem hD
          · exact ok2.xd a ha
        · obtain ⟨o1, e1', m1⟩ := ok1.ob n a mo h1 h2
          have ha : a ≠ D := fun z => ok1.nomem hD (by rw [← z]; exact mem_of_get h1)
          refine ⟨o1, upd_keep hD e1', ?_⟩
          have ext : Ext w1.L w1.H (Wd.L ⟨w1.as, w1.st, upd w1.H D (.dK []), D :: w1.ex⟩) (upd w1.H D (.dK [])) := fun b u q n => ⟨upd_keep hD q, fun z => by
            rcases z with z | z
            · exact n (.inl z)
            · rcases List.mem_cons.mp z with z | z
              · subst z; rw [hD] at q; cases q
              · exact n (.inr z)⟩
          exact m1.monoX (w' := ⟨w1.as, w1.st, upd w1.H D (.dK []), D :: w1.ex⟩) ext (fun n a h => h)
        · rcases z with z | z
          · exact n (.inl z)
          · rcases List.mem_cons.mp z with z | z
            · subst z; rw [hD] at e; cases e
            · exact n (.inr z)
        · obtain ⟨u, q⟩ := ok1.xt a ha
          exact (upd_keep hD q).trans q.symm
      · rintro i m H2 ⟨w2, acc, ads, rfl, hex, ok2, hpre, hext, hxk, hacc, hr, rfl, hle, e3⟩
        have hDm : D ∈ w2.ex := by rw [hex]; exact List.mem_cons_self
        have lx2 : w1.Lx w2 := ⟨hpre, hext⟩
        by_cases hlt : i < ds.length
        · rw [drop_at hlt] at e3
          simp only [dcL] at e3
          split at e3
          · rename_i hgd
            split at e3
            · rename_i s3 e4
              refine .inr ⟨hJ.go i _ hlt lx2 ok2 hgd, fun H' => ∃ (w' : Wd) (acc : List (Key × V)) (ads : List (Key × PyData)), w'.H = H' ∧ w'.ex = D :: w1.ex ∧ w'.Ok K ∧ (∃ more, w'.as = w1.as ++ more) ∧ Ext w1.L w1.H w'.L w'.H ∧ (∀ a ∈ w1.ex, w'.H a = w1.H a) ∧
                  w'.H D = some (.dK acc) ∧ RelK K w' ads acc ∧ dcL gm t mk me g (ds.drop (i + 1)) (wipeS s vs) w'.st ads = some (kvs, st2),
                  fun H' ⟨w', acc', ads', a1, a2, a3, a4, a5, a6, a7, a8, a9⟩ => ⟨ds.length - (i + 1), by omega, w', acc', ads', a1, a2, a3, a4, a5, a6, a7, a8, rfl, hlt, a9⟩, fun x H' y => ?_⟩
              obtain ⟨d, w3, hd, rfl, hst, l3, ok3, rd⟩ := hJ.yld i w2 x H' hlt lx2 ok2 hgd y
              rw [List.getElem?_eq_getElem hlt] at hd
              cases hd
              have re3 : RelE K w3 (wipeS s vs) (wipe σ vs) := (wipe_rel (re.mono l1) vs).monoX (lx2.trans l3.x)
              refine ⟨w3, wipeS s vs, .d ds[i], s3, rfl, ok3, re3, rd, e4, fun σ3 re3' hj hl => ?_⟩
              refine ⟨wipe_wipe (fun j hj' => hj j fun z => hj' (hus j z)) hl, ?_⟩
              rw [← hst] at e3
              have at3 : ∀ w4 : Wd, w3.Le w4 → w4.ex = D :: w1.ex ∧ w4.H D = some (.dK acc) ∧ w1.Lx w4 ∧ (∀ a ∈ w1.ex, w4.H a = w1.H a) ∧ RelK K w4 ads acc := fun w4 l4 => by
                have hx3 : w3.ex = D :: w1.ex := l3.xq.trans hex
                refine ⟨l4.xq.trans hx3, ?_, lx2.trans (l3.x.trans l4.x), fun a ha => ?_, hr.mono (l3.trans l4).ext⟩
                · rw [(l3.trans l4).xk D hDm]; exact hacc
                · rw [(l3.trans l4).xk a (by rw [hex]; exact List.mem_cons_of_mem _ ha)]; exact hxk a ha
              split at e3
              · rename_i st4 e5
                refine ⟨w3, s3, true, st4, rfl, ok3, re3', e5, fun w4 q4 l4 ok4 => ?_⟩
                subst q4
                refine iteT ?_
                split at e3
                · rename_i k0 st5 e6
                  refine ⟨w4, s3, _, st5, rfl, ok4, re3'.mono l4, e6, fun yk w5 q5 l5 ok5 r5 => ?_⟩
                  subst q5
                  split at e3
                  · rename_i x0 st6 e7
                    refine ⟨w5, s3, _, st6, rfl, ok5, (re3'.mono l4).mono l5, e7, fun yv w6 q6 l6 ok6 r6 => ?_⟩
                    subst q6
                    split at e3
                    · rename_i j hj
                      split at e3
                      · rename_i hz
                        obtain ⟨c1, c2, c3, c4, c5⟩ := at3 w6 ((l4.trans l5).trans l6)
                        have hD6 : D ∈ w6.ex := by rw [c1]; exact List.mem_cons_self
                        obtain ⟨ok7, l7, k7⟩ := ok6.writeX (o := .dK (putK acc j yv)) hD6
                        refine ⟨acc, j, toKey_rel hj (RelP.mono l6.ext _ _ r5), c2, by rw [c5.length, sizeLine_eq]; exact of_decide_eq_true hz, ⟨w6.as, w6.st, upd w6.H D (.dK (putK acc j yv)), w6.ex⟩, putK acc j yv, putP ads j x0, rfl, c1, ok7, (c3.trans l7).pre, (c3.trans l7).ext, fun a ha => ?_, upd_same, ?_, e3⟩
                        · have nb : a ≠ D := fun z => by
                            subst z
                            obtain ⟨o, q⟩ := ok1.xt a ha
                            rw [hD] at q; cases q
                          exact (upd_ne nb).trans (c4 a ha)
                        · exact RelK.mono (w' := ⟨w6.as, w6.st, upd w6.H D (.dK (putK acc j yv)), w6.ex⟩) l7.ext (c5.put r6)
                      · cases e3
                    · cases e3
                  · cases e3
                · cases e3
              · rename_i st4 e5
                refine ⟨w3, s3, false, st4, rfl, ok3, re3', e5, fun w4 q4 l4 ok4 => ?_⟩
                subst q4
                refine iteF ?_
                obtain ⟨c1, c2, c3, c4, c5⟩ := at3 w4 l4
                exact ⟨w4, acc, ads, rfl, c1, ok4, c3.pre, c3.ext, c4, c2, c5, e3⟩
              · cases e3
            · cases e3
          · cases e3
        · have e : i = ds.length := by omega
          subst e
          rw [List.drop_length] at e3
          simp only [dcL] at e3
          split at e3
          · rename_i hgd
            cases e3
            refine .inl ⟨hJ.stop w2 lx2 ok2 hgd, ?_⟩
            -- D becomes a mutable object
            have nDa : D ∉ w2.as := ok2.xd D hDm
            have sub : ∀ b, Wd.L ⟨w2.as ++ [D], w2.st ++ [some (.dct kvs)], w2.H, w1.ex⟩ b → w2.L b := fun b z => by
              rcases z with ⟨n, mo, z1, z2⟩ | z
              · have z1 : (w2.as ++ [D])[n]? = some b := z1
                have z2 : (w2.st ++ [some (.dct kvs)])[n]? = some (some mo) := z2
                by_cases hn : n < w2.as.length
                · rw [List.getElem?_append_left hn] at z1
                  rw [List.getElem?_append_left (by rw [← ok2.len]; exact hn)] at z2
                  exact .inl ⟨n, mo, z1, z2⟩
                · have : n = w2.as.length := by
                    have := (List.getElem?_eq_some_iff.mp z1).1
                    simp at this
                    omega
                  subst this
                  have : D = b := by simpa using z1
                  subst this
                  exact .inr hDm
              · exact .inr (by rw [hex]; exact List.mem_cons_of_mem _ z)
            have ex3 : Ext w2.L w2.H (Wd.L ⟨w2.as ++ [D], w2.st ++ [some (.dct kvs)], w2.H, w1.ex⟩) w2.H := fun b o e n => ⟨e, fun z => n (sub b z)⟩
            have pre3 : ∀ (n : Nat) (a : Addr), w2.as[n]? = some a → (w2.as ++ [D])[n]? = some a := fun n a h => by
              rw [List.getElem?_append_left (List.getElem?_eq_some_iff.mp h).1]; exact h
            obtain ⟨more, em⟩ := hpre
            have okF : Wd.Ok K ⟨w2.as ++ [D], w2.st ++ [some (.dct kvs)], w2.H, w1.ex⟩ := by
              refine ⟨by simp [ok2.len], ?_, fun a ha => ?_, fun a ha => ok2.xt a (by rw [hex]; exact List.mem_cons_of_mem _ ha), fun a ha z => ?_, fun n a mo h1 h2 => ?_⟩
              · show (w2.as ++ [D]).Nodup
                rw [List.nodup_append]
                refine ⟨ok2.nd, by simp, fun a ha b hb e => ?_⟩
                have : b = D := by simpa using hb
                subst this
                subst e
                exact nDa ha
              · have ha : a ∈ w2.as ++ [D] := ha
                rcases List.mem_append.mp ha with ha | ha
                · exact ok2.tr a ha
                · have : a = D := by simpa using ha
                  subst this
                  exact ⟨_, hacc⟩
              · have z : a ∈ w2.as ++ [D] := z
                rcases List.mem_append.mp z with z | z
                · exact ok2.xd a (by rw [hex]; exact List.mem_cons_of_mem _ ha) z
                · have : a = D := by simpa using z
                  subst this
                  obtain ⟨o, q⟩ := ok1.xt a ha
                  rw [hD] at q; cases q
              · have h1 : (w2.as ++ [D])[n]? = some a := h1
                have h2 : (w2.st ++ [some (.dct kvs)])[n]? = some (some mo) := h2
                by_cases hn : n < w2.as.length
                · rw [List.getElem?_append_left hn] at h1
                  rw [List.getElem?_append_left (by rw [← ok2.len]; exact hn)] at h2
                  obtain ⟨o, e, m⟩ := ok2.ob n a mo h1 h2
                  exact ⟨o, e, m.monoX (w' := ⟨w2.as ++ [D], w2.st ++ [some (.dct kvs)], w2.H, w1.ex⟩) ex3 pre3⟩
                · have : n = w2.as.length := by
                    have := (List.getElem?_eq_some_iff.mp h1).1
                    simp at this
                    omega
                  subst this
                  have ea : D = a := by simpa using h1
                  subst ea
                  rw [ok2.len] at h2
                  have em : MO.dct kvs = mo := by simpa using h2
                  subst em
                  exact ⟨_, hacc, acc, rfl, RelK.mono (w' := ⟨w2.as ++ [D], w2.st ++ [some (.dct kvs)], w2.H, w1.ex⟩) ex3 hr⟩
            refine hk (.ref D) ⟨w2.as ++ [D], w2.st ++ [some (.dct kvs)], w2.H, w1.ex⟩ rfl (l1.trans ⟨⟨more ++ [D], ?_⟩, hext.trans ex3, rfl, hxk⟩) okF ⟨D, ?_, rfl⟩
            · show w2.as ++ [D] = w1.as ++ (more ++ [D])
              rw [em, List.append_assoc]
            · show (w2.as ++ [D])[w2.st.length]? = some D
              rw [← ok2.len]
              simp
          · cases e3
    · cases hm
  · cases hm
section
variable {X : Cx} {kx vx tg iter : Expr} {ifs : List Expr} {scope : Scope} {own : List (Str × Nat)} {pos : Pos} {mi : IM} {us : List Nat} {gm : GM} {t : TM} {mk me : EM}
theorem pd_dc (hc : X.calm = true) (hN : X.N.Nodup) (own : List (Str × Nat)) (hi : PDI X tg iter mi) (ok : blkC X.N X.env.scope scope own = true)
    (hg : ∀ (s : Shared) (H : Hp) (C : Addr) (cl : List (Str × Addr)) (fp : List Addr), PDG (X.blk s H scope (compEnvC scope cl C X.env) fp) tg us gm) (ht : ∀ (s : Shared) (H : Hp) (C : Addr) (cl : List (Str × Addr)) (fp : List Addr), PDTs (X.blk s H scope (compEnvC scope cl C X.env) fp) ifs t)
    (hk : ∀ (s : Shared) (H : Hp) (C : Addr) (cl : List (Str × Addr)) (fp : List Addr), PDE (X.blk s H scope (compEnvC scope cl C X.env) fp) kx mk)
    (he : ∀ (s : Shared) (H : Hp) (C : Addr) (cl : List (Str × Addr)) (fp : List Addr), PDE (X.blk s H scope (compEnvC scope cl C X.env) fp) vx me) (hus : ∀ j ∈ us, j ∈ own.map (·.2) := by decide) (hs : ∀ x, foldedSetIterable iter X.env x = pure x := by intro _; rfl) :
    PDE X (.DictComp kx vx [⟨tg, iter, ifs, 0⟩] scope pos) (mDc (own.map (·.2)) mi gm t mk me) := PE.imp (pe_dc hc hN hi (blkOk_by ok) hg ht hk he hs) fun σ H Q h => LiftE.dc hus h
end
end PD

set_option Elab.async false
set_option linter.all false
set_option maxRecDepth 100000
set_option maxHeartbeats 4000000
/-! PDC: items, dict(pairs), isinstance of a dict, sorted -/
namespace PD
open PySem PySem.Spec PyProof.Rows L2

/-! ### list(d.items()) of a dict whose keys are tuples -/
def putV : Hp → List Addr → List (V × V) → Hp
  | H, a :: as, p :: kvs => putV (upd H a (.tup [p.1, p.2])) as kvs
  | H, _, _ => H
theorem putV_off {b : Addr} : ∀ (as : List Addr) (kvs : List (V × V)) (H : Hp), b ∉ as → putV H as kvs b = H b
  | [], _, _, _ => rfl
  | _ :: _, [], _, _ => rfl
  | a :: as, p :: kvs, H, h => by
    show putV (upd H a (.tup [p.1, p.2])) as kvs b = H b
    rw [putV_off as kvs _ (fun z => h (List.mem_cons_of_mem _ z)), upd_ne (fun z => h (by rw [z]; exact List.mem_cons_self))]
theorem putV_at : ∀ (as : List Addr) (kvs : List (V × V)) (H : Hp), as.length = kvs.length → as.Nodup → Paired (fun (t : Addr) (p : V × V) => putV H as kvs t = some (.tup [p.1, p.2])) as kvs
  | [], [], _, _, _ => .nil
  | [], _ :: _, _, h, _ => by cases h
  | _ :: _, [], _, h, _ => by cases h
  | a :: as, p :: kvs, H, h, hn => by
    have hn' := List.nodup_cons.mp hn
    have ih := putV_at as kvs (upd H a (.tup [p.1, p.2])) (Nat.succ.inj h) hn'.2
    refine .cons ?_ ih
    show putV (upd H a (.tup [p.1, p.2])) as kvs a = some (.tup [p.1, p.2])
    rw [putV_off as kvs _ hn'.1, upd_same]
abbrev EV : List (V × V) → List DictEntry → Prop := Paired fun (p : V × V) (e : DictEntry) => L2.RelV p.1 e.key ∧ L2.RelV p.2 e.val
section
variable {X : Cx} {e : Expr} {te : TE} {p apos cpos pos : Pos}
theorem items_laidN {pins : List (Addr × Obj)} {σ : L2.St} {H : Hp} {s : Shared} {h' : Heap} {tk : Nat} {ps : List (V × V)} {es : List DictEntry} {acc : Array Value} {c : Nat} {as : List Addr} (I : Inv X pins σ H s) (hz : ps.length ≤ sizeLine) (kv : EV ps es)
    (hk : ∀ b o, s.heap.get? b = some o → h'.get? b = some o) (hS : h'.get? s.heap.objs.size = some { cls := .type "list", dict := none, data := .seq acc c, slots := #[] }) (hl : as.length = es.length) (hG : PySem.W.DilG es.toArray s.heap.objs.size h' as) (hacc : acc.toList = as.map Value.ref) :
    ∃ H' : Hp, (∀ b o, H b = some o → H' b = some o) ∧ H s.heap.objs.size = none ∧ (∀ t ∈ as, H t = none) ∧ s.heap.objs.size ∉ as ∧ H' s.heap.objs.size = some (.lst (as.map V.ref)) ∧ Paired (fun (t : Addr) (q : V × V) => H' t = some (.tup [q.1, q.2])) as ps ∧ Inv X pins σ H' { s with heap := h', toks := tk } := by
  have lk : ps.length = es.length := Paired.length kv
  have hSn : s.heap.objs.size ∉ as := fun z => Nat.lt_irrefl _ (hG.above _ z)
  have nd : as.Nodup := List.Pairwise.imp (fun {a b} (h : a < b) => Nat.ne_of_lt h) hG.rise
  have new : ∀ t ∈ as, H t = none := fun t ht => I.hok.fresh (Nat.le_of_lt (hG.above t ht))
  have newS : H s.heap.objs.size = none := I.hok.fresh (Nat.le_refl _)
  have atP := putV_at as ps (upd H s.heap.objs.size (.lst (as.map V.ref))) (by omega) nd
  have off : ∀ b, b ∉ as → b ≠ s.heap.objs.size → putV (upd H s.heap.objs.size (.lst (as.map V.ref))) as ps b = H b := fun b h1 h2 => by rw [putV_off as ps _ h1, upd_ne h2]
  have low : ∀ b o, s.heap.get? b = some o → b ∉ as ∧ b ≠ s.heap.objs.size := fun b o e => ⟨fun z => absurd (Heap.lt_size e) (Nat.not_lt.mpr (Nat.le_of_lt (hG.above b z))), Nat.ne_of_lt (Heap.lt_size e)⟩
  have kp : ∀ b u, H b = some u → (putV (upd H s.heap.objs.size (.lst (as.map V.ref))) as ps) b = some u := fun b u e => by
    rw [off b (fun z => by rw [new b z] at e; cases e) (fun z => by rw [z, newS] at e; cases e)]
    exact e
  have eS : putV (upd H s.heap.objs.size (.lst (as.map V.ref))) as ps s.heap.objs.size = some (.lst (as.map V.ref)) := by rw [putV_off as ps _ hSn, upd_same]
  refine ⟨putV (upd H s.heap.objs.size (.lst (as.map V.ref))) as ps, kp, newS, new, hSn, eS, atP, ?_⟩
  refine I.call' (ch := []) rfl ⟨fun b o q _ _ _ => hk b o q, fun b o q _ _ _ => ⟨o.slots, hk b o q⟩, fun b o q n _ => ?_, fun b o q _ => ⟨o, hk b o q⟩, fun b xs q => kp b _ q, fun b o u q => kp b _ q, fun b ps' q => ⟨#[], by rw [kp b _ q]; simp⟩⟩ (fun b u q => ?_) I.bare fun b z => by simp at z
  · obtain ⟨z1, z2⟩ := low b o q
    rw [off b z1 z2]
    exact n
  · by_cases hb : b ∈ as
    · obtain ⟨j, pk, e1, e2, e3⟩ := LiI.paired_ix atP hb
      rw [e3] at q
      cases q
      obtain ⟨hj, f3⟩ := hG.pairs j b e1
      obtain ⟨qv, g1, g2, g3⟩ := LiI.paired_get kv e2
      have hj2 : j < es.length := by simpa using hj
      rw [List.getElem?_eq_getElem hj2] at g1
      have g1 := Option.some.inj g1
      subst g1
      refine ⟨by show 2 ≤ sizeLine; decide, [es[j].key, es[j].val], .cons g2 (.cons g3 .nil), ⟨_, f3, rfl, _, by simp; rfl⟩⟩
    · by_cases hb2 : b = s.heap.objs.size
      · rw [hb2] at q ⊢
        rw [eS] at q
        cases q
        refine ⟨by rw [List.length_map]; omega, acc.toList, c, by rw [hacc]; exact LiI.vals_refs as, ?_⟩
        rw [Array.toArray_toList]
        exact hS
      · rw [off b hb hb2] at q
        exact (I.hok b u q).stay (fun d v _ y => hk d v y) (fun d y => kp d _ y) fun d xs y => kp d _ y
def rItemsN : V → Hp → VK → Prop := fun x H Q => ∃ (d : Addr) (es : List DictEntry) (ps : List (V × V)), x = .ref d ∧ H d = some (rawD d es) ∧ (d == sysModules) = false ∧ ps.length ≤ sizeLine ∧ EV ps es ∧
  ∀ (H' : Hp) (p : Addr) (ts : List Addr), (∀ b o, H b = some o → H' b = some o) → H p = none → (∀ t ∈ ts, H t = none) → p ∉ ts → H' p = some (.lst (ts.map V.ref)) → Paired (fun (t : Addr) (q : V × V) => H' t = some (.tup [q.1, q.2])) ts ps → Q (.ref p) H'
theorem pe_listItemsN (hc : X.calm = true) (he : PE X e te) (hg : Gl X "list") (hm : X.mg "list" = none) (hv : bootBuiltins "list" = some (.type "list")) (hbase : attributeBase e "items" X.env (eval e X.env) = eval e X.env := by rfl) (hline : (apos.endLine == cpos.line) = true := by rfl)
    (hs : starEach [.Call (.Attribute e "items" apos) [] [] cpos] X.env = (false, eval (.Call (.Attribute e "items" apos) [] [] cpos) X.env) :: starEach [] X.env := by rfl) :
    PE X (.Call (.Name "list" p) [.Call (.Attribute e "items" apos) [] [] cpos] [] pos) (fun σ H Q => te σ H fun x H1 => rItemsN x H1 Q) := by
  refine ⟨fun pins s σ H Q I hq => ?_⟩
  refine wpAny_Call_Name_kw (ld_blt I hg hm hv ?_)
  refine PyProof.Rows.callWith_type1 ?_ hs rfl
  rw [hs]
  show wpAny _ _ (spliced ((false, eval (.Call (.Attribute e "items" apos) [] [] cpos) X.env) :: backTo pos (starEach [] X.env))) _ _ s
  refine Calls.spliced_cons ?_
  refine wpAny_Call_method (T := "dict") (id := "dict.items") hbase rfl hline F.plainAttrs_dict F.slot_dict_items F.type_dict_items (thn (he.run pins s σ H _ I hq) fun u s1 ⟨x, H1, I1, rx, d, es, ps, ex, hd, hs0, hz, kv, q⟩ => ?_)
  subst ex
  obtain rfl : u = Value.ref d := rx
  obtain ⟨ob, ep, h1, h2, h3⟩ := raw_at I1 hd
  have hraw : s1.heap.DictRaw d es.toArray ep := ⟨ob, h1, h2, h3⟩
  have lk : ps.length = es.length := Paired.length kv
  have I2 : Inv X pins σ H1 { s1 with heap := s1.heap.push { cls := .type "dict_items", data := .fields #[.ref d] } } := I1.kept (t' := s1.toks) fun b ob q => Heap.get?_push_of_some _ q
  refine ⟨hraw.typeIs, fun b q => by cases q; exact ⟨ob, h1, h2.2.1⟩, ?_⟩
  show wpAny _ _ (callWith cpos (.builtin "dict.items") [.ref d] [] []) _ X.xe s1
  refine method_meetsIn F.slot_dict_items F.entry_dict_items rfl (PySem.evalArgs_none ⟨rfl, hraw.typeIs, F.args_dict_items_1 _, _, meets_dict_items_raw d hs0, ⟨es.toArray, ep, hraw⟩, ?_⟩)
  refine Calls.spliced_nil ?_
  refine PySem.W.dil_call (es := es.toArray) (ep := ep) (I1.ok.hd hc) ⟨_, Heap.get?_push_size _ rfl, rfl, rfl⟩ (hraw.at fun o e => Heap.get?_push_of_some _ e) (by simp; omega) fun h' tk acc c as hk hS hl hG hacc => ?_
  obtain ⟨H', k1, k2, k3, k4, k5, k6, J⟩ := items_laidN (tk := tk) I2 hz kv hk hS (by simpa using hl) hG hacc
  exact ⟨.ref _, H', J, rfl, q H' _ as k1 k2 k3 k4 k5 k6⟩
end
/-- as data -/
def keyD : Key → PyData
  | .inl i => .int i
  | .inr z => .str z
def itemsP (kvs : List (Key × PyData)) : List PyData := kvs.map fun kv => .tuple [keyD kv.1, kv.2]
def itemsN (kvs : List (PyData × PyData)) : List PyData := kvs.map fun kv => .tuple [kv.1, kv.2]
def mItems (m : EM) : EM := fun s st => match m s st with
  | some (.r n, s1) => (match s1[n]? with
    | some (some (.dct kvs)) => ret (.list (itemsP kvs)) s1
    | some (some (.dcn kvs)) => ret (.list (itemsN kvs)) s1
    | _ => none)
  | _ => none
section
variable {K : PySem.W.Frag} {w : Wd}
theorem RelN.ev : ∀ {kvs : List (PyData × PyData)} {xs : List (NestedKey × Addr × Value)}, RelN K w kvs xs → ∃ ps : List (V × V), (∀ (P : Program) (W : World), EV ps (xs.map (entryOfKey (nestedKind P W)))) ∧ Paired (fun (q : V × V) (kv : PyData × PyData) => RelP K w.L w.H kv.1 q.1 ∧ RelP K w.L w.H kv.2 q.2) ps kvs
  | [], _, h => by cases h; exact ⟨[], fun _ _ => .nil, .nil⟩
  | (kd, vd) :: r, xs, h => by
    simp only [RelN] at h
    obtain ⟨k', b', u', v', xr, rfl, h1, h2, h3, h4, h5, h6, h8⟩ := h
    obtain ⟨ps, p1, p2⟩ := RelN.ev h8
    exact ⟨(.ref b', v') :: ps, fun P W => .cons ⟨rfl, h6⟩ (p1 P W), .cons ⟨h4, h5⟩ p2⟩
/-- the pairs that were laid, as data -/
theorem pairs_data {w' : Wd} (l : w.Le w') {nl : ∀ t, w.H t = none → ¬ w'.L t} : ∀ {ts : List Addr} {ps : List (V × V)} {ds : List (PyData × PyData)}, Paired (fun (t : Addr) (q : V × V) => w'.H t = some (.tup [q.1, q.2])) ts ps → (∀ t ∈ ts, w.H t = none) →
    Paired (fun (q : V × V) (kv : PyData × PyData) => RelP K w.L w.H kv.1 q.1 ∧ RelP K w.L w.H kv.2 q.2) ps ds → RelPs K w'.L w'.H (ds.map fun kv => .tuple [kv.1, kv.2]) (ts.map V.ref)
  | [], ps, ds, h, _, h' => by
    cases h
    cases h'
    rfl
  | t :: ts, ps, ds, h, hn, h' => by
    cases h with
    | cons h1 t1 =>
      cases h' with
      | cons h2 t2 =>
        rename_i q _ kv _
        simp only [List.map_cons, RelPs]
        refine ⟨.ref t, _, rfl, ?_, pairs_data l (nl := nl) t1 (fun t' h => hn t' (List.mem_cons_of_mem _ h)) t2⟩
        simp only [RelP]
        exact ⟨t, [q.1, q.2], rfl, .inl ⟨nl t (hn t List.mem_cons_self), .inl h1⟩, ⟨q.1, [q.2], rfl, RelP.mono l.ext _ _ h2.1, ⟨q.2, [], rfl, RelP.mono l.ext _ _ h2.2, rfl⟩⟩⟩
theorem RelK.ev : ∀ {kvs : List (Key × PyData)} {kvs' : List (Key × V)}, RelK K w kvs kvs' → Paired (fun (q : V × V) (kv : PyData × PyData) => RelP K w.L w.H kv.1 q.1 ∧ RelP K w.L w.H kv.2 q.2) (kvs'.map fun kv => (kV kv.1, kv.2)) (kvs.map fun kv => (keyD kv.1, kv.2))
  | [], _, h => by cases h; exact .nil
  | (k, d) :: r, vs, h => by
    simp only [RelK] at h
    obtain ⟨v, vr, rfl, h2, h3⟩ := h
    refine .cons ⟨?_, h2⟩ (RelK.ev h3)
    cases k with
    | inl i => simp [keyD, RelP, kV]
    | inr z => simp [keyD, RelP, kV]
theorem paired_map {α β γ : Type} {F : α → γ → Prop} (f : β → γ) : ∀ {as : List α} {bs : List β}, Paired (fun a b => F a (f b)) as bs → Paired F as (bs.map f)
  | _, _, .nil => .nil
  | _, _, .cons h t => .cons h (paired_map f t)
end
section
variable {X : Cx} {e : Expr} {m : EM} {p apos cpos pos : Pos}
theorem items_fin {K : PySem.W.Frag} {w : Wd} {Q : VK} {st' : Store} {ds : List (PyData × PyData)} {ps : List (V × V)} (ok : w.Ok K) (hk : KE K w (.d (.list (ds.map fun kv => .tuple [kv.1, kv.2]))) w.st Q) (hp : Paired (fun (q : V × V) (kv : PyData × PyData) => RelP K w.L w.H kv.1 q.1 ∧ RelP K w.L w.H kv.2 q.2) ps ds)
    {H' : Hp} {p : Addr} {ts : List Addr} (h1 : ∀ b o, w.H b = some o → H' b = some o) (h2 : w.H p = none) (h3 : ∀ t ∈ ts, w.H t = none) (h4 : H' p = some (.lst (ts.map V.ref))) (h5 : Paired (fun (t : Addr) (q : V × V) => H' t = some (.tup [q.1, q.2])) ts ps) : Q (.ref p) H' := by
  obtain ⟨l, ok2⟩ := ok.grow h1
  have nl : ∀ t, w.H t = none → ¬ Wd.L ⟨w.as, w.st, H', w.ex⟩ t := fun t ht => ok.newNot ht
  refine hk (.ref p) ⟨w.as, w.st, H', w.ex⟩ rfl l ok2 ?_
  simp only [RelD, RelP]
  exact ⟨p, ts.map V.ref, rfl, ⟨nl p h2, h4⟩, pairs_data (w' := ⟨w.as, w.st, H', w.ex⟩) l (nl := nl) h5 h3 hp⟩
theorem pd_items (hc : X.calm = true) (he : PDE X e m) (hm : X.mg "list" = none) (hg : Gl X "list" := by rfl) (hbase : attributeBase e "items" X.env (eval e X.env) = eval e X.env := by rfl) (hline : (apos.endLine == cpos.line) = true := by rfl)
    (hs : starEach [.Call (.Attribute e "items" apos) [] [] cpos] X.env = (false, eval (.Call (.Attribute e "items" apos) [] [] cpos) X.env) :: starEach [] X.env := by rfl) :
    PDE X (.Call (.Name "list" p) [.Call (.Attribute e "items" apos) [] [] cpos] [] pos) (mItems m) :=
  PE.imp (PE.or (LiI.pe_listItems hc he hg hm (by decide +kernel) hbase hline hs) (pe_listItemsN hc he hg hm (by decide +kernel) hbase hline hs)) fun σ H Q h => by
    obtain ⟨w, s', d, st', rfl, ok, re, hm, hk⟩ := h
    unfold mItems at hm
    split at hm
    · rename_i n s1 e1
      split at hm
      · rename_i kvs hn
        cases hm
        refine .inl ⟨w, s', _, _, rfl, ok, re, e1, fun u w1 q1 l1 ok1 r1 => ?_⟩
        subst q1
        obtain ⟨a, h1, rfl⟩ := r1
        obtain ⟨o, e2, kvs', e3, rk⟩ := ok1.ob n a _ h1 hn
        subst e3
        refine ⟨a, kvs', rfl, e2, fun H' p ts k1 k2 k3 k4 k5 k6 => ?_⟩
        have hk1 := hk.le l1
        have eq : itemsP kvs = (kvs.map fun (kv : Key × PyData) => (keyD kv.1, kv.2)).map fun (kv : PyData × PyData) => PyData.tuple [kv.1, kv.2] := by unfold itemsP; rw [List.map_map]; rfl
        rw [eq] at hk1
        exact items_fin (st' := w1.st) ok1 hk1 rk.ev k1 k2 k3 k5 (paired_map (F := fun (t : Addr) (q : V × V) => H' t = some (.tup [q.1, q.2])) (fun (kv : Key × V) => (kV kv.1, kv.2)) k6)
      · rename_i kvs hn
        cases hm
        refine .inr ⟨w, s', _, _, rfl, ok, re, e1, fun u w1 q1 l1 ok1 r1 => ?_⟩
        subst q1
        obtain ⟨a, h1, rfl⟩ := r1
        obtain ⟨o, e2, es, xs, e3, mm⟩ := ok1.ob n a _ h1 hn
        subst e3
        have m' : NAt X.K w1 a kvs es xs := mm
        obtain ⟨ps, p1, p2⟩ := m'.2.2.2.2.ev
        refine ⟨a, es, ps, rfl, e2, m'.1, ?_, ?_, fun H' p ts k1 k2 k3 k4 k5 k6 => items_fin (st' := w1.st) ok1 (hk.le l1) p2 k1 k2 k3 k5 k6⟩
        · rw [Paired.length p2, sizeLine_eq]; exact m'.2.1
        · rw [m'.2.2.1 X.prog X.w]
          exact p1 _ _
      · cases hm
    · cases hm
end
end PD

set_option Elab.async false
set_option linter.all false
set_option maxRecDepth 100000
set_option maxHeartbeats 4000000
/-! PDD: dict(pairs), isinstance of a dict, sorted -/
namespace PD
open PySem PySem.Spec PyProof.Rows L2

/-! ### isinstance, dicts of any keys too -/
def tyNameD (st : Store) (d : DV) : Option String := match d with
  | .r n => (match st[n]? with
    | some (some (.dcn _)) => some "dict"
    | _ => tyName st d)
  | .s _ => some "list"
  | _ => tyName st d
def mIsiD (e : EM) (T : String) : EM := fun s st => match e s st with
  | some (d, s1) => (match tyNameD s1 d with
    | some t => rb (isSub t T) s1
    | none => none)
  | none => none
def rIsiR : List V → Hp → VK → Prop := fun xs H Q => ∃ (a : Addr) (es : List DictEntry) (T : String) (b : Bool), xs = [.ref a, .ty T] ∧ H a = some (rawD a es) ∧ kitB "dict" T = some b ∧ Q (.bl b) H
section
variable {X : Cx} {pos p p2 : Pos} {e : Expr} {m : EM}
theorem call_isiR : CallR X (.builtin "isinstance") rIsiR := by
  intro pins s σ H xs us Q I r h
  obtain ⟨a, es, T, b, rfl, ha, hb, q⟩ := h
  obtain ⟨u1, u2, rfl, r1, r2⟩ := vals2 r
  cases (show u1 = Value.ref a from r1)
  cases (show u2 = Value.type T from r2)
  obtain ⟨o, ep, h1, h2, h3⟩ := raw_at I ha
  exact PySem.W.kia_one PySem.W.kitx_dict I.kIn ⟨o, h1, h2.1⟩ (kit_ty hb) (fun z => nomatch z) fun tk => ⟨.bl b, H, I.tok tk, rfl, q⟩
theorem call_isiA : CallR X (.builtin "isinstance") (fun xs H Q => rIsi X.K xs H Q ∨ rIsiR xs H Q) := call_isi.or call_isiR
theorem pd_isiD (T : String) {x : Str} (hT : T ∈ ["bool", "int", "str", "list", "tuple", "dict"] := by decide) (hi : X.mg "isinstance" = none) (hm : X.mg x = none) (ha : PDE X e m) (hv : bootBuiltins x = some (.type T) := by decide +kernel) (hg : Gl X "isinstance" := by rfl) (hg2 : Gl X x := by rfl) (hn : x ≠ "__name__" := by decide) (hdb : (x == ("__debug__" : Str)) = false := by decide)
    (he : starEach [e, .Name x p2] X.env = (false, eval e X.env) :: starEach [.Name x p2] X.env := by rfl) (he2 : starEach [.Name x p2] X.env = (false, eval (.Name x p2) X.env) :: starEach [] X.env := by rfl) (hpl : (backTo pos (starEach [.Name x p2] X.env)).any (·.1) = false := by rfl) :
    PDE X (.Call (.Name "isinstance" p) [e, .Name x p2] [] pos) (mIsiD m T) :=
  PE.imp (pe_callB call_isiA hg hi (by decide +kernel) (pa_cons ha (pa_cons (pe_bltn (v := .ty T) hg2 hm hv rfl hn hdb) pa_nil he2) he) (by decide) (by decide) he hpl) fun σ H Q h => by
    obtain ⟨w, s, d, st', rfl, ok, re, hm, hk⟩ := h
    unfold mIsiD at hm
    split at hm
    · rename_i d0 s1 e1
      split at hm
      · rename_i t ht
        cases hm
        refine ⟨w, s, d0, _, rfl, ok, re, e1, fun u w1 q1 l1 ok1 r1 => ?_⟩
        subst q1
        have hkb := (hk.le l1).at_ ok1 RelD.boolK
        have base : tyName w1.st d0 = some t → rIsi X.K [u, .ty T] w1.H Q := fun ht => ⟨u, .ty T, .type t, .type T, isSub t T, rfl, .ty T, tyName_ok ht r1 ok1, kit_ty (kit_tab t (tyName_mem ht) T hT), hkb⟩
        unfold tyNameD at ht
        split at ht
        · split at ht
          · rename_i n _ kvs hn
            cases ht
            obtain ⟨a, h1, rfl⟩ := r1
            obtain ⟨o, e2, es, xs, e3, _⟩ := ok1.ob n a _ h1 hn
            subst e3
            exact .inr ⟨a, es, T, _, rfl, e2, kit_tab "dict" (by decide) T hT, hkb⟩
          · exact .inl (base ht)
        · cases ht
          obtain ⟨a, vs, rfl, hs, hr⟩ := lstV_rel (d := .s _) rfl r1 ok1
          exact .inl ⟨.ref a, .ty T, .type "list", .type T, isSub "list" T, rfl, .ty T, sqL_ty hs, kit_ty (kit_tab "list" (by decide) T hT), hkb⟩
        · exact .inl (base ht)
      · cases hm
    · cases hm
end

/-! ### sorted -/
def sortOk (xs : List PyData) : Bool := xs.all (fun x => xs.all fun y => PySem.W.alike x y) && (xs.all (fun x => match x with | .tuple (_ :: _) => true | _ => false) || xs.all (fun x => match x with | .none => false | .tuple _ => false | _ => true)) && xs.all (fun x => decide (x.depth ≤ 64)) && decide (xs.length ≤ 16777216)
noncomputable def sortD (xs : List PyData) : List PyData := xs.mergeSort (PySem.W.dataLe false id)
noncomputable def fSorted : FN := fun ds st => match ds with
  | [d] => (match lstV st d with
    | some xs => if sortOk xs then ret (.list (sortD xs)) st else none
    | none => none)
  | _ => none
def rSortedD (K : PySem.W.Frag) : List V → Hp → VK → Prop := fun xs H Q => ∃ (a : Addr) (vs : List V) (ds : List PyData) (L : Addr → Prop), xs = [.ref a] ∧ SqL K H a vs ∧ RelPs K L H ds vs ∧ sortOk ds = true ∧
  ∀ (p : Addr) (us : List V), H p = none → RelPs K L H (sortD ds) us → Q (.ref p) (upd H p (.lst us))
section
variable {K : PySem.W.Frag} {L : Addr → Prop} {H : Hp}
theorem each_of : ∀ {ds : List PyData} {vs : List V} {us : List Value}, RelPs K L H ds vs → Vals vs us → PySem.W.EachIs (fun (u : Value) (d : PyData) => ∃ v, L2.RelV v u ∧ RelP K L H d v) us ds
  | [], _, us, h, r => by cases h; cases r; exact .nil
  | d :: ds, vs, us, h, r => by
    simp only [RelPs] at h
    obtain ⟨v, vr, rfl, h1, h2⟩ := h
    cases r with
    | cons a b => exact .cons ⟨v, a, h1⟩ (each_of h2 b)
theorem of_each : ∀ {ds : List PyData} {us : List Value}, PySem.W.EachIs (fun (u : Value) (d : PyData) => ∃ v, L2.RelV v u ∧ RelP K L H d v) us ds → ∃ vs, RelPs K L H ds vs ∧ Vals vs us
  | [], us, h => by cases h; exact ⟨[], rfl, .nil⟩
  | d :: ds, us, h => by
    cases h with
    | cons a b =>
      obtain ⟨v, h1, h2⟩ := a
      obtain ⟨vs, h3, h4⟩ := of_each b
      exact ⟨v :: vs, ⟨v, vs, rfl, h2, h3⟩, .cons h1 h4⟩
end
section
variable {X : Cx}
theorem each_reads {pins : List (Addr × Obj)} {σ : L2.St} {H : Hp} {s : Shared} {L : Addr → Prop} (I : Inv X pins σ H s) : ∀ {ds : List PyData} {vs : List V} {us : List Value}, RelPs X.K L H ds vs → Vals vs us → PySem.W.EachIs (fun (u : Value) (d : PyData) => ∃ as, Reads s.heap u (id d) as) us ds
  | [], _, us, h, r => by cases h; cases r; exact .nil
  | d :: ds, vs, us, h, r => by
    simp only [RelPs] at h
    obtain ⟨v, vr, rfl, h1, h2⟩ := h
    cases r with
    | cons a b => exact .cons (Dp.reads I d v _ (RelP.dp d v h1) a) (each_reads I h2 b)
theorem call_sortedD {k : Nat} (hr : Room k X.A) : CallR X (.builtin "sorted") (rSortedD X.K) := by
  intro pins s σ H xs us Q I r h
  obtain ⟨a, vs, ds, L, rfl, hs, rp, hok, q⟩ := h
  obtain ⟨u, eu, rx⟩ := vals1 r
  subst eu
  cases rx
  obtain ⟨its, rv, pl, hz⟩ := I.list hs
  unfold sortOk at hok
  simp only [Bool.and_eq_true, Bool.or_eq_true, List.all_eq_true, decide_eq_true_eq] at hok
  obtain ⟨⟨⟨h1, h2⟩, h3⟩, h4⟩ := hok
  have hal : PySem.W.AllAlike (ds.map id) := by rw [List.map_id]; exact fun d hd d' hd' => h1 d hd d' hd'
  have hso : PySem.W.Sortable (ds.map id) := by
    rw [List.map_id]
    rcases h2 with h2 | h2
    · refine .inl fun d hd => ?_
      have := h2 d hd
      split at this
      · exact ⟨_, _, rfl⟩
      · cases this
    · refine .inr fun d hd => ?_
      have := h2 d hd
      split at this
      · cases this
      · cases this
      · rename_i n1 n2
        exact ⟨fun e => n1 e, fun xs e => n2 xs e⟩
  refine PySem.W.sorted_data (enc := id) pl.isList (each_of rp rv) (each_reads I rp rv) hal hso (by rw [sizeLine_eq]; exact h4) (fun d hd => ?_) fun out ho eo => ?_
  · have := hr.un
    have := h3 d hd
    show X.A.units + 2 + d.depth < cLine
    omega
  · obtain ⟨us, ru, vu⟩ := of_each eo
    obtain ⟨ep, he'⟩ := PyProof.Rows.sortedAll_at s.heap its out.toArray
    refine ⟨.ref _, upd H (s.heap.objs.size + 1) (.lst us), I.laid (t' := s.toks) (fun _ _ => PyProof.Rows.sortedAll_old) (Nat.le_succ _) ⟨?_, out, ep, vu, he'⟩, rfl, q _ us (I.hok.fresh (Nat.le_succ _)) ru⟩
    rw [vu.length, ho, sizeLine_eq]
    exact h4
theorem sound_sorted : SoundN X.K fSorted (rSortedD X.K) := by
  intro w ds d vs st' Q ok rs h hk
  unfold fSorted at h
  split at h
  · split at h
    · rename_i xs hx
      split at h
      · rename_i hok
        cases h
        obtain ⟨v, rfl, r⟩ := rs.one
        obtain ⟨a, vs, rfl, hs, hr⟩ := lstV_rel hx r ok
        exact ⟨a, vs, xs, w.L, rfl, hs, hr, hok, fun p us hp ru => hk.lst ok ru p hp⟩
      · cases h
    · cases h
  · cases h
variable {pos p : Pos} {e : Expr} {m : EM}
theorem pd_sorted {k : Nat} (hr : Room k X.A) (hm : X.mg "sorted" = none) (ha : PDE X e m) (hg : Gl X "sorted" := by rfl) (he : starEach [e] X.env = (false, eval e X.env) :: starEach [] X.env := by rfl) (hpl : (backTo pos (starEach [] X.env)).any (·.1) = false := by rfl) :
    PDE X (.Call (.Name "sorted" p) [e] [] pos) (mApp fSorted (mCons m mNil)) := pd_callB (call_sortedD hr) sound_sorted (by decide +kernel) hm (pda_cons ha pda_nil he) hg (he := he) (hpl := hpl)
end

/-! ### dict(pairs) -/
def pairsN : List PyData → Option (List (PyData × PyData))
  | [] => some []
  | .tuple [k, v] :: r => if keyOk k then (match pairsN r with
    | some ps => some ((k, v) :: ps)
    | none => none) else none
  | _ :: _ => none
def mkN (ps : List (PyData × PyData)) (acc : List (PyData × PyData)) : List (PyData × PyData) := ps.foldl (fun a kv => putN a kv.1 kv.2) acc
def fDictN : FN := fun ds st => match ds with
  | [d] => (match lstV st d with
    | some xs => (match pairsN xs with
      | some ps => if decide (ps.length ≤ 16777216) then some (.r st.length, st ++ [some (.dcn (mkN ps []))]) else none
      | none => none)
    | none => none)
  | _ => none
theorem putN_le (a : List (PyData × PyData)) (k v : PyData) : (putN a k v).length ≤ a.length + 1 := by
  unfold putN
  split
  · rw [List.length_map]; omega
  · rw [List.length_append, List.length_singleton]; omega
theorem mkN_le : ∀ (ps acc : List (PyData × PyData)), (mkN ps acc).length ≤ acc.length + ps.length
  | [], acc => Nat.le_refl _
  | p :: ps, acc => by
    have h1 := mkN_le ps (putN acc p.1 p.2)
    have h2 := putN_le acc p.1 p.2
    show (mkN ps (putN acc p.1 p.2)).length ≤ _
    rw [List.length_cons]
    omega
/-- the pairs as they stand -/
def PrAt (K : PySem.W.Frag) (L : Addr → Prop) (H : Hp) : List (PyData × PyData) → List V → List (NestedKey × Addr × V) → List Addr → Prop
  | [], vs, xs, ts => vs = [] ∧ xs = [] ∧ ts = []
  | (kd, vd) :: r, vs, xs, ts => ∃ (t : Addr) (k : NestedKey) (b : Addr) (v : V) (vr : List V) (xr : List (NestedKey × Addr × V)) (tr : List Addr), vs = .ref t :: vr ∧ xs = (k, b, v) :: xr ∧ ts = t :: tr ∧ SqT K H t [.ref b, v] ∧ k.data = kd ∧ numK k = true ∧ k.depth ≤ 8 ∧ RelP K L H kd (.ref b) ∧ RelP K L H vd v ∧ PrAt K L H r vr xr tr
theorem prAt {K : PySem.W.Frag} {L : Addr → Prop} {H : Hp} : ∀ {xs : List PyData} {ps : List (PyData × PyData)} {vs : List V}, pairsN xs = some ps → RelPs K L H xs vs → ∃ ks ts, PrAt K L H ps vs ks ts
  | [], ps, vs, h, r => by
    simp only [pairsN, Option.some.injEq] at h
    subst h
    cases r
    exact ⟨[], [], rfl, rfl, rfl⟩
  | x :: xs, ps, vs, h, r => by
    unfold pairsN at h
    split at h
    · rename_i e1; cases e1
    · rename_i k v r' e1
      cases e1
      split at h
      · rename_i hk
        split at h
        · rename_i qs e2
          cases h
          simp only [RelPs] at r
          obtain ⟨u, ur, rfl, h1, h2⟩ := r
          obtain ⟨ks, ts, hp⟩ := prAt e2 h2
          simp only [RelP, RelPs] at h1
          obtain ⟨t, us, rfl, ht, kv, _, rfl, rk, vv, _, rfl, rv, rfl⟩ := h1
          obtain ⟨k', z1, z2, z3, ys, z4⟩ := keyOk_some hk
          obtain ⟨b, eb⟩ : ∃ b, kv = .ref b := by
            rw [z4] at rk
            simp only [RelP] at rk
            obtain ⟨b, _, e, _⟩ := rk
            exact ⟨b, e⟩
          subst eb
          exact ⟨(k', b, vv) :: ks, t :: ts, t, k', b, vv, ur, ks, ts, rfl, rfl, rfl, ht.sq, z1, z2, z3, rk, rv, hp⟩
        · cases h
      · cases h
    · cases h
def rDictN (K : PySem.W.Frag) : List V → Hp → VK → Prop := fun xs H Q => ∃ (a : Addr) (vs : List V) (ps : List (PyData × PyData)) (w : Wd) (ks : List (NestedKey × Addr × V)) (ts : List Addr), xs = [.ref a] ∧ w.H = H ∧ SqL K H a vs ∧ PrAt K w.L H ps vs ks ts ∧
  ∀ (p : Addr) (es : List DictEntry) (xs : List (NestedKey × Addr × Value)), H p = none → (p == sysModules) = false → (∀ (P : Program) (W : World), es = xs.map (entryOfKey (nestedKind P W))) → (xs.map (·.1)).Nodup → RelN K w (mkN ps []) xs → Q (.ref p) (upd H p (rawD p es))
section
variable {X : Cx} {pins : List (Addr × Obj)} {σ : L2.St} {w : Wd} {s : Shared}
theorem prAt_vals (I : Inv X pins σ w.H s) : ∀ {ps : List (PyData × PyData)} {vs : List V} {ks : List (NestedKey × Addr × V)} {ts : List Addr} {us : List Value}, PrAt X.K w.L w.H ps vs ks ts → Vals vs us →
    ∃ xs : List (NestedKey × Addr × Value), xs.length = ps.length ∧ us = ts.map Value.ref ∧ ts.length = ps.length ∧ (∀ (j : Nat) (x : NestedKey × Addr × Value), xs[j]? = some x → ∃ t, ts[j]? = some t ∧ IsTup s.heap t #[.ref x.2.1, x.2.2] ∧ NestedIs s.heap x.1 (.ref x.2.1) ∧ x.1.depth ≤ 8) ∧
      ∀ (acc : List (PyData × PyData)) (ys : List (NestedKey × Addr × Value)), RelN X.K w acc ys → RelN X.K w (mkN ps acc) (storedAllH ys xs)
  | [], vs, ks, ts, us, h, r => by
    obtain ⟨rfl, rfl, rfl⟩ := h
    cases r
    exact ⟨[], rfl, rfl, rfl, fun j x e => by simp at e, fun acc ys h => h⟩
  | (kd, vd) :: ps, vs, ks, ts, us, h, r => by
    obtain ⟨t, k, b, v, vr, xr, tr, rfl, rfl, rfl, ht, h1, h2, h3, h4, h5, h6⟩ := h
    cases r with
    | cons ra rb =>
      cases ra
      obtain ⟨xs, x1, x2, x3, x4, x5⟩ := prAt_vals I h6 rb
      obtain ⟨its, rv, p, _⟩ := I.tuple ht
      obtain ⟨u, y, ei, ru, ry⟩ := vals2 rv
      subst ei
      cases ru
      subst h1
      refine ⟨(k, b, y) :: xs, by simp [x1], by rw [x2]; rfl, by simp [x3], fun j x e => ?_, fun acc ys hr => ?_⟩
      · cases j with
        | zero =>
          have e' : (k, b, y) = x := Option.some.inj e
          subst e'
          exact ⟨t, rfl, p, key_is I k _ _ h4 h2 rfl, h3⟩
        | succ j =>
          obtain ⟨t', z1, z2⟩ := x4 j x (by simpa using e)
          exact ⟨t', by simpa using z1, z2⟩
      · exact x5 _ _ (hr.put h2 h3 h4 h5 ry)
theorem call_dictN {k : Nat} (hr : Room k X.A) (hcalm : X.calm = true) : CallR X (.type "dict") (rDictN X.K) := by
  intro pins s σ H xs us Q I r h
  obtain ⟨a, vs, ps, w, ks, ts, rfl, rfl, hs, hp, q⟩ := h
  obtain ⟨u, eu, rx⟩ := vals1 r
  subst eu
  cases rx
  obtain ⟨its, rv, pl, hz⟩ := I.list hs
  obtain ⟨xs, x1, rfl, x3, x4, x5⟩ := prAt_vals I hp rv
  obtain ⟨o, n, ho, hc, hd, hdat⟩ := pl
  have hlen : xs.length ≤ sizeLine := by
    rw [rv.length, List.length_map] at hz
    omega
  have P := PairArg.list (prog := X.prog) (w := X.w) a (ts.map Value.ref).toArray (fun j => ts[j]?.getD 0) (xs.map fun x => (Value.ref x.2.1, x.2.2))
  refine call_dict_pairsH (knd := nestedKind X.prog X.w) (ps := xs) P (I.ok.hd hcalm) (room_nested hr) ⟨⟨o, n, ho, hc, hd, hdat⟩, by simp [x1, x3], fun j kk vv e => ?_⟩ ⟨by simp, fun i key v e => ?_⟩ (fun h' hk x hx => ?_) (by simpa using hlen) fun h' tk hd' hk => ?_
  · rw [List.getElem?_map] at e
    cases ex : xs[j]? with
    | none => rw [ex] at e; cases e
    | some x =>
      rw [ex] at e
      cases e
      obtain ⟨t, z1, z2, _⟩ := x4 j x ex
      refine ⟨by simp [z1], .inl ?_⟩
      show s.heap.IsTuple (ts[j]?.getD 0) _
      rw [z1]
      exact z2
  · have e : (xs.map fun x => (Value.ref x.2.1, x.2.2))[i]? = some (key, v) := e
    rw [List.getElem?_map] at e
    cases ex : xs[i]? with
    | none => rw [ex] at e; cases e
    | some x =>
      rw [ex] at e
      cases e
      exact ⟨x.1, x.2.1, rfl, rfl⟩
  · obtain ⟨j, hj⟩ := List.mem_iff_getElem?.mp hx
    obtain ⟨t, z1, z2, z3, z4⟩ := x4 j x hj
    exact nestedKind_stays.stays (fun b ob vs m e _ => hk b ob (Nat.ne_of_lt (Heap.lt_size e)) (by simp) e) ⟨z3, z4⟩
  · obtain ⟨ob, es', ep, f1, f2, f3, f4, f5, f6⟩ := hd'
    have hes : ob.data = .dict (es'.toList).toArray ep := by rw [Array.toArray_toList]; exact f3
    have rn := x5 [] [] rfl
    refine ⟨.ref s.heap.objs.size, upd w.H s.heap.objs.size (rawD s.heap.objs.size es'.toList), I.laid (t' := tk) (fun b o e => hk b o (by simp) e) (Nat.le_refl _) (raw_ok f1 f2 hes), rfl,
      q _ _ _ (I.hok.fresh (Nat.le_refl _)) (beq_eq_false_iff_ne.mpr (Ne.symm (Nat.ne_of_lt I.big))) (fun P W => by rw [f4]; exact rn.es _ _ _ _) f6 rn⟩
theorem sound_dictN : SoundN X.K fDictN (rDictN X.K) := by
  intro w ds d vs st' Q ok rs h hk
  unfold fDictN at h
  split at h
  · split at h
    · rename_i xs hx
      split at h
      · rename_i ps hp
        split at h
        · rename_i hz
          cases h
          obtain ⟨v, rfl, r⟩ := rs.one
          obtain ⟨a, vs, rfl, hs, hr⟩ := lstV_rel hx r ok
          obtain ⟨ks, ts, pr⟩ := prAt hp hr
          refine ⟨a, vs, ps, w, ks, ts, rfl, rfl, hs, pr, fun p es xs' hp' hsm he nd rn => ?_⟩
          have hlen : (mkN ps []).length ≤ 16777216 := by
            have h1 := mkN_le ps []
            have h2 := of_decide_eq_true hz
            simp at h1
            omega
          obtain ⟨l, ok2, ha⟩ := ok.newM (o := rawD p es) (mo := .dcn (mkN ps [])) hp' fun l => ⟨es, xs', rfl, hsm, hlen, he, nd, rn.mono l.ext⟩
          exact hk _ _ rfl l ok2 ⟨p, ha, rfl⟩
        · cases h
      · cases h
    · cases h
  · cases h
variable {pos p : Pos} {e : Expr} {m : EM}
theorem pd_dictN {k : Nat} (hr : Room k X.A) (hc : X.calm = true) (hm : X.mg "dict" = none) (ha : PDE X e m) (hg : Gl X "dict" := by rfl) (he : starEach [e] X.env = (false, eval e X.env) :: starEach [] X.env := by rfl) (hpl : (backTo pos (starEach [] X.env)).any (·.1) = false := by rfl) :
    PDE X (.Call (.Name "dict" p) [e] [] pos) (mApp fDictN (mCons m mNil)) := pd_callTy (call_dictN hr hc) sound_dictN (by decide +kernel) hm (pda_cons ha pda_nil he) hg (he := he) (hpl := hpl)
end
end PD

set_option Elab.async false
set_option linter.all false
set_option maxRecDepth 100000
set_option maxHeartbeats 4000000
/-! PDF: list(range), the module's constants, the table of facts -/
namespace PD
open PySem PySem.Spec PyProof.Rows L2

/-! ### list(range(a, b)) -/
def rgOk (i j : Int) : Bool := bd i && bd j && decide ((j - i).toNat ≤ 16777216)
def mLstRg2 (ma mb : EM) : EM := fun s st => match ma s st with
  | some (.d (.int i), s1) => (match mb s s1 with
    | some (.d (.int j), s2) => if rgOk i j then ret (.list (rngP i j)) s2 else none
    | _ => none)
  | _ => none
def mLstRg1 (mb : EM) : EM := fun s st => match mb s st with
  | some (.d (.int j), s2) => if rgOk 0 j then ret (.list (rngP 0 j)) s2 else none
  | _ => none
theorem rgOk_ok {i j : Int} (h : rgOk i j = true) : RgOk i j := by
  unfold rgOk at h
  simp only [Bool.and_eq_true, decide_eq_true_eq] at h
  have h1 := bd_ok h.1.1
  have h2 := bd_ok h.1.2
  exact ⟨h1.1, h1.2, h2.1, h2.2, by omega⟩
theorem rels_ints {K : PySem.W.Frag} {L : Addr → Prop} {H : Hp} : ∀ (f : Nat → Int) (l : List Nat), RelPs K L H (l.map fun k => .int (f k)) (l.map fun k => V.int (f k))
  | f, [] => rfl
  | f, x :: l => by
    simp only [List.map_cons, RelPs]
    exact ⟨_, _, rfl, by simp [RelP], rels_ints f l⟩
theorem rngP_rel {K : PySem.W.Frag} {L : Addr → Prop} {H : Hp} (i j : Int) : RelPs K L H (rngP i j) (rgV i j) := rels_ints _ _
section
variable {X : Cx} {pos p pos2 p2 : Pos} {a b : Expr} {ma mb : EM}
theorem pd_listRg2 (hc : X.calm = true) (hm : X.mg "list" = none) (hm2 : X.mg "range" = none) (ha : PDE X a ma) (hb : PDE X b mb) (hg : Gl X "list" := by rfl) (hg2 : Gl X "range" := by rfl) (na : starEach [a, b] X.env = (false, eval a X.env) :: starEach [b] X.env := by rfl)
    (nb : starEach [b] X.env = (false, eval b X.env) :: starEach [] X.env := by rfl) (hp : (backTo pos2 (starEach [b] X.env)).any (·.1) = false := by rfl)
    (nc : starEach [.Call (.Name "range" p2) [a, b] [] pos2] X.env = (false, eval (.Call (.Name "range" p2) [a, b] [] pos2) X.env) :: starEach [] X.env := by rfl) :
    PDE X (.Call (.Name "list" p) [.Call (.Name "range" p2) [a, b] [] pos2] [] pos) (mLstRg2 ma mb) :=
  PE.imp (pe_listRg hc hg hm (prg_2 hg2 hm2 ha hb na nb hp) nc) fun σ H Q h => by
    obtain ⟨w, s, d, st', rfl, ok, re, hm, hk⟩ := h
    unfold mLstRg2 at hm
    split at hm
    · rename_i i s1 e1
      split at hm
      · rename_i j s2 e2
        split at hm
        · rename_i hok
          cases hm
          refine ⟨w, s, _, _, rfl, ok, re, e1, fun u w1 q1 l1 ok1 r1 => ?_⟩
          subst q1
          cases r1
          refine ⟨w1, s, _, _, rfl, ok1, re.mono l1, e2, fun v w2 q2 l2 ok2 r2 => ?_⟩
          subst q2
          cases r2
          exact ⟨i, j, rfl, rfl, rgOk_ok hok, (hk.le (l1.trans l2)).lst ok2 (rngP_rel i j)⟩
        · cases hm
      · cases hm
    · cases hm
theorem pd_listRg1 (hc : X.calm = true) (hm : X.mg "list" = none) (hm2 : X.mg "range" = none) (hb : PDE X b mb) (hg : Gl X "list" := by rfl) (hg2 : Gl X "range" := by rfl)
    (nb : starEach [b] X.env = (false, eval b X.env) :: starEach [] X.env := by rfl)
    (nc : starEach [.Call (.Name "range" p2) [b] [] pos2] X.env = (false, eval (.Call (.Name "range" p2) [b] [] pos2) X.env) :: starEach [] X.env := by rfl) :
    PDE X (.Call (.Name "list" p) [.Call (.Name "range" p2) [b] [] pos2] [] pos) (mLstRg1 mb) :=
  PE.imp (pe_listRg hc hg hm (prg_1 hg2 hm2 hb nb) nc) fun σ H Q h => by
    obtain ⟨w, s, d, st', rfl, ok, re, hm, hk⟩ := h
    unfold mLstRg1 at hm
    split at hm
    · rename_i j s2 e2
      split at hm
      · rename_i hok
        cases hm
        refine ⟨w, s, _, _, rfl, ok, re, e2, fun v w2 q2 l2 ok2 r2 => ?_⟩
        subst q2
        cases r2
        exact ⟨j, rfl, rgOk_ok hok, (hk.le l2).lst ok2 (rngP_rel 0 j)⟩
      · cases hm
    · cases hm
end

/-! ### constants of the module -/
mutual
def litV (K : PySem.W.Frag) : PyData → Value → Bool
  | .none, .none => true
  | .bool a, .bool b => a == b
  | .int i, .int j _ => decide (i = j)
  | .str x, .str y _ => decide (x = y)
  | .tuple ds, .ref a => (match K.lookup a with
    | some ⟨.type c, _, .seq its _, _⟩ => decide (c = "tuple") && (decide (its.size ≤ 16777216) && litVs K ds its.toList)
    | _ => false)
  | _, _ => false
def litVs (K : PySem.W.Frag) : List PyData → List Value → Bool
  | [], [] => true
  | d :: ds, v :: vs => litV K d v && litVs K ds vs
  | _, _ => false
end
mutual
theorem litV_ok {K : PySem.W.Frag} : ∀ (d : PyData) (u : Value), litV K d u = true → ∃ v, L2.RelV v u ∧ ∀ L H, RelP K L H d v
  | .none, u, h => by cases u <;> simp [litV] at h; exact ⟨.non, rfl, fun _ _ => by simp [RelP]⟩
  | .bool b, u, h => by cases u <;> simp [litV] at h; subst h; exact ⟨.bl _, rfl, fun _ _ => by simp [RelP]⟩
  | .int i, u, h => by cases u <;> simp [litV] at h; subst h; exact ⟨.int _, ⟨_, rfl⟩, fun _ _ => by simp [RelP]⟩
  | .str x, u, h => by cases u <;> simp [litV] at h; subst h; exact ⟨.str _, ⟨_, rfl⟩, fun _ _ => by simp [RelP]⟩
  | .tuple ds, u, h => by
    cases u <;> simp only [litV] at h <;> first | (cases h; done) | skip
    rename_i a
    split at h
    · rename_i c dd its n sl q
      simp only [Bool.and_eq_true, decide_eq_true_eq] at h
      obtain ⟨rfl, hz, hl⟩ := h
      obtain ⟨vs, r1, r2⟩ := litVs_ok ds its.toList hl
      refine ⟨.ref a, rfl, fun L H => ?_⟩
      simp only [RelP]
      exact ⟨a, vs, rfl, .inr (.inr ⟨_, its, n, q, rfl, rfl, by rw [sizeLine_eq]; exact hz, r1⟩), r2 L H⟩
    · cases h
  | .list _, u, h => by cases u <;> simp [litV] at h
  | .dict _, u, h => by cases u <;> simp [litV] at h
theorem litVs_ok {K : PySem.W.Frag} : ∀ (ds : List PyData) (us : List Value), litVs K ds us = true → ∃ vs, Vals vs us ∧ ∀ L H, RelPs K L H ds vs
  | [], us, h => by cases us <;> simp [litVs] at h; exact ⟨[], .nil, fun _ _ => rfl⟩
  | d :: ds, us, h => by
    cases us with
    | nil => simp [litVs] at h
    | cons u us =>
      simp only [litVs, Bool.and_eq_true] at h
      obtain ⟨v, r1, r2⟩ := litV_ok d u h.1
      obtain ⟨vs, r3, r4⟩ := litVs_ok ds us h.2
      exact ⟨v :: vs, .cons r1 r3, fun L H => ⟨v, vs, rfl, r2 L H, r4 L H⟩⟩
end
def conD (K : PySem.W.Frag) (x : Str) (d : PyData) : Bool := match PySem.W.nsIn K mainGlobals x with
  | some (some u) => litV K d u
  | _ => false
def consD (K : PySem.W.Frag) (cs : List (Str × PyData)) : Bool := cs.all fun c => conD K c.1 c.2

/-! ### the table of facts -/
structure Tab (fa : List He.Fa) (fn : List He.DefD) (cs : List (Str × PyData)) (K : PySem.W.Frag) (mg : Str → Option Value) : Prop where
  says : He.SaysD fa fn K
  cons : consD K cs = true
  at_ : ∃ h : Heap, K.In h ∧ h.Ns mainGlobals mg
section
variable {fa : List He.Fa} {fn : List He.DefD} {cs : List (Str × PyData)} {K : PySem.W.Frag} {mg : Str → Option Value}
theorem Tab.glo (T : Tab fa fn cs K mg) (i : Nat) {x : Str} (h : fa[i]? = some (.glo x) := by rfl) : mg x = some (.ref (He.ga K x)) := by
  obtain ⟨hp, X, G⟩ := T.at_
  exact He.glo_ok X G (T.says.fact i h)
theorem Tab.free (T : Tab fa fn cs K mg) (i : Nat) {x : Str} (h : fa[i]? = some (.free x) := by rfl) : mg x = none := by
  obtain ⟨hp, X, G⟩ := T.at_
  exact He.free_ok X G (T.says.fact i h)
theorem Tab.con (T : Tab fa fn cs K mg) (i : Nat) {x : Str} {d : PyData} (h : cs[i]? = some (x, d) := by rfl) : GC K mg x d := by
  obtain ⟨hp, X, G⟩ := T.at_
  have h1 := List.all_eq_true.mp T.cons (x, d) (List.mem_of_getElem? h)
  have h1 : conD K x d = true := h1
  unfold conD at h1
  split at h1
  · rename_i u hu
    obtain ⟨v, r1, r2⟩ := litV_ok d u h1
    exact ⟨u, v, PySem.W.mg_of X G hu, r1, r2⟩
  · cases h1
end
/-- a def of the table keeps its meaning -/
theorem fn_of {P : Program} {w : World} {fa : List He.Fa} {fn : List He.DefD} {cs : List (Str × PyData)} {K : PySem.W.Frag} {mg : Str → Option Value} {base : Heap} (T : Tab fa fn cs K mg) (i g : Nat) {x : Str} {params : Arguments} {body : List Stmt} {scope : Scope} {N ps : List Str} {k : Nat} {mb : SM}
    (hd : fn[i]? = some ⟨(x, none), x, x, params, body, scope, [], []⟩) (hg : fa[g]? = some (.glo x)) (S : FnScope N ps scope)
    (hb : ∀ (kV doc pm : Value) (an : Option Addr) (cdv ct : Value) (us : List Value), us.length = ps.length → bindArgs (PySem.W.fnOf x x params body scope .none kV doc pm an cdv ct) ⟨us, []⟩ = pure (ps.zip us))
    (hle : ps.length ≤ N.length)
    (h : ∀ (cdv : Value) (A : Around) (outer : List Env) (s : Shared) (H : Hp) (E : XK) (f : Addr), Room k (A.deeper (envOfC x scope s.heap.objs.size f cdv)) → PDB (cxOf CX0 P w K mg base N x scope f cdv A outer s H E).nox body mb) :
    FnAt P w K mg base x (k + 1) ps (runFn ps.length N.length mb) := by
  obtain ⟨fd, F⟩ := T.says.def_ i hd
  exact fn_at F (T.glo g hg) S hb hle fun cdv A outer s H E hr => h cdv A outer s H E _ hr
end PD

set_option Elab.async false
set_option linter.all false
set_option maxRecDepth 100000
set_option maxHeartbeats 4000000
/-! PDG: a dict comprehension stored in place; displays that are unpacked -/
namespace PD
open PySem PySem.Spec PyProof.Rows L2
section
variable {X : Cx}
theorem ps_setDc {i : Nat} {y : Str} {py : Pos} {kx vx tg iter : Expr} {ifs : List Expr} {scope : Scope} {own : List (Str × Nat)} {pos spos : Pos} {wi : TI} {g : TG} {tt : TT} {tk tv : TE} (hc : X.calm = true) (hN : X.N.Nodup) (hy : X.N[i]? = some y) (hyl : X.env.scope.names.lookup y = some .local)
    (hsw : swapsWith (.DictComp kx vx [⟨tg, iter, ifs, 0⟩] scope pos) (some (.Name y py)) spos.line X.env = pure true) (hi : PI X tg iter wi) (ok : BlkOk X.N X.env.scope scope own)
    (hg : ∀ (s : Shared) (H : Hp) (C : Addr) (cl : List (Str × Addr)) (fp : List Addr), PG (X.blk s H scope (compEnvC scope cl C X.env) fp) tg g) (ht : ∀ (s : Shared) (H : Hp) (C : Addr) (cl : List (Str × Addr)) (fp : List Addr), PTs (X.blk s H scope (compEnvC scope cl C X.env) fp) ifs tt)
    (hk : ∀ (s : Shared) (H : Hp) (C : Addr) (cl : List (Str × Addr)) (fp : List Addr), PE (X.blk s H scope (compEnvC scope cl C X.env) fp) kx tk)
    (he : ∀ (s : Shared) (H : Hp) (C : Addr) (cl : List (Str × Addr)) (fp : List Addr), PE (X.blk s H scope (compEnvC scope cl C X.env) fp) vx tv) (hs : ∀ x, foldedSetIterable iter X.env x = pure x := by intro _; rfl) :
    PS X (.Assign [.Name y py] (.DictComp kx vx [⟨tg, iter, ifs, 0⟩] scope pos) spos) (tAsg (tDc wi g tt tk tv (own.map (·.2))) (gName i)) := by
  refine ⟨fun pins s σ H D I h => ?_⟩
  rw [exec_Assign_Name_used _ _ _ _ hsw]
  refine wpAny_bind (wpAny_standAt (wpAny_bind ?_))
  show wpAny _ X.A (do let _ ← comprehension (.DictComp kx vx [⟨tg, iter, ifs, 0⟩] scope pos) scope X.env (firstIterPos [⟨tg, iter, ifs, 0⟩] pos) newDict false (eval iter X.env) (some (assign (.Name y py) X.env))) _ _ s
  have h : tDc wi g tt tk tv (own.map (·.2)) σ H (fun x H1 => gName i x σ H1 D.nx) := h
  refine wpAny_bind (thn (dc_core (Qf := fun _ s' => SP X pins D .next s') hc hN I hi ok hg ht hk he hs h fun L C s' m H' I' q hn f => ?_) fun _ s' hq => wpAny_pure (wpAny_pure hq))
  show wpAny _ _ (assign (.Name y py) X.env (.ref L)) _ _ _
  refine wpAny_assign_Name (store_ok2 (v := V.ref L) I' hN hy (.inl hyl) rfl (fun s2 I2 ⟨a, sb, ha⟩ => ?_) (.inr hyl))
  obtain ⟨f0, f1, f2, f3, f4, f5⟩ := f
  have haC : C ≠ a := by
    rcases ha with z | z
    · rw [z]; exact f1
    · exact fun e => f4 y a z e.symm
  refine ⟨m, hn.sameBut sb haC, fun h3 sb3 => ?_⟩
  exact ⟨_, H', I2.turned (t' := s2.toks) (fun b o hb e => (sb3.2 b hb).trans e) f0 f1 f3 f4 f5, q⟩
variable {kx vx tg iter : Expr} {ifs : List Expr} {scope : Scope} {own : List (Str × Nat)} {pos : Pos} {mi : IM} {us : List Nat} {gm : GM} {t : TM} {mk me : EM}
theorem ps_setDcD {i : Nat} {y : Str} {py spos : Pos} (hc : X.calm = true) (hN : X.N.Nodup) (own : List (Str × Nat)) (hsw : swapsWith (.DictComp kx vx [⟨tg, iter, ifs, 0⟩] scope pos) (some (.Name y py)) spos.line X.env = pure true) (hi : PDI X tg iter mi) (ok : blkC X.N X.env.scope scope own = true)
    (hg : ∀ (s : Shared) (H : Hp) (C : Addr) (cl : List (Str × Addr)) (fp : List Addr), PDG (X.blk s H scope (compEnvC scope cl C X.env) fp) tg us gm) (ht : ∀ (s : Shared) (H : Hp) (C : Addr) (cl : List (Str × Addr)) (fp : List Addr), PDTs (X.blk s H scope (compEnvC scope cl C X.env) fp) ifs t)
    (hk : ∀ (s : Shared) (H : Hp) (C : Addr) (cl : List (Str × Addr)) (fp : List Addr), PDE (X.blk s H scope (compEnvC scope cl C X.env) fp) kx mk)
    (he : ∀ (s : Shared) (H : Hp) (C : Addr) (cl : List (Str × Addr)) (fp : List Addr), PDE (X.blk s H scope (compEnvC scope cl C X.env) fp) vx me) (hus : ∀ j ∈ us, j ∈ own.map (·.2) := by decide) (hy : X.N[i]? = some y := by rfl) (hyl : X.env.scope.names.lookup y = some .local := by rfl) (hs : ∀ x, foldedSetIterable iter X.env x = pure x := by intro _; rfl) :
    PDS X (.Assign [.Name y py] (.DictComp kx vx [⟨tg, iter, ifs, 0⟩] scope pos) spos) (mSet i (mDc (own.map (·.2)) mi gm t mk me)) := PS.imp (ps_setDc hc hN hy hyl hsw hi (blkOk_by ok) hg ht hk he hs) fun D σ H h => by
  obtain ⟨w, s, r, rfl, okw, re, hm, hk⟩ := h
  unfold mSet at hm
  split at hm
  · rename_i d st1 e1
    cases hm
    exact LiftE.dc hus ⟨w, s, d, _, rfl, okw, re, e1, fun v w1 q1 l1 ok1 r1 => hk _ w1 q1 l1 ok1 ((re.mono l1).set r1)⟩
  · cases hm
end
/-! ### a, b = x, y where a name is a cell -/
section
variable {X : Cx} {pos : Pos} {ma mb mc : EM}
theorem ps_unp2D {i j : Nat} {x y : Str} {a b : Expr} {px py pt : Pos} {kt k2 pt2} (hc : X.calm = true) (hN : X.N.Nodup) (ha : PDE X a ma) (hb : PDE X b mb) (hi : X.N[i]? = some x := by rfl) (hj : X.N[j]? = some y := by rfl)
    (hx : Loc X.env.scope x := by first | exact .inl rfl | exact .inr rfl) (hy : Loc X.env.scope y := by first | exact .inl rfl | exact .inr rfl) (hfx : X.fn x = true := by rfl) (hfy : X.fn y = true := by rfl)
    (hs1 : starEach [a, b] X.env = (false, eval a X.env) :: starEach [b] X.env := by rfl) (hs2 : starEach [b] X.env = (false, eval b X.env) :: starEach [] X.env := by rfl)
    (hs : swapsWithSole [.Tuple [.Name x px, .Name y py] kt pt] (.Tuple [a, b] k2 pt2) pos.line X.env = pure false := by rfl) (hw : swappedStores [.Tuple [.Name x px, .Name y py] kt pt] (.Tuple [a, b] k2 pt2) X.env = pure none := by rfl)
    (h1 : (assignEach [.Tuple [.Name x px, .Name y py] kt pt] X.env).map (·.2) = [assign (.Tuple [.Name x px, .Name y py] kt pt) X.env] := by rfl)
    (hl : (assignEach [Expr.Name x px, .Name y py] X.env).length = 2 := by rfl) (hst : (assignEach [Expr.Name x px, .Name y py] X.env).findIdx? (·.1) = none := by rfl)
    (g1 : (assignEach [Expr.Name x px, .Name y py] X.env).map (·.2) = assign (.Name x px) X.env :: (assignEach [Expr.Name y py] X.env).map (·.2) := by rfl) (g2 : (assignEach [Expr.Name y py] X.env).map (·.2) = assign (.Name y py) X.env :: (assignEach [] X.env).map (·.2) := by rfl) :
    PDS X (.Assign [.Tuple [.Name x px, .Name y py] kt pt] (.Tuple [a, b] k2 pt2) pos) (mPar i j ma mb) :=
  PS.imp (ps_asg (pe_tup (pa_cons ha (pa_cons hb pa_nil hs2) hs1)) (pg_tup hc (pgs_cons (pg_name hN hi hx (.inl hfx)) (pgs_cons (pg_name hN hj hy (.inl hfy)) pgs_nil g2) g1) hl hst) hs hw h1) fun D σ H h => by
    obtain ⟨w, s, r, rfl, ok, re, hm, hk⟩ := h
    unfold mPar at hm
    split at hm
    · rename_i x1 s1 e1
      split at hm
      · rename_i y1 s2 e2
        cases hm
        refine ⟨w, s, x1, s1, rfl, ok, re, e1, fun u w1 q1 l1 ok1 r1 => ?_⟩
        subst q1
        refine ⟨w1, s, y1, _, rfl, ok1, re.mono l1, e2, fun v w2 q2 l2 ok2 r2 => ?_⟩
        refine ⟨by show 2 ≤ sizeLine; decide, fun p hp => ⟨p, [u, v], rfl, .inl (.inl upd_same), rfl, u, [v], rfl, v, [], rfl, rfl, ?_⟩⟩
        obtain ⟨l3, ok3⟩ := ok2.new (o := .tup [u, v]) hp
        exact hk _ ⟨w2.as, w2.st, upd w2.H p (.tup [u, v]), w2.ex⟩ q2 ((l1.trans l2).trans l3) ok3 (((((re.mono l1).mono l2).mono l3).set ((r1.mono l2).mono l3)).set (r2.mono l3))
      · cases hm
    · cases hm
theorem ps_unp3D {i j l : Nat} {x y z : Str} {a b c : Expr} {px py pz pt : Pos} {kt k2 pt2} (hc : X.calm = true) (hN : X.N.Nodup) (ha : PDE X a ma) (hb : PDE X b mb) (hcc : PDE X c mc) (hi : X.N[i]? = some x := by rfl) (hj : X.N[j]? = some y := by rfl) (hk' : X.N[l]? = some z := by rfl)
    (hx : Loc X.env.scope x := by first | exact .inl rfl | exact .inr rfl) (hy : Loc X.env.scope y := by first | exact .inl rfl | exact .inr rfl) (hz : Loc X.env.scope z := by first | exact .inl rfl | exact .inr rfl) (hfx : X.fn x = true := by rfl) (hfy : X.fn y = true := by rfl) (hfz : X.fn z = true := by rfl)
    (hs1 : starEach [a, b, c] X.env = (false, eval a X.env) :: starEach [b, c] X.env := by rfl) (hs2 : starEach [b, c] X.env = (false, eval b X.env) :: starEach [c] X.env := by rfl) (hs3 : starEach [c] X.env = (false, eval c X.env) :: starEach [] X.env := by rfl)
    (hs : swapsWithSole [.Tuple [.Name x px, .Name y py, .Name z pz] kt pt] (.Tuple [a, b, c] k2 pt2) pos.line X.env = pure false := by rfl) (hw : swappedStores [.Tuple [.Name x px, .Name y py, .Name z pz] kt pt] (.Tuple [a, b, c] k2 pt2) X.env = pure none := by rfl)
    (h1 : (assignEach [.Tuple [.Name x px, .Name y py, .Name z pz] kt pt] X.env).map (·.2) = [assign (.Tuple [.Name x px, .Name y py, .Name z pz] kt pt) X.env] := by rfl)
    (hl : (assignEach [Expr.Name x px, .Name y py, .Name z pz] X.env).length = 3 := by rfl) (hst : (assignEach [Expr.Name x px, .Name y py, .Name z pz] X.env).findIdx? (·.1) = none := by rfl)
    (g1 : (assignEach [Expr.Name x px, .Name y py, .Name z pz] X.env).map (·.2) = assign (.Name x px) X.env :: (assignEach [Expr.Name y py, .Name z pz] X.env).map (·.2) := by rfl) (g2 : (assignEach [Expr.Name y py, .Name z pz] X.env).map (·.2) = assign (.Name y py) X.env :: (assignEach [Expr.Name z pz] X.env).map (·.2) := by rfl)
    (g3 : (assignEach [Expr.Name z pz] X.env).map (·.2) = assign (.Name z pz) X.env :: (assignEach [] X.env).map (·.2) := by rfl) :
    PDS X (.Assign [.Tuple [.Name x px, .Name y py, .Name z pz] kt pt] (.Tuple [a, b, c] k2 pt2) pos) (mPar3 i j l ma mb mc) :=
  PS.imp (ps_asg (pe_tup (pa_cons ha (pa_cons hb (pa_cons hcc pa_nil hs3) hs2) hs1)) (pg_tup hc (pgs_cons (pg_name hN hi hx (.inl hfx)) (pgs_cons (pg_name hN hj hy (.inl hfy)) (pgs_cons (pg_name hN hk' hz (.inl hfz)) pgs_nil g3) g2) g1) hl hst) hs hw h1) fun D σ H h => by
    obtain ⟨w, s, r, rfl, ok, re, hm, hk⟩ := h
    unfold mPar3 at hm
    split at hm
    · rename_i x1 s1 e1
      split at hm
      · rename_i y1 s2 e2
        split at hm
        · rename_i z1 s3 e3
          cases hm
          refine ⟨w, s, x1, s1, rfl, ok, re, e1, fun u w1 q1 l1 ok1 r1 => ?_⟩
          subst q1
          refine ⟨w1, s, y1, _, rfl, ok1, re.mono l1, e2, fun v w2 q2 l2 ok2 r2 => ?_⟩
          subst q2
          refine ⟨w2, s, z1, _, rfl, ok2, (re.mono l1).mono l2, e3, fun t w3 q3 l3 ok3 r3 => ?_⟩
          refine ⟨by show 3 ≤ sizeLine; decide, fun p hp => ⟨p, [u, v, t], rfl, .inl (.inl upd_same), rfl, u, [v, t], rfl, v, [t], rfl, t, [], rfl, rfl, ?_⟩⟩
          obtain ⟨l4, ok4⟩ := ok3.new (o := .tup [u, v, t]) hp
          exact hk _ ⟨w3.as, w3.st, upd w3.H p (.tup [u, v, t]), w3.ex⟩ q3 (((l1.trans l2).trans l3).trans l4) ok4 (((((((re.mono l1).mono l2).mono l3).mono l4).set (((r1.mono l2).mono l3).mono l4)).set ((r2.mono l3).mono l4)).set (r3.mono l4))
        · cases hm
      · cases hm
    · cases hm
end
end PD

set_option Elab.async false
set_option linter.all false
set_option maxRecDepth 100000
set_option maxHeartbeats 4000000
/-! PDH: a law's end -/
namespace PD
open PySem PySem.Spec PyProof.Rows L2
/-- the script's meaning -/
def script (ns : List Int) : DV := .s (ns.map PyData.int)
theorem ints_rel {K : PySem.W.Frag} {L : Addr → Prop} {H : Hp} : ∀ ns : List Int, RelPs K L H (ns.map PyData.int) (ns.map V.int)
  | [] => rfl
  | n :: ns => ⟨.int n, _, rfl, by simp [RelP], ints_rel ns⟩
theorem law_sp {K : PySem.W.Frag} {m : FN} {H : Hp} {a : Addr} {ns : List Int} {E : XK} {st' : Store} (hO : Only H) (hS : SqL K H a (ns.map V.int)) (h : m [script ns] [] = some (.d (.bool true), st')) : spOf K m [.ref a] H (fun v _ => v = .bl true) E := by
  have hL : ∀ b, ¬ Wd.L ⟨[], [], H, []⟩ b := fun b z => by
    rcases z with ⟨n, mo, z, _⟩ | z
    · simp at z
    · simp at z
  refine ⟨⟨[], [], H, []⟩, [script ns], .d (.bool true), st', rfl, ⟨rfl, by simp, fun a ha => by simp at ha, fun a ha => by simp at ha, fun a ha => by simp at ha, fun n a mo h1 _ => by simp at h1⟩, ?_, h, fun v w' _ _ _ r => ?_⟩
  · refine ⟨.ref a, [], rfl, ⟨a, ns.map V.int, rfl, ?_, ints_rel ns⟩, rfl⟩
    rcases hS with (hS | ⟨o, hS⟩) | hS
    · rcases hO a with z | ⟨o, xs, z⟩
      · rw [z] at hS; cases hS
      · rw [z] at hS; cases hS
    · exact .inl ⟨hL a, o, hS⟩
    · exact .inr (.inr hS)
  · simpa only [RelD, RelP] using r
section
variable {fa : List He.Fa} {fn : List He.DefD} {cs : List (Str × PyData)}
/-- what walk_ofE asks -/
theorem law_end {P : Program} {w : World} {mg : Str → Option Value} {h : Heap} {n k : Nat} {x : Str} {m : FN} {K : PySem.W.Frag} (d g : Nat) {params : Arguments} {body : List Stmt} {scope : Scope} (X : K.In h) (G : h.Ns mainGlobals mg) (T : Tab fa fn cs K mg)
    (hd : fn[d]? = some ⟨("law", none), "law", "law", params, body, scope, [], []⟩) (hg : fa[g]? = some (.glo "law"))
    (hb : ∀ (kV doc pm : Value) (an : Option Addr) (cdv ct : Value) (us : List Value), us.length = [x].length → bindArgs (PySem.W.fnOf "law" "law" params body scope .none kV doc pm an cdv ct) ⟨us, []⟩ = pure ([x].zip us))
    (F : ∀ base : Heap, FnAt P w K mg base "law" k [x] m) (plain : ∀ ns : List Int, ns.length ≤ n → ∃ st', m [script ns] [] = some (.d (.bool true), st')) (f : Addr) (hm : mg "law" = some (.ref f)) :
    ∃ (K : PySem.W.Frag) (fd : FuncData) (sp : Sp), K.In h ∧ (∀ (s : Shared) (u : Value), BindsTo s fd ⟨[u], []⟩ [(x, u)]) ∧
        (∀ (H : Hp) (a : Addr) (ns : List Int), ns.length ≤ n → Only H → SqL K H a (ns.map V.int) → sp [.ref a] H (fun v _ => v = .bl true) fun _ _ _ => False) ∧
        ∀ base : Heap, K.In base → base.Ns mainGlobals mg → FnOk P w K mg base CX0 k f fd [x] sp := by
  obtain ⟨fd, FD⟩ := T.says.def_ d hd
  have e := hm.symm.trans (T.glo g hg)
  cases e
  obtain ⟨zc, zd, _, _, _, _, _, _, _, zl, _, zk, _, _, _⟩ := FD.ex
  have b := FunD.bindsA (ps := [x]) FD hb
  refine ⟨K, fd, spOf K m, X, fun s u => b s [u] rfl, fun H a ns hl hO hS => ?_, fun base _ _ => ?_⟩
  · obtain ⟨st', e⟩ := plain ns hl
    exact law_sp hO hS e
  · obtain ⟨f', fd', hm', _, _, G', oc, od, osl, lk⟩ := (F base).ex
    have e := hm'.symm.trans hm
    cases e
    have zk' : K.lookup (He.ga K "law") = some ⟨zc, zd, .func fd, zl⟩ := zk
    rw [zk'] at lk
    cases lk
    exact G'
end
end PD

set_option Elab.async false
set_option linter.all false
set_option maxRecDepth 100000
set_option maxHeartbeats 0
/-! the law's text: its defs by place; what they mean (printed by gen.py) -/
noncomputable section
namespace W
open PySem PySem.Spec PyProof.Rows L2 PD
def top (i : Nat) : Stmt := PySem.Challenge.pw_cutsumsways_k77_whole_points_counted.main.body.getD i (.Pass ⟨0, 0, 0, 0⟩)
abbrev d_is_integer : Nat := 0
abbrev g_is_integer : Nat := 0
abbrev d_is_within : Nat := 1
abbrev g_is_within : Nat := 1
abbrev d_is_tuple_of : Nat := 2
abbrev g_is_tuple_of : Nat := 2
abbrev d_common : Nat := 3
abbrev g_common : Nat := 3
abbrev d_is_fraction : Nat := 4
abbrev g_is_fraction : Nat := 4
abbrev d_made : Nat := 5
abbrev g_made : Nat := 5
abbrev d_raw_plus : Nat := 6
abbrev g_raw_plus : Nat := 6
abbrev d_raw_times : Nat := 7
abbrev g_raw_times : Nat := 7
abbrev d_raw_at_most : Nat := 8
abbrev g_raw_at_most : Nat := 8
abbrev d_raw_below : Nat := 9
abbrev g_raw_below : Nat := 9
abbrev d_raw_greater : Nat := 10
abbrev g_raw_greater : Nat := 10
abbrev d_raw_cut : Nat := 11
abbrev g_raw_cut : Nat := 11
abbrev d_is_pair_of : Nat := 12
abbrev g_is_pair_of : Nat := 12
abbrev d_raw_is_sum : Nat := 13
abbrev g_raw_is_sum : Nat := 13
abbrev d_raw_worth : Nat := 14
abbrev g_raw_worth : Nat := 14
abbrev d_raw_is_cell : Nat := 15
abbrev g_raw_is_cell : Nat := 15
abbrev d_is_net : Nat := 16
abbrev g_is_net : Nat := 16
abbrev d_check_net : Nat := 17
abbrev g_check_net : Nat := 17
abbrev d_raw_cell_sums : Nat := 18
abbrev g_raw_cell_sums : Nat := 18
abbrev d_is_span : Nat := 19
abbrev g_is_span : Nat := 19
abbrev d_raw_is_box : Nat := 20
abbrev g_raw_is_box : Nat := 20
abbrev d_check_box : Nat := 21
abbrev g_check_box : Nat := 21
abbrev d_value_by : Nat := 22
abbrev g_value_by : Nat := 22
abbrev d_raw_cell_value : Nat := 23
abbrev g_raw_cell_value : Nat := 23
abbrev d_raw_sources_at : Nat := 24
abbrev g_raw_sources_at : Nat := 24
abbrev d_raw_run : Nat := 25
abbrev g_raw_run : Nat := 25
abbrev d_sign_by : Nat := 26
abbrev g_sign_by : Nat := 26
abbrev d_all_parts : Nat := 27
abbrev g_all_parts : Nat := 27
abbrev d_raw_signs : Nat := 28
abbrev g_raw_signs : Nat := 28
abbrev d_raw_is_claim : Nat := 29
abbrev g_raw_is_claim : Nat := 29
abbrev d_check_claim : Nat := 30
abbrev g_check_claim : Nat := 30
abbrev d_raw_holds : Nat := 31
abbrev g_raw_holds : Nat := 31
abbrev d_check_lone_box : Nat := 32
abbrev g_check_lone_box : Nat := 32
abbrev d_whole_ends : Nat := 33
abbrev g_whole_ends : Nat := 33
abbrev d_raw_whole_many : Nat := 34
abbrev g_raw_whole_many : Nat := 34
abbrev d_whole_many : Nat := 35
abbrev g_whole_many : Nat := 35
abbrev d_check_few : Nat := 36
abbrev g_check_few : Nat := 36
abbrev d_raw_whole_points : Nat := 37
abbrev g_raw_whole_points : Nat := 37
abbrev d_whole_points : Nat := 38
abbrev g_whole_points : Nat := 38
abbrev d_check_net_box : Nat := 39
abbrev g_check_net_box : Nat := 39
abbrev d_check_all : Nat := 40
abbrev g_check_all : Nat := 40
abbrev d_holding_many : Nat := 41
abbrev g_holding_many : Nat := 41
abbrev d_raw_failing : Nat := 42
abbrev g_raw_failing : Nat := 42
abbrev d_first_failing : Nat := 43
abbrev g_first_failing : Nat := 43
abbrev d_counted : Nat := 44
abbrev g_counted : Nat := 44
abbrev d_failing_by : Nat := 45
abbrev g_failing_by : Nat := 45
abbrev d_whole_signs : Nat := 46
abbrev g_whole_signs : Nat := 46
abbrev d_line_counts : Nat := 47
abbrev g_line_counts : Nat := 47
abbrev d__law_hand : Nat := 48
abbrev g__law_hand : Nat := 48
abbrev d__law_draw : Nat := 49
abbrev g__law_draw : Nat := 49
abbrev d__law_any : Nat := 50
abbrev g__law_any : Nat := 50
abbrev d__law_made : Nat := 51
abbrev g__law_made : Nat := 51
abbrev d__law_plus : Nat := 52
abbrev g__law_plus : Nat := 52
abbrev d__law_times : Nat := 53
abbrev g__law_times : Nat := 53
abbrev d__law_worth : Nat := 54
abbrev g__law_worth : Nat := 54
abbrev d__law_number : Nat := 55
abbrev g__law_number : Nat := 55
abbrev d__law_as_sum : Nat := 56
abbrev g__law_as_sum : Nat := 56
abbrev d__law_drawn_sum : Nat := 57
abbrev g__law_drawn_sum : Nat := 57
abbrev d__law_cell : Nat := 58
abbrev g__law_cell : Nat := 58
abbrev d__law_net : Nat := 59
abbrev g__law_net : Nat := 59
abbrev d__law_sums : Nat := 60
abbrev g__law_sums : Nat := 60
abbrev d__law_below : Nat := 61
abbrev g__law_below : Nat := 61
abbrev d__law_worked : Nat := 62
abbrev g__law_worked : Nat := 62
abbrev d__law_box : Nat := 63
abbrev g__law_box : Nat := 63
abbrev d__law_claim : Nat := 64
abbrev g__law_claim : Nat := 64
abbrev d__law_fails : Nat := 65
abbrev g__law_fails : Nat := 65
abbrev d__law_wholes : Nat := 66
abbrev g__law_wholes : Nat := 66
abbrev d__law_tally : Nat := 67
abbrev g__law_tally : Nat := 67
abbrev d__law_is_dict : Nat := 68
abbrev g__law_is_dict : Nat := 68
abbrev d_law : Nat := 69
abbrev g_law : Nat := 69
abbrev i_isinstance : Nat := 70
abbrev i_bool : Nat := 71
abbrev i_int : Nat := 72
abbrev i_len : Nat := 73
abbrev i_tuple : Nat := 74
abbrev i_abs : Nat := 75
abbrev i_all : Nat := 76
abbrev i_zip : Nat := 77
abbrev i_str : Nat := 78
abbrev i_enumerate : Nat := 79
abbrev i_list : Nat := 80
abbrev i_max : Nat := 81
abbrev i_range : Nat := 82
abbrev i_sorted : Nat := 83
abbrev i_dict : Nat := 84
abbrev c_NOUGHT : Nat := 0
abbrev c_WORDS : Nat := 1
abbrev c_MOST : Nat := 2
abbrev c_LEAST_MOST : Nat := 3
abbrev c_MOST_MOST : Nat := 4
abbrev c_SWITCH : Nat := 5
abbrev c_MOST_INPUTS : Nat := 6
abbrev c_MOST_CELLS : Nat := 7
abbrev c_MOST_OUTS : Nat := 8
abbrev c_PLAIN : Nat := 9
abbrev c_CUT : Nat := 10
abbrev c_STEP : Nat := 11
abbrev c_ONE : Nat := 12
abbrev c_LEAST : Nat := 13
abbrev c_ABOVE : Nat := 14
abbrev c_MOST_WHOLE : Nat := 15
def dn (i : Nat) (x : Str) : He.DefD := ⟨(x, none), x, x, defArgs (top i), defBody (top i), defScope (top i), [], []⟩
def fn0 : List He.DefD := [dn 10 "is_integer", dn 11 "is_within", dn 12 "is_tuple_of", dn 13 "common", dn 14 "is_fraction", dn 15 "made", dn 16 "raw_plus", dn 17 "raw_times", dn 18 "raw_at_most", dn 19 "raw_below", dn 20 "raw_greater", dn 21 "raw_cut", dn 23 "is_pair_of", dn 24 "raw_is_sum", dn 25 "raw_worth", dn 40 "raw_is_cell"]
def fn1 : List He.DefD := [dn 41 "is_net", dn 42 "check_net", dn 43 "raw_cell_sums", dn 45 "is_span", dn 46 "raw_is_box", dn 47 "check_box", dn 50 "value_by", dn 49 "raw_cell_value", dn 51 "raw_sources_at", dn 52 "raw_run", dn 53 "sign_by", dn 54 "all_parts", dn 55 "raw_signs", dn 57 "raw_is_claim", dn 58 "check_claim", dn 59 "raw_holds"]
def fn2 : List He.DefD := [dn 62 "check_lone_box", dn 63 "whole_ends", dn 64 "raw_whole_many", dn 65 "whole_many", dn 66 "check_few", dn 67 "raw_whole_points", dn 68 "whole_points", dn 69 "check_net_box", dn 70 "check_all", dn 71 "holding_many", dn 72 "raw_failing", dn 73 "first_failing", dn 74 "counted", dn 75 "failing_by", dn 76 "whole_signs", dn 77 "line_counts"]
def fn3 : List He.DefD := [dn 79 "_law_hand", dn 80 "_law_draw", dn 81 "_law_any", dn 82 "_law_made", dn 83 "_law_plus", dn 84 "_law_times", dn 85 "_law_worth", dn 86 "_law_number", dn 87 "_law_as_sum", dn 88 "_law_drawn_sum", dn 89 "_law_cell", dn 90 "_law_net", dn 91 "_law_sums", dn 92 "_law_below", dn 93 "_law_worked", dn 94 "_law_box"]
def fn4 : List He.DefD := [dn 95 "_law_claim", dn 96 "_law_fails", dn 97 "_law_wholes", dn 98 "_law_tally", dn 99 "_law_is_dict", dn 100 "law"]
def fn : List He.DefD := fn0 ++ fn1 ++ fn2 ++ fn3 ++ fn4
def fa0 : List He.Fa := [.glo "is_integer", .glo "is_within", .glo "is_tuple_of", .glo "common", .glo "is_fraction", .glo "made", .glo "raw_plus", .glo "raw_times", .glo "raw_at_most", .glo "raw_below", .glo "raw_greater", .glo "raw_cut", .glo "is_pair_of", .glo "raw_is_sum", .glo "raw_worth", .glo "raw_is_cell"]
def fa1 : List He.Fa := [.glo "is_net", .glo "check_net", .glo "raw_cell_sums", .glo "is_span", .glo "raw_is_box", .glo "check_box", .glo "value_by", .glo "raw_cell_value", .glo "raw_sources_at", .glo "raw_run", .glo "sign_by", .glo "all_parts", .glo "raw_signs", .glo "raw_is_claim", .glo "check_claim", .glo "raw_holds"]
def fa2 : List He.Fa := [.glo "check_lone_box", .glo "whole_ends", .glo "raw_whole_many", .glo "whole_many", .glo "check_few", .glo "raw_whole_points", .glo "whole_points", .glo "check_net_box", .glo "check_all", .glo "holding_many", .glo "raw_failing", .glo "first_failing", .glo "counted", .glo "failing_by", .glo "whole_signs", .glo "line_counts"]
def fa3 : List He.Fa := [.glo "_law_hand", .glo "_law_draw", .glo "_law_any", .glo "_law_made", .glo "_law_plus", .glo "_law_times", .glo "_law_worth", .glo "_law_number", .glo "_law_as_sum", .glo "_law_drawn_sum", .glo "_law_cell", .glo "_law_net", .glo "_law_sums", .glo "_law_below", .glo "_law_worked", .glo "_law_box"]
def fa4 : List He.Fa := [.glo "_law_claim", .glo "_law_fails", .glo "_law_wholes", .glo "_law_tally", .glo "_law_is_dict", .glo "law", .free "isinstance", .free "bool", .free "int", .free "len", .free "tuple", .free "abs", .free "all", .free "zip", .free "str", .free "enumerate"]
def fa5 : List He.Fa := [.free "list", .free "max", .free "range", .free "sorted", .free "dict"]
def fa : List He.Fa := fa0 ++ fa1 ++ fa2 ++ fa3 ++ fa4 ++ fa5
def cs0 : List (Str × PyData) := [("NOUGHT", .tuple [.int 0, .int 1]), ("WORDS", .tuple [.str "cut", .str "most", .str "plain", .str "step", .str "switch"]), ("MOST", .str "most"), ("LEAST_MOST", .int 2), ("MOST_MOST", .int 4), ("SWITCH", .str "switch"), ("MOST_INPUTS", .int 4), ("MOST_CELLS", .int 40), ("MOST_OUTS", .int 4), ("PLAIN", .str "plain"), ("CUT", .str "cut"), ("STEP", .str "step"), ("ONE", .tuple [.int 1, .int 1]), ("LEAST", .str "least"), ("ABOVE", .str "above"), ("MOST_WHOLE", .int 5000)]
def cs : List (Str × PyData) := cs0
abbrev TB (K : PySem.W.Frag) (mg : Str → Option Value) : Prop := Tab fa fn cs K mg
/-- is_integer -/
def N_is_integer : List Str := ["thing"]
def b_is_integer : SM := mRet (mAndV (mIsiD (mVar 0) "int") (mNotV (mIsiD (mVar 0) "bool")))
def m_is_integer : FN := runFn 1 1 b_is_integer
/-- is_within -/
def N_is_within : List Str := ["thing", "low", "high"]
def b_is_within : SM := mRet (mAndV (mApp m_is_integer (mCons (mVar 0) mNil)) (mChain fLe fLe (mVar 1) (mVar 0) (mVar 2)))
def m_is_within : FN := runFn 3 3 b_is_within
/-- is_tuple_of -/
def N_is_tuple_of : List Str := ["thing", "size"]
def b_is_tuple_of : SM := mRet (mAndV (mIsiD (mVar 0) "tuple") (mBin fEq (mApp fLen (mCons (mVar 0) mNil)) (mVar 1)))
def m_is_tuple_of : FN := runFn 2 2 b_is_tuple_of
/-- common -/
def N_common : List Str := ["x", "y"]
def b_common : SM := mSeq (mWhile (mB (mBin fNe (mVar 1) (mC (.int 0)))) (mPar 0 1 (mVar 1) (mBin fSub (mVar 0) (mBin fMul (mVar 1) (mBin fDiv (mVar 0) (mVar 1)))))) (mRet (mVar 0))
def m_common : FN := runFn 2 2 b_common
/-- is_fraction -/
def N_is_fraction : List Str := ["thing"]
def b_is_fraction : SM := mSeq (mIfS (mOrT (mNotT (mB (mApp m_is_tuple_of (mCons (mVar 0) (mCons (mC (.int 2)) mNil))))) (mOrT (mNotT (mB (mApp m_is_integer (mCons (mBin fIx (mVar 0) (mC (.int 0))) mNil)))) (mNotT (mB (mApp m_is_integer (mCons (mBin fIx (mVar 0) (mC (.int 1))) mNil)))))) (mRet (mC (.bool false))) mNx) (mRet (mAndV (mBin fGt (mBin fIx (mVar 0) (mC (.int 1))) (mC (.int 0))) (mBin fEq (mApp m_common (mCons (mApp fAbs (mCons (mBin fIx (mVar 0) (mC (.int 0))) mNil)) (mCons (mBin fIx (mVar 0) (mC (.int 1))) mNil))) (mC (.int 1)))))
def m_is_fraction : FN := runFn 1 1 b_is_fraction
/-- made -/
def N_made : List Str := ["top", "bottom", "low"]
def b_made : SM := mSeq (mSet 2 (mApp m_common (mCons (mApp fAbs (mCons (mVar 0) mNil)) (mCons (mApp fAbs (mCons (mVar 1) mNil)) mNil)))) (mSeq (mSet 2 (mIf (mB (mBin fGt (mVar 1) (mC (.int 0)))) (mVar 2) (mBin fSub (mC (.int 0)) (mVar 2)))) (mRet (mTup (mCons (mBin fDiv (mVar 0) (mVar 2)) (mCons (mBin fDiv (mVar 1) (mVar 2)) mNil)))))
def m_made : FN := runFn 2 3 b_made
/-- raw_plus -/
def N_raw_plus : List Str := ["x", "y"]
def b_raw_plus : SM := mRet (mApp m_made (mCons (mBin fAdd (mBin fMul (mBin fIx (mVar 0) (mC (.int 0))) (mBin fIx (mVar 1) (mC (.int 1)))) (mBin fMul (mBin fIx (mVar 1) (mC (.int 0))) (mBin fIx (mVar 0) (mC (.int 1))))) (mCons (mBin fMul (mBin fIx (mVar 0) (mC (.int 1))) (mBin fIx (mVar 1) (mC (.int 1)))) mNil)))
def m_raw_plus : FN := runFn 2 2 b_raw_plus
/-- raw_times -/
def N_raw_times : List Str := ["x", "y"]
def b_raw_times : SM := mRet (mApp m_made (mCons (mBin fMul (mBin fIx (mVar 0) (mC (.int 0))) (mBin fIx (mVar 1) (mC (.int 0)))) (mCons (mBin fMul (mBin fIx (mVar 0) (mC (.int 1))) (mBin fIx (mVar 1) (mC (.int 1)))) mNil)))
def m_raw_times : FN := runFn 2 2 b_raw_times
/-- raw_at_most -/
def N_raw_at_most : List Str := ["x", "y"]
def b_raw_at_most : SM := mRet (mBin fLe (mBin fMul (mBin fIx (mVar 0) (mC (.int 0))) (mBin fIx (mVar 1) (mC (.int 1)))) (mBin fMul (mBin fIx (mVar 1) (mC (.int 0))) (mBin fIx (mVar 0) (mC (.int 1)))))
def m_raw_at_most : FN := runFn 2 2 b_raw_at_most
/-- raw_below -/
def N_raw_below : List Str := ["x", "y"]
def b_raw_below : SM := mRet (mBin fLt (mBin fMul (mBin fIx (mVar 0) (mC (.int 0))) (mBin fIx (mVar 1) (mC (.int 1)))) (mBin fMul (mBin fIx (mVar 1) (mC (.int 0))) (mBin fIx (mVar 0) (mC (.int 1)))))
def m_raw_below : FN := runFn 2 2 b_raw_below
/-- raw_greater -/
def N_raw_greater : List Str := ["x", "y"]
def b_raw_greater : SM := mRet (mIf (mB (mApp m_raw_at_most (mCons (mVar 0) (mCons (mVar 1) mNil)))) (mVar 1) (mVar 0))
def m_raw_greater : FN := runFn 2 2 b_raw_greater
/-- raw_cut -/
def N_raw_cut : List Str := ["x"]
def b_raw_cut : SM := mRet (mIf (mB (mBin fGt (mBin fIx (mVar 0) (mC (.int 0))) (mC (.int 0)))) (mVar 0) (mC (.tuple [.int 0, .int 1])))
def m_raw_cut : FN := runFn 1 1 b_raw_cut
/-- is_pair_of -/
def N_is_pair_of : List Str := ["many", "thing"]
def b_is_pair_of : SM := mSeq (mIfS (mOrT (mNotT (mB (mApp m_is_tuple_of (mCons (mVar 1) (mCons (mC (.int 2)) mNil))))) (mNotT (mB (mApp m_is_within (mCons (mBin fIx (mVar 1) (mC (.int 0))) (mCons (mC (.int 0)) (mCons (mBin fSub (mVar 0) (mC (.int 1))) mNil))))))) (mRet (mC (.bool false))) mNx) (mRet (mAndV (mApp m_is_fraction (mCons (mBin fIx (mVar 1) (mC (.int 1))) mNil)) (mBin fNe (mBin fIx (mBin fIx (mVar 1) (mC (.int 1))) (mC (.int 0))) (mC (.int 0)))))
def m_is_pair_of : FN := runFn 2 2 b_is_pair_of
/-- raw_is_sum -/
def N_raw_is_sum : List Str := ["many", "thing", "one", "other", "pair"]
def b_raw_is_sum : SM := mSeq (mIfS (mOrT (mNotT (mB (mApp m_is_tuple_of (mCons (mVar 1) (mCons (mC (.int 2)) mNil))))) (mOrT (mNotT (mB (mIsiD (mBin fIx (mVar 1) (mC (.int 0))) "tuple"))) (mNotT (mB (mApp m_is_fraction (mCons (mBin fIx (mVar 1) (mC (.int 1))) mNil)))))) (mRet (mC (.bool false))) mNx) (mSeq (mIfS (mNotT (mB (mApp fAll (mCons (mLc [4] (mIt (mBin fIx (mVar 1) (mC (.int 0)))) (gmName 4) mYes (mApp m_is_pair_of (mCons (mVar 0) (mCons (mVar 4) mNil)))) mNil)))) (mRet (mC (.bool false))) mNx) (mRet (mApp fAll (mCons (mLc [2, 3] (mZip (mBin fIx (mVar 1) (mC (.int 0))) (mSl (mBin fIx (mVar 1) (mC (.int 0))) (mPart (mC (.int 1))) mNoPart)) (gmTup 2 (gmCons (gmName 2) (gmCons (gmName 3) gmNil))) mYes (mBin fLt (mBin fIx (mVar 2) (mC (.int 0))) (mBin fIx (mVar 3) (mC (.int 0))))) mNil))))
def m_raw_is_sum : FN := runFn 2 5 b_raw_is_sum
/-- raw_worth -/
def N_raw_worth : List Str := ["values", "one", "found", "source", "factor"]
def b_raw_worth : SM := mSeq (mSet 2 (mBin fIx (mVar 1) (mC (.int 1)))) (mSeq (mFor (mIt (mBin fIx (mVar 1) (mC (.int 0)))) (gmTup 2 (gmCons (gmName 3) (gmCons (gmName 4) gmNil))) (mSet 2 (mApp m_raw_plus (mCons (mVar 2) (mCons (mApp m_raw_times (mCons (mVar 4) (mCons (mBin fIx (mVar 0) (mVar 3)) mNil))) mNil))))) (mRet (mVar 2)))
def m_raw_worth : FN := runFn 2 5 b_raw_worth
/-- raw_is_cell -/
def N_raw_is_cell : List Str := ["many", "thing", "size", "one"]
def b_raw_is_cell : SM := mSeq (mIfS (mOrT (mNotT (mB (mIsiD (mVar 1) "tuple"))) (mOrT (mB (mBin fLt (mApp fLen (mCons (mVar 1) mNil)) (mC (.int 2)))) (mOrT (mNotT (mB (mIsiD (mBin fIx (mVar 1) (mC (.int 0))) "str"))) (mB (mBin (fInA true) (mBin fIx (mVar 1) (mC (.int 0))) (mC (.tuple [.str "cut", .str "most", .str "plain", .str "step", .str "switch"]))))))) (mRet (mC (.bool false))) mNx) (mSeq (mIfS (mB (mBin fEq (mBin fIx (mVar 1) (mC (.int 0))) (mC (.str "most")))) (mSeq (mIfS (mOrT (mB (mBin fNe (mApp fLen (mCons (mVar 1) mNil)) (mC (.int 2)))) (mOrT (mNotT (mB (mIsiD (mBin fIx (mVar 1) (mC (.int 1))) "tuple"))) (mNotT (mB (mChain fLe fLe (mC (.int 2)) (mApp fLen (mCons (mBin fIx (mVar 1) (mC (.int 1))) mNil)) (mC (.int 4))))))) (mRet (mC (.bool false))) mNx) (mRet (mApp fAll (mCons (mLc [3] (mIt (mBin fIx (mVar 1) (mC (.int 1)))) (gmName 3) mYes (mApp m_raw_is_sum (mCons (mVar 0) (mCons (mVar 3) mNil)))) mNil)))) mNx) (mSeq (mSet 2 (mIf (mB (mBin fEq (mBin fIx (mVar 1) (mC (.int 0))) (mC (.str "switch")))) (mC (.int 4)) (mC (.int 2)))) (mRet (mAndV (mBin fEq (mApp fLen (mCons (mVar 1) mNil)) (mVar 2)) (mApp fAll (mCons (mLc [3] (mIt (mSl (mVar 1) (mPart (mC (.int 1))) mNoPart)) (gmName 3) mYes (mApp m_raw_is_sum (mCons (mVar 0) (mCons (mVar 3) mNil)))) mNil))))))
def m_raw_is_cell : FN := runFn 2 4 b_raw_is_cell
/-- is_net -/
def N_is_net : List Str := ["thing", "m", "cells", "outs", "one", "c", "cell"]
def b_is_net : SM := mSeq (mIfS (mOrT (mNotT (mB (mApp m_is_tuple_of (mCons (mVar 0) (mCons (mC (.int 3)) mNil))))) (mNotT (mB (mApp m_is_within (mCons (mBin fIx (mVar 0) (mC (.int 0))) (mCons (mC (.int 1)) (mCons (mC (.int 4)) mNil))))))) (mRet (mC (.bool false))) mNx) (mSeq (mAsg (mVar 0) (gmTup 3 (gmCons (gmName 1) (gmCons (gmName 2) (gmCons (gmName 3) gmNil))))) (mSeq (mIfS (mOrT (mNotT (mB (mIsiD (mVar 2) "tuple"))) (mB (mBin fGt (mApp fLen (mCons (mVar 2) mNil)) (mC (.int 40))))) (mRet (mC (.bool false))) mNx) (mSeq (mIfS (mOrT (mNotT (mB (mIsiD (mVar 3) "tuple"))) (mNotT (mB (mChain fLe fLe (mC (.int 1)) (mApp fLen (mCons (mVar 3) mNil)) (mC (.int 4)))))) (mRet (mC (.bool false))) mNx) (mSeq (mIfS (mNotT (mB (mApp fAll (mCons (mLc [5, 6] (mEnum (mVar 2)) (gmTup 2 (gmCons (gmName 5) (gmCons (gmName 6) gmNil))) mYes (mApp m_raw_is_cell (mCons (mBin fAdd (mVar 1) (mVar 5)) (mCons (mVar 6) mNil)))) mNil)))) (mRet (mC (.bool false))) mNx) (mRet (mApp fAll (mCons (mLc [4] (mIt (mVar 3)) (gmName 4) mYes (mApp m_raw_is_sum (mCons (mBin fAdd (mVar 1) (mApp fLen (mCons (mVar 2) mNil))) (mCons (mVar 4) mNil)))) mNil)))))))
def m_is_net : FN := runFn 1 7 b_is_net
/-- check_net -/
def N_check_net : List Str := ["net"]
def b_check_net : SM := mIfS (mNotT (mB (mApp m_is_net (mCons (mVar 0) mNil)))) mStuck mNx
def m_check_net : FN := runFn 1 1 b_check_net
/-- raw_cell_sums -/
def N_raw_cell_sums : List Str := ["cell"]
def b_raw_cell_sums : SM := mRet (mIf (mB (mBin fEq (mBin fIx (mVar 0) (mC (.int 0))) (mC (.str "most")))) (mBin fIx (mVar 0) (mC (.int 1))) (mSl (mVar 0) (mPart (mC (.int 1))) mNoPart))
def m_raw_cell_sums : FN := runFn 1 1 b_raw_cell_sums
/-- is_span -/
def N_is_span : List Str := ["thing"]
def b_is_span : SM := mSeq (mIfS (mOrT (mNotT (mB (mApp m_is_tuple_of (mCons (mVar 0) (mCons (mC (.int 2)) mNil))))) (mOrT (mNotT (mB (mApp m_is_fraction (mCons (mBin fIx (mVar 0) (mC (.int 0))) mNil)))) (mNotT (mB (mApp m_is_fraction (mCons (mBin fIx (mVar 0) (mC (.int 1))) mNil)))))) (mRet (mC (.bool false))) mNx) (mRet (mApp m_raw_at_most (mCons (mBin fIx (mVar 0) (mC (.int 0))) (mCons (mBin fIx (mVar 0) (mC (.int 1))) mNil))))
def m_is_span : FN := runFn 1 1 b_is_span
/-- raw_is_box -/
def N_raw_is_box : List Str := ["m", "thing", "span"]
def b_raw_is_box : SM := mRet (mAndV (mApp m_is_tuple_of (mCons (mVar 1) (mCons (mVar 0) mNil))) (mApp fAll (mCons (mLc [2] (mIt (mVar 1)) (gmName 2) mYes (mApp m_is_span (mCons (mVar 2) mNil))) mNil)))
def m_raw_is_box : FN := runFn 2 3 b_raw_is_box
/-- check_box -/
def N_check_box : List Str := ["net", "box"]
def b_check_box : SM := mSeq (mDrop (mApp m_check_net (mCons (mVar 0) mNil))) (mIfS (mNotT (mB (mApp m_raw_is_box (mCons (mBin fIx (mVar 0) (mC (.int 0))) (mCons (mVar 1) mNil))))) mStuck mNx)
def m_check_box : FN := runFn 2 2 b_check_box
/-- value_by -/
def N_value_by : List Str := ["word", "parts", "found", "one"]
def b_value_by : SM := mSeq (mIfS (mB (mBin fEq (mVar 0) (mC (.str "plain")))) (mRet (mBin fIx (mVar 1) (mC (.int 0)))) mNx) (mSeq (mIfS (mB (mBin fEq (mVar 0) (mC (.str "cut")))) (mRet (mApp m_raw_cut (mCons (mBin fIx (mVar 1) (mC (.int 0))) mNil))) mNx) (mSeq (mIfS (mB (mBin fEq (mVar 0) (mC (.str "step")))) (mRet (mIf (mB (mBin fGt (mBin fIx (mBin fIx (mVar 1) (mC (.int 0))) (mC (.int 0))) (mC (.int 0)))) (mC (.tuple [.int 1, .int 1])) (mC (.tuple [.int 0, .int 1])))) mNx) (mSeq (mIfS (mB (mBin fEq (mVar 0) (mC (.str "switch")))) (mRet (mIf (mB (mBin fGt (mBin fIx (mBin fIx (mVar 1) (mC (.int 0))) (mC (.int 0))) (mC (.int 0)))) (mBin fIx (mVar 1) (mC (.int 1))) (mBin fIx (mVar 1) (mC (.int 2))))) mNx) (mSeq (mSet 2 (mBin fIx (mVar 1) (mC (.int 0)))) (mSeq (mFor (mIt (mSl (mVar 1) (mPart (mC (.int 1))) mNoPart)) (gmName 3) (mSet 2 (mApp m_raw_greater (mCons (mVar 2) (mCons (mVar 3) mNil))))) (mRet (mVar 2)))))))
def m_value_by : FN := runFn 2 4 b_value_by
/-- raw_cell_value -/
def N_raw_cell_value : List Str := ["cell", "sources", "parts", "one"]
def b_raw_cell_value : SM := mSeq (mSet 2 (mLc [3] (mIt (mApp m_raw_cell_sums (mCons (mVar 0) mNil))) (gmName 3) mYes (mApp m_raw_worth (mCons (mVar 1) (mCons (mVar 3) mNil))))) (mRet (mApp m_value_by (mCons (mBin fIx (mVar 0) (mC (.int 0))) (mCons (mVar 2) mNil))))
def m_raw_cell_value : FN := runFn 2 4 b_raw_cell_value
/-- raw_sources_at -/
def N_raw_sources_at : List Str := ["net", "point", "found", "cell"]
def b_raw_sources_at : SM := mSeq (mSet 2 (mApp fListM (mCons (mVar 1) mNil))) (mSeq (mFor (mIt (mBin fIx (mVar 0) (mC (.int 1)))) (gmName 3) (mDrop (mAppend (mVar 2) (mApp m_raw_cell_value (mCons (mVar 3) (mCons (mVar 2) mNil)))))) (mRetF (mVar 2)))
def m_raw_sources_at : FN := runFn 2 4 b_raw_sources_at
/-- raw_run -/
def N_raw_run : List Str := ["net", "point", "found", "one"]
def b_raw_run : SM := mSeq (mSet 2 (mApp m_raw_sources_at (mCons (mVar 0) (mCons (mVar 1) mNil)))) (mRet (mApp fTuple (mCons (mLc [3] (mIt (mBin fIx (mVar 0) (mC (.int 2)))) (gmName 3) mYes (mApp m_raw_worth (mCons (mVar 2) (mCons (mVar 3) mNil)))) mNil)))
def m_raw_run : FN := runFn 2 4 b_raw_run
/-- sign_by -/
def N_sign_by : List Str := ["word", "parts", "found", "at", "one"]
def b_sign_by : SM := mSeq (mIfS (mB (mBin fEq (mVar 0) (mC (.str "plain")))) (mRet (mC (.int 0))) mNx) (mSeq (mIfS (mB (mBin fNe (mVar 0) (mC (.str "most")))) (mRet (mApp fInt (mCons (mBin fGt (mBin fIx (mBin fIx (mVar 1) (mC (.int 0))) (mC (.int 0))) (mC (.int 0))) mNil))) mNx) (mSeq (mSet 2 (mC (.int 0))) (mSeq (mFor (mEnum (mVar 1)) (gmTup 2 (gmCons (gmName 3) (gmCons (gmName 4) gmNil))) (mSet 2 (mIf (mB (mApp m_raw_below (mCons (mBin fIx (mVar 1) (mVar 2)) (mCons (mVar 4) mNil)))) (mVar 3) (mVar 2)))) (mRet (mVar 2)))))
def m_sign_by : FN := runFn 2 5 b_sign_by
/-- all_parts -/
def N_all_parts : List Str := ["net", "point", "cell", "sources", "found", "one"]
def b_all_parts : SM := mSeq (mPar 3 4 (mApp m_raw_sources_at (mCons (mVar 0) (mCons (mVar 1) mNil))) (mLstM mNil)) (mSeq (mFor (mIt (mBin fIx (mVar 0) (mC (.int 1)))) (gmName 2) (mDrop (mAppend (mVar 4) (mTup (mCons (mBin fIx (mVar 2) (mC (.int 0))) (mCons (mLc [5] (mIt (mApp m_raw_cell_sums (mCons (mVar 2) mNil))) (gmName 5) mYes (mApp m_raw_worth (mCons (mVar 3) (mCons (mVar 5) mNil)))) mNil)))))) (mRetF (mVar 4)))
def m_all_parts : FN := runFn 2 6 b_all_parts
/-- raw_signs -/
def N_raw_signs : List Str := ["net", "point", "word", "parts"]
def b_raw_signs : SM := mRet (mApp fTuple (mCons (mLc [2, 3] (mIt (mApp m_all_parts (mCons (mVar 0) (mCons (mVar 1) mNil)))) (gmTup 2 (gmCons (gmName 2) (gmCons (gmName 3) gmNil))) mYes (mApp m_sign_by (mCons (mVar 2) (mCons (mVar 3) mNil)))) mNil))
def m_raw_signs : FN := runFn 2 4 b_raw_signs
/-- raw_is_claim -/
def N_raw_is_claim : List Str := ["outs", "thing"]
def b_raw_is_claim : SM := mSeq (mIfS (mOrT (mNotT (mB (mApp m_is_tuple_of (mCons (mVar 1) (mCons (mC (.int 2)) mNil))))) (mNotT (mB (mApp m_raw_is_sum (mCons (mVar 0) (mCons (mBin fIx (mVar 1) (mC (.int 0))) mNil)))))) (mRet (mC (.bool false))) mNx) (mRet (mAndV (mIsiD (mBin fIx (mVar 1) (mC (.int 1))) "str") (mBin (fInA false) (mBin fIx (mVar 1) (mC (.int 1))) (mTup (mCons (mC (.str "above")) (mCons (mC (.str "least")) mNil))))))
def m_raw_is_claim : FN := runFn 2 2 b_raw_is_claim
/-- check_claim -/
def N_check_claim : List Str := ["net", "claim"]
def b_check_claim : SM := mIfS (mNotT (mB (mApp m_raw_is_claim (mCons (mApp fLen (mCons (mBin fIx (mVar 0) (mC (.int 2))) mNil)) (mCons (mVar 1) mNil))))) mStuck mNx
def m_check_claim : FN := runFn 2 2 b_check_claim
/-- raw_holds -/
def N_raw_holds : List Str := ["net", "point", "claim", "worth"]
def b_raw_holds : SM := mSeq (mSet 3 (mApp m_raw_worth (mCons (mApp m_raw_run (mCons (mVar 0) (mCons (mVar 1) mNil))) (mCons (mBin fIx (mVar 2) (mC (.int 0))) mNil)))) (mRet (mIf (mB (mBin fEq (mBin fIx (mVar 2) (mC (.int 1))) (mC (.str "above")))) (mBin fGt (mBin fIx (mVar 3) (mC (.int 0))) (mC (.int 0))) (mBin fGe (mBin fIx (mVar 3) (mC (.int 0))) (mC (.int 0)))))
def m_raw_holds : FN := runFn 3 4 b_raw_holds
/-- check_lone_box -/
def N_check_lone_box : List Str := ["box"]
def b_check_lone_box : SM := mIfS (mOrT (mNotT (mB (mIsiD (mVar 0) "tuple"))) (mOrT (mNotT (mB (mChain fLe fLe (mC (.int 1)) (mApp fLen (mCons (mVar 0) mNil)) (mC (.int 4))))) (mNotT (mB (mApp m_raw_is_box (mCons (mApp fLen (mCons (mVar 0) mNil)) (mCons (mVar 0) mNil))))))) mStuck mNx
def m_check_lone_box : FN := runFn 1 1 b_check_lone_box
/-- whole_ends -/
def N_whole_ends : List Str := ["pair", "top", "bottom", "high_top", "high_bottom"]
def b_whole_ends : SM := mSeq (mAsg (mVar 0) (gmTup 2 (gmCons (gmTup 2 (gmCons (gmName 1) (gmCons (gmName 2) gmNil))) (gmCons (gmTup 2 (gmCons (gmName 3) (gmCons (gmName 4) gmNil))) gmNil)))) (mRet (mTup (mCons (mBin fSub (mC (.int 0)) (mBin fDiv (mBin fSub (mC (.int 0)) (mVar 1)) (mVar 2))) (mCons (mBin fDiv (mVar 3) (mVar 4)) mNil))))
def m_whole_ends : FN := runFn 1 5 b_whole_ends
/-- raw_whole_many -/
def N_raw_whole_many : List Str := ["box", "found", "pair", "low", "high"]
def b_raw_whole_many : SM := mSeq (mSet 1 (mC (.int 1))) (mSeq (mFor (mIt (mVar 0)) (gmName 2) (mSeq (mAsg (mApp m_whole_ends (mCons (mVar 2) mNil)) (gmTup 2 (gmCons (gmName 3) (gmCons (gmName 4) gmNil)))) (mAug 1 fMul (mApp fMax2 (mCons (mC (.int 0)) (mCons (mBin fAdd (mBin fSub (mVar 4) (mVar 3)) (mC (.int 1))) mNil)))))) (mRet (mVar 1)))
def m_raw_whole_many : FN := runFn 1 5 b_raw_whole_many
/-- whole_many -/
def N_whole_many : List Str := ["box"]
def b_whole_many : SM := mSeq (mDrop (mApp m_check_lone_box (mCons (mVar 0) mNil))) (mRet (mApp m_raw_whole_many (mCons (mVar 0) mNil)))
def m_whole_many : FN := runFn 1 1 b_whole_many
/-- check_few -/
def N_check_few : List Str := ["box"]
def b_check_few : SM := mIfS (mB (mBin fGt (mApp m_raw_whole_many (mCons (mVar 0) mNil)) (mC (.int 5000)))) mStuck mNx
def m_check_few : FN := runFn 1 1 b_check_few
/-- raw_whole_points -/
def N_raw_whole_points : List Str := ["box", "found", "pair", "longer", "point", "low", "high", "place"]
def b_raw_whole_points : SM := mSeq (mSet 1 (mLst (mCons (mTup mNil) mNil))) (mSeq (mIfS (mB (mBin fEq (mApp m_raw_whole_many (mCons (mVar 0) mNil)) (mC (.int 0)))) (mRet (mLst mNil)) mNx) (mSeq (mFor (mIt (mVar 0)) (gmName 2) (mSeq (mAsg (mApp m_whole_ends (mCons (mVar 2) mNil)) (gmTup 2 (gmCons (gmName 5) (gmCons (gmName 6) gmNil)))) (mSeq (mSet 3 (mLstM mNil)) (mSeq (mFor (mIt (mVar 1)) (gmName 4) (mDrop (mExtend (mVar 3) (mLc [7] (mRng2 (mVar 5) (mBin fAdd (mVar 6) (mC (.int 1)))) (gmName 7) mYes (mBin fAdd (mVar 4) (mTup (mCons (mTup (mCons (mVar 7) (mCons (mC (.int 1)) mNil))) mNil))))))) (mSet 1 (mVar 3)))))) (mRetF (mVar 1))))
def m_raw_whole_points : FN := runFn 1 8 b_raw_whole_points
/-- whole_points -/
def N_whole_points : List Str := ["box"]
def b_whole_points : SM := mSeq (mDrop (mApp m_check_lone_box (mCons (mVar 0) mNil))) (mSeq (mDrop (mApp m_check_few (mCons (mVar 0) mNil))) (mRet (mApp fTuple (mCons (mApp m_raw_whole_points (mCons (mVar 0) mNil)) mNil))))
def m_whole_points : FN := runFn 1 1 b_whole_points
/-- check_net_box -/
def N_check_net_box : List Str := ["net", "box"]
def b_check_net_box : SM := mSeq (mDrop (mApp m_check_net (mCons (mVar 0) mNil))) (mDrop (mApp m_check_box (mCons (mVar 0) (mCons (mVar 1) mNil))))
def m_check_net_box : FN := runFn 2 2 b_check_net_box
/-- check_all -/
def N_check_all : List Str := ["net", "box", "claim"]
def b_check_all : SM := mSeq (mDrop (mApp m_check_net_box (mCons (mVar 0) (mCons (mVar 1) mNil)))) (mSeq (mDrop (mApp m_check_claim (mCons (mVar 0) (mCons (mVar 2) mNil)))) (mDrop (mApp m_check_few (mCons (mVar 1) mNil))))
def m_check_all : FN := runFn 3 3 b_check_all
/-- holding_many -/
def N_holding_many : List Str := ["net", "box", "claim", "point"]
def b_holding_many : SM := mSeq (mDrop (mApp m_check_all (mCons (mVar 0) (mCons (mVar 1) (mCons (mVar 2) mNil))))) (mRet (mApp fLen (mCons (mLc [3] (mIt (mApp m_raw_whole_points (mCons (mVar 1) mNil))) (gmName 3) (mB (mApp m_raw_holds (mCons (mVar 0) (mCons (mVar 3) (mCons (mVar 2) mNil))))) (mC (.int 1))) mNil)))
def m_holding_many : FN := runFn 3 4 b_holding_many
/-- raw_failing -/
def N_raw_failing : List Str := ["net", "box", "claim", "point"]
def b_raw_failing : SM := mRet (mLc [3] (mIt (mApp m_raw_whole_points (mCons (mVar 1) mNil))) (gmName 3) (mNotT (mB (mApp m_raw_holds (mCons (mVar 0) (mCons (mVar 3) (mCons (mVar 2) mNil)))))) (mVar 3))
def m_raw_failing : FN := runFn 3 4 b_raw_failing
/-- first_failing -/
def N_first_failing : List Str := ["net", "box", "claim", "point"]
def b_first_failing : SM := mSeq (mDrop (mApp m_check_all (mCons (mVar 0) (mCons (mVar 1) (mCons (mVar 2) mNil))))) (mSeq (mFor (mIt (mApp m_raw_whole_points (mCons (mVar 1) mNil))) (gmName 3) (mIfS (mNotT (mB (mApp m_raw_holds (mCons (mVar 0) (mCons (mVar 3) (mCons (mVar 2) mNil)))))) (mRet (mVar 3)) mNx)) (mRet (mC .none)))
def m_first_failing : FN := runFn 3 4 b_first_failing
/-- counted -/
def N_counted : List Str := ["keys", "found", "key"]
def b_counted : SM := mSeq (mSet 1 mNewN) (mSeq (mFor (mIt (mApp fSorted (mCons (mVar 0) mNil))) (gmName 2) (mPut (mBin fAdd (mGet2 (mVar 1) (mVar 2) (mC (.int 0))) (mC (.int 1))) (mVar 1) (mVar 2))) (mRet (mVar 1)))
def m_counted : FN := runFn 1 3 b_counted
/-- failing_by -/
def N_failing_by : List Str := ["net", "box", "claim", "point"]
def b_failing_by : SM := mSeq (mDrop (mApp m_check_all (mCons (mVar 0) (mCons (mVar 1) (mCons (mVar 2) mNil))))) (mRet (mApp m_counted (mCons (mLc [3] (mIt (mApp m_raw_failing (mCons (mVar 0) (mCons (mVar 1) (mCons (mVar 2) mNil))))) (gmName 3) mYes (mApp m_raw_signs (mCons (mVar 0) (mCons (mVar 3) mNil)))) mNil)))
def m_failing_by : FN := runFn 3 4 b_failing_by
/-- whole_signs -/
def N_whole_signs : List Str := ["net", "box", "point"]
def b_whole_signs : SM := mSeq (mDrop (mApp m_check_net_box (mCons (mVar 0) (mCons (mVar 1) mNil)))) (mSeq (mDrop (mApp m_check_few (mCons (mVar 1) mNil))) (mRet (mApp m_counted (mCons (mLc [2] (mIt (mApp m_raw_whole_points (mCons (mVar 1) mNil))) (gmName 2) mYes (mApp m_raw_signs (mCons (mVar 0) (mCons (mVar 2) mNil)))) mNil))))
def m_whole_signs : FN := runFn 2 3 b_whole_signs
/-- line_counts -/
def N_line_counts : List Str := ["net", "box", "claim", "i", "found", "point", "low", "high", "place"]
def b_line_counts : SM := mSeq (mDrop (mApp m_check_net_box (mCons (mVar 0) (mCons (mVar 1) mNil)))) (mSeq (mDrop (mApp m_check_claim (mCons (mVar 0) (mCons (mVar 2) mNil)))) (mSeq (mIfS (mNotT (mB (mApp m_is_within (mCons (mVar 3) (mCons (mC (.int 0)) (mCons (mBin fSub (mBin fIx (mVar 0) (mC (.int 0))) (mC (.int 1))) mNil)))))) mStuck mNx) (mSeq (mDrop (mApp m_check_few (mCons (mVar 1) mNil))) (mSeq (mAsg (mApp m_whole_ends (mCons (mBin fIx (mVar 1) (mVar 3)) mNil)) (gmTup 2 (gmCons (gmName 6) (gmCons (gmName 7) gmNil)))) (mSeq (mSet 4 (mDc [8] (mRng2 (mVar 6) (mBin fAdd (mVar 7) (mC (.int 1)))) (gmName 8) mYes (mVar 8) (mC (.int 0)))) (mSeq (mFor (mIt (mApp m_raw_whole_points (mCons (mVar 1) mNil))) (gmName 5) (mPutAug fAddI (mVar 4) (mBin fIx (mBin fIx (mVar 5) (mVar 3)) (mC (.int 0))) (mApp fInt (mCons (mApp m_raw_holds (mCons (mVar 0) (mCons (mVar 5) (mCons (mVar 2) mNil)))) mNil)))) (mRet (mVar 4))))))))
def m_line_counts : FN := runFn 4 9 b_line_counts
/-- _law_hand -/
def N__law_hand : List Str := ["script", "cells", "cell"]
def b__law_hand : SM := mSeq (mSet 1 (mLc [2] (mIt (mSl (mVar 0) mNoPart (mPart (mC (.int 63))))) (gmName 2) mYes (mApp fAbs (mCons (mApp fInt (mCons (mVar 2) mNil)) mNil)))) (mRet (mLstM (mCons (mVar 1) (mCons (mC (.int 0)) (mCons (mC (.int 0)) (mCons (mBin fAdd (mC (.int 83)) (mBin fMul (mC (.int 7)) (mApp fLen (mCons (mVar 1) mNil)))) (mCons (mC (.int 0)) mNil)))))))
def m__law_hand : FN := runFn 1 3 b__law_hand
/-- _law_draw -/
def N__law_draw : List Str := ["hand", "many", "number", "cell", "digit"]
def b__law_draw : SM := mSeq (mIfS (mAndT (mB (mBin fEq (mBin fIx (mVar 0) (mC (.int 2))) (mC (.int 0)))) (mB (mBin fLt (mBin fIx (mVar 0) (mC (.int 1))) (mApp fLen (mCons (mBin fIx (mVar 0) (mC (.int 0))) mNil))))) (mSeq (mSet 3 (mBin fIx (mBin fIx (mVar 0) (mC (.int 0))) (mBin fIx (mVar 0) (mC (.int 1))))) (mSeq (mPut (mBin fAdd (mBin fIx (mVar 0) (mC (.int 1))) (mC (.int 1))) (mVar 0) (mC (.int 1))) (mSeq (mPut (mBin fMod (mApp fInt (mCons (mBin fAdd (mBin fAdd (mBin fMul (mBin fIx (mVar 0) (mC (.int 3))) (mC (.int 69621))) (mBin fMul (mVar 3) (mC (.int 40692)))) (mC (.int 31))) mNil)) (mC (.int 2147483629))) (mVar 0) (mC (.int 3))) (mIfS (mB (mBin fGe (mVar 3) (mBin fPow (mC (.int 10)) (mC (.int 18))))) (mPut (mVar 3) (mVar 0) (mC (.int 2))) mNx)))) mNx) (mSeq (mIfS (mB (mBin fGt (mBin fIx (mVar 0) (mC (.int 2))) (mC (.int 0)))) (mSeq (mSet 4 (mBin fMod (mApp fInt (mCons (mBin fIx (mVar 0) (mC (.int 2))) mNil)) (mVar 1))) (mSeq (mPut (mBin fDiv (mBin fIx (mVar 0) (mC (.int 2))) (mVar 1)) (mVar 0) (mC (.int 2))) (mRet (mVar 4)))) mNx) (mSeq (mPut (mBin fAdd (mBin fIx (mVar 0) (mC (.int 4))) (mC (.int 1))) (mVar 0) (mC (.int 4))) (mSeq (mSet 2 (mBin fMod (mApp fInt (mCons (mBin fMul (mApp fInt (mCons (mBin fAdd (mBin fIx (mVar 0) (mC (.int 3))) (mBin fMul (mC (.int 7919)) (mBin fIx (mVar 0) (mC (.int 4))))) mNil)) (mC (.int 48271))) mNil)) (mC (.int 2147483647)))) (mSeq (mSet 2 (mBin fMod (mApp fInt (mCons (mBin fMul (mVar 2) (mBin fAdd (mBin fDiv (mVar 2) (mC (.int 1009))) (mC (.int 69621)))) mNil)) (mC (.int 2147483647)))) (mSeq (mSet 2 (mBin fMod (mApp fInt (mCons (mBin fMul (mVar 2) (mBin fAdd (mBin fDiv (mVar 2) (mC (.int 2003))) (mC (.int 40014)))) mNil)) (mC (.int 2147483563)))) (mRet (mBin fMod (mApp fInt (mCons (mBin fDiv (mVar 2) (mC (.int 16))) mNil)) (mVar 1))))))))
def m__law_draw : FN := runFn 2 5 b__law_draw
/-- _law_any -/
def N__law_any : List Str := ["hand", "some"]
def b__law_any : SM := mRet (mBin fIx (mVar 1) (mApp m__law_draw (mCons (mVar 0) (mCons (mApp fLen (mCons (mVar 1) mNil)) mNil))))
def m__law_any : FN := runFn 2 2 b__law_any
/-- _law_made -/
def N__law_made : List Str := ["top", "bottom", "one", "other"]
def b__law_made : SM := mSeq (mPar 2 3 (mApp fAbs (mCons (mVar 0) mNil)) (mVar 1)) (mSeq (mWhile (mB (mBin fGt (mVar 3) (mC (.int 0)))) (mPar 2 3 (mVar 3) (mBin fMod (mApp fInt (mCons (mVar 2) mNil)) (mVar 3)))) (mRet (mTup (mCons (mBin fDiv (mVar 0) (mVar 2)) (mCons (mBin fDiv (mVar 1) (mVar 2)) mNil)))))
def m__law_made : FN := runFn 2 4 b__law_made
/-- _law_plus -/
def N__law_plus : List Str := ["x", "y"]
def b__law_plus : SM := mRet (mApp m__law_made (mCons (mBin fAdd (mBin fMul (mBin fIx (mVar 0) (mC (.int 0))) (mBin fIx (mVar 1) (mC (.int 1)))) (mBin fMul (mBin fIx (mVar 1) (mC (.int 0))) (mBin fIx (mVar 0) (mC (.int 1))))) (mCons (mBin fMul (mBin fIx (mVar 0) (mC (.int 1))) (mBin fIx (mVar 1) (mC (.int 1)))) mNil)))
def m__law_plus : FN := runFn 2 2 b__law_plus
/-- _law_times -/
def N__law_times : List Str := ["x", "y"]
def b__law_times : SM := mRet (mApp m__law_made (mCons (mBin fMul (mBin fIx (mVar 0) (mC (.int 0))) (mBin fIx (mVar 1) (mC (.int 0)))) (mCons (mBin fMul (mBin fIx (mVar 0) (mC (.int 1))) (mBin fIx (mVar 1) (mC (.int 1)))) mNil)))
def m__law_times : FN := runFn 2 2 b__law_times
/-- _law_worth -/
def N__law_worth : List Str := ["one", "values", "found", "source", "factor"]
def b__law_worth : SM := mSeq (mSet 2 (mBin fIx (mVar 0) (mC (.int 1)))) (mSeq (mFor (mIt (mBin fIx (mVar 0) (mC (.int 0)))) (gmTup 2 (gmCons (gmName 3) (gmCons (gmName 4) gmNil))) (mSet 2 (mApp m__law_plus (mCons (mVar 2) (mCons (mApp m__law_times (mCons (mVar 4) (mCons (mBin fIx (mVar 1) (mVar 3)) mNil))) mNil))))) (mRet (mVar 2)))
def m__law_worth : FN := runFn 2 5 b__law_worth
/-- _law_number -/
def N__law_number : List Str := ["hand", "top"]
def b__law_number : SM := mSeq (mSet 1 (mBin fSub (mApp m__law_draw (mCons (mVar 0) (mCons (mC (.int 9)) mNil))) (mC (.int 4)))) (mRet (mIf (mB (mBin fGt (mApp m__law_draw (mCons (mVar 0) (mCons (mC (.int 3)) mNil))) (mC (.int 0)))) (mTup (mCons (mVar 1) (mCons (mC (.int 1)) mNil))) (mApp m__law_made (mCons (mBin fAdd (mBin fMul (mC (.int 2)) (mVar 1)) (mC (.int 1))) (mCons (mC (.int 2)) mNil)))))
def m__law_number : FN := runFn 1 2 b__law_number
/-- _law_as_sum -/
def N__law_as_sum : List Str := ["factors", "constant", "at", "one"]
def b__law_as_sum : SM := mRet (mTup (mCons (mApp fTuple (mCons (mLc [2, 3] (mEnum (mVar 0)) (gmTup 2 (gmCons (gmName 2) (gmCons (gmName 3) gmNil))) (mB (mBin fNe (mBin fIx (mVar 3) (mC (.int 0))) (mC (.int 0)))) (mTup (mCons (mVar 2) (mCons (mVar 3) mNil)))) mNil)) (mCons (mVar 1) mNil)))
def m__law_as_sum : FN := runFn 2 4 b__law_as_sum
/-- _law_drawn_sum -/
def N__law_drawn_sum : List Str := ["hand", "m", "factors", "source"]
def b__law_drawn_sum : SM := mSeq (mSet 2 (mLc [3] (mRng1 (mVar 1)) (gmName 3) mYes (mIf (mB (mBin fGt (mApp m__law_draw (mCons (mVar 0) (mCons (mC (.int 4)) mNil))) (mC (.int 0)))) (mApp m__law_number (mCons (mVar 0) mNil)) (mTup (mCons (mC (.int 0)) (mCons (mC (.int 1)) mNil)))))) (mRet (mApp m__law_as_sum (mCons (mVar 2) (mCons (mApp m__law_number (mCons (mVar 0) mNil)) mNil))))
def m__law_drawn_sum : FN := runFn 2 4 b__law_drawn_sum
/-- _law_cell -/
def N__law_cell : List Str := ["hand", "many", "word", "step"]
def b__law_cell : SM := mSeq (mSet 2 (mApp m__law_any (mCons (mVar 0) (mCons (mLst (mCons (mC (.str "cut")) (mCons (mC (.str "cut")) (mCons (mC (.str "step")) (mCons (mC (.str "most")) (mCons (mC (.str "switch")) (mCons (mC (.str "plain")) mNil))))))) mNil)))) (mSeq (mIfS (mB (mBin fEq (mVar 2) (mC (.str "most")))) (mRet (mTup (mCons (mVar 2) (mCons (mApp fTuple (mCons (mLc [3] (mRng1 (mBin fAdd (mC (.int 2)) (mApp m__law_draw (mCons (mVar 0) (mCons (mC (.int 2)) mNil))))) (gmName 3) mYes (mApp m__law_drawn_sum (mCons (mVar 0) (mCons (mVar 1) mNil)))) mNil)) mNil)))) mNx) (mRet (mBin fAdd (mTup (mCons (mVar 2) mNil)) (mApp fTuple (mCons (mLc [3] (mRng1 (mIf (mB (mBin fEq (mVar 2) (mC (.str "switch")))) (mC (.int 3)) (mC (.int 1)))) (gmName 3) mYes (mApp m__law_drawn_sum (mCons (mVar 0) (mCons (mVar 1) mNil)))) mNil)))))
def m__law_cell : FN := runFn 2 4 b__law_cell
/-- _law_net -/
def N__law_net : List Str := ["hand", "m", "most", "cells", "step", "outs"]
def b__law_net : SM := mSeq (mSet 3 (mLstM mNil)) (mSeq (mFor (mRng1 (mBin fAdd (mC (.int 1)) (mApp m__law_draw (mCons (mVar 0) (mCons (mVar 2) mNil))))) (gmName 4) (mDrop (mAppend (mVar 3) (mApp m__law_cell (mCons (mVar 0) (mCons (mBin fAdd (mVar 1) (mVar 4)) mNil)))))) (mSeq (mSet 5 (mLc [4] (mRng1 (mBin fAdd (mC (.int 1)) (mApp m__law_draw (mCons (mVar 0) (mCons (mC (.int 2)) mNil))))) (gmName 4) mYes (mApp m__law_drawn_sum (mCons (mVar 0) (mCons (mBin fAdd (mVar 1) (mApp fLen (mCons (mVar 3) mNil))) mNil))))) (mRet (mTup (mCons (mVar 1) (mCons (mApp fTuple (mCons (mVar 3) mNil)) (mCons (mApp fTuple (mCons (mVar 5) mNil)) mNil)))))))
def m__law_net : FN := runFn 3 6 b__law_net
/-- _law_sums -/
def N__law_sums : List Str := ["cell"]
def b__law_sums : SM := mRet (mIf (mB (mBin fEq (mBin fIx (mVar 0) (mC (.int 0))) (mC (.str "most")))) (mBin fIx (mVar 0) (mC (.int 1))) (mSl (mVar 0) (mPart (mC (.int 1))) mNoPart))
def m__law_sums : FN := runFn 1 1 b__law_sums
/-- _law_below -/
def N__law_below : List Str := ["x", "y"]
def b__law_below : SM := mRet (mBin fLt (mBin fMul (mBin fIx (mVar 0) (mC (.int 0))) (mBin fIx (mVar 1) (mC (.int 1)))) (mBin fMul (mBin fIx (mVar 1) (mC (.int 0))) (mBin fIx (mVar 0) (mC (.int 1)))))
def m__law_below : FN := runFn 2 2 b__law_below
/-- _law_worked -/
def N__law_worked : List Str := ["net", "point", "cell", "told", "signs", "parts", "sign", "here", "at", "part", "one"]
def b__law_worked : SM := mSeq (mPar 3 4 (mApp fListM (mCons (mVar 1) mNil)) (mLstM mNil)) (mSeq (mFor (mIt (mBin fIx (mVar 0) (mC (.int 1)))) (gmName 2) (mSeq (mSet 5 (mLc [10] (mIt (mApp m__law_sums (mCons (mVar 2) mNil))) (gmName 10) mYes (mApp m__law_worth (mCons (mVar 10) (mCons (mVar 3) mNil))))) (mSeq (mSet 6 (mApp fInt (mCons (mBin fGt (mBin fIx (mBin fIx (mVar 5) (mC (.int 0))) (mC (.int 0))) (mC (.int 0))) mNil))) (mSeq (mIfS (mB (mBin fEq (mBin fIx (mVar 2) (mC (.int 0))) (mC (.str "most")))) (mSeq (mSet 6 (mC (.int 0))) (mSeq (mFor (mEnum (mVar 5)) (gmTup 2 (gmCons (gmName 8) (gmCons (gmName 9) gmNil))) (mSet 6 (mIf (mB (mApp m__law_below (mCons (mBin fIx (mVar 5) (mVar 6)) (mCons (mVar 9) mNil)))) (mVar 8) (mVar 6)))) (mSet 7 (mBin fIx (mVar 5) (mVar 6))))) (mIfS (mB (mBin fEq (mBin fIx (mVar 2) (mC (.int 0))) (mC (.str "plain")))) (mPar 6 7 (mC (.int 0)) (mBin fIx (mVar 5) (mC (.int 0)))) (mIfS (mB (mBin fEq (mBin fIx (mVar 2) (mC (.int 0))) (mC (.str "cut")))) (mSet 7 (mIf (mB (mBin fEq (mVar 6) (mC (.int 1)))) (mBin fIx (mVar 5) (mC (.int 0))) (mTup (mCons (mC (.int 0)) (mCons (mC (.int 1)) mNil))))) (mIfS (mB (mBin fEq (mBin fIx (mVar 2) (mC (.int 0))) (mC (.str "step")))) (mSet 7 (mTup (mCons (mVar 6) (mCons (mC (.int 1)) mNil)))) (mSet 7 (mIf (mB (mBin fEq (mVar 6) (mC (.int 1)))) (mBin fIx (mVar 5) (mC (.int 1))) (mBin fIx (mVar 5) (mC (.int 2))))))))) (mSeq (mDrop (mAppend (mVar 3) (mVar 7))) (mDrop (mAppend (mVar 4) (mVar 6)))))))) (mRet (mTup (mCons (mApp fTuple (mCons (mVar 4) mNil)) (mCons (mApp fTuple (mCons (mLc [10] (mIt (mBin fIx (mVar 0) (mC (.int 2)))) (gmName 10) mYes (mApp m__law_worth (mCons (mVar 10) (mCons (mVar 3) mNil)))) mNil)) mNil)))))
def m__law_worked : FN := runFn 2 11 b__law_worked
/-- _law_box -/
def N__law_box : List Str := ["hand", "m", "found", "source", "low"]
def b__law_box : SM := mSeq (mSet 2 (mLstM mNil)) (mSeq (mFor (mRng1 (mVar 1)) (gmName 3) (mSeq (mSet 4 (mApp m__law_made (mCons (mBin fSub (mApp m__law_draw (mCons (mVar 0) (mCons (mC (.int 25)) mNil))) (mC (.int 12))) (mCons (mBin fAdd (mC (.int 1)) (mApp m__law_draw (mCons (mVar 0) (mCons (mC (.int 4)) mNil)))) mNil)))) (mDrop (mAppend (mVar 2) (mTup (mCons (mVar 4) (mCons (mApp m__law_plus (mCons (mVar 4) (mCons (mApp m__law_made (mCons (mApp m__law_draw (mCons (mVar 0) (mCons (mC (.int 13)) mNil))) (mCons (mBin fAdd (mC (.int 1)) (mApp m__law_draw (mCons (mVar 0) (mCons (mC (.int 4)) mNil)))) mNil))) mNil))) mNil))))))) (mRet (mApp fTuple (mCons (mVar 2) mNil))))
def m__law_box : FN := runFn 2 5 b__law_box
/-- _law_claim -/
def N__law_claim : List Str := ["hand", "outs"]
def b__law_claim : SM := mRet (mTup (mCons (mApp m__law_drawn_sum (mCons (mVar 0) (mCons (mVar 1) mNil))) (mCons (mApp m__law_any (mCons (mVar 0) (mCons (mLst (mCons (mC (.str "above")) (mCons (mC (.str "least")) mNil))) mNil))) mNil)))
def m__law_claim : FN := runFn 2 2 b__law_claim
/-- _law_fails -/
def N__law_fails : List Str := ["net", "point", "claim", "here"]
def b__law_fails : SM := mSeq (mSet 3 (mBin fIx (mApp m__law_worth (mCons (mBin fIx (mVar 2) (mC (.int 0))) (mCons (mBin fIx (mApp m__law_worked (mCons (mVar 0) (mCons (mVar 1) mNil))) (mC (.int 1))) mNil))) (mC (.int 0)))) (mRet (mOrV (mBin fLt (mVar 3) (mC (.int 0))) (mAndV (mBin fEq (mVar 3) (mC (.int 0))) (mBin fEq (mBin fIx (mVar 2) (mC (.int 1))) (mC (.str "above"))))))
def m__law_fails : FN := runFn 3 4 b__law_fails
/-- _law_wholes -/
def N__law_wholes : List Str := ["box", "found", "low", "high", "some", "longer", "point", "one"]
def b__law_wholes : SM := mSeq (mSet 1 (mLst (mCons (mTup mNil) mNil))) (mSeq (mFor (mIt (mVar 0)) (gmTup 2 (gmCons (gmName 2) (gmCons (gmName 3) gmNil))) (mSeq (mSet 4 (mLstRg2 (mBin fSub (mC (.int 0)) (mBin fDiv (mBin fSub (mC (.int 0)) (mBin fIx (mVar 2) (mC (.int 0)))) (mBin fIx (mVar 2) (mC (.int 1))))) (mBin fAdd (mBin fDiv (mBin fIx (mVar 3) (mC (.int 0))) (mBin fIx (mVar 3) (mC (.int 1)))) (mC (.int 1))))) (mSeq (mSet 5 (mLst mNil)) (mSeq (mFor (mIt (mVar 1)) (gmName 6) (mSet 5 (mBin fAdd (mVar 5) (mLc [7] (mIt (mVar 4)) (gmName 7) mYes (mBin fAdd (mVar 6) (mTup (mCons (mTup (mCons (mVar 7) (mCons (mC (.int 1)) mNil))) mNil))))))) (mSet 1 (mVar 5)))))) (mRet (mVar 1)))
def m__law_wholes : FN := runFn 1 8 b__law_wholes
/-- _law_tally -/
def N__law_tally : List Str := ["some", "found", "one"]
def b__law_tally : SM := mSeq (mSet 1 mNewN) (mSeq (mFor (mIt (mApp fSorted (mCons (mVar 0) mNil))) (gmName 2) (mPut (mBin fAdd (mGet2 (mVar 1) (mVar 2) (mC (.int 0))) (mC (.int 1))) (mVar 1) (mVar 2))) (mRet (mVar 1)))
def m__law_tally : FN := runFn 1 3 b__law_tally
/-- _law_is_dict -/
def N__law_is_dict : List Str := ["thing", "due"]
def b__law_is_dict : SM := mRet (mAndV (mIsiD (mVar 0) "dict") (mBin fEq (mItems (mVar 0)) (mItems (mVar 1))))
def m__law_is_dict : FN := runFn 2 2 b__law_is_dict
/-- law -/
def N_law : List Str := ["script", "hand", "turn", "m", "net", "box", "lost", "one", "claim", "some", "i", "due", "gone", "point"]
def b_law : SM := mSeq (mSet 1 (mApp m__law_hand (mCons (mVar 0) mNil))) (mSeq (mFor (mRng1 (mC (.int 4))) (gmName 2) (mSeq (mSet 3 (mBin fAdd (mC (.int 1)) (mApp m__law_draw (mCons (mVar 1) (mCons (mC (.int 3)) mNil))))) (mSeq (mSet 4 (mApp m__law_net (mCons (mVar 1) (mCons (mVar 3) (mCons (mC (.int 3)) mNil))))) (mSeq (mSet 5 (mIf (mB (mBin fLt (mVar 3) (mC (.int 3)))) (mApp m__law_box (mCons (mVar 1) (mCons (mVar 3) mNil))) (mBin fAdd (mApp m__law_box (mCons (mVar 1) (mCons (mC (.int 2)) mNil))) (mTup (mCons (mTup (mCons (mTup (mCons (mC (.int 0)) (mCons (mC (.int 1)) mNil))) (mCons (mTup (mCons (mC (.int 1)) (mCons (mC (.int 1)) mNil))) mNil))) mNil))))) (mSeq (mPar 8 9 (mApp m__law_claim (mCons (mVar 1) (mCons (mApp fLen (mCons (mBin fIx (mVar 4) (mC (.int 2))) mNil)) mNil))) (mApp m__law_wholes (mCons (mVar 5) mNil))) (mSeq (mIfS (mOrT (mB (mBin fNe (mApp m_whole_many (mCons (mVar 5) mNil)) (mApp fLen (mCons (mVar 9) mNil)))) (mB (mBin fNe (mApp m_whole_points (mCons (mVar 5) mNil)) (mApp fTuple (mCons (mVar 9) mNil))))) (mRet (mC (.bool false))) mNx) (mSeq (mSet 6 (mLc [13] (mIt (mVar 9)) (gmName 13) (mB (mApp m__law_fails (mCons (mVar 4) (mCons (mVar 13) (mCons (mVar 8) mNil))))) (mVar 13))) (mSeq (mIfS (mB (mBin fNe (mApp m_holding_many (mCons (mVar 4) (mCons (mVar 5) (mCons (mVar 8) mNil)))) (mBin fSub (mApp fLen (mCons (mVar 9) mNil)) (mApp fLen (mCons (mVar 6) mNil))))) (mRet (mC (.bool false))) mNx) (mSeq (mIfS (mB (mBin fNe (mApp m_first_failing (mCons (mVar 4) (mCons (mVar 5) (mCons (mVar 8) mNil)))) (mIf (mB (mBin fNe (mVar 6) (mLst mNil))) (mBin fIx (mVar 6) (mC (.int 0))) (mC .none)))) (mRet (mC (.bool false))) mNx) (mSeq (mIfS (mNotT (mB (mApp m__law_is_dict (mCons (mApp m_failing_by (mCons (mVar 4) (mCons (mVar 5) (mCons (mVar 8) mNil)))) (mCons (mApp m__law_tally (mCons (mLc [13] (mIt (mVar 6)) (gmName 13) mYes (mBin fIx (mApp m__law_worked (mCons (mVar 4) (mCons (mVar 13) mNil))) (mC (.int 0)))) mNil)) mNil))))) (mRet (mC (.bool false))) mNx) (mSeq (mIfS (mNotT (mB (mApp m__law_is_dict (mCons (mApp m_whole_signs (mCons (mVar 4) (mCons (mVar 5) mNil))) (mCons (mApp m__law_tally (mCons (mLc [13] (mIt (mVar 9)) (gmName 13) mYes (mBin fIx (mApp m__law_worked (mCons (mVar 4) (mCons (mVar 13) mNil))) (mC (.int 0)))) mNil)) mNil))))) (mRet (mC (.bool false))) mNx) (mSeq (mPar3 10 11 12 (mApp m__law_draw (mCons (mVar 1) (mCons (mVar 3) mNil))) mNewK (mApp fDictN (mCons (mLc [13] (mIt (mVar 6)) (gmName 13) mYes (mTup (mCons (mVar 13) (mCons (mC (.bool true)) mNil)))) mNil))) (mSeq (mFor (mIt (mApp m__law_wholes (mCons (mTup (mCons (mBin fIx (mVar 5) (mVar 10)) mNil)) mNil))) (gmName 7) (mPut (mApp fLen (mCons (mLc [13] (mIt (mVar 9)) (gmName 13) (mAndT (mB (mBin fEq (mBin fIx (mVar 13) (mVar 10)) (mBin fIx (mVar 7) (mC (.int 0))))) (mB (mBin (fInA true) (mVar 13) (mVar 12)))) (mC (.int 1))) mNil)) (mVar 11) (mBin fIx (mBin fIx (mVar 7) (mC (.int 0))) (mC (.int 0))))) (mIfS (mNotT (mB (mApp m__law_is_dict (mCons (mApp m_line_counts (mCons (mVar 4) (mCons (mVar 5) (mCons (mVar 8) (mCons (mVar 10) mNil))))) (mCons (mVar 11) mNil))))) (mRet (mC (.bool false))) mNx)))))))))))))) (mRet (mC (.bool true))))
def m_law : FN := runFn 1 14 b_law
end W

set_option Elab.async false
set_option linter.all false
set_option maxRecDepth 100000
set_option maxHeartbeats 0
/-! the defs keep their meanings (printed by gen.py) -/
namespace W
open PySem PySem.Spec PyProof.Rows L2 PD
section
variable {P : Program} {w : World} {K : PySem.W.Frag} {mg : Str → Option Value} {base : Heap}
theorem s_is_integer : FnScope N_is_integer ["thing"] (defScope (top 10)) := ⟨rfl, rfl, rfl, by decide +kernel, rfl, by decide +kernel, by decide +kernel⟩
theorem f_is_integer (T : TB K mg) : FnAt P w K mg base "is_integer" 1 ["thing"] m_is_integer :=
  have S := s_is_integer
  PD.fn_of T d_is_integer g_is_integer (params := defArgs (top 10)) (body := defBody (top 10)) (scope := defScope (top 10)) (hd := by rfl) (hg := by rfl) S (fun _ _ _ _ _ _ us hl => match us, hl with | [_], _ => rfl) (by decide) fun cdv A outer s H E f hr =>
    show PDB _ _ b_is_integer from pb_one (ps_retD (pd_and (pd_isiD "int" (hi := (T.free i_isinstance)) (hm := (T.free i_int)) (ha := pd_var 0)) (pd_one (pd_not (pd_isiD "bool" (hi := (T.free i_isinstance)) (hm := (T.free i_bool)) (ha := pd_var 0))))))
theorem s_is_within : FnScope N_is_within ["thing", "low", "high"] (defScope (top 11)) := ⟨rfl, rfl, rfl, by decide +kernel, rfl, by decide +kernel, by decide +kernel⟩
theorem f_is_within (T : TB K mg) : FnAt P w K mg base "is_within" 2 ["thing", "low", "high"] m_is_within :=
  have S := s_is_within
  PD.fn_of T d_is_within g_is_within (params := defArgs (top 11)) (body := defBody (top 11)) (scope := defScope (top 11)) (hd := by rfl) (hg := by rfl) S (fun _ _ _ _ _ _ us hl => match us, hl with | [_, _, _], _ => rfl) (by decide) fun cdv A outer s H E f hr =>
    show PDB _ _ b_is_within from pb_one (ps_retD (pd_and (pd_call (f_is_integer T) hr (pda_cons (pd_var 0) pda_nil)) (pd_one (pd_le_le (pd_var 1) (pd_var 0) (pd_var 2)))))
theorem s_is_tuple_of : FnScope N_is_tuple_of ["thing", "size"] (defScope (top 12)) := ⟨rfl, rfl, rfl, by decide +kernel, rfl, by decide +kernel, by decide +kernel⟩
theorem f_is_tuple_of (T : TB K mg) : FnAt P w K mg base "is_tuple_of" 1 ["thing", "size"] m_is_tuple_of :=
  have S := s_is_tuple_of
  PD.fn_of T d_is_tuple_of g_is_tuple_of (params := defArgs (top 12)) (body := defBody (top 12)) (scope := defScope (top 12)) (hd := by rfl) (hg := by rfl) S (fun _ _ _ _ _ _ us hl => match us, hl with | [_, _], _ => rfl) (by decide) fun cdv A outer s H E f hr =>
    show PDB _ _ b_is_tuple_of from pb_one (ps_retD (pd_and (pd_isiD "tuple" (hi := (T.free i_isinstance)) (hm := (T.free i_tuple)) (ha := pd_var 0)) (pd_one (pd_eq hr (pd_len (T.free i_len) (pd_var 0)) (pd_var 1)))))
theorem s_common : FnScope N_common ["x", "y"] (defScope (top 13)) := ⟨rfl, rfl, rfl, by decide +kernel, rfl, by decide +kernel, by decide +kernel⟩
theorem f_common (T : TB K mg) : FnAt P w K mg base "common" 1 ["x", "y"] m_common :=
  have S := s_common
  PD.fn_of T d_common g_common (params := defArgs (top 13)) (body := defBody (top 13)) (scope := defScope (top 13)) (hd := by rfl) (hg := by rfl) S (fun _ _ _ _ _ _ us hl => match us, hl with | [_, _], _ => rfl) (by decide) fun cdv A outer s H E f hr =>
    show PDB _ _ b_common from pb_cons (ps_whileD PassesOwn.never (pt_ne hr (pd_var 1) pd_int) (pb_one (ps_parD (i := 0) (j := 1) rfl S.nd (pd_var 1) (pd_sub (pd_var 0) (pd_mul (pd_var 1) (pd_div (pd_var 0) (pd_var 1))))))) (pb_one (ps_retD (pd_var 0)))
theorem s_is_fraction : FnScope N_is_fraction ["thing"] (defScope (top 14)) := ⟨rfl, rfl, rfl, by decide +kernel, rfl, by decide +kernel, by decide +kernel⟩
theorem f_is_fraction (T : TB K mg) : FnAt P w K mg base "is_fraction" 2 ["thing"] m_is_fraction :=
  have S := s_is_fraction
  PD.fn_of T d_is_fraction g_is_fraction (params := defArgs (top 14)) (body := defBody (top 14)) (scope := defScope (top 14)) (hd := by rfl) (hg := by rfl) S (fun _ _ _ _ _ _ us hl => match us, hl with | [_], _ => rfl) (by decide) fun cdv A outer s H E f hr =>
    show PDB _ _ b_is_fraction from pb_cons (ps_ifD (PW.pt (pw_orD (pt_notD (pt_e (pd_call (f_is_tuple_of T) hr (pda_cons (pd_var 0) (pda_cons pd_int pda_nil))))) (pw_orD (pt_notD (pt_e (pd_call (f_is_integer T) hr (pda_cons (pd_sub_ hr (pd_var 0) pd_int) pda_nil)))) (pw_or1D (pt_notD (pt_e (pd_call (f_is_integer T) hr (pda_cons (pd_sub_ hr (pd_var 0) pd_int) pda_nil)))))))) (pb_one (ps_retD pd_bl)) pb_nil) (pb_one (ps_retD (pd_and (pd_gt (pd_sub_ hr (pd_var 0) pd_int) pd_int) (pd_one (pd_eq hr (pd_call (f_common T) hr (pda_cons (pd_abs (T.free i_abs) (pd_sub_ hr (pd_var 0) pd_int)) (pda_cons (pd_sub_ hr (pd_var 0) pd_int) pda_nil))) pd_int)))))
theorem s_made : FnScope N_made ["top", "bottom"] (defScope (top 15)) := ⟨rfl, rfl, rfl, by decide +kernel, rfl, by decide +kernel, by decide +kernel⟩
theorem f_made (T : TB K mg) : FnAt P w K mg base "made" 2 ["top", "bottom"] m_made :=
  have S := s_made
  PD.fn_of T d_made g_made (params := defArgs (top 15)) (body := defBody (top 15)) (scope := defScope (top 15)) (hd := by rfl) (hg := by rfl) S (fun _ _ _ _ _ _ us hl => match us, hl with | [_, _], _ => rfl) (by decide) fun cdv A outer s H E f hr =>
    show PDB _ _ b_made from pb_cons (ps_setD (i := 2) S.nd (pd_call (f_common T) hr (pda_cons (pd_abs (T.free i_abs) (pd_var 0)) (pda_cons (pd_abs (T.free i_abs) (pd_var 1)) pda_nil)))) (pb_cons (ps_setD (i := 2) S.nd (pd_if (pt_gt (pd_var 1) pd_int) (pd_var 2) (pd_sub pd_int (pd_var 2)))) (pb_one (ps_retD (pd_tup (pda_cons (pd_div (pd_var 0) (pd_var 2)) (pda_cons (pd_div (pd_var 1) (pd_var 2)) pda_nil))))))
theorem s_raw_plus : FnScope N_raw_plus ["x", "y"] (defScope (top 16)) := ⟨rfl, rfl, rfl, by decide +kernel, rfl, by decide +kernel, by decide +kernel⟩
theorem f_raw_plus (T : TB K mg) : FnAt P w K mg base "raw_plus" 3 ["x", "y"] m_raw_plus :=
  have S := s_raw_plus
  PD.fn_of T d_raw_plus g_raw_plus (params := defArgs (top 16)) (body := defBody (top 16)) (scope := defScope (top 16)) (hd := by rfl) (hg := by rfl) S (fun _ _ _ _ _ _ us hl => match us, hl with | [_, _], _ => rfl) (by decide) fun cdv A outer s H E f hr =>
    show PDB _ _ b_raw_plus from pb_one (ps_retD (pd_call (f_made T) hr (pda_cons (pd_add (pd_mul (pd_sub_ hr (pd_var 0) pd_int) (pd_sub_ hr (pd_var 1) pd_int)) (pd_mul (pd_sub_ hr (pd_var 1) pd_int) (pd_sub_ hr (pd_var 0) pd_int))) (pda_cons (pd_mul (pd_sub_ hr (pd_var 0) pd_int) (pd_sub_ hr (pd_var 1) pd_int)) pda_nil))))
theorem s_raw_times : FnScope N_raw_times ["x", "y"] (defScope (top 17)) := ⟨rfl, rfl, rfl, by decide +kernel, rfl, by decide +kernel, by decide +kernel⟩
theorem f_raw_times (T : TB K mg) : FnAt P w K mg base "raw_times" 3 ["x", "y"] m_raw_times :=
  have S := s_raw_times
  PD.fn_of T d_raw_times g_raw_times (params := defArgs (top 17)) (body := defBody (top 17)) (scope := defScope (top 17)) (hd := by rfl) (hg := by rfl) S (fun _ _ _ _ _ _ us hl => match us, hl with | [_, _], _ => rfl) (by decide) fun cdv A outer s H E f hr =>
    show PDB _ _ b_raw_times from pb_one (ps_retD (pd_call (f_made T) hr (pda_cons (pd_mul (pd_sub_ hr (pd_var 0) pd_int) (pd_sub_ hr (pd_var 1) pd_int)) (pda_cons (pd_mul (pd_sub_ hr (pd_var 0) pd_int) (pd_sub_ hr (pd_var 1) pd_int)) pda_nil))))
theorem s_raw_at_most : FnScope N_raw_at_most ["x", "y"] (defScope (top 18)) := ⟨rfl, rfl, rfl, by decide +kernel, rfl, by decide +kernel, by decide +kernel⟩
theorem f_raw_at_most (T : TB K mg) : FnAt P w K mg base "raw_at_most" 1 ["x", "y"] m_raw_at_most :=
  have S := s_raw_at_most
  PD.fn_of T d_raw_at_most g_raw_at_most (params := defArgs (top 18)) (body := defBody (top 18)) (scope := defScope (top 18)) (hd := by rfl) (hg := by rfl) S (fun _ _ _ _ _ _ us hl => match us, hl with | [_, _], _ => rfl) (by decide) fun cdv A outer s H E f hr =>
    show PDB _ _ b_raw_at_most from pb_one (ps_retD (pd_le (pd_mul (pd_sub_ hr (pd_var 0) pd_int) (pd_sub_ hr (pd_var 1) pd_int)) (pd_mul (pd_sub_ hr (pd_var 1) pd_int) (pd_sub_ hr (pd_var 0) pd_int))))
theorem s_raw_below : FnScope N_raw_below ["x", "y"] (defScope (top 19)) := ⟨rfl, rfl, rfl, by decide +kernel, rfl, by decide +kernel, by decide +kernel⟩
theorem f_raw_below (T : TB K mg) : FnAt P w K mg base "raw_below" 1 ["x", "y"] m_raw_below :=
  have S := s_raw_below
  PD.fn_of T d_raw_below g_raw_below (params := defArgs (top 19)) (body := defBody (top 19)) (scope := defScope (top 19)) (hd := by rfl) (hg := by rfl) S (fun _ _ _ _ _ _ us hl => match us, hl with | [_, _], _ => rfl) (by decide) fun cdv A outer s H E f hr =>
    show PDB _ _ b_raw_below from pb_one (ps_retD (pd_lt (pd_mul (pd_sub_ hr (pd_var 0) pd_int) (pd_sub_ hr (pd_var 1) pd_int)) (pd_mul (pd_sub_ hr (pd_var 1) pd_int) (pd_sub_ hr (pd_var 0) pd_int))))
theorem s_raw_greater : FnScope N_raw_greater ["x", "y"] (defScope (top 20)) := ⟨rfl, rfl, rfl, by decide +kernel, rfl, by decide +kernel, by decide +kernel⟩
theorem f_raw_greater (T : TB K mg) : FnAt P w K mg base "raw_greater" 2 ["x", "y"] m_raw_greater :=
  have S := s_raw_greater
  PD.fn_of T d_raw_greater g_raw_greater (params := defArgs (top 20)) (body := defBody (top 20)) (scope := defScope (top 20)) (hd := by rfl) (hg := by rfl) S (fun _ _ _ _ _ _ us hl => match us, hl with | [_, _], _ => rfl) (by decide) fun cdv A outer s H E f hr =>
    show PDB _ _ b_raw_greater from pb_one (ps_retD (pd_if (pt_e (pd_call (f_raw_at_most T) hr (pda_cons (pd_var 0) (pda_cons (pd_var 1) pda_nil)))) (pd_var 1) (pd_var 0)))
theorem s_raw_cut : FnScope N_raw_cut ["x"] (defScope (top 21)) := ⟨rfl, rfl, rfl, by decide +kernel, rfl, by decide +kernel, by decide +kernel⟩
theorem f_raw_cut (T : TB K mg) : FnAt P w K mg base "raw_cut" 1 ["x"] m_raw_cut :=
  have S := s_raw_cut
  PD.fn_of T d_raw_cut g_raw_cut (params := defArgs (top 21)) (body := defBody (top 21)) (scope := defScope (top 21)) (hd := by rfl) (hg := by rfl) S (fun _ _ _ _ _ _ us hl => match us, hl with | [_], _ => rfl) (by decide) fun cdv A outer s H E f hr =>
    show PDB _ _ b_raw_cut from pb_one (ps_retD (pd_if (pt_gt (pd_sub_ hr (pd_var 0) pd_int) pd_int) (pd_var 0) (pd_gc (T.con c_NOUGHT))))
theorem s_is_pair_of : FnScope N_is_pair_of ["many", "thing"] (defScope (top 23)) := ⟨rfl, rfl, rfl, by decide +kernel, rfl, by decide +kernel, by decide +kernel⟩
theorem f_is_pair_of (T : TB K mg) : FnAt P w K mg base "is_pair_of" 3 ["many", "thing"] m_is_pair_of :=
  have S := s_is_pair_of
  PD.fn_of T d_is_pair_of g_is_pair_of (params := defArgs (top 23)) (body := defBody (top 23)) (scope := defScope (top 23)) (hd := by rfl) (hg := by rfl) S (fun _ _ _ _ _ _ us hl => match us, hl with | [_, _], _ => rfl) (by decide) fun cdv A outer s H E f hr =>
    show PDB _ _ b_is_pair_of from pb_cons (ps_ifD (PW.pt (pw_orD (pt_notD (pt_e (pd_call (f_is_tuple_of T) hr (pda_cons (pd_var 1) (pda_cons pd_int pda_nil))))) (pw_or1D (pt_notD (pt_e (pd_call (f_is_within T) hr (pda_cons (pd_sub_ hr (pd_var 1) pd_int) (pda_cons pd_int (pda_cons (pd_sub (pd_var 0) pd_int) pda_nil))))))))) (pb_one (ps_retD pd_bl)) pb_nil) (pb_one (ps_retD (pd_and (pd_call (f_is_fraction T) hr (pda_cons (pd_sub_ hr (pd_var 1) pd_int) pda_nil)) (pd_one (pd_ne hr (pd_sub_ hr (pd_sub_ hr (pd_var 1) pd_int) pd_int) pd_int)))))
theorem s_raw_is_sum : FnScope N_raw_is_sum ["many", "thing"] (defScope (top 24)) := ⟨rfl, rfl, rfl, by decide +kernel, rfl, by decide +kernel, by decide +kernel⟩
theorem f_raw_is_sum (T : TB K mg) : FnAt P w K mg base "raw_is_sum" 4 ["many", "thing"] m_raw_is_sum :=
  have S := s_raw_is_sum
  PD.fn_of T d_raw_is_sum g_raw_is_sum (params := defArgs (top 24)) (body := defBody (top 24)) (scope := defScope (top 24)) (hd := by rfl) (hg := by rfl) S (fun _ _ _ _ _ _ us hl => match us, hl with | [_, _], _ => rfl) (by decide) fun cdv A outer s H E f hr =>
    show PDB _ _ b_raw_is_sum from pb_cons (ps_ifD (PW.pt (pw_orD (pt_notD (pt_e (pd_call (f_is_tuple_of T) hr (pda_cons (pd_var 1) (pda_cons pd_int pda_nil))))) (pw_orD (pt_notD (pt_e (pd_isiD "tuple" (hi := (T.free i_isinstance)) (hm := (T.free i_tuple)) (ha := pd_sub_ hr (pd_var 1) pd_int)))) (pw_or1D (pt_notD (pt_e (pd_call (f_is_fraction T) hr (pda_cons (pd_sub_ hr (pd_var 1) pd_int) pda_nil)))))))) (pb_one (ps_retD pd_bl)) pb_nil) (pb_cons (ps_ifD (pt_notD (pt_e (pd_all rfl (T.free i_all) (pd_lc rfl S.nd [("pair", 4)] (pi_d (pd_sub_ hr (pd_var 1) pd_int)) (by rfl) (fun _ _ _ _ _ => pg_nameD (i := 4) S.nd) (fun _ _ _ _ _ => pts_nilD) (fun _ _ _ _ _ => pd_call (f_is_pair_of T) hr (pda_cons (pd_var 0) (pda_cons (pd_var 4) pda_nil))))))) (pb_one (ps_retD pd_bl)) pb_nil) (pb_one (ps_retD (pd_all rfl (T.free i_all) (pd_lc rfl S.nd [("one", 2), ("other", 3)] (pi_zipD (T.free i_zip) (pd_sub_ hr (pd_var 1) pd_int) (pd_slice (pd_sub_ hr (pd_var 1) pd_int) (po_someD pd_int) po_noneD)) (by rfl) (fun _ _ _ _ _ => pg_tupD rfl (pgs_consD (pg_nameD (i := 2) S.nd) (pgs_consD (pg_nameD (i := 3) S.nd) pgs_nilD))) (fun _ _ _ _ _ => pts_nilD) (fun _ _ _ _ _ => pd_lt (pd_sub_ hr (pd_var 2) pd_int) (pd_sub_ hr (pd_var 3) pd_int)))))))
theorem s_raw_worth : FnScope N_raw_worth ["values", "one"] (defScope (top 25)) := ⟨rfl, rfl, rfl, by decide +kernel, rfl, by decide +kernel, by decide +kernel⟩
theorem f_raw_worth (T : TB K mg) : FnAt P w K mg base "raw_worth" 4 ["values", "one"] m_raw_worth :=
  have S := s_raw_worth
  PD.fn_of T d_raw_worth g_raw_worth (params := defArgs (top 25)) (body := defBody (top 25)) (scope := defScope (top 25)) (hd := by rfl) (hg := by rfl) S (fun _ _ _ _ _ _ us hl => match us, hl with | [_, _], _ => rfl) (by decide) fun cdv A outer s H E f hr =>
    show PDB _ _ b_raw_worth from pb_cons (ps_setD (i := 2) S.nd (pd_sub_ hr (pd_var 1) pd_int)) (pb_cons (ps_forD PassesOwn.never rfl (pi_d (pd_sub_ hr (pd_var 1) pd_int)) (pg_tupD rfl (pgs_consD (pg_nameD (i := 3) S.nd) (pgs_consD (pg_nameD (i := 4) S.nd) pgs_nilD))) (pb_one (ps_setD (i := 2) S.nd (pd_call (f_raw_plus T) hr (pda_cons (pd_var 2) (pda_cons (pd_call (f_raw_times T) hr (pda_cons (pd_var 4) (pda_cons (pd_sub_ hr (pd_var 0) (pd_var 3)) pda_nil))) pda_nil)))))) (pb_one (ps_retD (pd_var 2))))
theorem s_raw_is_cell : FnScope N_raw_is_cell ["many", "thing"] (defScope (top 40)) := ⟨rfl, rfl, rfl, by decide +kernel, rfl, by decide +kernel, by decide +kernel⟩
theorem f_raw_is_cell (T : TB K mg) : FnAt P w K mg base "raw_is_cell" 5 ["many", "thing"] m_raw_is_cell :=
  have S := s_raw_is_cell
  PD.fn_of T d_raw_is_cell g_raw_is_cell (params := defArgs (top 40)) (body := defBody (top 40)) (scope := defScope (top 40)) (hd := by rfl) (hg := by rfl) S (fun _ _ _ _ _ _ us hl => match us, hl with | [_, _], _ => rfl) (by decide) fun cdv A outer s H E f hr =>
    show PDB _ _ b_raw_is_cell from pb_cons (ps_ifD (PW.pt (pw_orD (pt_notD (pt_e (pd_isiD "tuple" (hi := (T.free i_isinstance)) (hm := (T.free i_tuple)) (ha := pd_var 1)))) (pw_orD (pt_lt (pd_len (T.free i_len) (pd_var 1)) pd_int) (pw_orD (pt_notD (pt_e (pd_isiD "str" (hi := (T.free i_isinstance)) (hm := (T.free i_str)) (ha := pd_sub_ hr (pd_var 1) pd_int)))) (pw_or1D (pt_notinD hr (pd_sub_ hr (pd_var 1) pd_int) (pd_gc (T.con c_WORDS)))))))) (pb_one (ps_retD pd_bl)) pb_nil) (pb_cons (ps_ifD (pt_eq hr (pd_sub_ hr (pd_var 1) pd_int) (pd_gc (T.con c_MOST))) (pb_cons (ps_ifD (PW.pt (pw_orD (pt_ne hr (pd_len (T.free i_len) (pd_var 1)) pd_int) (pw_orD (pt_notD (pt_e (pd_isiD "tuple" (hi := (T.free i_isinstance)) (hm := (T.free i_tuple)) (ha := pd_sub_ hr (pd_var 1) pd_int)))) (pw_or1D (pt_notD (pt_le_le (pd_gc (T.con c_LEAST_MOST)) (pd_len (T.free i_len) (pd_sub_ hr (pd_var 1) pd_int)) (pd_gc (T.con c_MOST_MOST)))))))) (pb_one (ps_retD pd_bl)) pb_nil) (pb_one (ps_retD (pd_all rfl (T.free i_all) (pd_lc rfl S.nd [("one", 3)] (pi_d (pd_sub_ hr (pd_var 1) pd_int)) (by rfl) (fun _ _ _ _ _ => pg_nameD (i := 3) S.nd) (fun _ _ _ _ _ => pts_nilD) (fun _ _ _ _ _ => pd_call (f_raw_is_sum T) hr (pda_cons (pd_var 0) (pda_cons (pd_var 3) pda_nil)))))))) pb_nil) (pb_cons (ps_setD (i := 2) S.nd (pd_if (pt_eq hr (pd_sub_ hr (pd_var 1) pd_int) (pd_gc (T.con c_SWITCH))) pd_int pd_int)) (pb_one (ps_retD (pd_and (pd_eq hr (pd_len (T.free i_len) (pd_var 1)) (pd_var 2)) (pd_one (pd_all rfl (T.free i_all) (pd_lc rfl S.nd [("one", 3)] (pi_d (pd_slice (pd_var 1) (po_someD pd_int) po_noneD)) (by rfl) (fun _ _ _ _ _ => pg_nameD (i := 3) S.nd) (fun _ _ _ _ _ => pts_nilD) (fun _ _ _ _ _ => pd_call (f_raw_is_sum T) hr (pda_cons (pd_var 0) (pda_cons (pd_var 3) pda_nil)))))))))))
theorem s_is_net : FnScope N_is_net ["thing"] (defScope (top 41)) := ⟨rfl, rfl, rfl, by decide +kernel, rfl, by decide +kernel, by decide +kernel⟩
theorem f_is_net (T : TB K mg) : FnAt P w K mg base "is_net" 6 ["thing"] m_is_net :=
  have S := s_is_net
  PD.fn_of T d_is_net g_is_net (params := defArgs (top 41)) (body := defBody (top 41)) (scope := defScope (top 41)) (hd := by rfl) (hg := by rfl) S (fun _ _ _ _ _ _ us hl => match us, hl with | [_], _ => rfl) (by decide) fun cdv A outer s H E f hr =>
    show PDB _ _ b_is_net from pb_cons (ps_ifD (PW.pt (pw_orD (pt_notD (pt_e (pd_call (f_is_tuple_of T) hr (pda_cons (pd_var 0) (pda_cons pd_int pda_nil))))) (pw_or1D (pt_notD (pt_e (pd_call (f_is_within T) hr (pda_cons (pd_sub_ hr (pd_var 0) pd_int) (pda_cons pd_int (pda_cons (pd_gc (T.con c_MOST_INPUTS)) pda_nil))))))))) (pb_one (ps_retD pd_bl)) pb_nil) (pb_cons (ps_asgD (pd_var 0) (pg_tupD rfl (pgs_consD (pg_nameD (i := 1) S.nd) (pgs_consD (pg_nameD (i := 2) S.nd) (pgs_consD (pg_nameD (i := 3) S.nd) pgs_nilD))))) (pb_cons (ps_ifD (PW.pt (pw_orD (pt_notD (pt_e (pd_isiD "tuple" (hi := (T.free i_isinstance)) (hm := (T.free i_tuple)) (ha := pd_var 2)))) (pw_or1D (pt_gt (pd_len (T.free i_len) (pd_var 2)) (pd_gc (T.con c_MOST_CELLS)))))) (pb_one (ps_retD pd_bl)) pb_nil) (pb_cons (ps_ifD (PW.pt (pw_orD (pt_notD (pt_e (pd_isiD "tuple" (hi := (T.free i_isinstance)) (hm := (T.free i_tuple)) (ha := pd_var 3)))) (pw_or1D (pt_notD (pt_le_le pd_int (pd_len (T.free i_len) (pd_var 3)) (pd_gc (T.con c_MOST_OUTS))))))) (pb_one (ps_retD pd_bl)) pb_nil) (pb_cons (ps_ifD (pt_notD (pt_e (pd_all rfl (T.free i_all) (pd_lc rfl S.nd [("c", 5), ("cell", 6)] (pi_enumD (T.free i_enumerate) (pd_var 2)) (by rfl) (fun _ _ _ _ _ => pg_tupD rfl (pgs_consD (pg_nameD (i := 5) S.nd) (pgs_consD (pg_nameD (i := 6) S.nd) pgs_nilD))) (fun _ _ _ _ _ => pts_nilD) (fun _ _ _ _ _ => pd_call (f_raw_is_cell T) hr (pda_cons (pd_add (pd_var 1) (pd_var 5)) (pda_cons (pd_var 6) pda_nil))))))) (pb_one (ps_retD pd_bl)) pb_nil) (pb_one (ps_retD (pd_all rfl (T.free i_all) (pd_lc rfl S.nd [("one", 4)] (pi_d (pd_var 3)) (by rfl) (fun _ _ _ _ _ => pg_nameD (i := 4) S.nd) (fun _ _ _ _ _ => pts_nilD) (fun _ _ _ _ _ => pd_call (f_raw_is_sum T) hr (pda_cons (pd_add (pd_var 1) (pd_len (T.free i_len) (pd_var 2))) (pda_cons (pd_var 4) pda_nil)))))))))))
theorem s_check_net : FnScope N_check_net ["net"] (defScope (top 42)) := ⟨rfl, rfl, rfl, by decide +kernel, rfl, by decide +kernel, by decide +kernel⟩
theorem f_check_net (T : TB K mg) : FnAt P w K mg base "check_net" 7 ["net"] m_check_net :=
  have S := s_check_net
  PD.fn_of T d_check_net g_check_net (params := defArgs (top 42)) (body := defBody (top 42)) (scope := defScope (top 42)) (hd := by rfl) (hg := by rfl) S (fun _ _ _ _ _ _ us hl => match us, hl with | [_], _ => rfl) (by decide) fun cdv A outer s H E f hr =>
    show PDB _ _ b_check_net from pb_one (ps_ifD (pt_notD (pt_e (pd_call (f_is_net T) hr (pda_cons (pd_var 0) pda_nil)))) pb_never pb_nil)
theorem s_raw_cell_sums : FnScope N_raw_cell_sums ["cell"] (defScope (top 43)) := ⟨rfl, rfl, rfl, by decide +kernel, rfl, by decide +kernel, by decide +kernel⟩
theorem f_raw_cell_sums (T : TB K mg) : FnAt P w K mg base "raw_cell_sums" 1 ["cell"] m_raw_cell_sums :=
  have S := s_raw_cell_sums
  PD.fn_of T d_raw_cell_sums g_raw_cell_sums (params := defArgs (top 43)) (body := defBody (top 43)) (scope := defScope (top 43)) (hd := by rfl) (hg := by rfl) S (fun _ _ _ _ _ _ us hl => match us, hl with | [_], _ => rfl) (by decide) fun cdv A outer s H E f hr =>
    show PDB _ _ b_raw_cell_sums from pb_one (ps_retD (pd_if (pt_eq hr (pd_sub_ hr (pd_var 0) pd_int) (pd_gc (T.con c_MOST))) (pd_sub_ hr (pd_var 0) pd_int) (pd_slice (pd_var 0) (po_someD pd_int) po_noneD)))
theorem s_is_span : FnScope N_is_span ["thing"] (defScope (top 45)) := ⟨rfl, rfl, rfl, by decide +kernel, rfl, by decide +kernel, by decide +kernel⟩
theorem f_is_span (T : TB K mg) : FnAt P w K mg base "is_span" 3 ["thing"] m_is_span :=
  have S := s_is_span
  PD.fn_of T d_is_span g_is_span (params := defArgs (top 45)) (body := defBody (top 45)) (scope := defScope (top 45)) (hd := by rfl) (hg := by rfl) S (fun _ _ _ _ _ _ us hl => match us, hl with | [_], _ => rfl) (by decide) fun cdv A outer s H E f hr =>
    show PDB _ _ b_is_span from pb_cons (ps_ifD (PW.pt (pw_orD (pt_notD (pt_e (pd_call (f_is_tuple_of T) hr (pda_cons (pd_var 0) (pda_cons pd_int pda_nil))))) (pw_orD (pt_notD (pt_e (pd_call (f_is_fraction T) hr (pda_cons (pd_sub_ hr (pd_var 0) pd_int) pda_nil)))) (pw_or1D (pt_notD (pt_e (pd_call (f_is_fraction T) hr (pda_cons (pd_sub_ hr (pd_var 0) pd_int) pda_nil)))))))) (pb_one (ps_retD pd_bl)) pb_nil) (pb_one (ps_retD (pd_call (f_raw_at_most T) hr (pda_cons (pd_sub_ hr (pd_var 0) pd_int) (pda_cons (pd_sub_ hr (pd_var 0) pd_int) pda_nil)))))
theorem s_raw_is_box : FnScope N_raw_is_box ["m", "thing"] (defScope (top 46)) := ⟨rfl, rfl, rfl, by decide +kernel, rfl, by decide +kernel, by decide +kernel⟩
theorem f_raw_is_box (T : TB K mg) : FnAt P w K mg base "raw_is_box" 4 ["m", "thing"] m_raw_is_box :=
  have S := s_raw_is_box
  PD.fn_of T d_raw_is_box g_raw_is_box (params := defArgs (top 46)) (body := defBody (top 46)) (scope := defScope (top 46)) (hd := by rfl) (hg := by rfl) S (fun _ _ _ _ _ _ us hl => match us, hl with | [_, _], _ => rfl) (by decide) fun cdv A outer s H E f hr =>
    show PDB _ _ b_raw_is_box from pb_one (ps_retD (pd_and (pd_call (f_is_tuple_of T) hr (pda_cons (pd_var 1) (pda_cons (pd_var 0) pda_nil))) (pd_one (pd_all rfl (T.free i_all) (pd_lc rfl S.nd [("span", 2)] (pi_d (pd_var 1)) (by rfl) (fun _ _ _ _ _ => pg_nameD (i := 2) S.nd) (fun _ _ _ _ _ => pts_nilD) (fun _ _ _ _ _ => pd_call (f_is_span T) hr (pda_cons (pd_var 2) pda_nil)))))))
theorem s_check_box : FnScope N_check_box ["net", "box"] (defScope (top 47)) := ⟨rfl, rfl, rfl, by decide +kernel, rfl, by decide +kernel, by decide +kernel⟩
theorem f_check_box (T : TB K mg) : FnAt P w K mg base "check_box" 8 ["net", "box"] m_check_box :=
  have S := s_check_box
  PD.fn_of T d_check_box g_check_box (params := defArgs (top 47)) (body := defBody (top 47)) (scope := defScope (top 47)) (hd := by rfl) (hg := by rfl) S (fun _ _ _ _ _ _ us hl => match us, hl with | [_, _], _ => rfl) (by decide) fun cdv A outer s H E f hr =>
    show PDB _ _ b_check_box from pb_cons (ps_exprD (pd_call (f_check_net T) hr (pda_cons (pd_var 0) pda_nil))) (pb_one (ps_ifD (pt_notD (pt_e (pd_call (f_raw_is_box T) hr (pda_cons (pd_sub_ hr (pd_var 0) pd_int) (pda_cons (pd_var 1) pda_nil))))) pb_never pb_nil))
theorem s_value_by : FnScope N_value_by ["word", "parts"] (defScope (top 50)) := ⟨rfl, rfl, rfl, by decide +kernel, rfl, by decide +kernel, by decide +kernel⟩
theorem f_value_by (T : TB K mg) : FnAt P w K mg base "value_by" 3 ["word", "parts"] m_value_by :=
  have S := s_value_by
  PD.fn_of T d_value_by g_value_by (params := defArgs (top 50)) (body := defBody (top 50)) (scope := defScope (top 50)) (hd := by rfl) (hg := by rfl) S (fun _ _ _ _ _ _ us hl => match us, hl with | [_, _], _ => rfl) (by decide) fun cdv A outer s H E f hr =>
    show PDB _ _ b_value_by from pb_cons (ps_ifD (pt_eq hr (pd_var 0) (pd_gc (T.con c_PLAIN))) (pb_one (ps_retD (pd_sub_ hr (pd_var 1) pd_int))) pb_nil) (pb_cons (ps_ifD (pt_eq hr (pd_var 0) (pd_gc (T.con c_CUT))) (pb_one (ps_retD (pd_call (f_raw_cut T) hr (pda_cons (pd_sub_ hr (pd_var 1) pd_int) pda_nil)))) pb_nil) (pb_cons (ps_ifD (pt_eq hr (pd_var 0) (pd_gc (T.con c_STEP))) (pb_one (ps_retD (pd_if (pt_gt (pd_sub_ hr (pd_sub_ hr (pd_var 1) pd_int) pd_int) pd_int) (pd_gc (T.con c_ONE)) (pd_gc (T.con c_NOUGHT))))) pb_nil) (pb_cons (ps_ifD (pt_eq hr (pd_var 0) (pd_gc (T.con c_SWITCH))) (pb_one (ps_retD (pd_if (pt_gt (pd_sub_ hr (pd_sub_ hr (pd_var 1) pd_int) pd_int) pd_int) (pd_sub_ hr (pd_var 1) pd_int) (pd_sub_ hr (pd_var 1) pd_int)))) pb_nil) (pb_cons (ps_setD (i := 2) S.nd (pd_sub_ hr (pd_var 1) pd_int)) (pb_cons (ps_forD PassesOwn.never rfl (pi_d (pd_slice (pd_var 1) (po_someD pd_int) po_noneD)) (pg_nameD (i := 3) S.nd) (pb_one (ps_setD (i := 2) S.nd (pd_call (f_raw_greater T) hr (pda_cons (pd_var 2) (pda_cons (pd_var 3) pda_nil)))))) (pb_one (ps_retD (pd_var 2))))))))
theorem s_raw_cell_value : FnScope N_raw_cell_value ["cell", "sources"] (defScope (top 49)) := ⟨rfl, rfl, rfl, by decide +kernel, rfl, by decide +kernel, by decide +kernel⟩
theorem f_raw_cell_value (T : TB K mg) : FnAt P w K mg base "raw_cell_value" 5 ["cell", "sources"] m_raw_cell_value :=
  have S := s_raw_cell_value
  PD.fn_of T d_raw_cell_value g_raw_cell_value (params := defArgs (top 49)) (body := defBody (top 49)) (scope := defScope (top 49)) (hd := by rfl) (hg := by rfl) S (fun _ _ _ _ _ _ us hl => match us, hl with | [_, _], _ => rfl) (by decide) fun cdv A outer s H E f hr =>
    show PDB _ _ b_raw_cell_value from pb_cons (ps_setLcD (i := 2) rfl S.nd [("one", 3)] (by rfl) (pi_d (pd_call (f_raw_cell_sums T) hr (pda_cons (pd_var 0) pda_nil))) (by rfl) (fun _ _ _ _ _ => pg_nameD (i := 3) S.nd) (fun _ _ _ _ _ => pts_nilD) (fun _ _ _ _ _ => pd_call (f_raw_worth T) hr (pda_cons (pd_var 1) (pda_cons (pd_var 3) pda_nil)))) (pb_one (ps_retD (pd_call (f_value_by T) hr (pda_cons (pd_sub_ hr (pd_var 0) pd_int) (pda_cons (pd_var 2) pda_nil)))))
theorem s_raw_sources_at : FnScope N_raw_sources_at ["net", "point"] (defScope (top 51)) := ⟨rfl, rfl, rfl, by decide +kernel, rfl, by decide +kernel, by decide +kernel⟩
theorem f_raw_sources_at (T : TB K mg) : FnAt P w K mg base "raw_sources_at" 6 ["net", "point"] m_raw_sources_at :=
  have S := s_raw_sources_at
  PD.fn_of T d_raw_sources_at g_raw_sources_at (params := defArgs (top 51)) (body := defBody (top 51)) (scope := defScope (top 51)) (hd := by rfl) (hg := by rfl) S (fun _ _ _ _ _ _ us hl => match us, hl with | [_, _], _ => rfl) (by decide) fun cdv A outer s H E f hr =>
    show PDB _ _ b_raw_sources_at from pb_cons (ps_setD (i := 2) S.nd (pd_listOfM (T.free i_list) (pd_var 1))) (pb_cons (ps_forD PassesOwn.never rfl (pi_d (pd_sub_ hr (pd_var 0) pd_int)) (pg_nameD (i := 3) S.nd) (pb_one (ps_exprD (pd_append (pd_var 2) (pd_call (f_raw_cell_value T) hr (pda_cons (pd_var 3) (pda_cons (pd_var 2) pda_nil))))))) (pb_one (ps_retF (pd_var 2))))
theorem s_raw_run : FnScope N_raw_run ["net", "point"] (defScope (top 52)) := ⟨rfl, rfl, rfl, by decide +kernel, rfl, by decide +kernel, by decide +kernel⟩
theorem f_raw_run (T : TB K mg) : FnAt P w K mg base "raw_run" 7 ["net", "point"] m_raw_run :=
  have S := s_raw_run
  PD.fn_of T d_raw_run g_raw_run (params := defArgs (top 52)) (body := defBody (top 52)) (scope := defScope (top 52)) (hd := by rfl) (hg := by rfl) S (fun _ _ _ _ _ _ us hl => match us, hl with | [_, _], _ => rfl) (by decide) fun cdv A outer s H E f hr =>
    show PDB _ _ b_raw_run from pb_cons (ps_setD (i := 2) S.nd (pd_call (f_raw_sources_at T) hr (pda_cons (pd_var 0) (pda_cons (pd_var 1) pda_nil)))) (pb_one (ps_retD (pd_tupleOf (T.free i_tuple) (pd_lc rfl S.nd [("one", 3)] (pi_d (pd_sub_ hr (pd_var 0) pd_int)) (by rfl) (fun _ _ _ _ _ => pg_nameD (i := 3) S.nd) (fun _ _ _ _ _ => pts_nilD) (fun _ _ _ _ _ => pd_call (f_raw_worth T) hr (pda_cons (pd_var 2) (pda_cons (pd_var 3) pda_nil)))))))
theorem s_sign_by : FnScope N_sign_by ["word", "parts"] (defScope (top 53)) := ⟨rfl, rfl, rfl, by decide +kernel, rfl, by decide +kernel, by decide +kernel⟩
theorem f_sign_by (T : TB K mg) : FnAt P w K mg base "sign_by" 2 ["word", "parts"] m_sign_by :=
  have S := s_sign_by
  PD.fn_of T d_sign_by g_sign_by (params := defArgs (top 53)) (body := defBody (top 53)) (scope := defScope (top 53)) (hd := by rfl) (hg := by rfl) S (fun _ _ _ _ _ _ us hl => match us, hl with | [_, _], _ => rfl) (by decide) fun cdv A outer s H E f hr =>
    show PDB _ _ b_sign_by from pb_cons (ps_ifD (pt_eq hr (pd_var 0) (pd_gc (T.con c_PLAIN))) (pb_one (ps_retD pd_int)) pb_nil) (pb_cons (ps_ifD (pt_ne hr (pd_var 0) (pd_gc (T.con c_MOST))) (pb_one (ps_retD (pd_intOf (T.free i_int) (pd_gt (pd_sub_ hr (pd_sub_ hr (pd_var 1) pd_int) pd_int) pd_int)))) pb_nil) (pb_cons (ps_setD (i := 2) S.nd pd_int) (pb_cons (ps_forD PassesOwn.never rfl (pi_enumD (T.free i_enumerate) (pd_var 1)) (pg_tupD rfl (pgs_consD (pg_nameD (i := 3) S.nd) (pgs_consD (pg_nameD (i := 4) S.nd) pgs_nilD))) (pb_one (ps_setD (i := 2) S.nd (pd_if (pt_e (pd_call (f_raw_below T) hr (pda_cons (pd_sub_ hr (pd_var 1) (pd_var 2)) (pda_cons (pd_var 4) pda_nil)))) (pd_var 3) (pd_var 2))))) (pb_one (ps_retD (pd_var 2))))))
theorem s_all_parts : FnScope N_all_parts ["net", "point"] (defScope (top 54)) := ⟨rfl, rfl, rfl, by decide +kernel, rfl, by decide +kernel, by decide +kernel⟩
theorem f_all_parts (T : TB K mg) : FnAt P w K mg base "all_parts" 7 ["net", "point"] m_all_parts :=
  have S := s_all_parts
  PD.fn_of T d_all_parts g_all_parts (params := defArgs (top 54)) (body := defBody (top 54)) (scope := defScope (top 54)) (hd := by rfl) (hg := by rfl) S (fun _ _ _ _ _ _ us hl => match us, hl with | [_, _], _ => rfl) (by decide) fun cdv A outer s H E f hr =>
    show PDB _ _ b_all_parts from pb_cons (ps_unp2D (i := 3) (j := 4) rfl S.nd (pd_call (f_raw_sources_at T) hr (pda_cons (pd_var 0) (pda_cons (pd_var 1) pda_nil))) (pd_lstM pda_nil)) (pb_cons (ps_forD PassesOwn.never rfl (pi_d (pd_sub_ hr (pd_var 0) pd_int)) (pg_nameD (i := 2) S.nd) (pb_one (ps_exprD (pd_append (pd_var 4) (pd_tup (pda_cons (pd_sub_ hr (pd_var 2) pd_int) (pda_cons (pd_lc rfl S.nd [("one", 5)] (pi_d (pd_call (f_raw_cell_sums T) hr (pda_cons (pd_var 2) pda_nil))) (by rfl) (fun _ _ _ _ _ => pg_nameD (i := 5) S.nd) (fun _ _ _ _ _ => pts_nilD) (fun _ _ _ _ _ => pd_call (f_raw_worth T) hr (pda_cons (pd_var 3) (pda_cons (pd_var 5) pda_nil)))) pda_nil))))))) (pb_one (ps_retF (pd_var 4))))
theorem s_raw_signs : FnScope N_raw_signs ["net", "point"] (defScope (top 55)) := ⟨rfl, rfl, rfl, by decide +kernel, rfl, by decide +kernel, by decide +kernel⟩
theorem f_raw_signs (T : TB K mg) : FnAt P w K mg base "raw_signs" 8 ["net", "point"] m_raw_signs :=
  have S := s_raw_signs
  PD.fn_of T d_raw_signs g_raw_signs (params := defArgs (top 55)) (body := defBody (top 55)) (scope := defScope (top 55)) (hd := by rfl) (hg := by rfl) S (fun _ _ _ _ _ _ us hl => match us, hl with | [_, _], _ => rfl) (by decide) fun cdv A outer s H E f hr =>
    show PDB _ _ b_raw_signs from pb_one (ps_retD (pd_tupleOf (T.free i_tuple) (pd_lc rfl S.nd [("word", 2), ("parts", 3)] (pi_d (pd_call (f_all_parts T) hr (pda_cons (pd_var 0) (pda_cons (pd_var 1) pda_nil)))) (by rfl) (fun _ _ _ _ _ => pg_tupD rfl (pgs_consD (pg_nameD (i := 2) S.nd) (pgs_consD (pg_nameD (i := 3) S.nd) pgs_nilD))) (fun _ _ _ _ _ => pts_nilD) (fun _ _ _ _ _ => pd_call (f_sign_by T) hr (pda_cons (pd_var 2) (pda_cons (pd_var 3) pda_nil))))))
theorem s_raw_is_claim : FnScope N_raw_is_claim ["outs", "thing"] (defScope (top 57)) := ⟨rfl, rfl, rfl, by decide +kernel, rfl, by decide +kernel, by decide +kernel⟩
theorem f_raw_is_claim (T : TB K mg) : FnAt P w K mg base "raw_is_claim" 5 ["outs", "thing"] m_raw_is_claim :=
  have S := s_raw_is_claim
  PD.fn_of T d_raw_is_claim g_raw_is_claim (params := defArgs (top 57)) (body := defBody (top 57)) (scope := defScope (top 57)) (hd := by rfl) (hg := by rfl) S (fun _ _ _ _ _ _ us hl => match us, hl with | [_, _], _ => rfl) (by decide) fun cdv A outer s H E f hr =>
    show PDB _ _ b_raw_is_claim from pb_cons (ps_ifD (PW.pt (pw_orD (pt_notD (pt_e (pd_call (f_is_tuple_of T) hr (pda_cons (pd_var 1) (pda_cons pd_int pda_nil))))) (pw_or1D (pt_notD (pt_e (pd_call (f_raw_is_sum T) hr (pda_cons (pd_var 0) (pda_cons (pd_sub_ hr (pd_var 1) pd_int) pda_nil)))))))) (pb_one (ps_retD pd_bl)) pb_nil) (pb_one (ps_retD (pd_and (pd_isiD "str" (hi := (T.free i_isinstance)) (hm := (T.free i_str)) (ha := pd_sub_ hr (pd_var 1) pd_int)) (pd_one (pd_inD hr (pd_sub_ hr (pd_var 1) pd_int) (pd_tup (pda_cons (pd_gc (T.con c_ABOVE)) (pda_cons (pd_gc (T.con c_LEAST)) pda_nil))))))))
theorem s_check_claim : FnScope N_check_claim ["net", "claim"] (defScope (top 58)) := ⟨rfl, rfl, rfl, by decide +kernel, rfl, by decide +kernel, by decide +kernel⟩
theorem f_check_claim (T : TB K mg) : FnAt P w K mg base "check_claim" 6 ["net", "claim"] m_check_claim :=
  have S := s_check_claim
  PD.fn_of T d_check_claim g_check_claim (params := defArgs (top 58)) (body := defBody (top 58)) (scope := defScope (top 58)) (hd := by rfl) (hg := by rfl) S (fun _ _ _ _ _ _ us hl => match us, hl with | [_, _], _ => rfl) (by decide) fun cdv A outer s H E f hr =>
    show PDB _ _ b_check_claim from pb_one (ps_ifD (pt_notD (pt_e (pd_call (f_raw_is_claim T) hr (pda_cons (pd_len (T.free i_len) (pd_sub_ hr (pd_var 0) pd_int)) (pda_cons (pd_var 1) pda_nil))))) pb_never pb_nil)
theorem s_raw_holds : FnScope N_raw_holds ["net", "point", "claim"] (defScope (top 59)) := ⟨rfl, rfl, rfl, by decide +kernel, rfl, by decide +kernel, by decide +kernel⟩
theorem f_raw_holds (T : TB K mg) : FnAt P w K mg base "raw_holds" 8 ["net", "point", "claim"] m_raw_holds :=
  have S := s_raw_holds
  PD.fn_of T d_raw_holds g_raw_holds (params := defArgs (top 59)) (body := defBody (top 59)) (scope := defScope (top 59)) (hd := by rfl) (hg := by rfl) S (fun _ _ _ _ _ _ us hl => match us, hl with | [_, _, _], _ => rfl) (by decide) fun cdv A outer s H E f hr =>
    show PDB _ _ b_raw_holds from pb_cons (ps_setD (i := 3) S.nd (pd_call (f_raw_worth T) hr (pda_cons (pd_call (f_raw_run T) hr (pda_cons (pd_var 0) (pda_cons (pd_var 1) pda_nil))) (pda_cons (pd_sub_ hr (pd_var 2) pd_int) pda_nil)))) (pb_one (ps_retD (pd_if (pt_eq hr (pd_sub_ hr (pd_var 2) pd_int) (pd_gc (T.con c_ABOVE))) (pd_gt (pd_sub_ hr (pd_var 3) pd_int) pd_int) (pd_ge (pd_sub_ hr (pd_var 3) pd_int) pd_int))))
theorem s_check_lone_box : FnScope N_check_lone_box ["box"] (defScope (top 62)) := ⟨rfl, rfl, rfl, by decide +kernel, rfl, by decide +kernel, by decide +kernel⟩
theorem f_check_lone_box (T : TB K mg) : FnAt P w K mg base "check_lone_box" 5 ["box"] m_check_lone_box :=
  have S := s_check_lone_box
  PD.fn_of T d_check_lone_box g_check_lone_box (params := defArgs (top 62)) (body := defBody (top 62)) (scope := defScope (top 62)) (hd := by rfl) (hg := by rfl) S (fun _ _ _ _ _ _ us hl => match us, hl with | [_], _ => rfl) (by decide) fun cdv A outer s H E f hr =>
    show PDB _ _ b_check_lone_box from pb_one (ps_ifD (PW.pt (pw_orD (pt_notD (pt_e (pd_isiD "tuple" (hi := (T.free i_isinstance)) (hm := (T.free i_tuple)) (ha := pd_var 0)))) (pw_orD (pt_notD (pt_le_le pd_int (pd_len (T.free i_len) (pd_var 0)) (pd_gc (T.con c_MOST_INPUTS)))) (pw_or1D (pt_notD (pt_e (pd_call (f_raw_is_box T) hr (pda_cons (pd_len (T.free i_len) (pd_var 0)) (pda_cons (pd_var 0) pda_nil))))))))) pb_never pb_nil)
theorem s_whole_ends : FnScope N_whole_ends ["pair"] (defScope (top 63)) := ⟨rfl, rfl, rfl, by decide +kernel, rfl, by decide +kernel, by decide +kernel⟩
theorem f_whole_ends (T : TB K mg) : FnAt P w K mg base "whole_ends" 1 ["pair"] m_whole_ends :=
  have S := s_whole_ends
  PD.fn_of T d_whole_ends g_whole_ends (params := defArgs (top 63)) (body := defBody (top 63)) (scope := defScope (top 63)) (hd := by rfl) (hg := by rfl) S (fun _ _ _ _ _ _ us hl => match us, hl with | [_], _ => rfl) (by decide) fun cdv A outer s H E f hr =>
    show PDB _ _ b_whole_ends from pb_cons (ps_asgD (pd_var 0) (pg_tupD rfl (pgs_consD (pg_tupD rfl (pgs_consD (pg_nameD (i := 1) S.nd) (pgs_consD (pg_nameD (i := 2) S.nd) pgs_nilD))) (pgs_consD (pg_tupD rfl (pgs_consD (pg_nameD (i := 3) S.nd) (pgs_consD (pg_nameD (i := 4) S.nd) pgs_nilD))) pgs_nilD)))) (pb_one (ps_retD (pd_tup (pda_cons (pd_sub pd_int (pd_div (pd_sub pd_int (pd_var 1)) (pd_var 2))) (pda_cons (pd_div (pd_var 3) (pd_var 4)) pda_nil)))))
theorem s_raw_whole_many : FnScope N_raw_whole_many ["box"] (defScope (top 64)) := ⟨rfl, rfl, rfl, by decide +kernel, rfl, by decide +kernel, by decide +kernel⟩
theorem f_raw_whole_many (T : TB K mg) : FnAt P w K mg base "raw_whole_many" 2 ["box"] m_raw_whole_many :=
  have S := s_raw_whole_many
  PD.fn_of T d_raw_whole_many g_raw_whole_many (params := defArgs (top 64)) (body := defBody (top 64)) (scope := defScope (top 64)) (hd := by rfl) (hg := by rfl) S (fun _ _ _ _ _ _ us hl => match us, hl with | [_], _ => rfl) (by decide) fun cdv A outer s H E f hr =>
    show PDB _ _ b_raw_whole_many from pb_cons (ps_setD (i := 1) S.nd pd_int) (pb_cons (ps_forD PassesOwn.never rfl (pi_d (pd_var 0)) (pg_nameD (i := 2) S.nd) (pb_cons (ps_asgD (pd_call (f_whole_ends T) hr (pda_cons (pd_var 2) pda_nil)) (pg_tupD rfl (pgs_consD (pg_nameD (i := 3) S.nd) (pgs_consD (pg_nameD (i := 4) S.nd) pgs_nilD)))) (pb_one (ps_mulAug (k := 1) S.nd (pd_max2 rfl (T.free i_max) pd_int (pd_add (pd_sub (pd_var 4) (pd_var 3)) pd_int)))))) (pb_one (ps_retD (pd_var 1))))
theorem s_whole_many : FnScope N_whole_many ["box"] (defScope (top 65)) := ⟨rfl, rfl, rfl, by decide +kernel, rfl, by decide +kernel, by decide +kernel⟩
theorem f_whole_many (T : TB K mg) : FnAt P w K mg base "whole_many" 6 ["box"] m_whole_many :=
  have S := s_whole_many
  PD.fn_of T d_whole_many g_whole_many (params := defArgs (top 65)) (body := defBody (top 65)) (scope := defScope (top 65)) (hd := by rfl) (hg := by rfl) S (fun _ _ _ _ _ _ us hl => match us, hl with | [_], _ => rfl) (by decide) fun cdv A outer s H E f hr =>
    show PDB _ _ b_whole_many from pb_cons (ps_exprD (pd_call (f_check_lone_box T) hr (pda_cons (pd_var 0) pda_nil))) (pb_one (ps_retD (pd_call (f_raw_whole_many T) hr (pda_cons (pd_var 0) pda_nil))))
theorem s_check_few : FnScope N_check_few ["box"] (defScope (top 66)) := ⟨rfl, rfl, rfl, by decide +kernel, rfl, by decide +kernel, by decide +kernel⟩
theorem f_check_few (T : TB K mg) : FnAt P w K mg base "check_few" 3 ["box"] m_check_few :=
  have S := s_check_few
  PD.fn_of T d_check_few g_check_few (params := defArgs (top 66)) (body := defBody (top 66)) (scope := defScope (top 66)) (hd := by rfl) (hg := by rfl) S (fun _ _ _ _ _ _ us hl => match us, hl with | [_], _ => rfl) (by decide) fun cdv A outer s H E f hr =>
    show PDB _ _ b_check_few from pb_one (ps_ifD (pt_gt (pd_call (f_raw_whole_many T) hr (pda_cons (pd_var 0) pda_nil)) (pd_gc (T.con c_MOST_WHOLE))) pb_never pb_nil)
theorem s_raw_whole_points : FnScope N_raw_whole_points ["box"] (defScope (top 67)) := ⟨rfl, rfl, rfl, by decide +kernel, rfl, by decide +kernel, by decide +kernel⟩
theorem f_raw_whole_points (T : TB K mg) : FnAt P w K mg base "raw_whole_points" 3 ["box"] m_raw_whole_points :=
  have S := s_raw_whole_points
  PD.fn_of T d_raw_whole_points g_raw_whole_points (params := defArgs (top 67)) (body := defBody (top 67)) (scope := defScope (top 67)) (hd := by rfl) (hg := by rfl) S (fun _ _ _ _ _ _ us hl => match us, hl with | [_], _ => rfl) (by decide) fun cdv A outer s H E f hr =>
    show PDB _ _ b_raw_whole_points from pb_cons (ps_setD (i := 1) S.nd (pd_lst (pda_cons (pd_tup pda_nil) pda_nil))) (pb_cons (ps_ifD (pt_eq hr (pd_call (f_raw_whole_many T) hr (pda_cons (pd_var 0) pda_nil)) pd_int) (pb_one (ps_retD (pd_lst pda_nil))) pb_nil) (pb_cons (ps_forD PassesOwn.never rfl (pi_d (pd_var 0)) (pg_nameD (i := 2) S.nd) (pb_cons (ps_asgD (pd_call (f_whole_ends T) hr (pda_cons (pd_var 2) pda_nil)) (pg_tupD rfl (pgs_consD (pg_nameD (i := 5) S.nd) (pgs_consD (pg_nameD (i := 6) S.nd) pgs_nilD)))) (pb_cons (ps_setD (i := 3) S.nd (pd_lstM pda_nil)) (pb_cons (ps_forD PassesOwn.never rfl (pi_d (pd_var 1)) (pg_nameD (i := 4) S.nd) (pb_one (ps_exprD (pd_extend (pd_var 3) (pd_lc rfl S.nd [("place", 7)] (pi_rng2 (T.free i_range) (pd_var 5) (pd_add (pd_var 6) pd_int)) (by rfl) (fun _ _ _ _ _ => pg_nameD (i := 7) S.nd) (fun _ _ _ _ _ => pts_nilD) (fun _ _ _ _ _ => pd_add (pd_var 4) (pd_tup (pda_cons (pd_tup (pda_cons (pd_var 7) (pda_cons pd_int pda_nil))) pda_nil)))))))) (pb_one (ps_setD (i := 1) S.nd (pd_var 3))))))) (pb_one (ps_retF (pd_var 1)))))
theorem s_whole_points : FnScope N_whole_points ["box"] (defScope (top 68)) := ⟨rfl, rfl, rfl, by decide +kernel, rfl, by decide +kernel, by decide +kernel⟩
theorem f_whole_points (T : TB K mg) : FnAt P w K mg base "whole_points" 6 ["box"] m_whole_points :=
  have S := s_whole_points
  PD.fn_of T d_whole_points g_whole_points (params := defArgs (top 68)) (body := defBody (top 68)) (scope := defScope (top 68)) (hd := by rfl) (hg := by rfl) S (fun _ _ _ _ _ _ us hl => match us, hl with | [_], _ => rfl) (by decide) fun cdv A outer s H E f hr =>
    show PDB _ _ b_whole_points from pb_cons (ps_exprD (pd_call (f_check_lone_box T) hr (pda_cons (pd_var 0) pda_nil))) (pb_cons (ps_exprD (pd_call (f_check_few T) hr (pda_cons (pd_var 0) pda_nil))) (pb_one (ps_retD (pd_tupleOf (T.free i_tuple) (pd_call (f_raw_whole_points T) hr (pda_cons (pd_var 0) pda_nil))))))
theorem s_check_net_box : FnScope N_check_net_box ["net", "box"] (defScope (top 69)) := ⟨rfl, rfl, rfl, by decide +kernel, rfl, by decide +kernel, by decide +kernel⟩
theorem f_check_net_box (T : TB K mg) : FnAt P w K mg base "check_net_box" 9 ["net", "box"] m_check_net_box :=
  have S := s_check_net_box
  PD.fn_of T d_check_net_box g_check_net_box (params := defArgs (top 69)) (body := defBody (top 69)) (scope := defScope (top 69)) (hd := by rfl) (hg := by rfl) S (fun _ _ _ _ _ _ us hl => match us, hl with | [_, _], _ => rfl) (by decide) fun cdv A outer s H E f hr =>
    show PDB _ _ b_check_net_box from pb_cons (ps_exprD (pd_call (f_check_net T) hr (pda_cons (pd_var 0) pda_nil))) (pb_one (ps_exprD (pd_call (f_check_box T) hr (pda_cons (pd_var 0) (pda_cons (pd_var 1) pda_nil)))))
theorem s_check_all : FnScope N_check_all ["net", "box", "claim"] (defScope (top 70)) := ⟨rfl, rfl, rfl, by decide +kernel, rfl, by decide +kernel, by decide +kernel⟩
theorem f_check_all (T : TB K mg) : FnAt P w K mg base "check_all" 10 ["net", "box", "claim"] m_check_all :=
  have S := s_check_all
  PD.fn_of T d_check_all g_check_all (params := defArgs (top 70)) (body := defBody (top 70)) (scope := defScope (top 70)) (hd := by rfl) (hg := by rfl) S (fun _ _ _ _ _ _ us hl => match us, hl with | [_, _, _], _ => rfl) (by decide) fun cdv A outer s H E f hr =>
    show PDB _ _ b_check_all from pb_cons (ps_exprD (pd_call (f_check_net_box T) hr (pda_cons (pd_var 0) (pda_cons (pd_var 1) pda_nil)))) (pb_cons (ps_exprD (pd_call (f_check_claim T) hr (pda_cons (pd_var 0) (pda_cons (pd_var 2) pda_nil)))) (pb_one (ps_exprD (pd_call (f_check_few T) hr (pda_cons (pd_var 1) pda_nil)))))
theorem s_holding_many : FnScope N_holding_many ["net", "box", "claim"] (defScope (top 71)) := ⟨rfl, rfl, rfl, by decide +kernel, rfl, by decide +kernel, by decide +kernel⟩
theorem f_holding_many (T : TB K mg) : FnAt P w K mg base "holding_many" 11 ["net", "box", "claim"] m_holding_many :=
  have S := s_holding_many
  PD.fn_of T d_holding_many g_holding_many (params := defArgs (top 71)) (body := defBody (top 71)) (scope := defScope (top 71)) (hd := by rfl) (hg := by rfl) S (fun _ _ _ _ _ _ us hl => match us, hl with | [_, _, _], _ => rfl) (by decide) fun cdv A outer s H E f hr =>
    show PDB _ _ b_holding_many from pb_cons (ps_exprD (pd_call (f_check_all T) hr (pda_cons (pd_var 0) (pda_cons (pd_var 1) (pda_cons (pd_var 2) pda_nil))))) (pb_one (ps_retD (pd_len (T.free i_len) (pd_lc rfl S.nd [("point", 3)] (pi_d (pd_call (f_raw_whole_points T) hr (pda_cons (pd_var 1) pda_nil))) (by rfl) (fun _ _ _ _ _ => pg_nameD (i := 3) S.nd) (fun _ _ _ _ _ => pts_oneD (pt_e (pd_call (f_raw_holds T) hr (pda_cons (pd_var 0) (pda_cons (pd_var 3) (pda_cons (pd_var 2) pda_nil)))))) (fun _ _ _ _ _ => pd_int)))))
theorem s_raw_failing : FnScope N_raw_failing ["net", "box", "claim"] (defScope (top 72)) := ⟨rfl, rfl, rfl, by decide +kernel, rfl, by decide +kernel, by decide +kernel⟩
theorem f_raw_failing (T : TB K mg) : FnAt P w K mg base "raw_failing" 9 ["net", "box", "claim"] m_raw_failing :=
  have S := s_raw_failing
  PD.fn_of T d_raw_failing g_raw_failing (params := defArgs (top 72)) (body := defBody (top 72)) (scope := defScope (top 72)) (hd := by rfl) (hg := by rfl) S (fun _ _ _ _ _ _ us hl => match us, hl with | [_, _, _], _ => rfl) (by decide) fun cdv A outer s H E f hr =>
    show PDB _ _ b_raw_failing from pb_one (ps_retD (pd_lc rfl S.nd [("point", 3)] (pi_d (pd_call (f_raw_whole_points T) hr (pda_cons (pd_var 1) pda_nil))) (by rfl) (fun _ _ _ _ _ => pg_nameD (i := 3) S.nd) (fun _ _ _ _ _ => pts_oneD (pt_notD (pt_e (pd_call (f_raw_holds T) hr (pda_cons (pd_var 0) (pda_cons (pd_var 3) (pda_cons (pd_var 2) pda_nil))))))) (fun _ _ _ _ _ => pd_var 3)))
theorem s_first_failing : FnScope N_first_failing ["net", "box", "claim"] (defScope (top 73)) := ⟨rfl, rfl, rfl, by decide +kernel, rfl, by decide +kernel, by decide +kernel⟩
theorem f_first_failing (T : TB K mg) : FnAt P w K mg base "first_failing" 11 ["net", "box", "claim"] m_first_failing :=
  have S := s_first_failing
  PD.fn_of T d_first_failing g_first_failing (params := defArgs (top 73)) (body := defBody (top 73)) (scope := defScope (top 73)) (hd := by rfl) (hg := by rfl) S (fun _ _ _ _ _ _ us hl => match us, hl with | [_, _, _], _ => rfl) (by decide) fun cdv A outer s H E f hr =>
    show PDB _ _ b_first_failing from pb_cons (ps_exprD (pd_call (f_check_all T) hr (pda_cons (pd_var 0) (pda_cons (pd_var 1) (pda_cons (pd_var 2) pda_nil))))) (pb_cons (ps_forD PassesOwn.never rfl (pi_d (pd_call (f_raw_whole_points T) hr (pda_cons (pd_var 1) pda_nil))) (pg_nameD (i := 3) S.nd) (pb_one (ps_ifD (pt_notD (pt_e (pd_call (f_raw_holds T) hr (pda_cons (pd_var 0) (pda_cons (pd_var 3) (pda_cons (pd_var 2) pda_nil)))))) (pb_one (ps_retD (pd_var 3))) pb_nil))) (pb_one (ps_retD pd_non)))
theorem s_counted : FnScope N_counted ["keys"] (defScope (top 74)) := ⟨rfl, rfl, rfl, by decide +kernel, rfl, by decide +kernel, by decide +kernel⟩
theorem f_counted (T : TB K mg) : FnAt P w K mg base "counted" 1 ["keys"] m_counted :=
  have S := s_counted
  PD.fn_of T d_counted g_counted (params := defArgs (top 74)) (body := defBody (top 74)) (scope := defScope (top 74)) (hd := by rfl) (hg := by rfl) S (fun _ _ _ _ _ _ us hl => match us, hl with | [_], _ => rfl) (by decide) fun cdv A outer s H E f hr =>
    show PDB _ _ b_counted from pb_cons (ps_setD (i := 1) S.nd pd_newN) (pb_cons (ps_forD PassesOwn.never rfl (pi_d (pd_sorted hr (T.free i_sorted) (pd_var 0))) (pg_nameD (i := 2) S.nd) (pb_one (ps_putD hr (pd_add (pd_get2 hr (pd_var 1) (pd_var 2) pd_int) pd_int) (pd_var 1) (pd_var 2)))) (pb_one (ps_retD (pd_var 1))))
theorem s_failing_by : FnScope N_failing_by ["net", "box", "claim"] (defScope (top 75)) := ⟨rfl, rfl, rfl, by decide +kernel, rfl, by decide +kernel, by decide +kernel⟩
theorem f_failing_by (T : TB K mg) : FnAt P w K mg base "failing_by" 11 ["net", "box", "claim"] m_failing_by :=
  have S := s_failing_by
  PD.fn_of T d_failing_by g_failing_by (params := defArgs (top 75)) (body := defBody (top 75)) (scope := defScope (top 75)) (hd := by rfl) (hg := by rfl) S (fun _ _ _ _ _ _ us hl => match us, hl with | [_, _, _], _ => rfl) (by decide) fun cdv A outer s H E f hr =>
    show PDB _ _ b_failing_by from pb_cons (ps_exprD (pd_call (f_check_all T) hr (pda_cons (pd_var 0) (pda_cons (pd_var 1) (pda_cons (pd_var 2) pda_nil))))) (pb_one (ps_retD (pd_call (f_counted T) hr (pda_cons (pd_lc rfl S.nd [("point", 3)] (pi_d (pd_call (f_raw_failing T) hr (pda_cons (pd_var 0) (pda_cons (pd_var 1) (pda_cons (pd_var 2) pda_nil))))) (by rfl) (fun _ _ _ _ _ => pg_nameD (i := 3) S.nd) (fun _ _ _ _ _ => pts_nilD) (fun _ _ _ _ _ => pd_call (f_raw_signs T) hr (pda_cons (pd_var 0) (pda_cons (pd_var 3) pda_nil)))) pda_nil))))
theorem s_whole_signs : FnScope N_whole_signs ["net", "box"] (defScope (top 76)) := ⟨rfl, rfl, rfl, by decide +kernel, rfl, by decide +kernel, by decide +kernel⟩
theorem f_whole_signs (T : TB K mg) : FnAt P w K mg base "whole_signs" 10 ["net", "box"] m_whole_signs :=
  have S := s_whole_signs
  PD.fn_of T d_whole_signs g_whole_signs (params := defArgs (top 76)) (body := defBody (top 76)) (scope := defScope (top 76)) (hd := by rfl) (hg := by rfl) S (fun _ _ _ _ _ _ us hl => match us, hl with | [_, _], _ => rfl) (by decide) fun cdv A outer s H E f hr =>
    show PDB _ _ b_whole_signs from pb_cons (ps_exprD (pd_call (f_check_net_box T) hr (pda_cons (pd_var 0) (pda_cons (pd_var 1) pda_nil)))) (pb_cons (ps_exprD (pd_call (f_check_few T) hr (pda_cons (pd_var 1) pda_nil))) (pb_one (ps_retD (pd_call (f_counted T) hr (pda_cons (pd_lc rfl S.nd [("point", 2)] (pi_d (pd_call (f_raw_whole_points T) hr (pda_cons (pd_var 1) pda_nil))) (by rfl) (fun _ _ _ _ _ => pg_nameD (i := 2) S.nd) (fun _ _ _ _ _ => pts_nilD) (fun _ _ _ _ _ => pd_call (f_raw_signs T) hr (pda_cons (pd_var 0) (pda_cons (pd_var 2) pda_nil)))) pda_nil)))))
theorem s_line_counts : FnScope N_line_counts ["net", "box", "claim", "i"] (defScope (top 77)) := ⟨rfl, rfl, rfl, by decide +kernel, rfl, by decide +kernel, by decide +kernel⟩
theorem f_line_counts (T : TB K mg) : FnAt P w K mg base "line_counts" 10 ["net", "box", "claim", "i"] m_line_counts :=
  have S := s_line_counts
  PD.fn_of T d_line_counts g_line_counts (params := defArgs (top 77)) (body := defBody (top 77)) (scope := defScope (top 77)) (hd := by rfl) (hg := by rfl) S (fun _ _ _ _ _ _ us hl => match us, hl with | [_, _, _, _], _ => rfl) (by decide) fun cdv A outer s H E f hr =>
    show PDB _ _ b_line_counts from pb_cons (ps_exprD (pd_call (f_check_net_box T) hr (pda_cons (pd_var 0) (pda_cons (pd_var 1) pda_nil)))) (pb_cons (ps_exprD (pd_call (f_check_claim T) hr (pda_cons (pd_var 0) (pda_cons (pd_var 2) pda_nil)))) (pb_cons (ps_ifD (pt_notD (pt_e (pd_call (f_is_within T) hr (pda_cons (pd_var 3) (pda_cons pd_int (pda_cons (pd_sub (pd_sub_ hr (pd_var 0) pd_int) pd_int) pda_nil)))))) pb_never pb_nil) (pb_cons (ps_exprD (pd_call (f_check_few T) hr (pda_cons (pd_var 1) pda_nil))) (pb_cons (ps_asgD (pd_call (f_whole_ends T) hr (pda_cons (pd_sub_ hr (pd_var 1) (pd_var 3)) pda_nil)) (pg_tupD rfl (pgs_consD (pg_nameD (i := 6) S.nd) (pgs_consD (pg_nameD (i := 7) S.nd) pgs_nilD)))) (pb_cons (ps_setDcD (i := 4) rfl S.nd [("place", 8)] (by rfl) (pi_rng2 (T.free i_range) (pd_var 6) (pd_add (pd_var 7) pd_int)) (by rfl) (fun _ _ _ _ _ => pg_nameD (i := 8) S.nd) (fun _ _ _ _ _ => pts_nilD) (fun _ _ _ _ _ => pd_var 8) (fun _ _ _ _ _ => pd_int)) (pb_cons (ps_forD PassesOwn.never rfl (pi_d (pd_call (f_raw_whole_points T) hr (pda_cons (pd_var 1) pda_nil))) (pg_nameD (i := 5) S.nd) (pb_one (ps_putAdd hr (pd_var 4) (pd_sub_ hr (pd_sub_ hr (pd_var 5) (pd_var 3)) pd_int) (pd_intOf (T.free i_int) (pd_call (f_raw_holds T) hr (pda_cons (pd_var 0) (pda_cons (pd_var 5) (pda_cons (pd_var 2) pda_nil)))))))) (pb_one (ps_retD (pd_var 4)))))))))
theorem s__law_hand : FnScope N__law_hand ["script"] (defScope (top 79)) := ⟨rfl, rfl, rfl, by decide +kernel, rfl, by decide +kernel, by decide +kernel⟩
theorem f__law_hand (T : TB K mg) : FnAt P w K mg base "_law_hand" 1 ["script"] m__law_hand :=
  have S := s__law_hand
  PD.fn_of T d__law_hand g__law_hand (params := defArgs (top 79)) (body := defBody (top 79)) (scope := defScope (top 79)) (hd := by rfl) (hg := by rfl) S (fun _ _ _ _ _ _ us hl => match us, hl with | [_], _ => rfl) (by decide) fun cdv A outer s H E f hr =>
    show PDB _ _ b__law_hand from pb_cons (ps_setLcD (i := 1) rfl S.nd [("cell", 2)] (by rfl) (pi_d (pd_slice (pd_var 0) po_noneD (po_someD pd_int))) (by rfl) (fun _ _ _ _ _ => pg_nameD (i := 2) S.nd) (fun _ _ _ _ _ => pts_nilD) (fun _ _ _ _ _ => pd_abs (T.free i_abs) (pd_intOf (T.free i_int) (pd_var 2)))) (pb_one (ps_retD (pd_lstM (pda_cons (pd_var 1) (pda_cons pd_int (pda_cons pd_int (pda_cons (pd_add pd_int (pd_mul pd_int (pd_len (T.free i_len) (pd_var 1)))) (pda_cons pd_int pda_nil))))))))
theorem s__law_draw : FnScope N__law_draw ["hand", "many"] (defScope (top 80)) := ⟨rfl, rfl, rfl, by decide +kernel, rfl, by decide +kernel, by decide +kernel⟩
theorem f__law_draw (T : TB K mg) : FnAt P w K mg base "_law_draw" 1 ["hand", "many"] m__law_draw :=
  have S := s__law_draw
  PD.fn_of T d__law_draw g__law_draw (params := defArgs (top 80)) (body := defBody (top 80)) (scope := defScope (top 80)) (hd := by rfl) (hg := by rfl) S (fun _ _ _ _ _ _ us hl => match us, hl with | [_, _], _ => rfl) (by decide) fun cdv A outer s H E f hr =>
    show PDB _ _ b__law_draw from pb_cons (ps_ifD (PW.pt (pw_andD (pt_eq hr (pd_sub_ hr (pd_var 0) pd_int) pd_int) (pw_and1D (pt_lt (pd_sub_ hr (pd_var 0) pd_int) (pd_len (T.free i_len) (pd_sub_ hr (pd_var 0) pd_int)))))) (pb_cons (ps_setD (i := 3) S.nd (pd_sub_ hr (pd_sub_ hr (pd_var 0) pd_int) (pd_sub_ hr (pd_var 0) pd_int))) (pb_cons (ps_putD hr (pd_add (pd_sub_ hr (pd_var 0) pd_int) pd_int) (pd_var 0) pd_int) (pb_cons (ps_putD hr (pd_mod (pd_intOf (T.free i_int) (pd_add (pd_add (pd_mul (pd_sub_ hr (pd_var 0) pd_int) pd_int) (pd_mul (pd_var 3) pd_int)) pd_int)) pd_int) (pd_var 0) pd_int) (pb_one (ps_ifD (pt_ge (pd_var 3) (pd_pow pd_int pd_int)) (pb_one (ps_putD hr (pd_var 3) (pd_var 0) pd_int)) pb_nil))))) pb_nil) (pb_cons (ps_ifD (pt_gt (pd_sub_ hr (pd_var 0) pd_int) pd_int) (pb_cons (ps_setD (i := 4) S.nd (pd_mod (pd_intOf (T.free i_int) (pd_sub_ hr (pd_var 0) pd_int)) (pd_var 1))) (pb_cons (ps_putD hr (pd_div (pd_sub_ hr (pd_var 0) pd_int) (pd_var 1)) (pd_var 0) pd_int) (pb_one (ps_retD (pd_var 4))))) pb_nil) (pb_cons (ps_putD hr (pd_add (pd_sub_ hr (pd_var 0) pd_int) pd_int) (pd_var 0) pd_int) (pb_cons (ps_setD (i := 2) S.nd (pd_mod (pd_intOf (T.free i_int) (pd_mul (pd_intOf (T.free i_int) (pd_add (pd_sub_ hr (pd_var 0) pd_int) (pd_mul pd_int (pd_sub_ hr (pd_var 0) pd_int)))) pd_int)) pd_int)) (pb_cons (ps_setD (i := 2) S.nd (pd_mod (pd_intOf (T.free i_int) (pd_mul (pd_var 2) (pd_add (pd_div (pd_var 2) pd_int) pd_int))) pd_int)) (pb_cons (ps_setD (i := 2) S.nd (pd_mod (pd_intOf (T.free i_int) (pd_mul (pd_var 2) (pd_add (pd_div (pd_var 2) pd_int) pd_int))) pd_int)) (pb_one (ps_retD (pd_mod (pd_intOf (T.free i_int) (pd_div (pd_var 2) pd_int)) (pd_var 1)))))))))
theorem s__law_any : FnScope N__law_any ["hand", "some"] (defScope (top 81)) := ⟨rfl, rfl, rfl, by decide +kernel, rfl, by decide +kernel, by decide +kernel⟩
theorem f__law_any (T : TB K mg) : FnAt P w K mg base "_law_any" 2 ["hand", "some"] m__law_any :=
  have S := s__law_any
  PD.fn_of T d__law_any g__law_any (params := defArgs (top 81)) (body := defBody (top 81)) (scope := defScope (top 81)) (hd := by rfl) (hg := by rfl) S (fun _ _ _ _ _ _ us hl => match us, hl with | [_, _], _ => rfl) (by decide) fun cdv A outer s H E f hr =>
    show PDB _ _ b__law_any from pb_one (ps_retD (pd_sub_ hr (pd_var 1) (pd_call (f__law_draw T) hr (pda_cons (pd_var 0) (pda_cons (pd_len (T.free i_len) (pd_var 1)) pda_nil)))))
theorem s__law_made : FnScope N__law_made ["top", "bottom"] (defScope (top 82)) := ⟨rfl, rfl, rfl, by decide +kernel, rfl, by decide +kernel, by decide +kernel⟩
theorem f__law_made (T : TB K mg) : FnAt P w K mg base "_law_made" 1 ["top", "bottom"] m__law_made :=
  have S := s__law_made
  PD.fn_of T d__law_made g__law_made (params := defArgs (top 82)) (body := defBody (top 82)) (scope := defScope (top 82)) (hd := by rfl) (hg := by rfl) S (fun _ _ _ _ _ _ us hl => match us, hl with | [_, _], _ => rfl) (by decide) fun cdv A outer s H E f hr =>
    show PDB _ _ b__law_made from pb_cons (ps_parD (i := 2) (j := 3) rfl S.nd (pd_abs (T.free i_abs) (pd_var 0)) (pd_var 1)) (pb_cons (ps_whileD PassesOwn.never (pt_gt (pd_var 3) pd_int) (pb_one (ps_parD (i := 2) (j := 3) rfl S.nd (pd_var 3) (pd_mod (pd_intOf (T.free i_int) (pd_var 2)) (pd_var 3))))) (pb_one (ps_retD (pd_tup (pda_cons (pd_div (pd_var 0) (pd_var 2)) (pda_cons (pd_div (pd_var 1) (pd_var 2)) pda_nil))))))
theorem s__law_plus : FnScope N__law_plus ["x", "y"] (defScope (top 83)) := ⟨rfl, rfl, rfl, by decide +kernel, rfl, by decide +kernel, by decide +kernel⟩
theorem f__law_plus (T : TB K mg) : FnAt P w K mg base "_law_plus" 2 ["x", "y"] m__law_plus :=
  have S := s__law_plus
  PD.fn_of T d__law_plus g__law_plus (params := defArgs (top 83)) (body := defBody (top 83)) (scope := defScope (top 83)) (hd := by rfl) (hg := by rfl) S (fun _ _ _ _ _ _ us hl => match us, hl with | [_, _], _ => rfl) (by decide) fun cdv A outer s H E f hr =>
    show PDB _ _ b__law_plus from pb_one (ps_retD (pd_call (f__law_made T) hr (pda_cons (pd_add (pd_mul (pd_sub_ hr (pd_var 0) pd_int) (pd_sub_ hr (pd_var 1) pd_int)) (pd_mul (pd_sub_ hr (pd_var 1) pd_int) (pd_sub_ hr (pd_var 0) pd_int))) (pda_cons (pd_mul (pd_sub_ hr (pd_var 0) pd_int) (pd_sub_ hr (pd_var 1) pd_int)) pda_nil))))
theorem s__law_times : FnScope N__law_times ["x", "y"] (defScope (top 84)) := ⟨rfl, rfl, rfl, by decide +kernel, rfl, by decide +kernel, by decide +kernel⟩
theorem f__law_times (T : TB K mg) : FnAt P w K mg base "_law_times" 2 ["x", "y"] m__law_times :=
  have S := s__law_times
  PD.fn_of T d__law_times g__law_times (params := defArgs (top 84)) (body := defBody (top 84)) (scope := defScope (top 84)) (hd := by rfl) (hg := by rfl) S (fun _ _ _ _ _ _ us hl => match us, hl with | [_, _], _ => rfl) (by decide) fun cdv A outer s H E f hr =>
    show PDB _ _ b__law_times from pb_one (ps_retD (pd_call (f__law_made T) hr (pda_cons (pd_mul (pd_sub_ hr (pd_var 0) pd_int) (pd_sub_ hr (pd_var 1) pd_int)) (pda_cons (pd_mul (pd_sub_ hr (pd_var 0) pd_int) (pd_sub_ hr (pd_var 1) pd_int)) pda_nil))))
theorem s__law_worth : FnScope N__law_worth ["one", "values"] (defScope (top 85)) := ⟨rfl, rfl, rfl, by decide +kernel, rfl, by decide +kernel, by decide +kernel⟩
theorem f__law_worth (T : TB K mg) : FnAt P w K mg base "_law_worth" 3 ["one", "values"] m__law_worth :=
  have S := s__law_worth
  PD.fn_of T d__law_worth g__law_worth (params := defArgs (top 85)) (body := defBody (top 85)) (scope := defScope (top 85)) (hd := by rfl) (hg := by rfl) S (fun _ _ _ _ _ _ us hl => match us, hl with | [_, _], _ => rfl) (by decide) fun cdv A outer s H E f hr =>
    show PDB _ _ b__law_worth from pb_cons (ps_setD (i := 2) S.nd (pd_sub_ hr (pd_var 0) pd_int)) (pb_cons (ps_forD PassesOwn.never rfl (pi_d (pd_sub_ hr (pd_var 0) pd_int)) (pg_tupD rfl (pgs_consD (pg_nameD (i := 3) S.nd) (pgs_consD (pg_nameD (i := 4) S.nd) pgs_nilD))) (pb_one (ps_setD (i := 2) S.nd (pd_call (f__law_plus T) hr (pda_cons (pd_var 2) (pda_cons (pd_call (f__law_times T) hr (pda_cons (pd_var 4) (pda_cons (pd_sub_ hr (pd_var 1) (pd_var 3)) pda_nil))) pda_nil)))))) (pb_one (ps_retD (pd_var 2))))
theorem s__law_number : FnScope N__law_number ["hand"] (defScope (top 86)) := ⟨rfl, rfl, rfl, by decide +kernel, rfl, by decide +kernel, by decide +kernel⟩
theorem f__law_number (T : TB K mg) : FnAt P w K mg base "_law_number" 2 ["hand"] m__law_number :=
  have S := s__law_number
  PD.fn_of T d__law_number g__law_number (params := defArgs (top 86)) (body := defBody (top 86)) (scope := defScope (top 86)) (hd := by rfl) (hg := by rfl) S (fun _ _ _ _ _ _ us hl => match us, hl with | [_], _ => rfl) (by decide) fun cdv A outer s H E f hr =>
    show PDB _ _ b__law_number from pb_cons (ps_setD (i := 1) S.nd (pd_sub (pd_call (f__law_draw T) hr (pda_cons (pd_var 0) (pda_cons pd_int pda_nil))) pd_int)) (pb_one (ps_retD (pd_if (pt_gt (pd_call (f__law_draw T) hr (pda_cons (pd_var 0) (pda_cons pd_int pda_nil))) pd_int) (pd_tup (pda_cons (pd_var 1) (pda_cons pd_int pda_nil))) (pd_call (f__law_made T) hr (pda_cons (pd_add (pd_mul pd_int (pd_var 1)) pd_int) (pda_cons pd_int pda_nil))))))
theorem s__law_as_sum : FnScope N__law_as_sum ["factors", "constant"] (defScope (top 87)) := ⟨rfl, rfl, rfl, by decide +kernel, rfl, by decide +kernel, by decide +kernel⟩
theorem f__law_as_sum (T : TB K mg) : FnAt P w K mg base "_law_as_sum" 1 ["factors", "constant"] m__law_as_sum :=
  have S := s__law_as_sum
  PD.fn_of T d__law_as_sum g__law_as_sum (params := defArgs (top 87)) (body := defBody (top 87)) (scope := defScope (top 87)) (hd := by rfl) (hg := by rfl) S (fun _ _ _ _ _ _ us hl => match us, hl with | [_, _], _ => rfl) (by decide) fun cdv A outer s H E f hr =>
    show PDB _ _ b__law_as_sum from pb_one (ps_retD (pd_tup (pda_cons (pd_tupleOf (T.free i_tuple) (pd_lc rfl S.nd [("at", 2), ("one", 3)] (pi_enumD (T.free i_enumerate) (pd_var 0)) (by rfl) (fun _ _ _ _ _ => pg_tupD rfl (pgs_consD (pg_nameD (i := 2) S.nd) (pgs_consD (pg_nameD (i := 3) S.nd) pgs_nilD))) (fun _ _ _ _ _ => pts_oneD (pt_ne hr (pd_sub_ hr (pd_var 3) pd_int) pd_int)) (fun _ _ _ _ _ => pd_tup (pda_cons (pd_var 2) (pda_cons (pd_var 3) pda_nil))))) (pda_cons (pd_var 1) pda_nil))))
theorem s__law_drawn_sum : FnScope N__law_drawn_sum ["hand", "m"] (defScope (top 88)) := ⟨rfl, rfl, rfl, by decide +kernel, rfl, by decide +kernel, by decide +kernel⟩
theorem f__law_drawn_sum (T : TB K mg) : FnAt P w K mg base "_law_drawn_sum" 3 ["hand", "m"] m__law_drawn_sum :=
  have S := s__law_drawn_sum
  PD.fn_of T d__law_drawn_sum g__law_drawn_sum (params := defArgs (top 88)) (body := defBody (top 88)) (scope := defScope (top 88)) (hd := by rfl) (hg := by rfl) S (fun _ _ _ _ _ _ us hl => match us, hl with | [_, _], _ => rfl) (by decide) fun cdv A outer s H E f hr =>
    show PDB _ _ b__law_drawn_sum from pb_cons (ps_setLcD (i := 2) rfl S.nd [("source", 3)] (by rfl) (pi_rng1 (T.free i_range) (pd_var 1)) (by rfl) (fun _ _ _ _ _ => pg_nameD (i := 3) S.nd) (fun _ _ _ _ _ => pts_nilD) (fun _ _ _ _ _ => pd_if (pt_gt (pd_call (f__law_draw T) hr (pda_cons (pd_var 0) (pda_cons pd_int pda_nil))) pd_int) (pd_call (f__law_number T) hr (pda_cons (pd_var 0) pda_nil)) (pd_tup (pda_cons pd_int (pda_cons pd_int pda_nil))))) (pb_one (ps_retD (pd_call (f__law_as_sum T) hr (pda_cons (pd_var 2) (pda_cons (pd_call (f__law_number T) hr (pda_cons (pd_var 0) pda_nil)) pda_nil)))))
theorem s__law_cell : FnScope N__law_cell ["hand", "many"] (defScope (top 89)) := ⟨rfl, rfl, rfl, by decide +kernel, rfl, by decide +kernel, by decide +kernel⟩
theorem f__law_cell (T : TB K mg) : FnAt P w K mg base "_law_cell" 4 ["hand", "many"] m__law_cell :=
  have S := s__law_cell
  PD.fn_of T d__law_cell g__law_cell (params := defArgs (top 89)) (body := defBody (top 89)) (scope := defScope (top 89)) (hd := by rfl) (hg := by rfl) S (fun _ _ _ _ _ _ us hl => match us, hl with | [_, _], _ => rfl) (by decide) fun cdv A outer s H E f hr =>
    show PDB _ _ b__law_cell from pb_cons (ps_setD (i := 2) S.nd (pd_call (f__law_any T) hr (pda_cons (pd_var 0) (pda_cons (pd_lst (pda_cons pd_str (pda_cons pd_str (pda_cons pd_str (pda_cons pd_str (pda_cons pd_str (pda_cons pd_str pda_nil))))))) pda_nil)))) (pb_cons (ps_ifD (pt_eq hr (pd_var 2) pd_str) (pb_one (ps_retD (pd_tup (pda_cons (pd_var 2) (pda_cons (pd_tupleOf (T.free i_tuple) (pd_lc rfl S.nd [("step", 3)] (pi_rng1 (T.free i_range) (pd_add pd_int (pd_call (f__law_draw T) hr (pda_cons (pd_var 0) (pda_cons pd_int pda_nil))))) (by rfl) (fun _ _ _ _ _ => pg_nameD (i := 3) S.nd) (fun _ _ _ _ _ => pts_nilD) (fun _ _ _ _ _ => pd_call (f__law_drawn_sum T) hr (pda_cons (pd_var 0) (pda_cons (pd_var 1) pda_nil))))) pda_nil))))) pb_nil) (pb_one (ps_retD (pd_add (pd_tup (pda_cons (pd_var 2) pda_nil)) (pd_tupleOf (T.free i_tuple) (pd_lc rfl S.nd [("step", 3)] (pi_rng1 (T.free i_range) (pd_if (pt_eq hr (pd_var 2) pd_str) pd_int pd_int)) (by rfl) (fun _ _ _ _ _ => pg_nameD (i := 3) S.nd) (fun _ _ _ _ _ => pts_nilD) (fun _ _ _ _ _ => pd_call (f__law_drawn_sum T) hr (pda_cons (pd_var 0) (pda_cons (pd_var 1) pda_nil)))))))))
theorem s__law_net : FnScope N__law_net ["hand", "m", "most"] (defScope (top 90)) := ⟨rfl, rfl, rfl, by decide +kernel, rfl, by decide +kernel, by decide +kernel⟩
theorem f__law_net (T : TB K mg) : FnAt P w K mg base "_law_net" 5 ["hand", "m", "most"] m__law_net :=
  have S := s__law_net
  PD.fn_of T d__law_net g__law_net (params := defArgs (top 90)) (body := defBody (top 90)) (scope := defScope (top 90)) (hd := by rfl) (hg := by rfl) S (fun _ _ _ _ _ _ us hl => match us, hl with | [_, _, _], _ => rfl) (by decide) fun cdv A outer s H E f hr =>
    show PDB _ _ b__law_net from pb_cons (ps_setD (i := 3) S.nd (pd_lstM pda_nil)) (pb_cons (ps_forD PassesOwn.never rfl (pi_rng1 (T.free i_range) (pd_add pd_int (pd_call (f__law_draw T) hr (pda_cons (pd_var 0) (pda_cons (pd_var 2) pda_nil))))) (pg_nameD (i := 4) S.nd) (pb_one (ps_exprD (pd_append (pd_var 3) (pd_call (f__law_cell T) hr (pda_cons (pd_var 0) (pda_cons (pd_add (pd_var 1) (pd_var 4)) pda_nil))))))) (pb_cons (ps_setLcD (i := 5) rfl S.nd [("step", 4)] (by rfl) (pi_rng1 (T.free i_range) (pd_add pd_int (pd_call (f__law_draw T) hr (pda_cons (pd_var 0) (pda_cons pd_int pda_nil))))) (by rfl) (fun _ _ _ _ _ => pg_nameD (i := 4) S.nd) (fun _ _ _ _ _ => pts_nilD) (fun _ _ _ _ _ => pd_call (f__law_drawn_sum T) hr (pda_cons (pd_var 0) (pda_cons (pd_add (pd_var 1) (pd_len (T.free i_len) (pd_var 3))) pda_nil)))) (pb_one (ps_retD (pd_tup (pda_cons (pd_var 1) (pda_cons (pd_tupleOf (T.free i_tuple) (pd_var 3)) (pda_cons (pd_tupleOf (T.free i_tuple) (pd_var 5)) pda_nil))))))))
theorem s__law_sums : FnScope N__law_sums ["cell"] (defScope (top 91)) := ⟨rfl, rfl, rfl, by decide +kernel, rfl, by decide +kernel, by decide +kernel⟩
theorem f__law_sums (T : TB K mg) : FnAt P w K mg base "_law_sums" 1 ["cell"] m__law_sums :=
  have S := s__law_sums
  PD.fn_of T d__law_sums g__law_sums (params := defArgs (top 91)) (body := defBody (top 91)) (scope := defScope (top 91)) (hd := by rfl) (hg := by rfl) S (fun _ _ _ _ _ _ us hl => match us, hl with | [_], _ => rfl) (by decide) fun cdv A outer s H E f hr =>
    show PDB _ _ b__law_sums from pb_one (ps_retD (pd_if (pt_eq hr (pd_sub_ hr (pd_var 0) pd_int) pd_str) (pd_sub_ hr (pd_var 0) pd_int) (pd_slice (pd_var 0) (po_someD pd_int) po_noneD)))
theorem s__law_below : FnScope N__law_below ["x", "y"] (defScope (top 92)) := ⟨rfl, rfl, rfl, by decide +kernel, rfl, by decide +kernel, by decide +kernel⟩
theorem f__law_below (T : TB K mg) : FnAt P w K mg base "_law_below" 1 ["x", "y"] m__law_below :=
  have S := s__law_below
  PD.fn_of T d__law_below g__law_below (params := defArgs (top 92)) (body := defBody (top 92)) (scope := defScope (top 92)) (hd := by rfl) (hg := by rfl) S (fun _ _ _ _ _ _ us hl => match us, hl with | [_, _], _ => rfl) (by decide) fun cdv A outer s H E f hr =>
    show PDB _ _ b__law_below from pb_one (ps_retD (pd_lt (pd_mul (pd_sub_ hr (pd_var 0) pd_int) (pd_sub_ hr (pd_var 1) pd_int)) (pd_mul (pd_sub_ hr (pd_var 1) pd_int) (pd_sub_ hr (pd_var 0) pd_int))))
theorem s__law_worked : FnScope N__law_worked ["net", "point"] (defScope (top 93)) := ⟨rfl, rfl, rfl, by decide +kernel, rfl, by decide +kernel, by decide +kernel⟩
theorem f__law_worked (T : TB K mg) : FnAt P w K mg base "_law_worked" 4 ["net", "point"] m__law_worked :=
  have S := s__law_worked
  PD.fn_of T d__law_worked g__law_worked (params := defArgs (top 93)) (body := defBody (top 93)) (scope := defScope (top 93)) (hd := by rfl) (hg := by rfl) S (fun _ _ _ _ _ _ us hl => match us, hl with | [_, _], _ => rfl) (by decide) fun cdv A outer s H E f hr =>
    show PDB _ _ b__law_worked from pb_cons (ps_unp2D (i := 3) (j := 4) rfl S.nd (pd_listOfM (T.free i_list) (pd_var 1)) (pd_lstM pda_nil)) (pb_cons (ps_forD PassesOwn.never rfl (pi_d (pd_sub_ hr (pd_var 0) pd_int)) (pg_nameD (i := 2) S.nd) (pb_cons (ps_setLcD (i := 5) rfl S.nd [("one", 10)] (by rfl) (pi_d (pd_call (f__law_sums T) hr (pda_cons (pd_var 2) pda_nil))) (by rfl) (fun _ _ _ _ _ => pg_nameD (i := 10) S.nd) (fun _ _ _ _ _ => pts_nilD) (fun _ _ _ _ _ => pd_call (f__law_worth T) hr (pda_cons (pd_var 10) (pda_cons (pd_var 3) pda_nil)))) (pb_cons (ps_setD (i := 6) S.nd (pd_intOf (T.free i_int) (pd_gt (pd_sub_ hr (pd_sub_ hr (pd_var 5) pd_int) pd_int) pd_int))) (pb_cons (ps_ifD (pt_eq hr (pd_sub_ hr (pd_var 2) pd_int) pd_str) (pb_cons (ps_setD (i := 6) S.nd pd_int) (pb_cons (ps_forD PassesOwn.never rfl (pi_enumD (T.free i_enumerate) (pd_var 5)) (pg_tupD rfl (pgs_consD (pg_nameD (i := 8) S.nd) (pgs_consD (pg_nameD (i := 9) S.nd) pgs_nilD))) (pb_one (ps_setD (i := 6) S.nd (pd_if (pt_e (pd_call (f__law_below T) hr (pda_cons (pd_sub_ hr (pd_var 5) (pd_var 6)) (pda_cons (pd_var 9) pda_nil)))) (pd_var 8) (pd_var 6))))) (pb_one (ps_setD (i := 7) S.nd (pd_sub_ hr (pd_var 5) (pd_var 6)))))) (pb_one (ps_ifD (pt_eq hr (pd_sub_ hr (pd_var 2) pd_int) pd_str) (pb_one (ps_parD (i := 6) (j := 7) rfl S.nd pd_int (pd_sub_ hr (pd_var 5) pd_int))) (pb_one (ps_ifD (pt_eq hr (pd_sub_ hr (pd_var 2) pd_int) pd_str) (pb_one (ps_setD (i := 7) S.nd (pd_if (pt_eq hr (pd_var 6) pd_int) (pd_sub_ hr (pd_var 5) pd_int) (pd_tup (pda_cons pd_int (pda_cons pd_int pda_nil)))))) (pb_one (ps_ifD (pt_eq hr (pd_sub_ hr (pd_var 2) pd_int) pd_str) (pb_one (ps_setD (i := 7) S.nd (pd_tup (pda_cons (pd_var 6) (pda_cons pd_int pda_nil))))) (pb_one (ps_setD (i := 7) S.nd (pd_if (pt_eq hr (pd_var 6) pd_int) (pd_sub_ hr (pd_var 5) pd_int) (pd_sub_ hr (pd_var 5) pd_int))))))))))) (pb_cons (ps_exprD (pd_append (pd_var 3) (pd_var 7))) (pb_one (ps_exprD (pd_append (pd_var 4) (pd_var 6))))))))) (pb_one (ps_retD (pd_tup (pda_cons (pd_tupleOf (T.free i_tuple) (pd_var 4)) (pda_cons (pd_tupleOf (T.free i_tuple) (pd_lc rfl S.nd [("one", 10)] (pi_d (pd_sub_ hr (pd_var 0) pd_int)) (by rfl) (fun _ _ _ _ _ => pg_nameD (i := 10) S.nd) (fun _ _ _ _ _ => pts_nilD) (fun _ _ _ _ _ => pd_call (f__law_worth T) hr (pda_cons (pd_var 10) (pda_cons (pd_var 3) pda_nil))))) pda_nil))))))
theorem s__law_box : FnScope N__law_box ["hand", "m"] (defScope (top 94)) := ⟨rfl, rfl, rfl, by decide +kernel, rfl, by decide +kernel, by decide +kernel⟩
theorem f__law_box (T : TB K mg) : FnAt P w K mg base "_law_box" 3 ["hand", "m"] m__law_box :=
  have S := s__law_box
  PD.fn_of T d__law_box g__law_box (params := defArgs (top 94)) (body := defBody (top 94)) (scope := defScope (top 94)) (hd := by rfl) (hg := by rfl) S (fun _ _ _ _ _ _ us hl => match us, hl with | [_, _], _ => rfl) (by decide) fun cdv A outer s H E f hr =>
    show PDB _ _ b__law_box from pb_cons (ps_setD (i := 2) S.nd (pd_lstM pda_nil)) (pb_cons (ps_forD PassesOwn.never rfl (pi_rng1 (T.free i_range) (pd_var 1)) (pg_nameD (i := 3) S.nd) (pb_cons (ps_setD (i := 4) S.nd (pd_call (f__law_made T) hr (pda_cons (pd_sub (pd_call (f__law_draw T) hr (pda_cons (pd_var 0) (pda_cons pd_int pda_nil))) pd_int) (pda_cons (pd_add pd_int (pd_call (f__law_draw T) hr (pda_cons (pd_var 0) (pda_cons pd_int pda_nil)))) pda_nil)))) (pb_one (ps_exprD (pd_append (pd_var 2) (pd_tup (pda_cons (pd_var 4) (pda_cons (pd_call (f__law_plus T) hr (pda_cons (pd_var 4) (pda_cons (pd_call (f__law_made T) hr (pda_cons (pd_call (f__law_draw T) hr (pda_cons (pd_var 0) (pda_cons pd_int pda_nil))) (pda_cons (pd_add pd_int (pd_call (f__law_draw T) hr (pda_cons (pd_var 0) (pda_cons pd_int pda_nil)))) pda_nil))) pda_nil))) pda_nil)))))))) (pb_one (ps_retD (pd_tupleOf (T.free i_tuple) (pd_var 2)))))
theorem s__law_claim : FnScope N__law_claim ["hand", "outs"] (defScope (top 95)) := ⟨rfl, rfl, rfl, by decide +kernel, rfl, by decide +kernel, by decide +kernel⟩
theorem f__law_claim (T : TB K mg) : FnAt P w K mg base "_law_claim" 4 ["hand", "outs"] m__law_claim :=
  have S := s__law_claim
  PD.fn_of T d__law_claim g__law_claim (params := defArgs (top 95)) (body := defBody (top 95)) (scope := defScope (top 95)) (hd := by rfl) (hg := by rfl) S (fun _ _ _ _ _ _ us hl => match us, hl with | [_, _], _ => rfl) (by decide) fun cdv A outer s H E f hr =>
    show PDB _ _ b__law_claim from pb_one (ps_retD (pd_tup (pda_cons (pd_call (f__law_drawn_sum T) hr (pda_cons (pd_var 0) (pda_cons (pd_var 1) pda_nil))) (pda_cons (pd_call (f__law_any T) hr (pda_cons (pd_var 0) (pda_cons (pd_lst (pda_cons pd_str (pda_cons pd_str pda_nil))) pda_nil))) pda_nil))))
theorem s__law_fails : FnScope N__law_fails ["net", "point", "claim"] (defScope (top 96)) := ⟨rfl, rfl, rfl, by decide +kernel, rfl, by decide +kernel, by decide +kernel⟩
theorem f__law_fails (T : TB K mg) : FnAt P w K mg base "_law_fails" 5 ["net", "point", "claim"] m__law_fails :=
  have S := s__law_fails
  PD.fn_of T d__law_fails g__law_fails (params := defArgs (top 96)) (body := defBody (top 96)) (scope := defScope (top 96)) (hd := by rfl) (hg := by rfl) S (fun _ _ _ _ _ _ us hl => match us, hl with | [_, _, _], _ => rfl) (by decide) fun cdv A outer s H E f hr =>
    show PDB _ _ b__law_fails from pb_cons (ps_setD (i := 3) S.nd (pd_sub_ hr (pd_call (f__law_worth T) hr (pda_cons (pd_sub_ hr (pd_var 2) pd_int) (pda_cons (pd_sub_ hr (pd_call (f__law_worked T) hr (pda_cons (pd_var 0) (pda_cons (pd_var 1) pda_nil))) pd_int) pda_nil))) pd_int)) (pb_one (ps_retD (pd_or (pd_lt (pd_var 3) pd_int) (pd_one (pd_and (pd_eq hr (pd_var 3) pd_int) (pd_one (pd_eq hr (pd_sub_ hr (pd_var 2) pd_int) pd_str)))))))
theorem s__law_wholes : FnScope N__law_wholes ["box"] (defScope (top 97)) := ⟨rfl, rfl, rfl, by decide +kernel, rfl, by decide +kernel, by decide +kernel⟩
theorem f__law_wholes (T : TB K mg) : FnAt P w K mg base "_law_wholes" 1 ["box"] m__law_wholes :=
  have S := s__law_wholes
  PD.fn_of T d__law_wholes g__law_wholes (params := defArgs (top 97)) (body := defBody (top 97)) (scope := defScope (top 97)) (hd := by rfl) (hg := by rfl) S (fun _ _ _ _ _ _ us hl => match us, hl with | [_], _ => rfl) (by decide) fun cdv A outer s H E f hr =>
    show PDB _ _ b__law_wholes from pb_cons (ps_setD (i := 1) S.nd (pd_lst (pda_cons (pd_tup pda_nil) pda_nil))) (pb_cons (ps_forD PassesOwn.never rfl (pi_d (pd_var 0)) (pg_tupD rfl (pgs_consD (pg_nameD (i := 2) S.nd) (pgs_consD (pg_nameD (i := 3) S.nd) pgs_nilD))) (pb_cons (ps_setD (i := 4) S.nd (pd_listRg2 rfl (T.free i_list) (T.free i_range) (pd_sub pd_int (pd_div (pd_sub pd_int (pd_sub_ hr (pd_var 2) pd_int)) (pd_sub_ hr (pd_var 2) pd_int))) (pd_add (pd_div (pd_sub_ hr (pd_var 3) pd_int) (pd_sub_ hr (pd_var 3) pd_int)) pd_int))) (pb_cons (ps_setD (i := 5) S.nd (pd_lst pda_nil)) (pb_cons (ps_forD PassesOwn.never rfl (pi_d (pd_var 1)) (pg_nameD (i := 6) S.nd) (pb_one (ps_setD (i := 5) S.nd (pd_add (pd_var 5) (pd_lc rfl S.nd [("one", 7)] (pi_d (pd_var 4)) (by rfl) (fun _ _ _ _ _ => pg_nameD (i := 7) S.nd) (fun _ _ _ _ _ => pts_nilD) (fun _ _ _ _ _ => pd_add (pd_var 6) (pd_tup (pda_cons (pd_tup (pda_cons (pd_var 7) (pda_cons pd_int pda_nil))) pda_nil)))))))) (pb_one (ps_setD (i := 1) S.nd (pd_var 5))))))) (pb_one (ps_retD (pd_var 1))))
theorem s__law_tally : FnScope N__law_tally ["some"] (defScope (top 98)) := ⟨rfl, rfl, rfl, by decide +kernel, rfl, by decide +kernel, by decide +kernel⟩
theorem f__law_tally (T : TB K mg) : FnAt P w K mg base "_law_tally" 1 ["some"] m__law_tally :=
  have S := s__law_tally
  PD.fn_of T d__law_tally g__law_tally (params := defArgs (top 98)) (body := defBody (top 98)) (scope := defScope (top 98)) (hd := by rfl) (hg := by rfl) S (fun _ _ _ _ _ _ us hl => match us, hl with | [_], _ => rfl) (by decide) fun cdv A outer s H E f hr =>
    show PDB _ _ b__law_tally from pb_cons (ps_setD (i := 1) S.nd pd_newN) (pb_cons (ps_forD PassesOwn.never rfl (pi_d (pd_sorted hr (T.free i_sorted) (pd_var 0))) (pg_nameD (i := 2) S.nd) (pb_one (ps_putD hr (pd_add (pd_get2 hr (pd_var 1) (pd_var 2) pd_int) pd_int) (pd_var 1) (pd_var 2)))) (pb_one (ps_retD (pd_var 1))))
theorem s__law_is_dict : FnScope N__law_is_dict ["thing", "due"] (defScope (top 99)) := ⟨rfl, rfl, rfl, by decide +kernel, rfl, by decide +kernel, by decide +kernel⟩
theorem f__law_is_dict (T : TB K mg) : FnAt P w K mg base "_law_is_dict" 1 ["thing", "due"] m__law_is_dict :=
  have S := s__law_is_dict
  PD.fn_of T d__law_is_dict g__law_is_dict (params := defArgs (top 99)) (body := defBody (top 99)) (scope := defScope (top 99)) (hd := by rfl) (hg := by rfl) S (fun _ _ _ _ _ _ us hl => match us, hl with | [_, _], _ => rfl) (by decide) fun cdv A outer s H E f hr =>
    show PDB _ _ b__law_is_dict from pb_one (ps_retD (pd_and (pd_isiD "dict" (hi := (T.free i_isinstance)) (hm := (T.free i_dict)) (ha := pd_var 0)) (pd_one (pd_eq hr (pd_items rfl (pd_var 0) (T.free i_list)) (pd_items rfl (pd_var 1) (T.free i_list))))))
theorem s_law : FnScope N_law ["script"] (defScope (top 100)) := ⟨rfl, rfl, rfl, by decide +kernel, rfl, by decide +kernel, by decide +kernel⟩
theorem f_law (T : TB K mg) : FnAt P w K mg base "law" 12 ["script"] m_law :=
  have S := s_law
  PD.fn_of T d_law g_law (params := defArgs (top 100)) (body := defBody (top 100)) (scope := defScope (top 100)) (hd := by rfl) (hg := by rfl) S (fun _ _ _ _ _ _ us hl => match us, hl with | [_], _ => rfl) (by decide) fun cdv A outer s H E f hr =>
    show PDB _ _ b_law from pb_cons (ps_setD (i := 1) S.nd (pd_call (f__law_hand T) hr (pda_cons (pd_var 0) pda_nil))) (pb_cons (ps_forD PassesOwn.never rfl (pi_rng1 (T.free i_range) pd_int) (pg_nameD (i := 2) S.nd) (pb_cons (ps_setD (i := 3) S.nd (pd_add pd_int (pd_call (f__law_draw T) hr (pda_cons (pd_var 1) (pda_cons pd_int pda_nil))))) (pb_cons (ps_setD (i := 4) S.nd (pd_call (f__law_net T) hr (pda_cons (pd_var 1) (pda_cons (pd_var 3) (pda_cons pd_int pda_nil))))) (pb_cons (ps_setD (i := 5) S.nd (pd_if (pt_lt (pd_var 3) pd_int) (pd_call (f__law_box T) hr (pda_cons (pd_var 1) (pda_cons (pd_var 3) pda_nil))) (pd_add (pd_call (f__law_box T) hr (pda_cons (pd_var 1) (pda_cons pd_int pda_nil))) (pd_tup (pda_cons (pd_tup (pda_cons (pd_tup (pda_cons pd_int (pda_cons pd_int pda_nil))) (pda_cons (pd_tup (pda_cons pd_int (pda_cons pd_int pda_nil))) pda_nil))) pda_nil))))) (pb_cons (ps_unp2D (i := 8) (j := 9) rfl S.nd (pd_call (f__law_claim T) hr (pda_cons (pd_var 1) (pda_cons (pd_len (T.free i_len) (pd_sub_ hr (pd_var 4) pd_int)) pda_nil))) (pd_call (f__law_wholes T) hr (pda_cons (pd_var 5) pda_nil))) (pb_cons (ps_ifD (PW.pt (pw_orD (pt_ne hr (pd_call (f_whole_many T) hr (pda_cons (pd_var 5) pda_nil)) (pd_len (T.free i_len) (pd_var 9))) (pw_or1D (pt_ne hr (pd_call (f_whole_points T) hr (pda_cons (pd_var 5) pda_nil)) (pd_tupleOf (T.free i_tuple) (pd_var 9)))))) (pb_one (ps_retD pd_bl)) pb_nil) (pb_cons (ps_setLcD (i := 6) rfl S.nd [("point", 13)] (by rfl) (pi_d (pd_var 9)) (by rfl) (fun _ _ _ _ _ => pg_nameD (i := 13) S.nd) (fun _ _ _ _ _ => pts_oneD (pt_e (pd_call (f__law_fails T) hr (pda_cons (pd_var 4) (pda_cons (pd_var 13) (pda_cons (pd_var 8) pda_nil)))))) (fun _ _ _ _ _ => pd_var 13)) (pb_cons (ps_ifD (pt_ne hr (pd_call (f_holding_many T) hr (pda_cons (pd_var 4) (pda_cons (pd_var 5) (pda_cons (pd_var 8) pda_nil)))) (pd_sub (pd_len (T.free i_len) (pd_var 9)) (pd_len (T.free i_len) (pd_var 6)))) (pb_one (ps_retD pd_bl)) pb_nil) (pb_cons (ps_ifD (pt_ne hr (pd_call (f_first_failing T) hr (pda_cons (pd_var 4) (pda_cons (pd_var 5) (pda_cons (pd_var 8) pda_nil)))) (pd_if (pt_ne hr (pd_var 6) (pd_lst pda_nil)) (pd_sub_ hr (pd_var 6) pd_int) pd_non)) (pb_one (ps_retD pd_bl)) pb_nil) (pb_cons (ps_ifD (pt_notD (pt_e (pd_call (f__law_is_dict T) hr (pda_cons (pd_call (f_failing_by T) hr (pda_cons (pd_var 4) (pda_cons (pd_var 5) (pda_cons (pd_var 8) pda_nil)))) (pda_cons (pd_call (f__law_tally T) hr (pda_cons (pd_lc rfl S.nd [("point", 13)] (pi_d (pd_var 6)) (by rfl) (fun _ _ _ _ _ => pg_nameD (i := 13) S.nd) (fun _ _ _ _ _ => pts_nilD) (fun _ _ _ _ _ => pd_sub_ hr (pd_call (f__law_worked T) hr (pda_cons (pd_var 4) (pda_cons (pd_var 13) pda_nil))) pd_int)) pda_nil)) pda_nil))))) (pb_one (ps_retD pd_bl)) pb_nil) (pb_cons (ps_ifD (pt_notD (pt_e (pd_call (f__law_is_dict T) hr (pda_cons (pd_call (f_whole_signs T) hr (pda_cons (pd_var 4) (pda_cons (pd_var 5) pda_nil))) (pda_cons (pd_call (f__law_tally T) hr (pda_cons (pd_lc rfl S.nd [("point", 13)] (pi_d (pd_var 9)) (by rfl) (fun _ _ _ _ _ => pg_nameD (i := 13) S.nd) (fun _ _ _ _ _ => pts_nilD) (fun _ _ _ _ _ => pd_sub_ hr (pd_call (f__law_worked T) hr (pda_cons (pd_var 4) (pda_cons (pd_var 13) pda_nil))) pd_int)) pda_nil)) pda_nil))))) (pb_one (ps_retD pd_bl)) pb_nil) (pb_cons (ps_unp3D (i := 10) (j := 11) (l := 12) rfl S.nd (pd_call (f__law_draw T) hr (pda_cons (pd_var 1) (pda_cons (pd_var 3) pda_nil))) pd_newK (pd_dictN hr rfl (T.free i_dict) (pd_lc rfl S.nd [("point", 13)] (pi_d (pd_var 6)) (by rfl) (fun _ _ _ _ _ => pg_nameD (i := 13) S.nd) (fun _ _ _ _ _ => pts_nilD) (fun _ _ _ _ _ => pd_tup (pda_cons (pd_var 13) (pda_cons pd_bl pda_nil)))))) (pb_cons (ps_forD PassesOwn.never rfl (pi_d (pd_call (f__law_wholes T) hr (pda_cons (pd_tup (pda_cons (pd_sub_ hr (pd_var 5) (pd_var 10)) pda_nil)) pda_nil))) (pg_nameD (i := 7) S.nd) (pb_one (ps_putD hr (pd_len (T.free i_len) (pd_lc rfl S.nd [("point", 13)] (pi_d (pd_var 9)) (by rfl) (fun _ _ _ _ _ => pg_nameD (i := 13) S.nd) (fun _ _ _ _ _ => pts_oneD (PW.pt (pw_andD (pt_eq hr (pd_sub_ hr (pd_var 13) (pd_var 10)) (pd_sub_ hr (pd_var 7) pd_int)) (pw_and1D (pt_notinD hr (pd_var 13) (pd_var 12)))))) (fun _ _ _ _ _ => pd_int))) (pd_var 11) (pd_sub_ hr (pd_sub_ hr (pd_var 7) pd_int) pd_int)))) (pb_one (ps_ifD (pt_notD (pt_e (pd_call (f__law_is_dict T) hr (pda_cons (pd_call (f_line_counts T) hr (pda_cons (pd_var 4) (pda_cons (pd_var 5) (pda_cons (pd_var 8) (pda_cons (pd_var 10) pda_nil))))) (pda_cons (pd_var 11) pda_nil))))) (pb_one (ps_retD pd_bl)) pb_nil))))))))))))))) (pb_one (ps_retD pd_bl)))
end
end W

set_option Elab.async false
set_option linter.all false
set_option maxRecDepth 100000
set_option maxHeartbeats 0
/-! the head (printed by head.py) -/
namespace W
open PySem PySem.Spec PyProof.Rows L2 PD
def nm0 : List PySem.Str := ["SumError", "NoBox", "NoClaim", "NoInput", "NoNet", "TooMany", "NOUGHT", "ONE", "is_integer", "is_within", "is_tuple_of", "common", "is_fraction", "made", "raw_plus", "raw_times"]
def nm1 : List PySem.Str := ["raw_at_most", "raw_below", "raw_greater", "raw_cut", "is_pair_of", "raw_is_sum", "raw_worth", "ABOVE", "LEAST", "MOST_INPUTS", "MOST_CELLS", "MOST_OUTS", "LEAST_MOST", "MOST_MOST", "PLAIN", "CUT"]
def nm2 : List PySem.Str := ["STEP", "MOST", "SWITCH", "WORDS", "raw_is_cell", "is_net", "check_net", "raw_cell_sums", "is_span", "raw_is_box", "check_box", "raw_cell_value", "value_by", "raw_sources_at", "raw_run", "sign_by"]
def nm3 : List PySem.Str := ["all_parts", "raw_signs", "raw_is_claim", "check_claim", "raw_holds", "MOST_WHOLE", "check_lone_box", "whole_ends", "raw_whole_many", "whole_many", "check_few", "raw_whole_points", "whole_points", "check_net_box", "check_all", "holding_many"]
def nm4 : List PySem.Str := ["raw_failing", "first_failing", "counted", "failing_by", "whole_signs", "line_counts", "_law_hand", "_law_draw", "_law_any", "_law_made", "_law_plus", "_law_times", "_law_worth", "_law_number", "_law_as_sum", "_law_drawn_sum"]
def nm5 : List PySem.Str := ["_law_cell", "_law_net", "_law_sums", "_law_below", "_law_worked", "_law_box", "_law_claim", "_law_fails", "_law_wholes", "_law_tally", "_law_is_dict"]
def names : List PySem.Str := nm0 ++ nm1 ++ nm2 ++ nm3 ++ nm4 ++ nm5
abbrev R : PySem.W.OpenRow := PySem.W.OpenLaw.row PySem.Challenge.rw_cutsumsways_k77_whole_points_counted
def ex (K : PySem.W.Frag) : Bool := consD K cs
abbrev hk : PySem.W.Hook := He.hookX 4 fa fn [] [] ex
def ob (s : PySem.W.SharedT) : He.AlX := He.obsX 4 fa fn [] [] ex (HandSHeadRun.getT s)
theorem ob_eq (s : PySem.W.SharedT) : ob s = hk.obs s.abs := He.obsX_eq (HandSHeadRun.getT_eq s)
theorem run (w : World) : HandSHeadRun.RunEq R (PySem.W.view R.prog [100]) hk ob 4000 names w := by
  intro os
  kernel_rfl
end W

set_option Elab.async false
set_option linter.all false
set_option maxRecDepth 100000
set_option maxHeartbeats 0
/-! the law from its plain law (printed by head.py) -/
open PySem PySem.W PySem.Calls PyProof.Rows
theorem W.holds_of (plain : ∀ ns : List Int, ns.length ≤ 63 → ∃ st', W.m_law [PD.script ns] [] = some (.d (.bool true), st')) : PySem.Challenge.rw_cutsumsways_k77_whole_points_counted.Holds := by
  w_on; o_law
  refine HandSHeadRun.head_any (r := OpenLaw.row PySem.Challenge.rw_cutsumsways_k77_whole_points_counted) (q := view (OpenLaw.row PySem.Challenge.rw_cutsumsways_k77_whole_points_counted).prog [100]) (H := W.hk) (ob := W.ob) (M := 4000) (loose := W.names) (d := HandSHeadRun.topDef (OpenLaw.row PySem.Challenge.rw_cutsumsways_k77_whole_points_counted).prog 100) (kwd := []) W.ob_eq
    (by kernel_rfl) (fun s => by kernel_rfl) W.run (by kernel_rfl) (by kernel_rfl) (by kernel_rfl) (by rfl) (by first | assumption | decide +kernel) (by decide +kernel) ⟨rfl, rfl, rfl, rfl, rfl, by decide +kernel⟩ ?hw ?hc
  case hw => w_witness2
  case hc =>
    refine L2.walk_ofE (l := PySem.Challenge.rw_cutsumsways_k77_whole_points_counted) (n := 63) (k := 12) (x := "script") (CX := L2.CX0) rfl (by decide) (by kernel_rfl) ⟨rfl, by decide, by decide⟩ ?F (fun _ _ _ _ z => z)
    intro w mg f h Y G hmg0
    obtain ⟨K, KX, c⟩ := Y
    have hmg : mg ("law" : PySem.Str) = some (.ref f) := by
      have e : (HandSHeadRun.topDef (OpenLaw.row PySem.Challenge.rw_cutsumsways_k77_whole_points_counted).prog 100).name = ("law" : PySem.Str) := by kernel_rfl
      rw [← e]
      exact hmg0
    have T : W.TB K mg := ⟨c.t.d, c.more, h, KX, G⟩
    exact PD.law_end (params := L2.defArgs (W.top 100)) (body := L2.defBody (W.top 100)) (scope := L2.defScope (W.top 100)) W.d_law W.g_law KX G T (by rfl) (by rfl) (fun _ _ _ _ _ _ us hl => match us, hl with | [_], _ => rfl) (fun base => W.f_law T) plain f hmg

set_option Elab.async false
set_option linter.all false
set_option maxRecDepth 100000
set_option maxHeartbeats 4000000
/-! QA: how meanings are worked out: stores, calls, loops -/
namespace Q
open PySem PySem.Spec PyProof.Rows L2 PD

/-! ### stores without instances -/
def plO : Option MO → Bool
  | some (.ins _ _) => false
  | _ => true
def Pl (st : Store) : Prop := ∀ o ∈ st, plO o = true
theorem closed_of {o : Option MO} (k : Nat) (h : plO o = true) : closedMO k o = true := by
  cases o with
  | none => rfl
  | some mo => cases mo <;> first | rfl | cases h
theorem Pl.take {st : Store} (h : Pl st) (k : Nat) : (st.take k).all (closedMO k) = true := by
  rw [List.all_eq_true]
  exact fun o ho => closed_of k (h o (List.mem_of_mem_take ho))
theorem Pl.app {st more : Store} (h : Pl st) (h' : Pl more) : Pl (st ++ more) := fun o ho => (List.mem_append.mp ho).elim (h o) (h' o)
theorem Pl.left {st more : Store} (h : Pl (st ++ more)) : Pl st := fun o ho => h o (List.mem_append_left _ ho)
theorem Pl.set {st : Store} (h : Pl st) {n : Nat} {o : Option MO} (ho : plO o = true) : Pl (st.set n o) := fun x hx => by
  rcases List.mem_or_eq_of_mem_set hx with z | z
  · exact h x z
  · rw [z]; exact ho
theorem Pl.nil : Pl [] := fun _ h => by simp at h
theorem Pl.one {o : Option MO} (h : plO o = true) : Pl [o] := fun x hx => by
  have : x = o := by simpa using hx
  rw [this]; exact h
theorem cut_take {st : Store} (k : Nat) (h : Pl st) : cutSt k st = st.take k := by unfold cutSt; rw [if_pos (h.take k)]
theorem cut_app {st more : Store} (h : Pl (st ++ more)) : cutSt st.length (st ++ more) = st := by rw [cut_take _ h, List.take_left']; rfl
theorem cut_self {st : Store} (h : Pl st) : cutSt st.length st = st := by rw [cut_take _ h, List.take_length]

/-! ### calls -/
theorem run_d {n N : Nat} {body : SM} {ds : List DV} {st more : Store} {x : PyData} (h : body (ds.map some ++ List.replicate (N - n) none) st = some (.ret (.d x) (st ++ more))) (hl : ds.length = n) (hp : Pl (st ++ more)) : runFn n N body ds st = some (.d x, st) := by
  unfold runFn
  rw [if_pos (decide_eq_true hl), h]
  show some (leave st.length (.d x) (st ++ more)) = _
  unfold leave
  rw [cut_app hp]
theorem run_d0 {n N : Nat} {body : SM} {ds : List DV} {st : Store} {x : PyData} (h : body (ds.map some ++ List.replicate (N - n) none) st = some (.ret (.d x) st)) (hl : ds.length = n) (hp : Pl st) : runFn n N body ds st = some (.d x, st) := by
  have := run_d (more := []) (by simpa using h) hl (by simpa using hp)
  exact this
/-- a def that ends without a return -/
theorem run_nx {n N : Nat} {body : SM} {ds : List DV} {st more : Store} {s' : SE} (h : body (ds.map some ++ List.replicate (N - n) none) st = some (.nx s' (st ++ more))) (hl : ds.length = n) (hp : Pl (st ++ more)) : runFn n N body ds st = some (.d .none, st) := by
  unfold runFn
  rw [if_pos (decide_eq_true hl), h]
  show some (DV.d .none, cutSt st.length (st ++ more)) = _
  rw [cut_app hp]
theorem run_nx0 {n N : Nat} {body : SM} {ds : List DV} {st : Store} {s' : SE} (h : body (ds.map some ++ List.replicate (N - n) none) st = some (.nx s' st)) (hl : ds.length = n) (hp : Pl st) : runFn n N body ds st = some (.d .none, st) :=
  run_nx (more := []) (by simpa using h) hl (by simpa using hp)
/-- a store of that length, changed in its own part -/
theorem run_dS {n N : Nat} {body : SM} {ds : List DV} {st st2 more : Store} {x : PyData} (h : body (ds.map some ++ List.replicate (N - n) none) st = some (.ret (.d x) (st2 ++ more))) (hl : ds.length = n) (hs : st2.length = st.length) (hp : Pl (st2 ++ more)) : runFn n N body ds st = some (.d x, st2) := by
  unfold runFn
  rw [if_pos (decide_eq_true hl), h]
  show some (leave st.length (.d x) (st2 ++ more)) = _
  unfold leave
  rw [← hs, cut_app hp]

/-! ### loops -/
theorem forL_run {gm : GM} {b : SM} {g : Store → Bool} (Inv : Nat → SE → Store → Prop) : ∀ (ds : List PyData) (k : Nat) (s : SE) (st : Store), Inv k s st →
    (∀ (i : Nat) (d : PyData) (s : SE) (st : Store), ds[i]? = some d → Inv (k + i) s st → g st = true ∧ ∃ s1, gm (.d d) s = some s1 ∧ ∃ s2 st2, (b s1 st = some (.nx s2 st2) ∨ b s1 st = some (.ct s2 st2)) ∧ Inv (k + i + 1) s2 st2) →
    (∀ s st, Inv (k + ds.length) s st → g st = true) → ∃ s' st', forL gm b g ds s st = some (.nx s' st') ∧ Inv (k + ds.length) s' st'
  | [], k, s, st, h0, _, he => ⟨s, st, by simp [forL, he s st h0], h0⟩
  | d :: ds, k, s, st, h0, hs, he => by
    obtain ⟨hg, s1, e1, s2, st2, e2, h2⟩ := hs 0 d s st rfl h0
    obtain ⟨s', st', e3, h3⟩ := forL_run Inv ds (k + 1) s2 st2 h2 (fun i d' s st hd hi => by
      have := hs (i + 1) d' s st (by simpa using hd) (by rw [show k + (i + 1) = k + 1 + i by omega]; exact hi)
      rw [show k + (i + 1) = k + 1 + i by omega] at this
      exact this) (fun s st hi => he s st (by rw [show k + (d :: ds).length = k + 1 + ds.length by simp; omega]; exact hi))
    refine ⟨s', st', ?_, by rw [show k + (d :: ds).length = k + 1 + ds.length by simp; omega]; exact h3⟩
    simp only [forL, hg, if_true, e1]
    rcases e2 with e2 | e2 <;> rw [e2] <;> exact e3
/-- a comprehension that changes nothing -/
theorem lcL_map {gm : GM} {e : EM} {g : Store → Bool} {s : SE} {st : Store} (f : PyData → PyData) (hg : g st = true) : ∀ ds : List PyData, (∀ d ∈ ds, ∃ s1, gm (.d d) s = some s1 ∧ e s1 st = some (.d (f d), st)) → lcL gm mYes e g ds s st = some (ds.map f, st)
  | [], _ => by simp [lcL, hg]
  | d :: ds, h => by
    obtain ⟨s1, e1, e2⟩ := h d List.mem_cons_self
    have ih := lcL_map f hg ds fun d' hd' => h d' (List.mem_cons_of_mem _ hd')
    simp only [lcL, hg, if_true, e1, mYes, e2, ih, List.map_cons]
theorem lcL_filter {gm : GM} {t : TM} {e : EM} {g : Store → Bool} {s : SE} {st : Store} (p : PyData → Bool) (f : PyData → PyData) (hg : g st = true) : ∀ ds : List PyData, (∀ d ∈ ds, ∃ s1, gm (.d d) s = some s1 ∧ t s1 st = some (p d, st) ∧ (p d = true → e s1 st = some (.d (f d), st))) → lcL gm t e g ds s st = some ((ds.filter p).map f, st)
  | [], _ => by simp [lcL, hg]
  | d :: ds, h => by
    obtain ⟨s1, e1, e2, e3⟩ := h d List.mem_cons_self
    have ih := lcL_filter p f hg ds fun d' hd' => h d' (List.mem_cons_of_mem _ hd')
    cases hp : p d with
    | true => simp only [lcL, hg, if_true, e1, e2, hp, e3 hp, ih, List.filter_cons, List.map_cons]
    | false =>
      rw [hp] at e2
      simp only [lcL, hg, if_true, e1, e2, ih, List.filter_cons, hp]
      simp
/-- a comprehension whose items change the store: each is of some kind -/
theorem lcL_ex {gm : GM} {e : EM} {g : Store → Bool} {s : SE} (Inv : Store → Prop) (P : Nat → PyData → Prop) : ∀ (ds : List PyData) (k : Nat) (st : Store), Inv st → (∀ st, Inv st → g st = true) →
    (∀ (i : Nat) (d : PyData) (st : Store), ds[i]? = some d → Inv st → ∃ s1, gm (.d d) s = some s1 ∧ ∃ x st2, e s1 st = some (.d x, st2) ∧ Inv st2 ∧ P (k + i) x) →
    ∃ xs st', lcL gm mYes e g ds s st = some (xs, st') ∧ Inv st' ∧ xs.length = ds.length ∧ ∀ (i : Nat) (x : PyData), xs[i]? = some x → P (k + i) x
  | [], k, st, h0, hg, _ => ⟨[], st, by simp [lcL, hg st h0], h0, rfl, fun i x e => by simp at e⟩
  | d :: ds, k, st, h0, hg, h => by
    obtain ⟨s1, e1, x, st2, e2, h2, px⟩ := h 0 d st rfl h0
    obtain ⟨xs, st', e3, h3, hl, hx⟩ := lcL_ex Inv P ds (k + 1) st2 h2 hg (fun i d' st hd hi => by
      have := h (i + 1) d' st (by simpa using hd) hi
      rw [show k + (i + 1) = k + 1 + i by omega] at this
      exact this)
    refine ⟨x :: xs, st', ?_, h3, by simp [hl], fun i y hy => ?_⟩
    · simp only [lcL, hg st h0, if_true, e1, mYes, e2, e3]
    · cases i with
      | zero => simp at hy; subst hy; exact px
      | succ i =>
        have := hx i y (by simpa using hy)
        rw [show k + (i + 1) = k + 1 + i by omega]
        exact this

/-! ### shapes -/
def Good (k : Nat) (x : PyData) : Prop := x.canLay0 = true ∧ x.depth ≤ k
theorem Good.shaped {k : Nat} {x : PyData} (h : Good k x) (hk : k ≤ 64 := by decide) : SeqAt.shaped x = true := by
  unfold SeqAt.shaped
  rw [h.1, decide_eq_true (Nat.le_trans h.2 hk)]
  rfl
theorem Good.mono {j k : Nat} {x : PyData} (h : Good j x) (hk : j ≤ k := by decide) : Good k x := ⟨h.1, Nat.le_trans h.2 hk⟩
theorem canLayAll_of {xs : List PyData} (h : ∀ x ∈ xs, x.canLay0 = true) : PyData.canLayAll0 xs = true := by
  induction xs with
  | nil => rfl
  | cons x xs ih =>
    rw [PyData.canLayAll0, h x List.mem_cons_self, ih fun y hy => h y (List.mem_cons_of_mem _ hy)]
    rfl
theorem depthAll_of {xs : List PyData} {k : Nat} (h : ∀ x ∈ xs, x.depth ≤ k) : PyData.depthAll xs ≤ k := by
  induction xs with
  | nil => exact Nat.zero_le _
  | cons x xs ih =>
    rw [PyData.depthAll]
    exact Nat.max_le.mpr ⟨h x List.mem_cons_self, ih fun y hy => h y (List.mem_cons_of_mem _ hy)⟩
theorem Good.tuple {k : Nat} {xs : List PyData} (h : ∀ x ∈ xs, Good k x) : Good (k + 1) (.tuple xs) := by
  refine ⟨by rw [PyData.canLay0]; exact canLayAll_of fun x hx => (h x hx).1, ?_⟩
  rw [PyData.depth]
  exact Nat.succ_le_succ (depthAll_of fun x hx => (h x hx).2)
theorem Good.list {k : Nat} {xs : List PyData} (h : ∀ x ∈ xs, Good k x) : Good (k + 1) (.list xs) := by
  refine ⟨by rw [PyData.canLay0]; exact canLayAll_of fun x hx => (h x hx).1, ?_⟩
  rw [PyData.depth]
  exact Nat.succ_le_succ (depthAll_of fun x hx => (h x hx).2)
theorem Good.int (i : Int) (k : Nat) : Good k (.int i) := ⟨rfl, by rw [PyData.depth]; exact Nat.zero_le _⟩
theorem Good.bool (b : Bool) (k : Nat) : Good k (.bool b) := ⟨rfl, by rw [PyData.depth]; exact Nat.zero_le _⟩
theorem Good.none (k : Nat) : Good k .none := ⟨rfl, by rw [PyData.depth]; exact Nat.zero_le _⟩
theorem Good.str {z : Str} (h : PyData.strOk z = true) (k : Nat) : Good k (.str z) := ⟨h, by rw [PyData.depth]; exact Nat.zero_le _⟩
theorem eq_good {x y : DV} {st : Store} {a b : PyData} {k j : Nat} (hx : view st x = some a) (hy : view st y = some b) (ha : Good k a) (hb : Good j b) (hk : k ≤ 64 := by decide) (hj : j ≤ 64 := by decide) : fEq x y st = rb (PyData.eqv a b) st := by
  show fEqB false x y st = _
  unfold fEqB
  rw [hx, hy]
  simp [ha.shaped hk, hb.shaped hj]
theorem ne_good {x y : DV} {st : Store} {a b : PyData} {k j : Nat} (hx : view st x = some a) (hy : view st y = some b) (ha : Good k a) (hb : Good j b) (hk : k ≤ 64 := by decide) (hj : j ≤ 64 := by decide) : fNe x y st = rb (!PyData.eqv a b) st := by
  show fEqB true x y st = _
  unfold fEqB
  rw [hx, hy]
  simp [ha.shaped hk, hb.shaped hj]
theorem beq_dec {i j : Int} : (i == j) = decide (i = j) := by by_cases h : i = j <;> simp [h]
@[simp] theorem eq_int {i j : Int} {st : Store} : fEqB false (.d (.int i)) (.d (.int j)) st = some (.d (.bool (decide (i = j))), st) := (eq_good (a := .int i) (b := .int j) rfl rfl (Good.int i 0) (Good.int j 0)).trans (by simp [rb, PyData.eqv, beq_dec])
@[simp] theorem ne_int {i j : Int} {st : Store} : fEqB true (.d (.int i)) (.d (.int j)) st = some (.d (.bool (!decide (i = j))), st) := (ne_good (a := .int i) (b := .int j) rfl rfl (Good.int i 0) (Good.int j 0)).trans (by simp [rb, PyData.eqv, beq_dec])
end Q

set_option Elab.async false
set_option linter.all false
set_option maxRecDepth 100000
set_option maxHeartbeats 4000000
/-! QS: meanings unfolded by simp -/
namespace Q
open PySem PySem.Spec PyProof.Rows L2 PD
section
variable {a b c : SM} {t u : TM} {m k e z : EM} {f g : F2} {f1 : F1} {fn : FN} {ms : AM} {s : SE} {st : Store} {i j l : Nat} {x y : DV} {gm : GM} {gs : List PyData → SE → Option SE} {T : String} {lo hi : OM} {mi : IM} {d : PyData}
@[simp] theorem e_mSeq : mSeq a b s st = (match a s st with
  | some (.nx s1 st1) => b s1 st1
  | some (.ret d st1) => some (.ret d st1)
  | some (.bk s1 st1) => some (.bk s1 st1)
  | some (.ct s1 st1) => some (.ct s1 st1)
  | none => none) := rfl
@[simp] theorem e_mNx : mNx s st = some (.nx s st) := rfl
@[simp] theorem e_mDrop : mDrop m s st = (match m s st with
  | some (_, st1) => some (.nx s st1)
  | none => none) := rfl
@[simp] theorem e_mRet : mRet m s st = (match m s st with
  | some (d, st1) => some (.ret d st1)
  | none => none) := rfl
@[simp] theorem e_mRetN : mRetN s st = some (.ret (.d .none) st) := rfl
@[simp] theorem e_mIfS : mIfS t a b s st = (match t s st with
  | some (true, st1) => a s st1
  | some (false, st1) => b s st1
  | none => none) := rfl
@[simp] theorem e_mSet : mSet i m s st = (match m s st with
  | some (d, st1) => some (.nx (s.set i (some d)) st1)
  | none => none) := rfl
@[simp] theorem e_mPar : mPar i j m k s st = (match m s st with
  | some (x, s1) => (match k s s1 with
    | some (y, s2) => some (.nx ((s.set i (some x)).set j (some y)) s2)
    | none => none)
  | none => none) := rfl
@[simp] theorem e_mPar3 : mPar3 i j l m k e s st = (match m s st with
  | some (x, s1) => (match k s s1 with
    | some (y, s2) => (match e s s2 with
      | some (z, s3) => some (.nx (((s.set i (some x)).set j (some y)).set l (some z)) s3)
      | none => none)
    | none => none)
  | none => none) := rfl
@[simp] theorem e_mAsg : mAsg m gm s st = (match m s st with
  | some (d, st1) => (match gm d s with
    | some s1 => some (.nx s1 st1)
    | none => none)
  | none => none) := rfl
@[simp] theorem e_gmName : gmName i x s = some (s.set i (some x)) := rfl
@[simp] theorem e_gmTup {xs : List PyData} : gmTup i gs (.d (.tuple xs)) s = if decide (xs.length = i) then gs xs s else none := rfl
@[simp] theorem e_gmNil : gmNil [] s = some s := rfl
@[simp] theorem e_gmCons {r : List PyData} : gmCons gm gs (d :: r) s = (match gm (.d d) s with
    | some s1 => gs r s1
    | none => none) := rfl
@[simp] theorem e_mVar : mVar i s st = (match s[i]? with
  | some (some d) => some (d, st)
  | _ => none) := rfl
@[simp] theorem e_mC : mC d s st = some (.d d, st) := rfl
@[simp] theorem e_mBin : mBin f m k s st = (match m s st with
  | some (x, s1) => (match k s s1 with
    | some (y, s2) => f x y s2
    | none => none)
  | none => none) := rfl
@[simp] theorem e_mUn : mUn f1 m s st = (match m s st with
  | some (x, s1) => f1 x s1
  | none => none) := rfl
@[simp] theorem e_mApp : mApp fn ms s st = (match ms s st with
  | some (ds, s1) => fn ds s1
  | none => none) := rfl
@[simp] theorem e_mNil : mNil s st = some ([], st) := rfl
@[simp] theorem e_mCons : mCons m ms s st = (match m s st with
  | some (x, s1) => (match ms s s1 with
    | some (xs, s2) => some (x :: xs, s2)
    | none => none)
  | none => none) := rfl
@[simp] theorem e_mTup : mTup ms s st = (match ms s st with
  | some (ds, s1) => (match pures ds with
    | some xs => if decide (xs.length ≤ 1000) then some (.d (.tuple xs), s1) else none
    | none => none)
  | none => none) := rfl
@[simp] theorem e_mLst : mLst ms s st = (match ms s st with
  | some (ds, s1) => (match pures ds with
    | some xs => if decide (xs.length ≤ 1000) then some (.d (.list xs), s1) else none
    | none => none)
  | none => none) := rfl
@[simp] theorem e_mLstM : mLstM ms s st = (match ms s st with
  | some (ds, s1) => (match pures ds with
    | some xs => if decide (xs.length ≤ 1000) then some (.r s1.length, s1 ++ [some (.lst xs)]) else none
    | none => none)
  | none => none) := rfl
@[simp] theorem e_pures_nil : pures [] = some [] := rfl
@[simp] theorem e_pures_cons {r : List DV} : pures (.d d :: r) = (match pures r with
    | some xs => some (d :: xs)
    | none => none) := rfl
@[simp] theorem e_mB : mB m s st = (match m s st with
  | some (.d (.bool b), st') => some (b, st')
  | _ => none) := rfl
@[simp] theorem e_mNotT : mNotT t s st = (match t s st with
  | some (b, st') => some (!b, st')
  | none => none) := rfl
@[simp] theorem e_mAndT : mAndT t u s st = (match t s st with
  | some (true, st') => u s st'
  | some (false, st') => some (false, st')
  | none => none) := rfl
@[simp] theorem e_mOrT : mOrT t u s st = (match t s st with
  | some (true, st') => some (true, st')
  | some (false, st') => u s st'
  | none => none) := rfl
@[simp] theorem e_mAndV : mAndV m k s st = (match m s st with
  | some (.d (.bool true), st') => k s st'
  | some (.d (.bool false), st') => some (.d (.bool false), st')
  | _ => none) := rfl
@[simp] theorem e_mOrV : mOrV m k s st = (match m s st with
  | some (.d (.bool true), st') => some (.d (.bool true), st')
  | some (.d (.bool false), st') => k s st'
  | _ => none) := rfl
@[simp] theorem e_mIf : mIf t m k s st = (match t s st with
  | some (true, st') => m s st'
  | some (false, st') => k s st'
  | none => none) := rfl
@[simp] theorem e_mNotV : mNotV m s st = (match m s st with
  | some (.d (.bool b), st') => some (.d (.bool !b), st')
  | _ => none) := rfl
@[simp] theorem e_mChain : mChain f g m k e s st = (match m s st with
  | some (x, s1) => (match k s s1 with
    | some (y, s2) => (match f x y s2 with
      | some (.d (.bool true), s3) => (match e s s3 with
        | some (z, s4) => g y z s4
        | none => none)
      | some (.d (.bool false), s3) => some (.d (.bool false), s3)
      | _ => none)
    | none => none)
  | none => none) := rfl
@[simp] theorem e_mIsiD : mIsiD m T s st = (match m s st with
  | some (d, s1) => (match tyNameD s1 d with
    | some t => some (.d (.bool (isSub t T)), s1)
    | none => none)
  | none => none) := rfl
@[simp] theorem e_ty_int {i : Int} : tyNameD st (.d (.int i)) = some "int" := rfl
@[simp] theorem e_ty_bool {b : Bool} : tyNameD st (.d (.bool b)) = some "bool" := rfl
@[simp] theorem e_ty_str {z : Str} : tyNameD st (.d (.str z)) = some "str" := rfl
@[simp] theorem e_ty_tuple {xs : List PyData} : tyNameD st (.d (.tuple xs)) = some "tuple" := rfl
@[simp] theorem e_ty_list {xs : List PyData} : tyNameD st (.d (.list xs)) = some "list" := rfl
@[simp] theorem e_sub1 : isSub "int" "int" = true := by decide
@[simp] theorem e_sub2 : isSub "int" "bool" = false := by decide
@[simp] theorem e_sub3 : isSub "tuple" "tuple" = true := by decide
@[simp] theorem e_sub4 : isSub "str" "str" = true := by decide
@[simp] theorem e_sub5 : isSub "list" "list" = true := by decide
@[simp] theorem e_sub6 : isSub "dict" "dict" = true := by decide
@[simp] theorem e_ret : PD.ret d st = some (.d d, st) := rfl
@[simp] theorem e_rb {b : Bool} : rb b st = some (.d (.bool b), st) := rfl
@[simp] theorem e_len_t {xs : List PyData} : fLen [.d (.tuple xs)] st = some (.d (.int xs.length), st) := rfl
@[simp] theorem e_len_l {xs : List PyData} : fLen [.d (.list xs)] st = some (.d (.int xs.length), st) := rfl
@[simp] theorem e_add {i j : Int} : fAdd (.d (.int i)) (.d (.int j)) st = some (.d (.int (i + j)), st) := rfl
@[simp] theorem e_addI {i j : Int} : fAddI (.d (.int i)) (.d (.int j)) st = some (.d (.int (i + j)), st) := rfl
@[simp] theorem e_sub {i j : Int} : fSub (.d (.int i)) (.d (.int j)) st = some (.d (.int (i - j)), st) := rfl
@[simp] theorem e_mul {i j : Int} : fMul (.d (.int i)) (.d (.int j)) st = if mulOk i j then some (.d (.int (i * j)), st) else none := rfl
@[simp] theorem e_div {i j : Int} : fDiv (.d (.int i)) (.d (.int j)) st = if divOk j then some (.d (.int (i.fdiv j)), st) else none := rfl
@[simp] theorem e_mod {i j : Int} : fMod (.d (.int i)) (.d (.int j)) st = if decide (j ≠ 0) then some (.d (.int (i.fmod j)), st) else none := rfl
@[simp] theorem e_neg {i : Int} : fNeg (.d (.int i)) st = some (.d (.int (-i)), st) := rfl
@[simp] theorem e_cmp {p : Int → Int → Bool} {i j : Int} : fCmpI p (.d (.int i)) (.d (.int j)) st = some (.d (.bool (p i j)), st) := rfl
@[simp] theorem e_abs {i : Int} : fAbs [.d (.int i)] st = some (.d (.int (if i < 0 then -i else i)), st) := rfl
@[simp] theorem e_int {i : Int} : fInt [.d (.int i)] st = some (.d (.int i), st) := rfl
@[simp] theorem e_intb {b : Bool} : fInt [.d (.bool b)] st = some (.d (.int (if b then 1 else 0)), st) := rfl
@[simp] theorem e_tuple_t {xs : List PyData} : fTuple [.d (.tuple xs)] st = some (.d (.tuple xs), st) := rfl
@[simp] theorem e_tuple_l {xs : List PyData} : fTuple [.d (.list xs)] st = some (.d (.tuple xs), st) := rfl
@[simp] theorem e_listM_t {xs : List PyData} : fListM [.d (.tuple xs)] st = some (.r st.length, st ++ [some (.lst xs)]) := rfl
@[simp] theorem e_listM_l {xs : List PyData} : fListM [.d (.list xs)] st = some (.r st.length, st ++ [some (.lst xs)]) := rfl
@[simp] theorem e_ix_t {xs : List PyData} {i : Int} : fIx (.d (.tuple xs)) (.d (.int i)) st = opt (atI xs i) st := rfl
@[simp] theorem e_ix_l {xs : List PyData} {i : Int} : fIx (.d (.list xs)) (.d (.int i)) st = opt (atI xs i) st := rfl
@[simp] theorem e_opt : opt (some d) st = some (.d d, st) := rfl
@[simp] theorem e_it_t {xs : List PyData} : itOf (.d (.tuple xs)) st = some ((xs, always), st) := rfl
@[simp] theorem e_it_l {xs : List PyData} : itOf (.d (.list xs)) st = some ((xs, always), st) := rfl
@[simp] theorem e_mIt : mIt m s st = (match m s st with
  | some (d, st1) => itOf d st1
  | none => none) := rfl
@[simp] theorem e_mFor : mFor mi gm b s st = (match mi s st with
  | some ((ds, g), st1) => forL gm b g ds s st1
  | none => none) := rfl
@[simp] theorem e_mLc {vs : List Nat} : mLc vs mi gm t e s st = (match mi s st with
  | some ((ds, g), st1) => if decide (ds.length ≤ 16777216) then (match lcL gm t e g ds (wipeS s vs) st1 with
    | some (xs, st2) => some (.d (.list xs), st2)
    | none => none) else none
  | none => none) := rfl
@[simp] theorem e_mYes : mYes s st = some (true, st) := rfl
@[simp] theorem e_wipe0 : wipeS s [] = s := rfl
@[simp] theorem e_wipe1 {v : Nat} {vs : List Nat} : wipeS s (v :: vs) = (wipeS s vs).set v none := rfl
@[simp] theorem e_mSl : mSl e lo hi s st = (match e s st with
  | some (x, s1) => (match lo s s1 with
    | some (l, s2) => (match hi s s2 with
      | some (h, s3) => cutD x l h s3
      | none => none)
    | none => none)
  | none => none) := rfl
@[simp] theorem e_mNoPart : mNoPart s st = some (none, st) := rfl
@[simp] theorem e_mPart : mPart m s st = (match m s st with
  | some (.d (.int i), st') => some (some i, st')
  | _ => none) := rfl
@[simp] theorem e_cut_t {xs : List PyData} {l h : Option Int} : cutD (.d (.tuple xs)) l h st = some (.d (.tuple (cutP xs l h)), st) := rfl
@[simp] theorem e_cut_l {xs : List PyData} {l h : Option Int} : cutD (.d (.list xs)) l h st = some (.d (.list (cutP xs l h)), st) := rfl
@[simp] theorem e_mRng1 : mRng1 m s st = (match m s st with
  | some (.d (.int j), st1) => if bd j then some ((rngP 0 j, always), st1) else none
  | _ => none) := rfl
@[simp] theorem e_mRng2 : mRng2 m k s st = (match m s st with
  | some (.d (.int i), st1) => (match k s st1 with
    | some (.d (.int j), st2) => if bd i && bd j then some ((rngP i j, always), st2) else none
    | _ => none)
  | _ => none) := rfl
@[simp] theorem e_mEnum : mEnum m s st = (match m s st with
  | some (d, st1) => (match seqOf d st1 with
    | some (xs, g) => some ((enumP xs, g), st1)
    | none => none)
  | none => none) := rfl
@[simp] theorem e_seq_t {xs : List PyData} : seqOf (.d (.tuple xs)) st = some (xs, always) := rfl
@[simp] theorem e_seq_l {xs : List PyData} : seqOf (.d (.list xs)) st = some (xs, always) := rfl
@[simp] theorem e_always : always st = true := rfl
@[simp] theorem e_max {i j : Int} : fMax2 [.d (.int i), .d (.int j)] st = some (.d (.int (if j > i then j else i)), st) := rfl
@[simp] theorem e_mAug : mAug i f m s st = (match s[i]? with
  | some (some x) => (match m s st with
    | some (y, s1) => (match f x y s1 with
      | some (z, s2) => some (.nx (s.set i (some z)) s2)
      | none => none)
    | none => none)
  | _ => none) := rfl
end
/-! indices -/
theorem at_nat {xs : List PyData} {i : Nat} {x : PyData} (h : xs[i]? = some x) : atI xs (i : Int) = some x := by
  have hl := (List.getElem?_eq_some_iff.mp h).1
  unfold atI ixN
  have h0 : (0 : Int) ≤ i := Int.natCast_nonneg i
  have h1 : (i : Int) < xs.length := by omega
  simp [h0, h1, h]
@[simp] theorem at_0 {x : PyData} {xs : List PyData} : atI (x :: xs) 0 = some x := at_nat (i := 0) rfl
@[simp] theorem at_1 {x y : PyData} {xs : List PyData} : atI (x :: y :: xs) 1 = some y := at_nat (i := 1) rfl
@[simp] theorem at_2 {x y z : PyData} {xs : List PyData} : atI (x :: y :: z :: xs) 2 = some z := at_nat (i := 2) rfl
theorem cutP_tail {x : PyData} {xs : List PyData} : cutP (x :: xs) (some 1) none = xs := by
  have h1 : HT.sIx (x :: xs).length 0 (some 1) = 1 := by
    have := HT.sIx_nat (x :: xs).length 0 1
    simp at this ⊢
    exact this
  unfold cutP
  rw [h1, HT.sIx_none]
  simp
end Q

set_option Elab.async false
set_option linter.all false
set_option maxRecDepth 100000
set_option maxHeartbeats 4000000
/-! QB: fractions, sums -/
namespace Q
open PySem PySem.Spec PyProof.Rows L2 PD W

/-! ### sizes -/
def Bt (b : Nat) (i : Int) : Prop := i.natAbs < 2 ^ b
theorem Bt.log {b : Nat} {i : Int} (h : Bt b i) (hb : 0 < b) : i.natAbs.log2 < b := by
  by_cases h0 : i.natAbs = 0
  · rw [h0]; simpa using hb
  · exact (Nat.log2_lt h0).mpr h
theorem Bt.mono {b c : Nat} {i : Int} (h : Bt b i) (hc : b ≤ c) : Bt c i := Nat.lt_of_lt_of_le h (Nat.pow_le_pow_right (by decide) hc)
theorem Bt.mul {b c : Nat} {i j : Int} (h : Bt b i) (k : Bt c j) : Bt (b + c) (i * j) := by
  unfold Bt
  rw [Int.natAbs_mul, Nat.pow_add]
  have h : i.natAbs < 2 ^ b := h
  have k : j.natAbs < 2 ^ c := k
  exact Nat.lt_of_le_of_lt (Nat.mul_le_mul_left _ (Nat.le_of_lt k)) ((Nat.mul_lt_mul_right (Nat.two_pow_pos c)).mpr h)
theorem Bt.add {b : Nat} {i j : Int} (h : Bt b i) (k : Bt b j) : Bt (b + 1) (i + j) := by
  unfold Bt at h k ⊢
  have := Int.natAbs_add_le i j
  rw [Nat.pow_succ]
  omega
theorem Bt.neg {b : Nat} {i : Int} (h : Bt b i) : Bt b (-i) := by
  unfold Bt at h ⊢
  rw [Int.natAbs_neg]; exact h
theorem Bt.le {b : Nat} {i j : Int} (h : Bt b i) (k : j.natAbs ≤ i.natAbs) : Bt b j := Nat.lt_of_le_of_lt k h
theorem mul_ok {b c : Nat} {i j : Int} (h : Bt b i) (k : Bt c j) (hb : b + c < 999000 := by decide) : mulOk i j = true := by
  unfold mulOk
  simp only [Bool.or_eq_true, decide_eq_true_eq]
  refine .inr ?_
  have h1 := (h.mono (Nat.le_succ b)).log (Nat.succ_pos b)
  have h2 := (k.mono (Nat.le_succ c)).log (Nat.succ_pos c)
  omega
theorem div_ok {b : Nat} {j : Int} (h : Bt b j) (h0 : j ≠ 0) (hb : b < 9000 := by decide) : divOk j = true := by
  unfold divOk
  simp only [Bool.and_eq_true, decide_eq_true_eq]
  refine ⟨h0, ?_⟩
  have h1 := (h.mono (Nat.le_succ b)).log (Nat.succ_pos b)
  omega

section
variable {st : Store}
theorem r_is_integer (i : Int) (hp : Pl st) : m_is_integer [.d (.int i)] st = some (.d (.bool true), st) := by
  refine run_d0 ?_ rfl hp
  simp [b_is_integer]
theorem r_is_within (i lo hi : Int) (hp : Pl st) : m_is_within [.d (.int i), .d (.int lo), .d (.int hi)] st = some (.d (.bool (decide (lo ≤ i ∧ i ≤ hi))), st) := by
  refine run_d0 ?_ rfl hp
  by_cases h1 : lo ≤ i <;> by_cases h2 : i ≤ hi <;>
  simp [b_is_within, r_is_integer, hp, h1, h2]
theorem r_is_tuple_of (xs : List PyData) (n : Int) (hp : Pl st) : m_is_tuple_of [.d (.tuple xs), .d (.int n)] st = some (.d (.bool (decide ((xs.length : Int) = n))), st) := by
  refine run_d0 ?_ rfl hp
  simp [b_is_tuple_of]

/-! ### the common divisor -/
theorem fdiv_pos {x y : Int} (hy : 0 < y) : x.fdiv y = x / y := Int.fdiv_eq_ediv_of_nonneg x (Int.le_of_lt hy)
theorem fmod_pos {x y : Int} (hy : 0 < y) : x.fmod y = x % y := Int.fmod_eq_emod_of_nonneg x (Int.le_of_lt hy)
theorem gcd_step {x y : Int} (hx : 0 ≤ x) (hy : 0 ≤ y) : Int.gcd y (x % y) = Int.gcd x y := by
  obtain ⟨m, rfl⟩ := Int.eq_ofNat_of_zero_le hx
  obtain ⟨n, rfl⟩ := Int.eq_ofNat_of_zero_le hy
  show Nat.gcd n (m % n) = Nat.gcd m n
  rw [Nat.gcd_comm m n, Nat.gcd_rec n m, Nat.gcd_comm]
theorem common_loop (B : Nat) (hB : B < 8900) : ∀ (k : Nat) (x y : Int), 0 ≤ x → 0 ≤ y → Bt B x → Bt B y → y.toNat < k →
    whileL (mB (mBin fNe (mVar 1) (mC (.int 0)))) (mPar 0 1 (mVar 1) (mBin fSub (mVar 0) (mBin fMul (mVar 1) (mBin fDiv (mVar 0) (mVar 1))))) k [some (.d (.int x)), some (.d (.int y))] st = some (.nx [some (.d (.int (Int.gcd x y))), some (.d (.int 0))] st)
  | 0, _, _, _, _, _, _, h => by omega
  | k + 1, x, y, hx, hy, bx, bY, h => by
    by_cases h0 : y = 0
    · subst h0
      have e : ((Int.gcd x 0 : Nat) : Int) = x := by simp [Int.gcd_zero_right]; omega
      simp only [whileL, e_mB, e_mBin, e_mVar, e_mC, List.getElem?_cons_succ, List.getElem?_cons_zero, ne_int, decide_true, Bool.not_true, e]
    · have hy' : 0 < y := by omega
      have hd : divOk y = true := div_ok bY h0 (by omega)
      have bq : Bt B (x / y) := bx.le (by
        have h1 : 0 ≤ x / y := Int.ediv_nonneg hx hy
        have h2 : x / y ≤ x := Int.ediv_le_self y hx
        omega)
      have hm : mulOk y (x / y) = true := mul_ok bY bq (by omega)
      have er : x - y * (x / y) = x % y := by rw [Int.emod_def]
      have h1 : 0 ≤ x % y := Int.emod_nonneg x h0
      have h2 : x % y < y := Int.emod_lt_of_pos x hy'
      have ih := common_loop B hB k y (x % y) hy h1 bY (bY.le (by omega)) (by omega)
      have eg := gcd_step hx hy
      simp only [whileL, e_mB, e_mBin, e_mVar, e_mC, e_mPar, List.getElem?_cons_succ, List.getElem?_cons_zero, ne_int, e_div, hd, if_true, fdiv_pos hy', e_mul, hm, e_sub, er, h0, decide_false, Bool.not_false, List.set_cons_zero, List.set_cons_succ, ih, eg]
theorem fuel_ge {B : Nat} {y : Int} (h : Bt B y) (hB : B < 8900) (h0 : 0 ≤ y) : y.toNat + 1 ≤ fuel := by
  have h1 : y.toNat < 2 ^ B := by
    have h : y.natAbs < 2 ^ B := h
    omega
  have h2 : 2 ^ B ≤ 2 ^ 20000 := Nat.pow_le_pow_right (by decide) (by omega)
  show _ ≤ 2 ^ 20000
  exact Nat.le_trans h1 h2
theorem r_common {B : Nat} (hB : B < 8900) {x y : Int} (hx : 0 ≤ x) (hy : 0 ≤ y) (bx : Bt B x) (bY : Bt B y) (hp : Pl st) : m_common [.d (.int x), .d (.int y)] st = some (.d (.int (Int.gcd x y)), st) := by
  refine run_d0 ?_ rfl hp
  have h := mWhile_of (common_loop (st := st) B hB (y.toNat + 1) x y hx hy bx bY (by omega)) (fuel_ge bY hB hy)
  show b_common [some (.d (.int x)), some (.d (.int y))] st = _
  unfold b_common
  rw [e_mSeq, h]
  rfl
theorem lmade_loop (B : Nat) (hB : B < 8900) (a0 a1 : Option DV) : ∀ (k : Nat) (x y : Int), 0 ≤ x → 0 ≤ y → Bt B x → Bt B y → y.toNat < k →
    whileL (mB (mBin fGt (mVar 3) (mC (.int 0)))) (mPar 2 3 (mVar 3) (mBin fMod (mApp fInt (mCons (mVar 2) mNil)) (mVar 3))) k [a0, a1, some (.d (.int x)), some (.d (.int y))] st = some (.nx [a0, a1, some (.d (.int (Int.gcd x y))), some (.d (.int 0))] st)
  | 0, _, _, _, _, _, _, h => by omega
  | k + 1, x, y, hx, hy, bx, bY, h => by
    by_cases h0 : y = 0
    · subst h0
      have e : ((Int.gcd x 0 : Nat) : Int) = x := by simp [Int.gcd_zero_right]; omega
      simp only [whileL, e_mB, e_mBin, e_mVar, e_mC, List.getElem?_cons_succ, List.getElem?_cons_zero, e_cmp, Int.lt_irrefl, decide_false, e]
    · have hy' : 0 < y := by omega
      have h1 : 0 ≤ x % y := Int.emod_nonneg x h0
      have h2 : x % y < y := Int.emod_lt_of_pos x hy'
      have ih := lmade_loop B hB a0 a1 k y (x % y) hy h1 bY (bY.le (by omega)) (by omega)
      have eg := gcd_step hx hy
      have hd : decide (y ≠ 0) = true := decide_eq_true h0
      have hg : decide (0 < y) = true := decide_eq_true hy'
      simp only [whileL, e_mB, e_mBin, e_mVar, e_mC, e_mPar, e_mApp, e_mCons, e_mNil, e_int, List.getElem?_cons_succ, List.getElem?_cons_zero, e_cmp, hg, e_mod, hd, if_true, fmod_pos hy', List.set_cons_zero, List.set_cons_succ, ih, eg]

/-! ### fractions -/
abbrev Fr := Int × Int
def fr (x : Fr) : PyData := .tuple [.int x.1, .int x.2]
def fmk (t b : Int) : Fr := (t / (Int.gcd t b : Int), b / (Int.gcd t b : Int))
def FOk (x : Fr) : Prop := 0 < x.2 ∧ Int.gcd x.1 x.2 = 1
def FB (b : Nat) (x : Fr) : Prop := Bt b x.1 ∧ Bt b x.2
theorem gcd_abs (t b : Int) : Int.gcd (t.natAbs : Int) (b.natAbs : Int) = Int.gcd t b := by simp [Int.gcd]
theorem gcd_abs1 {b : Int} (t : Int) (hb : 0 < b) : Int.gcd (t.natAbs : Int) b = Int.gcd t b := by simp [Int.gcd]
theorem gcd_pos' {t b : Int} (hb : 0 < b) : 0 < (Int.gcd t b : Int) := by
  have := Int.gcd_pos_of_ne_zero_right t (by omega : b ≠ 0)
  omega
theorem fmk_ok {t b : Int} (hb : 0 < b) : FOk (fmk t b) := by
  have hg := gcd_pos' (t := t) hb
  refine ⟨?_, ?_⟩
  · have h1 : (Int.gcd t b : Int) ≤ b := Int.le_of_dvd hb (Int.gcd_dvd_right t b)
    exact Int.ediv_pos_of_pos_of_dvd hb (Int.le_of_lt hg) (Int.gcd_dvd_right t b)
  · show Int.gcd (t / (Int.gcd t b : Int)) (b / (Int.gcd t b : Int)) = 1
    exact Int.gcd_ediv_gcd_ediv_gcd (by omega)
theorem fmk_B {B : Nat} {t b : Int} (ht : Bt B t) (hb : Bt B b) : FB B (fmk t b) := ⟨ht.le (Int.natAbs_ediv_le_natAbs t _), hb.le (Int.natAbs_ediv_le_natAbs b _)⟩
theorem abs_eq (t : Int) : (if t < 0 then -t else t) = (t.natAbs : Int) := by split <;> omega
theorem Bt.abs {B : Nat} {t : Int} (h : Bt B t) : Bt B (t.natAbs : Int) := by
  show (t.natAbs : Int).natAbs < 2 ^ B
  rw [Int.natAbs_natCast]
  exact h
theorem gcd_B {B : Nat} {t b : Int} (hb : 0 < b) (h : Bt B b) : Bt B (Int.gcd t b : Int) := h.le (by
  have h1 : (Int.gcd t b : Int) ≤ b := Int.le_of_dvd hb (Int.gcd_dvd_right t b)
  have h2 := gcd_pos' (t := t) hb
  omega)
theorem r_made {B : Nat} (hB : B < 8900) {t b : Int} (hb : 0 < b) (ht : Bt B t) (hbb : Bt B b) (hp : Pl st) : m_made [.d (.int t), .d (.int b)] st = some (.d (fr (fmk t b)), st) := by
  refine run_d0 ?_ rfl hp
  have hg := gcd_pos' (t := t) hb
  have e1 := r_common (st := st) hB (x := (t.natAbs : Int)) (y := (b.natAbs : Int)) (Int.natCast_nonneg _) (Int.natCast_nonneg _) ht.abs hbb.abs hp
  rw [gcd_abs] at e1
  have hd : divOk (Int.gcd t b : Int) = true := div_ok (gcd_B hb hbb) (by omega) (by omega)
  simp [b_made, abs_eq, e1, hb, hd, fdiv_pos hg, fr, fmk]
theorem r_lmade {B : Nat} (hB : B < 8900) {t b : Int} (hb : 0 < b) (ht : Bt B t) (hbb : Bt B b) (hp : Pl st) : m__law_made [.d (.int t), .d (.int b)] st = some (.d (fr (fmk t b)), st) := by
  refine run_d0 ?_ rfl hp
  have hg := gcd_pos' (t := t) hb
  have e1 := mWhile_of (lmade_loop (st := st) B hB (some (.d (.int t))) (some (.d (.int b))) (b.toNat + 1) (t.natAbs : Int) b (Int.natCast_nonneg _) (Int.le_of_lt hb) ht.abs hbb (by omega)) (fuel_ge hbb hB (Int.le_of_lt hb))
  rw [gcd_abs1 t hb] at e1
  have hd : divOk (Int.gcd t b : Int) = true := div_ok (gcd_B hb hbb) (by omega) (by omega)
  show b__law_made [some (.d (.int t)), some (.d (.int b)), none, none] st = _
  simp [b__law_made, abs_eq, e1, hd, fdiv_pos hg, fr, fmk]

theorem FB.mono {b c : Nat} {x : Fr} (h : FB b x) (hc : b ≤ c) : FB c x := ⟨h.1.mono hc, h.2.mono hc⟩
def fplus (x y : Fr) : Fr := fmk (x.1 * y.2 + y.1 * x.2) (x.2 * y.2)
def ftimes (x y : Fr) : Fr := fmk (x.1 * y.1) (x.2 * y.2)
theorem fplus_ok {x y : Fr} (hx : FOk x) (hy : FOk y) : FOk (fplus x y) := fmk_ok (Int.mul_pos hx.1 hy.1)
theorem ftimes_ok {x y : Fr} (hx : FOk x) (hy : FOk y) : FOk (ftimes x y) := fmk_ok (Int.mul_pos hx.1 hy.1)
theorem plus_B {a b : Nat} {x y : Fr} (hx : FB a x) (hy : FB b y) : Bt (a + b + 1) (x.1 * y.2 + y.1 * x.2) ∧ Bt (a + b + 1) (x.2 * y.2) := by
  have h1 := hx.1.mul hy.2
  have h2 := hy.1.mul hx.2
  rw [Nat.add_comm] at h2
  exact ⟨h1.add h2, (hx.2.mul hy.2).mono (Nat.le_succ _)⟩
theorem fplus_B {a b : Nat} {x y : Fr} (hx : FB a x) (hy : FB b y) : FB (a + b + 1) (fplus x y) := fmk_B (plus_B hx hy).1 (plus_B hx hy).2
theorem ftimes_B {a b : Nat} {x y : Fr} (hx : FB a x) (hy : FB b y) : FB (a + b) (ftimes x y) := fmk_B (hx.1.mul hy.1) (hx.2.mul hy.2)
theorem r_plus {a b : Nat} {x y : Fr} (hx : FOk x) (hy : FOk y) (bx : FB a x) (bY : FB b y) (hB : a + b + 1 < 8900) (hp : Pl st) : m_raw_plus [.d (fr x), .d (fr y)] st = some (.d (fr (fplus x y)), st) := by
  refine run_d0 ?_ rfl hp
  have e := r_made (st := st) hB (Int.mul_pos hx.1 hy.1) (plus_B bx bY).1 (plus_B bx bY).2 hp
  have m1 : mulOk x.1 y.2 = true := mul_ok bx.1 bY.2 (by omega)
  have m2 : mulOk y.1 x.2 = true := mul_ok bY.1 bx.2 (by omega)
  have m3 : mulOk x.2 y.2 = true := mul_ok bx.2 bY.2 (by omega)
  simp [b_raw_plus, fr, m1, m2, m3] at e ⊢
  rw [e]
  rfl
theorem r_lplus {a b : Nat} {x y : Fr} (hx : FOk x) (hy : FOk y) (bx : FB a x) (bY : FB b y) (hB : a + b + 1 < 8900) (hp : Pl st) : m__law_plus [.d (fr x), .d (fr y)] st = some (.d (fr (fplus x y)), st) := by
  refine run_d0 ?_ rfl hp
  have e := r_lmade (st := st) hB (Int.mul_pos hx.1 hy.1) (plus_B bx bY).1 (plus_B bx bY).2 hp
  have m1 : mulOk x.1 y.2 = true := mul_ok bx.1 bY.2 (by omega)
  have m2 : mulOk y.1 x.2 = true := mul_ok bY.1 bx.2 (by omega)
  have m3 : mulOk x.2 y.2 = true := mul_ok bx.2 bY.2 (by omega)
  simp [b__law_plus, fr, m1, m2, m3] at e ⊢
  rw [e]
  rfl
theorem r_times {a b : Nat} {x y : Fr} (hx : FOk x) (hy : FOk y) (bx : FB a x) (bY : FB b y) (hB : a + b < 8900) (hp : Pl st) : m_raw_times [.d (fr x), .d (fr y)] st = some (.d (fr (ftimes x y)), st) := by
  refine run_d0 ?_ rfl hp
  have e := r_made (st := st) hB (Int.mul_pos hx.1 hy.1) (bx.1.mul bY.1) (bx.2.mul bY.2) hp
  have m1 : mulOk x.1 y.1 = true := mul_ok bx.1 bY.1 (by omega)
  have m3 : mulOk x.2 y.2 = true := mul_ok bx.2 bY.2 (by omega)
  simp [b_raw_times, fr, m1, m3] at e ⊢
  rw [e]
  rfl
theorem r_ltimes {a b : Nat} {x y : Fr} (hx : FOk x) (hy : FOk y) (bx : FB a x) (bY : FB b y) (hB : a + b < 8900) (hp : Pl st) : m__law_times [.d (fr x), .d (fr y)] st = some (.d (fr (ftimes x y)), st) := by
  refine run_d0 ?_ rfl hp
  have e := r_lmade (st := st) hB (Int.mul_pos hx.1 hy.1) (bx.1.mul bY.1) (bx.2.mul bY.2) hp
  have m1 : mulOk x.1 y.1 = true := mul_ok bx.1 bY.1 (by omega)
  have m3 : mulOk x.2 y.2 = true := mul_ok bx.2 bY.2 (by omega)
  simp [b__law_times, fr, m1, m3] at e ⊢
  rw [e]
  rfl
/-- x <= y, x < y -/
def fle (x y : Fr) : Bool := decide (x.1 * y.2 ≤ y.1 * x.2)
def flt (x y : Fr) : Bool := decide (x.1 * y.2 < y.1 * x.2)
theorem r_at_most {a b : Nat} {x y : Fr} (bx : FB a x) (bY : FB b y) (hB : a + b < 8900) (hp : Pl st) : m_raw_at_most [.d (fr x), .d (fr y)] st = some (.d (.bool (fle x y)), st) := by
  refine run_d0 ?_ rfl hp
  have m1 : mulOk x.1 y.2 = true := mul_ok bx.1 bY.2 (by omega)
  have m2 : mulOk y.1 x.2 = true := mul_ok bY.1 bx.2 (by omega)
  simp [b_raw_at_most, fr, m1, m2, fle]
theorem r_below {a b : Nat} {x y : Fr} (bx : FB a x) (bY : FB b y) (hB : a + b < 8900) (hp : Pl st) : m_raw_below [.d (fr x), .d (fr y)] st = some (.d (.bool (flt x y)), st) := by
  refine run_d0 ?_ rfl hp
  have m1 : mulOk x.1 y.2 = true := mul_ok bx.1 bY.2 (by omega)
  have m2 : mulOk y.1 x.2 = true := mul_ok bY.1 bx.2 (by omega)
  simp [b_raw_below, fr, m1, m2, flt]
theorem r_lbelow {a b : Nat} {x y : Fr} (bx : FB a x) (bY : FB b y) (hB : a + b < 8900) (hp : Pl st) : m__law_below [.d (fr x), .d (fr y)] st = some (.d (.bool (flt x y)), st) := by
  refine run_d0 ?_ rfl hp
  have m1 : mulOk x.1 y.2 = true := mul_ok bx.1 bY.2 (by omega)
  have m2 : mulOk y.1 x.2 = true := mul_ok bY.1 bx.2 (by omega)
  simp [b__law_below, fr, m1, m2, flt]
def fgreater (x y : Fr) : Fr := if fle x y then y else x
theorem r_greater {a b : Nat} {x y : Fr} (bx : FB a x) (bY : FB b y) (hB : a + b < 8900) (hp : Pl st) : m_raw_greater [.d (fr x), .d (fr y)] st = some (.d (fr (fgreater x y)), st) := by
  refine run_d0 ?_ rfl hp
  have e := r_at_most (st := st) bx bY hB hp
  cases h : fle x y <;> simp [b_raw_greater, e, h, fgreater]
def fcut (x : Fr) : Fr := if 0 < x.1 then x else (0, 1)
theorem r_cut {x : Fr} (hp : Pl st) : m_raw_cut [.d (fr x)] st = some (.d (fr (fcut x)), st) := by
  refine run_d0 ?_ rfl hp
  by_cases h : 0 < x.1 <;> simp [b_raw_cut, fr, h, fcut]
theorem r_is_fraction {b : Nat} {x : Fr} (hx : FOk x) (bx : FB b x) (hB : b < 8900) (hp : Pl st) : m_is_fraction [.d (fr x)] st = some (.d (.bool true), st) := by
  refine run_d0 ?_ rfl hp
  have e := r_common (st := st) hB (x := (x.1.natAbs : Int)) (y := x.2) (Int.natCast_nonneg _) (Int.le_of_lt hx.1) bx.1.abs bx.2 hp
  rw [gcd_abs1 x.1 hx.1, hx.2] at e
  simp [b_is_fraction, fr, r_is_tuple_of, r_is_integer, hp, hx.1, abs_eq, e]

/-! ### sums: a dense list of factors, a constant -/
abbrev Sm := List Fr × Fr
def termsD : Nat → List Fr → List PyData
  | _, [] => []
  | k, f :: fs => if f.1 ≠ 0 then .tuple [.int (k : Nat), fr f] :: termsD (k + 1) fs else termsD (k + 1) fs
def smD (s : Sm) : PyData := .tuple [.tuple (termsD 0 s.1), fr s.2]
/-- what a sum is worth -/
def worthF : Fr → List Fr → List Fr → Fr
  | acc, f :: fs, v :: vs => worthF (if f.1 ≠ 0 then fplus acc (ftimes f v) else acc) fs vs
  | acc, _, _ => acc
def worth (vs : List Fr) (s : Sm) : Fr := worthF s.2 s.1 vs
/-- sizes -/
def budget : List Nat → Nat
  | [] => 0
  | b :: bs => b + 6 + budget bs
def FBs : List Nat → List Fr → Prop
  | [], vs => vs = []
  | b :: bs, v :: vs => FOk v ∧ FB b v ∧ FBs bs vs
  | _ :: _, [] => False
theorem worthF_ok : ∀ (fs vs : List Fr) (bs : List Nat) (acc : Fr) (b : Nat), (∀ f ∈ fs, FOk f ∧ FB 4 f) → FBs bs vs → FOk acc → FB b acc → FOk (worthF acc fs vs) ∧ FB (b + budget bs) (worthF acc fs vs)
  | [], vs, bs, acc, b, _, _, h1, h2 => by
    rw [worthF]
    · exact ⟨h1, h2.mono (Nat.le_add_right _ _)⟩
    · intro _ _ _ _ e; cases e
  | f :: fs, [], bs, acc, b, _, _, h1, h2 => by
    rw [worthF]
    · exact ⟨h1, h2.mono (Nat.le_add_right _ _)⟩
    · intro _ _ _ _ _ e; cases e
  | f :: fs, v :: vs, [], acc, b, _, hb, _, _ => by cases hb
  | f :: fs, v :: vs, c :: bs, acc, b, hf, hb, h1, h2 => by
    obtain ⟨v1, v2, v3⟩ := hb
    obtain ⟨f1, f2⟩ := hf f List.mem_cons_self
    rw [worthF]
    have hfs : ∀ g ∈ fs, FOk g ∧ FB 4 g := fun g hg => hf g (List.mem_cons_of_mem _ hg)
    split
    · have := worthF_ok fs vs bs (fplus acc (ftimes f v)) (b + (4 + c) + 1) hfs v3 (fplus_ok h1 (ftimes_ok f1 v1)) (fplus_B h2 (ftimes_B f2 v2))
      exact ⟨this.1, this.2.mono (by simp only [budget]; omega)⟩
    · have := worthF_ok fs vs bs acc b hfs v3 h1 h2
      exact ⟨this.1, this.2.mono (by simp only [budget]; omega)⟩
end
end Q

set_option Elab.async false
set_option linter.all false
set_option maxRecDepth 100000
set_option maxHeartbeats 4000000
/-! QC: what sums are worth; their checks -/
namespace Q
open PySem PySem.Spec PyProof.Rows L2 PD W
theorem FBs.length : ∀ {bs : List Nat} {vs : List Fr}, FBs bs vs → vs.length = bs.length
  | [], vs, h => by cases h; rfl
  | b :: bs, [], h => by cases h
  | b :: bs, v :: vs, h => by simp [FBs.length h.2.2]
theorem FBs.get : ∀ {bs : List Nat} {vs : List Fr} {i : Nat} {v : Fr}, FBs bs vs → vs[i]? = some v → ∃ b, bs[i]? = some b ∧ FOk v ∧ FB b v
  | [], vs, i, v, h, e => by cases h; simp at e
  | b :: bs, [], i, v, h, e => by cases h
  | b :: bs, u :: vs, 0, v, h, e => by simp at e; subst e; exact ⟨b, rfl, h.1, h.2.1⟩
  | b :: bs, u :: vs, i + 1, v, h, e => by
    obtain ⟨c, h1, h2⟩ := FBs.get (i := i) h.2.2 (by simpa using e)
    exact ⟨c, by simpa using h1, h2⟩
theorem FBs.snoc : ∀ {bs : List Nat} {vs : List Fr} {b : Nat} {v : Fr}, FBs bs vs → FOk v → FB b v → FBs (bs ++ [b]) (vs ++ [v])
  | [], vs, b, v, h, h1, h2 => by cases h; exact ⟨h1, h2, rfl⟩
  | c :: bs, [], b, v, h, _, _ => by cases h
  | c :: bs, u :: vs, b, v, h, h1, h2 => ⟨h.1, h.2.1, FBs.snoc h.2.2 h1 h2⟩
theorem budget_app : ∀ (as bs : List Nat), budget (as ++ bs) = budget as + budget bs
  | [], bs => by simp [budget]
  | a :: as, bs => by simp [budget, budget_app as bs]; omega
section
variable {st : Store}
/-- a value that is read as these fractions -/
def SeqD (d : DV) (st : Store) (vs : List Fr) : Prop := ∀ (i : Nat) (v : Fr), vs[i]? = some v → fIx d (.d (.int (i : Int))) st = some (.d (fr v), st)
theorem seq_list {vs : List Fr} : SeqD (.d (.list (vs.map fr))) st vs := fun i v h => by
  rw [e_ix_l, at_nat (x := fr v) (by rw [List.getElem?_map, h]; rfl)]
  rfl
theorem seq_tuple {vs : List Fr} : SeqD (.d (.tuple (vs.map fr))) st vs := fun i v h => by
  rw [e_ix_t, at_nat (x := fr v) (by rw [List.getElem?_map, h]; rfl)]
  rfl
theorem seq_ref {n : Nat} {vs : List Fr} (hn : st[n]? = some (some (.lst (vs.map fr)))) : SeqD (.r n) st vs := fun i v h => by
  unfold fIx
  simp only [hn]
  rw [at_nat (x := fr v) (by rw [List.getElem?_map, h]; rfl)]
  rfl
theorem drop_cons {α : Type} {l : List α} {k : Nat} {v : α} {r : List α} (h : l.drop k = v :: r) : l[k]? = some v ∧ l.drop (k + 1) = r := by
  have h1 : k < l.length := by
    rcases Nat.lt_or_ge k l.length with z | z
    · exact z
    · rw [List.drop_eq_nil_of_le z] at h; cases h
  rw [List.drop_eq_getElem_cons h1] at h
  cases h
  exact ⟨by simp [h1], rfl⟩
theorem worth_loop {d : DV} {vs : List Fr} {o : Option DV} (hv : SeqD d st vs) (hp : Pl st) : ∀ (fs : List Fr) (k : Nat) (bs : List Nat) (acc : Fr) (b : Nat) (s3 s4 : Option DV), FBs bs (vs.drop k) → fs.length ≤ bs.length → (∀ f ∈ fs, FOk f ∧ FB 4 f) → FOk acc → FB b acc → b + budget bs < 8900 →
    ∃ s3' s4', forL (gmTup 2 (gmCons (gmName 3) (gmCons (gmName 4) gmNil))) (mSet 2 (mApp m_raw_plus (mCons (mVar 2) (mCons (mApp m_raw_times (mCons (mVar 4) (mCons (mBin fIx (mVar 0) (mVar 3)) mNil))) mNil)))) always (termsD k fs) [some d, o, some (.d (fr acc)), s3, s4] st
      = some (.nx [some d, o, some (.d (fr (worthF acc fs (vs.drop k)))), s3', s4'] st)
  | [], k, bs, acc, b, s3, s4, _, _, _, _, _, _ => ⟨s3, s4, by simp [termsD, forL, worthF]⟩
  | f :: fs, k, [], acc, b, s3, s4, _, hl, _, _, _, _ => by simp at hl
  | f :: fs, k, c :: bs, acc, b, s3, s4, hb, hl, hf, h1, h2, hB => by
    cases hd : vs.drop k with
    | nil => rw [hd] at hb; cases hb
    | cons v r =>
      rw [hd] at hb
      obtain ⟨v1, v2, v3⟩ := hb
      obtain ⟨f1, f2⟩ := hf f List.mem_cons_self
      obtain ⟨g1, g2⟩ := drop_cons hd
      have hfs : ∀ g ∈ fs, FOk g ∧ FB 4 g := fun g hg => hf g (List.mem_cons_of_mem _ hg)
      have hl' : fs.length ≤ bs.length := by simpa using hl
      simp only [budget] at hB
      by_cases h0 : f.1 ≠ 0
      · obtain ⟨s3', s4', ih⟩ := worth_loop hv hp fs (k + 1) bs (fplus acc (ftimes f v)) (b + (4 + c) + 1) (some (.d (.int (k : Nat)))) (some (.d (fr f))) (by rw [g2]; exact v3) hl' hfs (fplus_ok h1 (ftimes_ok f1 v1)) (fplus_B h2 (ftimes_B f2 v2)) (by omega)
        refine ⟨s3', s4', ?_⟩
        have e1 := r_times (st := st) f1 v1 f2 v2 (by omega) hp
        have e2 := r_plus (st := st) h1 (ftimes_ok f1 v1) h2 (ftimes_B f2 v2) (by omega) hp
        rw [worthF, if_pos h0, ← g2, ← ih]
        simp [termsD, h0, forL, hv k v g1, e1, e2]
      · obtain ⟨s3', s4', ih⟩ := worth_loop hv hp fs (k + 1) bs acc b s3 s4 (by rw [g2]; exact v3) hl' hfs h1 h2 (by omega)
        refine ⟨s3', s4', ?_⟩
        rw [worthF, if_neg h0, ← g2, ← ih]
        simp only [termsD, if_neg h0]
theorem lworth_loop {d : DV} {vs : List Fr} {o : Option DV} (hv : SeqD d st vs) (hp : Pl st) : ∀ (fs : List Fr) (k : Nat) (bs : List Nat) (acc : Fr) (b : Nat) (s3 s4 : Option DV), FBs bs (vs.drop k) → fs.length ≤ bs.length → (∀ f ∈ fs, FOk f ∧ FB 4 f) → FOk acc → FB b acc → b + budget bs < 8900 →
    ∃ s3' s4', forL (gmTup 2 (gmCons (gmName 3) (gmCons (gmName 4) gmNil))) (mSet 2 (mApp m__law_plus (mCons (mVar 2) (mCons (mApp m__law_times (mCons (mVar 4) (mCons (mBin fIx (mVar 1) (mVar 3)) mNil))) mNil)))) always (termsD k fs) [o, some d, some (.d (fr acc)), s3, s4] st
      = some (.nx [o, some d, some (.d (fr (worthF acc fs (vs.drop k)))), s3', s4'] st)
  | [], k, bs, acc, b, s3, s4, _, _, _, _, _, _ => ⟨s3, s4, by simp [termsD, forL, worthF]⟩
  | f :: fs, k, [], acc, b, s3, s4, _, hl, _, _, _, _ => by simp at hl
  | f :: fs, k, c :: bs, acc, b, s3, s4, hb, hl, hf, h1, h2, hB => by
    cases hd : vs.drop k with
    | nil => rw [hd] at hb; cases hb
    | cons v r =>
      rw [hd] at hb
      obtain ⟨v1, v2, v3⟩ := hb
      obtain ⟨f1, f2⟩ := hf f List.mem_cons_self
      obtain ⟨g1, g2⟩ := drop_cons hd
      have hfs : ∀ g ∈ fs, FOk g ∧ FB 4 g := fun g hg => hf g (List.mem_cons_of_mem _ hg)
      have hl' : fs.length ≤ bs.length := by simpa using hl
      simp only [budget] at hB
      by_cases h0 : f.1 ≠ 0
      · obtain ⟨s3', s4', ih⟩ := lworth_loop hv hp fs (k + 1) bs (fplus acc (ftimes f v)) (b + (4 + c) + 1) (some (.d (.int (k : Nat)))) (some (.d (fr f))) (by rw [g2]; exact v3) hl' hfs (fplus_ok h1 (ftimes_ok f1 v1)) (fplus_B h2 (ftimes_B f2 v2)) (by omega)
        refine ⟨s3', s4', ?_⟩
        have e1 := r_ltimes (st := st) f1 v1 f2 v2 (by omega) hp
        have e2 := r_lplus (st := st) h1 (ftimes_ok f1 v1) h2 (ftimes_B f2 v2) (by omega) hp
        rw [worthF, if_pos h0, ← g2, ← ih]
        simp [termsD, h0, forL, hv k v g1, e1, e2]
      · obtain ⟨s3', s4', ih⟩ := lworth_loop hv hp fs (k + 1) bs acc b s3 s4 (by rw [g2]; exact v3) hl' hfs h1 h2 (by omega)
        refine ⟨s3', s4', ?_⟩
        rw [worthF, if_neg h0, ← g2, ← ih]
        simp only [termsD, if_neg h0]
/-- a sum over n values -/
structure SmOk (n : Nat) (s : Sm) : Prop where
  len : s.1.length = n
  fs : ∀ f ∈ s.1, FOk f ∧ FB 4 f
  c : FOk s.2 ∧ FB 4 s.2
theorem r_worth {d : DV} {vs : List Fr} {bs : List Nat} {s : Sm} (hv : SeqD d st vs) (hs : SmOk bs.length s) (hb : FBs bs vs) (hB : 4 + budget bs < 8900) (hp : Pl st) : m_raw_worth [d, .d (smD s)] st = some (.d (fr (worth vs s)), st) := by
  refine run_d0 ?_ rfl hp
  obtain ⟨s3, s4, h⟩ := worth_loop (o := some (.d (smD s))) hv hp s.1 0 bs s.2 4 none none (by simpa using hb) (Nat.le_of_eq hs.len) hs.fs hs.c.1 hs.c.2 hB
  simp only [List.drop_zero, smD] at h
  simp only [List.map_cons, List.map_nil, smD]
  simp [b_raw_worth, h, worth]
theorem r_lworth {d : DV} {vs : List Fr} {bs : List Nat} {s : Sm} (hv : SeqD d st vs) (hs : SmOk bs.length s) (hb : FBs bs vs) (hB : 4 + budget bs < 8900) (hp : Pl st) : m__law_worth [.d (smD s), d] st = some (.d (fr (worth vs s)), st) := by
  refine run_d0 ?_ rfl hp
  obtain ⟨s3, s4, h⟩ := lworth_loop (o := some (.d (smD s))) hv hp s.1 0 bs s.2 4 none none (by simpa using hb) (Nat.le_of_eq hs.len) hs.fs hs.c.1 hs.c.2 hB
  simp only [List.drop_zero, smD] at h
  simp only [List.map_cons, List.map_nil, smD]
  simp [b__law_worth, h, worth]
theorem worth_ok {vs : List Fr} {bs : List Nat} {s : Sm} (hs : SmOk bs.length s) (hb : FBs bs vs) : FOk (worth vs s) ∧ FB (4 + budget bs) (worth vs s) := worthF_ok s.1 vs bs s.2 4 hs.fs hb hs.c.1 hs.c.2

/-! ### the checks of a sum -/
theorem r_is_pair_of {many : Int} {k : Nat} {f : Fr} (hk : (k : Int) < many) (hf : FOk f ∧ FB 4 f) (h0 : f.1 ≠ 0) (hp : Pl st) : m_is_pair_of [.d (.int many), .d (.tuple [.int (k : Nat), fr f])] st = some (.d (.bool true), st) := by
  refine run_d0 ?_ rfl hp
  have e := r_is_fraction (st := st) hf.1 hf.2 (by decide) hp
  have h1 : (0 : Int) ≤ k := Int.natCast_nonneg k
  have h2 : (k : Int) ≤ many - 1 := by omega
  have e2 := r_is_within (st := st) k 0 (many - 1) hp
  rw [decide_eq_true (⟨h1, h2⟩ : (0 : Int) ≤ k ∧ (k : Int) ≤ many - 1)] at e2
  have e3 : fIx (.d (fr f)) (.d (.int 0)) st = some (.d (.int f.1), st) := by simp [fr]
  simp [b_is_pair_of, r_is_tuple_of, hp, e2, e, e3, h0]
/-- a term: its place, its factor -/
def TermIn (lo : Nat) (hi : Nat) (x : PyData) : Prop := ∃ (k : Nat) (f : Fr), x = .tuple [.int (k : Nat), fr f] ∧ lo ≤ k ∧ k < hi ∧ FOk f ∧ FB 4 f ∧ f.1 ≠ 0
theorem terms_in : ∀ (fs : List Fr) (k : Nat), (∀ f ∈ fs, FOk f ∧ FB 4 f) → ∀ x ∈ termsD k fs, TermIn k (k + fs.length) x
  | [], k, _, x, h => by simp [termsD] at h
  | f :: fs, k, hf, x, h => by
    have ih := terms_in fs (k + 1) (fun g hg => hf g (List.mem_cons_of_mem _ hg))
    have lift : ∀ x, TermIn (k + 1) (k + 1 + fs.length) x → TermIn k (k + (f :: fs).length) x := fun x ⟨j, g, e, h1, h2, h3⟩ => ⟨j, g, e, by omega, by simp; omega, h3⟩
    rw [termsD] at h
    split at h
    · rename_i h0
      rcases List.mem_cons.mp h with e | h
      · have hf' := hf f List.mem_cons_self
        exact ⟨k, f, e, Nat.le_refl _, by simp, hf'.1, hf'.2, h0⟩
      · exact lift x (ih x h)
    · exact lift x (ih x h)
theorem terms_len : ∀ (fs : List Fr) (k : Nat), (termsD k fs).length ≤ fs.length
  | [], k => Nat.le_refl _
  | f :: fs, k => by
    have := terms_len fs (k + 1)
    rw [termsD]
    split <;> simp <;> omega
theorem all_true {n : Nat} : fAll [.d (.list (List.replicate n (.bool true)))] st = some (.d (.bool true), st) := by
  have h : ∀ n, bools (List.replicate n (.bool true)) = some (List.replicate n true) := fun n => by
    induction n with
    | zero => rfl
    | succ n ih => rw [List.replicate_succ, bools, ih]; rfl
  unfold fAll
  simp only [lstV, h]
  simp
theorem map_true {α : Type} (l : List α) : l.map (fun _ => PyData.bool true) = List.replicate l.length (.bool true) := by
  induction l with
  | nil => rfl
  | cons a l ih => rw [List.map_cons, ih]; rfl
/-- the terms, each with the one behind it, rise -/
theorem zip_rise : ∀ (fs : List Fr) (k : Nat), (∀ f ∈ fs, FOk f ∧ FB 4 f) → ∀ x ∈ zipP (termsD k fs) (termsD k fs).tail, ∃ (i j : Nat) (f g : Fr), x = .tuple [.tuple [.int (i : Nat), fr f], .tuple [.int (j : Nat), fr g]] ∧ i < j
  | [], k, _, x, h => by simp [termsD, zipP] at h
  | f :: fs, k, hf, x, h => by
    have hfs : ∀ g ∈ fs, FOk g ∧ FB 4 g := fun g hg => hf g (List.mem_cons_of_mem _ hg)
    have ih := zip_rise fs (k + 1) hfs
    rw [termsD] at h
    split at h
    · cases ht : termsD (k + 1) fs with
      | nil => rw [ht] at h; simp [zipP] at h
      | cons y ys =>
        rw [ht] at h ih
        have hy := terms_in fs (k + 1) hfs y (by rw [ht]; exact List.mem_cons_self)
        obtain ⟨j, g, e, h1, _⟩ := hy
        simp only [zipP, List.tail_cons, List.zipWith_cons_cons, List.mem_cons] at h
        rcases h with h | h
        · exact ⟨k, j, f, g, by rw [h, e], by omega⟩
        · exact ih x (by simpa [zipP] using h)
    · exact ih x h
theorem r_is_sum {n : Nat} {many : Int} {s : Sm} (hs : SmOk n s) (hn : (n : Int) ≤ many) (hz : n ≤ 1000) (hp : Pl st) : m_raw_is_sum [.d (.int many), .d (smD s)] st = some (.d (.bool true), st) := by
  refine run_d0 ?_ rfl hp
  have e1 := r_is_fraction (st := st) hs.c.1 hs.c.2 (by decide) hp
  have hl := terms_len s.1 0
  have hlen := hs.len
  have hl1 : (termsD 0 s.1).length ≤ 16777216 := by omega
  have e2 : lcL (gmName 4) mYes (mApp m_is_pair_of (mCons (mVar 0) (mCons (mVar 4) mNil))) always (termsD 0 s.1) [some (.d (.int many)), some (.d (smD s)), none, none, none] st = some ((termsD 0 s.1).map (fun _ => .bool true), st) := by
    refine lcL_map (fun _ => .bool true) rfl _ fun d hd => ?_
    obtain ⟨k, f, rfl, h1, h2, h3, h4, h5⟩ := terms_in s.1 0 hs.fs d hd
    have e := r_is_pair_of (st := st) (many := many) (k := k) (f := f) (by omega) ⟨h3, h4⟩ h5 hp
    exact ⟨_, rfl, by simp [e]⟩
  have e3 : lcL (gmTup 2 (gmCons (gmName 2) (gmCons (gmName 3) gmNil))) mYes (mBin fLt (mBin fIx (mVar 2) (mC (.int 0))) (mBin fIx (mVar 3) (mC (.int 0)))) always (zipP (termsD 0 s.1) (termsD 0 s.1).tail) [some (.d (.int many)), some (.d (smD s)), none, none, none] st = some ((zipP (termsD 0 s.1) (termsD 0 s.1).tail).map (fun _ => .bool true), st) := by
    refine lcL_map (fun _ => .bool true) rfl _ fun d hd => ?_
    obtain ⟨i, j, f, g, rfl, h1⟩ := zip_rise s.1 0 hs.fs d hd
    have h2 : (i : Int) < j := by omega
    refine ⟨_, rfl, ?_⟩
    simp [fr, h2]
  have hc : cutP (termsD 0 s.1) (some 1) none = (termsD 0 s.1).tail := by
    cases termsD 0 s.1 with
    | nil => rfl
    | cons x xs => exact cutP_tail
  have hl2 : (zipP (termsD 0 s.1) (termsD 0 s.1).tail).length ≤ 16777216 := by rw [zipP_length]; omega
  simp only [smD] at e2 e3
  rw [map_true] at e2 e3
  simp only [List.map_cons, List.map_nil, smD]
  simp [b_raw_is_sum, r_is_tuple_of, hp, e1, e2, e3, hl1, hl2, all_true, hc, mZip]
end
end Q

set_option Elab.async false
set_option linter.all false
set_option maxRecDepth 100000
set_option maxHeartbeats 4000000
/-! QD: cells, nets: their checks, their values -/
namespace Q
open PySem PySem.Spec PyProof.Rows L2 PD W
section
variable {st : Store}
theorem eq_str {a b : Str} {r : Bool} (ha : SeqAt.shaped (.str a) = true) (hb : SeqAt.shaped (.str b) = true) (h : PyData.eqv (.str a) (.str b) = r) : fEqB false (.d (.str a)) (.d (.str b)) st = some (.d (.bool r), st) := by
  unfold fEqB
  simp only [PD.view, ha, hb, h]
  cases r <;> rfl
theorem ne_str {a b : Str} {r : Bool} (ha : SeqAt.shaped (.str a) = true) (hb : SeqAt.shaped (.str b) = true) (h : PyData.eqv (.str a) (.str b) = !r) : fEqB true (.d (.str a)) (.d (.str b)) st = some (.d (.bool r), st) := by
  unfold fEqB
  simp only [PD.view, ha, hb, h]
  cases r <;> rfl
theorem in_tup {neg r : Bool} {a : PyData} {xs : List PyData} (ha : SeqAt.shaped a = true) (hb : SeqAt.shaped (.tuple xs) = true) (h : (xs.any fun z => PyData.eqv z a) = r) : fInA neg (.d a) (.d (.tuple xs)) st = some (.d (.bool (neg ^^ r)), st) := by
  show fInB neg (.d a) (.d (.tuple xs)) st = _
  unfold fInB
  simp only [ha, hb, h]
  rfl
@[simp] theorem w_cut_cut : fEqB false (.d (.str "cut")) (.d (.str "cut")) st = some (.d (.bool true), st) := eq_str (by decide +kernel) (by decide +kernel) (by decide +kernel)
@[simp] theorem w_cut_most : fEqB false (.d (.str "cut")) (.d (.str "most")) st = some (.d (.bool false), st) := eq_str (by decide +kernel) (by decide +kernel) (by decide +kernel)
@[simp] theorem w_cut_plain : fEqB false (.d (.str "cut")) (.d (.str "plain")) st = some (.d (.bool false), st) := eq_str (by decide +kernel) (by decide +kernel) (by decide +kernel)
@[simp] theorem w_cut_step : fEqB false (.d (.str "cut")) (.d (.str "step")) st = some (.d (.bool false), st) := eq_str (by decide +kernel) (by decide +kernel) (by decide +kernel)
@[simp] theorem w_cut_switch : fEqB false (.d (.str "cut")) (.d (.str "switch")) st = some (.d (.bool false), st) := eq_str (by decide +kernel) (by decide +kernel) (by decide +kernel)
@[simp] theorem n_cut_most : fEqB true (.d (.str "cut")) (.d (.str "most")) st = some (.d (.bool true), st) := ne_str (by decide +kernel) (by decide +kernel) (by decide +kernel)
@[simp] theorem in_cut : fInA true (.d (.str "cut")) (.d (.tuple [.str "cut", .str "most", .str "plain", .str "step", .str "switch"])) st = some (.d (.bool false), st) := in_tup (r := true) (by decide +kernel) (by decide +kernel) (by decide +kernel)
@[simp] theorem w_most_cut : fEqB false (.d (.str "most")) (.d (.str "cut")) st = some (.d (.bool false), st) := eq_str (by decide +kernel) (by decide +kernel) (by decide +kernel)
@[simp] theorem w_most_most : fEqB false (.d (.str "most")) (.d (.str "most")) st = some (.d (.bool true), st) := eq_str (by decide +kernel) (by decide +kernel) (by decide +kernel)
@[simp] theorem w_most_plain : fEqB false (.d (.str "most")) (.d (.str "plain")) st = some (.d (.bool false), st) := eq_str (by decide +kernel) (by decide +kernel) (by decide +kernel)
@[simp] theorem w_most_step : fEqB false (.d (.str "most")) (.d (.str "step")) st = some (.d (.bool false), st) := eq_str (by decide +kernel) (by decide +kernel) (by decide +kernel)
@[simp] theorem w_most_switch : fEqB false (.d (.str "most")) (.d (.str "switch")) st = some (.d (.bool false), st) := eq_str (by decide +kernel) (by decide +kernel) (by decide +kernel)
@[simp] theorem n_most_most : fEqB true (.d (.str "most")) (.d (.str "most")) st = some (.d (.bool false), st) := ne_str (by decide +kernel) (by decide +kernel) (by decide +kernel)
@[simp] theorem in_most : fInA true (.d (.str "most")) (.d (.tuple [.str "cut", .str "most", .str "plain", .str "step", .str "switch"])) st = some (.d (.bool false), st) := in_tup (r := true) (by decide +kernel) (by decide +kernel) (by decide +kernel)
@[simp] theorem w_plain_cut : fEqB false (.d (.str "plain")) (.d (.str "cut")) st = some (.d (.bool false), st) := eq_str (by decide +kernel) (by decide +kernel) (by decide +kernel)
@[simp] theorem w_plain_most : fEqB false (.d (.str "plain")) (.d (.str "most")) st = some (.d (.bool false), st) := eq_str (by decide +kernel) (by decide +kernel) (by decide +kernel)
@[simp] theorem w_plain_plain : fEqB false (.d (.str "plain")) (.d (.str "plain")) st = some (.d (.bool true), st) := eq_str (by decide +kernel) (by decide +kernel) (by decide +kernel)
@[simp] theorem w_plain_step : fEqB false (.d (.str "plain")) (.d (.str "step")) st = some (.d (.bool false), st) := eq_str (by decide +kernel) (by decide +kernel) (by decide +kernel)
@[simp] theorem w_plain_switch : fEqB false (.d (.str "plain")) (.d (.str "switch")) st = some (.d (.bool false), st) := eq_str (by decide +kernel) (by decide +kernel) (by decide +kernel)
@[simp] theorem n_plain_most : fEqB true (.d (.str "plain")) (.d (.str "most")) st = some (.d (.bool true), st) := ne_str (by decide +kernel) (by decide +kernel) (by decide +kernel)
@[simp] theorem in_plain : fInA true (.d (.str "plain")) (.d (.tuple [.str "cut", .str "most", .str "plain", .str "step", .str "switch"])) st = some (.d (.bool false), st) := in_tup (r := true) (by decide +kernel) (by decide +kernel) (by decide +kernel)
@[simp] theorem w_step_cut : fEqB false (.d (.str "step")) (.d (.str "cut")) st = some (.d (.bool false), st) := eq_str (by decide +kernel) (by decide +kernel) (by decide +kernel)
@[simp] theorem w_step_most : fEqB false (.d (.str "step")) (.d (.str "most")) st = some (.d (.bool false), st) := eq_str (by decide +kernel) (by decide +kernel) (by decide +kernel)
@[simp] theorem w_step_plain : fEqB false (.d (.str "step")) (.d (.str "plain")) st = some (.d (.bool false), st) := eq_str (by decide +kernel) (by decide +kernel) (by decide +kernel)
@[simp] theorem w_step_step : fEqB false (.d (.str "step")) (.d (.str "step")) st = some (.d (.bool true), st) := eq_str (by decide +kernel) (by decide +kernel) (by decide +kernel)
@[simp] theorem w_step_switch : fEqB false (.d (.str "step")) (.d (.str "switch")) st = some (.d (.bool false), st) := eq_str (by decide +kernel) (by decide +kernel) (by decide +kernel)
@[simp] theorem n_step_most : fEqB true (.d (.str "step")) (.d (.str "most")) st = some (.d (.bool true), st) := ne_str (by decide +kernel) (by decide +kernel) (by decide +kernel)
@[simp] theorem in_step : fInA true (.d (.str "step")) (.d (.tuple [.str "cut", .str "most", .str "plain", .str "step", .str "switch"])) st = some (.d (.bool false), st) := in_tup (r := true) (by decide +kernel) (by decide +kernel) (by decide +kernel)
@[simp] theorem w_switch_cut : fEqB false (.d (.str "switch")) (.d (.str "cut")) st = some (.d (.bool false), st) := eq_str (by decide +kernel) (by decide +kernel) (by decide +kernel)
@[simp] theorem w_switch_most : fEqB false (.d (.str "switch")) (.d (.str "most")) st = some (.d (.bool false), st) := eq_str (by decide +kernel) (by decide +kernel) (by decide +kernel)
@[simp] theorem w_switch_plain : fEqB false (.d (.str "switch")) (.d (.str "plain")) st = some (.d (.bool false), st) := eq_str (by decide +kernel) (by decide +kernel) (by decide +kernel)
@[simp] theorem w_switch_step : fEqB false (.d (.str "switch")) (.d (.str "step")) st = some (.d (.bool false), st) := eq_str (by decide +kernel) (by decide +kernel) (by decide +kernel)
@[simp] theorem w_switch_switch : fEqB false (.d (.str "switch")) (.d (.str "switch")) st = some (.d (.bool true), st) := eq_str (by decide +kernel) (by decide +kernel) (by decide +kernel)
@[simp] theorem n_switch_most : fEqB true (.d (.str "switch")) (.d (.str "most")) st = some (.d (.bool true), st) := ne_str (by decide +kernel) (by decide +kernel) (by decide +kernel)
@[simp] theorem in_switch : fInA true (.d (.str "switch")) (.d (.tuple [.str "cut", .str "most", .str "plain", .str "step", .str "switch"])) st = some (.d (.bool false), st) := in_tup (r := true) (by decide +kernel) (by decide +kernel) (by decide +kernel)

inductive Cl where
  | plain (s : Sm)
  | cut (s : Sm)
  | step (s : Sm)
  | switch (a b c : Sm)
  | most (ss : List Sm)
def Cl.sums : Cl → List Sm
  | .plain s => [s]
  | .cut s => [s]
  | .step s => [s]
  | .switch a b c => [a, b, c]
  | .most ss => ss
def cellD : Cl → PyData
  | .plain s => .tuple [.str "plain", smD s]
  | .cut s => .tuple [.str "cut", smD s]
  | .step s => .tuple [.str "step", smD s]
  | .switch a b c => .tuple [.str "switch", smD a, smD b, smD c]
  | .most ss => .tuple [.str "most", .tuple (ss.map smD)]
structure ClOk (n : Nat) (c : Cl) : Prop where
  sums : ∀ s ∈ c.sums, SmOk n s
  two : ∀ ss, c = .most ss → 2 ≤ ss.length ∧ ss.length ≤ 4
theorem ClOk.pos {n : Nat} {c : Cl} (h : ClOk n c) : ∃ s r, c.sums = s :: r := by
  cases c with
  | most ss =>
    have := (h.two ss rfl).1
    cases ss with
    | nil => simp at this
    | cons s r => exact ⟨s, r, rfl⟩
  | _ => exact ⟨_, _, rfl⟩
theorem r_all {xs : List PyData} (h : xs = List.replicate xs.length (.bool true)) : fAll [.d (.list xs)] st = some (.d (.bool true), st) := by
  rw [h]
  exact all_true
/-- every sum of a list is a sum -/
theorem lc_sums {n : Nat} {many : Int} {i : Nat} {s0 : SE} (hn : (n : Int) ≤ many) (hz : n ≤ 1000) (hp : Pl st) (ss : List Sm) (h : ∀ s ∈ ss, SmOk n s) (f : EM) (hf : ∀ s ∈ ss, f (s0.set i (some (.d (smD s)))) st = m_raw_is_sum [.d (.int many), .d (smD s)] st) :
    lcL (gmName i) mYes f always (ss.map smD) s0 st = some (List.replicate ss.length (.bool true), st) := by
  have := lcL_map (gm := gmName i) (e := f) (g := always) (s := s0) (st := st) (fun _ => .bool true) rfl (ss.map smD) fun d hd => by
    obtain ⟨s, hs, rfl⟩ := List.mem_map.mp hd
    exact ⟨_, rfl, by rw [hf s hs, r_is_sum (h s hs) hn hz hp]⟩
  rw [this, map_true, List.length_map]
theorem r_is_cell {n : Nat} {many : Int} {c : Cl} (hc : ClOk n c) (hn : (n : Int) ≤ many) (hz : n ≤ 1000) (hp : Pl st) : m_raw_is_cell [.d (.int many), .d (cellD c)] st = some (.d (.bool true), st) := by
  refine run_d0 ?_ rfl hp
  have one : ∀ (x : PyData) (s : Sm) (z : PyData), SmOk n s → lcL (gmName 3) mYes (mApp m_raw_is_sum (mCons (mVar 0) (mCons (mVar 3) mNil))) always [smD s] [some (.d (.int many)), some (.d x), some (.d z), none] st = some (List.replicate 1 (.bool true), st) := fun x s z h =>
    lc_sums (i := 3) hn hz hp [s] (fun s' hs' => by simp at hs'; subst hs'; exact h) _ (fun s' _ => by simp)
  cases c with
  | plain s =>
    have e := one (cellD (.plain s)) s (.int 2) (hc.sums s (by simp [Cl.sums]))
    simp only [cellD] at e
    simp [b_raw_is_cell, cellD, cutP_tail, e, r_all]
  | cut s =>
    have e := one (cellD (.cut s)) s (.int 2) (hc.sums s (by simp [Cl.sums]))
    simp only [cellD] at e
    simp [b_raw_is_cell, cellD, cutP_tail, e, r_all]
  | step s =>
    have e := one (cellD (.step s)) s (.int 2) (hc.sums s (by simp [Cl.sums]))
    simp only [cellD] at e
    simp [b_raw_is_cell, cellD, cutP_tail, e, r_all]
  | switch a b d =>
    have e := lc_sums (i := 3) (s0 := [some (.d (.int many)), some (.d (cellD (.switch a b d))), some (.d (.int 4)), none]) hn hz hp [a, b, d] hc.sums (mApp m_raw_is_sum (mCons (mVar 0) (mCons (mVar 3) mNil))) (fun s' _ => by simp)
    simp only [cellD, List.map_cons, List.map_nil] at e
    simp [b_raw_is_cell, cellD, cutP_tail, e, r_all]
  | most ss =>
    have e := lc_sums (i := 3) (s0 := [some (.d (.int many)), some (.d (cellD (.most ss))), none, none]) hn hz hp ss hc.sums (mApp m_raw_is_sum (mCons (mVar 0) (mCons (mVar 3) mNil))) (fun s' _ => by simp)
    obtain ⟨h2, h4⟩ := hc.two ss rfl
    have g2 : (2 : Int) ≤ (ss.length : Int) := by omega
    have g4 : (ss.length : Int) ≤ 4 := by omega
    have hl : ss.length ≤ 16777216 := by omega
    simp only [cellD] at e
    simp [b_raw_is_cell, cellD, e, r_all, g2, g4, hl]

/-! ### nets -/
structure Nt where
  m : Nat
  cells : List Cl
  outs : List Sm
def netD (t : Nt) : PyData := .tuple [.int (t.m : Nat), .tuple (t.cells.map cellD), .tuple (t.outs.map smD)]
structure NtOk (t : Nt) : Prop where
  m1 : 1 ≤ t.m
  m3 : t.m ≤ 3
  c3 : t.cells.length ≤ 3
  o1 : 1 ≤ t.outs.length
  o2 : t.outs.length ≤ 2
  cells : ∀ (i : Nat) (c : Cl), t.cells[i]? = some c → ClOk (t.m + i) c
  outs : ∀ s ∈ t.outs, SmOk (t.m + t.cells.length) s
theorem mem_enumP {xs : List PyData} {x : PyData} (h : x ∈ enumP xs) : ∃ (i : Nat) (y : PyData), xs[i]? = some y ∧ x = .tuple [.int (i : Nat), y] := by
  obtain ⟨i, hi⟩ := List.mem_iff_getElem?.mp h
  have hl := (List.getElem?_eq_some_iff.mp hi).1
  rw [enumP_length] at hl
  have e := enumP_get (i := i) (x := xs[i]) (List.getElem?_eq_getElem hl)
  rw [e] at hi
  exact ⟨i, xs[i], List.getElem?_eq_getElem hl, (Option.some.inj hi).symm⟩
theorem r_is_net {t : Nt} (ht : NtOk t) (hp : Pl st) : m_is_net [.d (netD t)] st = some (.d (.bool true), st) := by
  refine run_d0 ?_ rfl hp
  have g1 : (1 : Int) ≤ (t.m : Int) := by have := ht.m1; omega
  have g2 : (t.m : Int) ≤ 4 := by have := ht.m3; omega
  have e1 := r_is_within (st := st) t.m 1 4 hp
  rw [decide_eq_true (⟨g1, g2⟩ : (1 : Int) ≤ t.m ∧ (t.m : Int) ≤ 4)] at e1
  have c3 := ht.c3
  have o1 := ht.o1
  have o2 := ht.o2
  have m3 := ht.m3
  have g3 : ¬ ((40 : Int) < (t.cells.length : Int)) := by omega
  have g4 : (1 : Int) ≤ (t.outs.length : Int) := by omega
  have g5 : (t.outs.length : Int) ≤ 4 := by omega
  have hl1 : (enumP (t.cells.map cellD)).length ≤ 16777216 := by rw [enumP_length, List.length_map]; omega
  have hl2 : t.outs.length ≤ 16777216 := by omega
  have e2 : lcL (gmTup 2 (gmCons (gmName 5) (gmCons (gmName 6) gmNil))) mYes (mApp m_raw_is_cell (mCons (mBin fAdd (mVar 1) (mVar 5)) (mCons (mVar 6) mNil))) always (enumP (t.cells.map cellD))
      [some (.d (netD t)), some (.d (.int (t.m : Nat))), some (.d (.tuple (t.cells.map cellD))), some (.d (.tuple (t.outs.map smD))), none, none, none] st = some ((enumP (t.cells.map cellD)).map (fun _ => .bool true), st) := by
    refine lcL_map (fun _ => .bool true) rfl _ fun d hd => ?_
    obtain ⟨i, y, hi, rfl⟩ := mem_enumP hd
    rw [List.getElem?_map] at hi
    cases hc : t.cells[i]? with
    | none => rw [hc] at hi; cases hi
    | some c =>
      rw [hc] at hi
      cases hi
      have hlt := (List.getElem?_eq_some_iff.mp hc).1
      have e := r_is_cell (st := st) (many := (t.m : Int) + (i : Int)) (ht.cells i c hc) (by omega) (by omega) hp
      exact ⟨_, rfl, by simp [e]⟩
  rw [map_true] at e2
  have e3 := lc_sums (st := st) (i := 4) (many := (t.m : Int) + (t.cells.length : Int)) (s0 := [some (.d (netD t)), some (.d (.int (t.m : Nat))), some (.d (.tuple (t.cells.map cellD))), some (.d (.tuple (t.outs.map smD))), none, none, none]) (by omega) (by omega) hp t.outs ht.outs (mApp m_raw_is_sum (mCons (mBin fAdd (mVar 1) (mApp fLen (mCons (mVar 2) mNil))) (mCons (mVar 4) mNil))) (fun s' _ => by simp)
  simp only [netD] at e2 e3
  simp [b_is_net, netD, r_is_tuple_of, hp, e1, e2, e3, g3, g4, g5, hl1, hl2, all_true]
theorem r_check_net {t : Nt} (ht : NtOk t) (hp : Pl st) : m_check_net [.d (netD t)] st = some (.d .none, st) := by
  refine run_nx0 (s' := [some (.d (netD t))]) ?_ rfl hp
  simp [b_check_net, r_is_net ht hp]
theorem r_cell_sums {n : Nat} {c : Cl} (hc : ClOk n c) (hp : Pl st) : m_raw_cell_sums [.d (cellD c)] st = some (.d (.tuple (c.sums.map smD)), st) := by
  refine run_d0 ?_ rfl hp
  cases c <;> simp [b_raw_cell_sums, cellD, Cl.sums, cutP_tail]
theorem r_lsums {n : Nat} {c : Cl} (hc : ClOk n c) (hp : Pl st) : m__law_sums [.d (cellD c)] st = some (.d (.tuple (c.sums.map smD)), st) := by
  refine run_d0 ?_ rfl hp
  cases c <;> simp [b__law_sums, cellD, Cl.sums, cutP_tail]
end
end Q

set_option Elab.async false
set_option linter.all false
set_option maxRecDepth 100000
set_option maxHeartbeats 4000000
/-! QE: what cells and nets are worth -/
namespace Q
open PySem PySem.Spec PyProof.Rows L2 PD W

/-! ### the ends of a store -/
@[simp] theorem get_at0 {st r : Store} {a : Option MO} : (st ++ a :: r)[st.length]? = some a := by simp
@[simp] theorem get_at1 {st r : Store} {a b : Option MO} : (st ++ a :: b :: r)[st.length + 1]? = some b := by simp
@[simp] theorem set_at0 {st r : Store} {a x : Option MO} : (st ++ a :: r).set st.length x = st ++ x :: r := by simp
@[simp] theorem set_at1 {st r : Store} {a b x : Option MO} : (st ++ a :: b :: r).set (st.length + 1) x = st ++ a :: x :: r := by
  rw [List.set_append_right _ _ (Nat.le_succ _)]
  simp
theorem append_at {m me : EM} {s : SE} {st0 st : Store} {n : Nat} {x : PyData} {xs : List PyData} (hm : m s st0 = some (.r n, st)) (he : me s st = some (.d x, st)) (hn : st[n]? = some (some (.lst xs))) (hl : xs.length < 16777216) : mAppend m me s st0 = some (.d .none, st.set n (some (.lst (xs ++ [x])))) := by
  unfold mAppend
  simp only [hm, isL, hn, if_true, he, decide_eq_true hl, setL]
theorem Pl.more {st more : Store} (h : Pl st) (h' : Pl more) : Pl (st ++ more) := h.app h'
theorem pl1 {st : Store} {xs : List PyData} (h : Pl st) : Pl (st ++ [some (.lst xs)]) := h.app (.one rfl)
theorem pl2 {st : Store} {xs ys : List PyData} (h : Pl st) : Pl (st ++ [some (.lst xs), some (.lst ys)]) := h.app fun o ho => by
  simp at ho
  rcases ho with rfl | rfl <;> rfl
theorem pl0 {st : Store} (h : Pl st) : Pl (st ++ [none]) := h.app (.one rfl)

/-! ### the values -/
def cval : Cl → List Fr → Fr
  | .plain _, p :: _ => p
  | .cut _, p :: _ => fcut p
  | .step _, p :: _ => if 0 < p.1 then (1, 1) else (0, 1)
  | .switch _ _ _, p :: q :: r :: _ => if 0 < p.1 then q else r
  | .most _, p :: ps => ps.foldl fgreater p
  | _, _ => (0, 1)
def parts (vs : List Fr) (c : Cl) : List Fr := c.sums.map (worth vs)
def cellVal (vs : List Fr) (c : Cl) : Fr := cval c (parts vs c)
def srcs : List Fr → List Cl → List Fr
  | vs, [] => vs
  | vs, c :: cs => srcs (vs ++ [cellVal vs c]) cs
def bext : List Nat → Nat → List Nat
  | bs, 0 => bs
  | bs, n + 1 => bext (bs ++ [4 + budget bs]) n
theorem bext_le : ∀ (n : Nat) (bs : List Nat), budget bs ≤ budget (bext bs n)
  | 0, bs => Nat.le_refl _
  | n + 1, bs => by
    have := bext_le n (bs ++ [4 + budget bs])
    rw [budget_app] at this
    rw [bext]
    omega
theorem bext_len : ∀ (n : Nat) (bs : List Nat), (bext bs n).length = bs.length + n
  | 0, bs => rfl
  | n + 1, bs => by rw [bext, bext_len n]; simp; omega
theorem fcut_ok {b : Nat} {x : Fr} (h : FOk x ∧ FB b x) (hb : 1 ≤ b) : FOk (fcut x) ∧ FB b (fcut x) := by
  unfold fcut
  split
  · exact h
  · refine ⟨⟨by decide, by decide⟩, ?_, ?_⟩
    · show (0 : Int).natAbs < 2 ^ b
      simpa using Nat.two_pow_pos b
    · show (1 : Int).natAbs < 2 ^ b
      have : 2 ^ 1 ≤ 2 ^ b := Nat.pow_le_pow_right (by decide) hb
      simp at this ⊢
      omega
theorem lit_ok {b : Nat} (hb : 1 ≤ b) (n : Int) (h : n = 0 ∨ n = 1) : FOk (n, 1) ∧ FB b (n, 1) := by
  have h2 : 2 ^ 1 ≤ 2 ^ b := Nat.pow_le_pow_right (by decide) hb
  rcases h with rfl | rfl
  · refine ⟨⟨by decide, by decide⟩, ?_, ?_⟩
    · show (0 : Int).natAbs < 2 ^ b
      simp at h2 ⊢
      omega
    · show (1 : Int).natAbs < 2 ^ b
      simp at h2 ⊢
      omega
  · refine ⟨⟨by decide, by decide⟩, ?_, ?_⟩
    · show (1 : Int).natAbs < 2 ^ b
      simp at h2 ⊢
      omega
    · show (1 : Int).natAbs < 2 ^ b
      simp at h2 ⊢
      omega
theorem fgreater_ok {b : Nat} {x y : Fr} (hx : FOk x ∧ FB b x) (hy : FOk y ∧ FB b y) : FOk (fgreater x y) ∧ FB b (fgreater x y) := by
  unfold fgreater
  split
  · exact hy
  · exact hx
theorem fold_ok {b : Nat} : ∀ (ps : List Fr) (x : Fr), FOk x ∧ FB b x → (∀ p ∈ ps, FOk p ∧ FB b p) → FOk (ps.foldl fgreater x) ∧ FB b (ps.foldl fgreater x)
  | [], x, hx, _ => hx
  | p :: ps, x, hx, h => fold_ok ps (fgreater x p) (fgreater_ok hx (h p List.mem_cons_self)) fun q hq => h q (List.mem_cons_of_mem _ hq)
theorem parts_ok {vs : List Fr} {bs : List Nat} {c : Cl} (hc : ClOk bs.length c) (hb : FBs bs vs) : ∀ p ∈ parts vs c, FOk p ∧ FB (4 + budget bs) p := fun p hp => by
  obtain ⟨s, hs, rfl⟩ := List.mem_map.mp hp
  exact worth_ok (hc.sums s hs) hb
theorem cval_ok {b : Nat} (hb : 1 ≤ b) {ps : List Fr} (c : Cl) (h : ∀ p ∈ ps, FOk p ∧ FB b p) : FOk (cval c ps) ∧ FB b (cval c ps) := by
  have z := lit_ok hb 0 (.inl rfl)
  have o := lit_ok hb 1 (.inr rfl)
  unfold cval
  split
  · exact h _ (by simp)
  · exact fcut_ok (h _ (by simp)) hb
  · split
    · exact o
    · exact z
  · split
    · exact h _ (by simp)
    · exact h _ (by simp)
  · exact fold_ok _ _ (h _ (by simp)) fun q hq => h q (by simp [hq])
  · exact z
theorem cellVal_ok {vs : List Fr} {bs : List Nat} {c : Cl} (hc : ClOk bs.length c) (hb : FBs bs vs) : FOk (cellVal vs c) ∧ FB (4 + budget bs) (cellVal vs c) := cval_ok (by omega) c (parts_ok hc hb)
theorem srcs_ok : ∀ (cs : List Cl) (vs : List Fr) (bs : List Nat), (∀ (i : Nat) (c : Cl), cs[i]? = some c → ClOk (bs.length + i) c) → FBs bs vs → FBs (bext bs cs.length) (srcs vs cs)
  | [], vs, bs, _, hb => hb
  | c :: cs, vs, bs, hc, hb => by
    have h0 := hc 0 c rfl
    have h1 := cellVal_ok (by simpa using h0) hb
    refine srcs_ok cs (vs ++ [cellVal vs c]) (bs ++ [4 + budget bs]) (fun i c' h => ?_) (hb.snoc h1.1 h1.2)
    have := hc (i + 1) c' (by simpa using h)
    rw [List.length_append, List.length_singleton, show bs.length + 1 + i = bs.length + (i + 1) by omega]
    exact this
section
variable {st : Store}
theorem greats {b : Nat} (hb : b + b < 8900) (hp : Pl st) (a0 a1 : Option DV) : ∀ (ps : List Fr) (x : Fr) (s3 : Option DV), FOk x ∧ FB b x → (∀ p ∈ ps, FOk p ∧ FB b p) →
    ∃ s3', forL (gmName 3) (mSet 2 (mApp m_raw_greater (mCons (mVar 2) (mCons (mVar 3) mNil)))) always (ps.map fr) [a0, a1, some (.d (fr x)), s3] st = some (.nx [a0, a1, some (.d (fr (ps.foldl fgreater x))), s3'] st)
  | [], x, s3, _, _ => ⟨s3, by simp [forL]⟩
  | p :: ps, x, s3, hx, h => by
    have hp' := h p List.mem_cons_self
    obtain ⟨s3', ih⟩ := greats hb hp a0 a1 ps (fgreater x p) (some (.d (fr p))) (fgreater_ok hx hp') fun q hq => h q (List.mem_cons_of_mem _ hq)
    have e := r_greater (st := st) hx.2 hp'.2 hb hp
    refine ⟨s3', ?_⟩
    rw [List.foldl_cons, ← ih]
    simp [forL, e]
def wordD : Cl → Str
  | .plain _ => "plain"
  | .cut _ => "cut"
  | .step _ => "step"
  | .switch _ _ _ => "switch"
  | .most _ => "most"
theorem cell_word {c : Cl} : fIx (.d (cellD c)) (.d (.int 0)) st = some (.d (.str (wordD c)), st) := by cases c <;> simp [cellD, wordD]
theorem r_value_by {b n : Nat} {vs : List Fr} {c : Cl} (hc : ClOk n c) (h : ∀ p ∈ parts vs c, FOk p ∧ FB b p) (hb : b + b < 8900) (hp : Pl st) : m_value_by [.d (.str (wordD c)), .d (.list ((parts vs c).map fr))] st = some (.d (fr (cellVal vs c)), st) := by
  refine run_d0 ?_ rfl hp
  cases c with
  | plain s => simp [b_value_by, wordD, parts, Cl.sums, cellVal, cval]
  | cut s => simp [b_value_by, wordD, parts, Cl.sums, cellVal, cval, r_cut, hp]
  | step s =>
    have e : fIx (.d (fr (worth vs s))) (.d (.int 0)) st = some (.d (.int (worth vs s).1), st) := by simp [fr]
    by_cases h0 : 0 < (worth vs s).1 <;> simp [b_value_by, wordD, parts, Cl.sums, cellVal, cval, e, h0] <;> simp [fr]
  | switch x y z =>
    have e : fIx (.d (fr (worth vs x))) (.d (.int 0)) st = some (.d (.int (worth vs x).1), st) := by simp [fr]
    by_cases h0 : 0 < (worth vs x).1 <;> simp [b_value_by, wordD, parts, Cl.sums, cellVal, cval, e, h0]
  | most ss =>
    obtain ⟨s, r, hs⟩ := hc.pos
    simp only [Cl.sums] at hs
    subst hs
    simp only [parts, Cl.sums, List.map_cons] at h ⊢
    obtain ⟨s3', e⟩ := greats hb hp (some (.d (.str "most"))) (some (.d (.list (fr (worth vs s) :: (r.map (worth vs)).map fr)))) (r.map (worth vs)) (worth vs s) none (h _ (by simp)) fun q hq => h q (by simp only [List.mem_cons]; exact .inr hq)
    simp [b_value_by, wordD, cutP_tail, e, cellVal, cval, parts, Cl.sums, -List.map_map]
theorem lc_worth {d : DV} {vs : List Fr} {bs : List Nat} {s0 : SE} {i : Nat} {e : EM} (hv : SeqD d st vs) (hb : FBs bs vs) (hB : 4 + budget bs < 4000) (hp : Pl st) (ss : List Sm) (h : ∀ s ∈ ss, SmOk bs.length s) (he : ∀ s ∈ ss, e (s0.set i (some (.d (smD s)))) st = m_raw_worth [d, .d (smD s)] st) :
    lcL (gmName i) mYes e always (ss.map smD) s0 st = some ((ss.map (worth vs)).map fr, st) := by
  have : ∀ ss : List Sm, (∀ s ∈ ss, SmOk bs.length s) → (∀ s ∈ ss, e (s0.set i (some (.d (smD s)))) st = m_raw_worth [d, .d (smD s)] st) → lcL (gmName i) mYes e always (ss.map smD) s0 st = some ((ss.map (worth vs)).map fr, st) := fun ss => by
    induction ss with
    | nil => intro _ _; simp [lcL]
    | cons s r ih =>
      intro h he
      have e1 := he s List.mem_cons_self
      rw [r_worth hv (h s List.mem_cons_self) hb (by omega) hp] at e1
      have e2 := ih (fun t ht => h t (List.mem_cons_of_mem _ ht)) (fun t ht => he t (List.mem_cons_of_mem _ ht))
      simp only [List.map_cons, lcL, e_always, if_true, e_gmName, e_mYes, e1, e2]
  exact this ss h he
theorem lc_lworth {d : DV} {vs : List Fr} {bs : List Nat} {s0 : SE} {i : Nat} {e : EM} (hv : SeqD d st vs) (hb : FBs bs vs) (hB : 4 + budget bs < 4000) (hp : Pl st) (ss : List Sm) (h : ∀ s ∈ ss, SmOk bs.length s) (he : ∀ s ∈ ss, e (s0.set i (some (.d (smD s)))) st = m__law_worth [.d (smD s), d] st) :
    lcL (gmName i) mYes e always (ss.map smD) s0 st = some ((ss.map (worth vs)).map fr, st) := by
  have : ∀ ss : List Sm, (∀ s ∈ ss, SmOk bs.length s) → (∀ s ∈ ss, e (s0.set i (some (.d (smD s)))) st = m__law_worth [.d (smD s), d] st) → lcL (gmName i) mYes e always (ss.map smD) s0 st = some ((ss.map (worth vs)).map fr, st) := fun ss => by
    induction ss with
    | nil => intro _ _; simp [lcL]
    | cons s r ih =>
      intro h he
      have e1 := he s List.mem_cons_self
      rw [r_lworth hv (h s List.mem_cons_self) hb (by omega) hp] at e1
      have e2 := ih (fun t ht => h t (List.mem_cons_of_mem _ ht)) (fun t ht => he t (List.mem_cons_of_mem _ ht))
      simp only [List.map_cons, lcL, e_always, if_true, e_gmName, e_mYes, e1, e2]
  exact this ss h he
theorem sums_len {n : Nat} {c : Cl} (hc : ClOk n c) : c.sums.length ≤ 4 := by
  cases c with
  | most ss => exact (hc.two ss rfl).2
  | _ => simp [Cl.sums]
theorem r_cell_value {d : DV} {vs : List Fr} {bs : List Nat} {c : Cl} (hv : SeqD d st vs) (hc : ClOk bs.length c) (hb : FBs bs vs) (hB : 4 + budget bs < 4000) (hp : Pl st) : m_raw_cell_value [.d (cellD c), d] st = some (.d (fr (cellVal vs c)), st) := by
  refine run_d0 ?_ rfl hp
  have e1 := r_cell_sums (st := st) hc hp
  have e2 := lc_worth (st := st) (i := 3) (s0 := [some (.d (cellD c)), some d, none, none]) hv hb hB hp c.sums hc.sums (e := mApp m_raw_worth (mCons (mVar 1) (mCons (mVar 3) mNil))) fun s _ => by simp
  have e3 := r_value_by (st := st) hc (parts_ok hc hb) (by omega) hp
  have hl := sums_len hc
  have hl2 : c.sums.length ≤ 16777216 := by omega
  rw [parts] at e3
  simp only [List.map_map] at e2 e3
  simp [b_raw_cell_value, e1, e2, e3, hl2, cell_word]
/-- the sources grow, cell by cell -/
theorem sources_loop (hp : Pl st) (a0 a1 : Option DV) : ∀ (cs : List Cl) (vs : List Fr) (bs : List Nat) (s3 : Option DV), (∀ (i : Nat) (c : Cl), cs[i]? = some c → ClOk (bs.length + i) c) → FBs bs vs → 4 + budget (bext bs cs.length) < 4000 → bs.length + cs.length < 1000 →
    ∃ s3', forL (gmName 3) (mDrop (mAppend (mVar 2) (mApp m_raw_cell_value (mCons (mVar 3) (mCons (mVar 2) mNil))))) always (cs.map cellD) [a0, a1, some (.r st.length), s3] (st ++ [some (.lst (vs.map fr))]) = some (.nx [a0, a1, some (.r st.length), s3'] (st ++ [some (.lst ((srcs vs cs).map fr))]))
  | [], vs, bs, s3, _, _, _, _ => ⟨s3, by simp [forL, srcs]⟩
  | c :: cs, vs, bs, s3, hc, hb, hB, hz => by
    have h0 : ClOk bs.length c := by simpa using hc 0 c rfl
    have h1 := cellVal_ok h0 hb
    have hbl := bext_le (c :: cs).length bs
    have hvl := hb.length
    obtain ⟨s3', ih⟩ := sources_loop hp a0 a1 cs (vs ++ [cellVal vs c]) (bs ++ [4 + budget bs]) (some (.d (cellD c))) (fun i c' h => by
      have := hc (i + 1) c' (by simpa using h)
      rw [List.length_append, List.length_singleton, show bs.length + 1 + i = bs.length + (i + 1) by omega]
      exact this) (hb.snoc h1.1 h1.2) hB (by simp at hz ⊢; omega)
    have e1 := r_cell_value (st := st ++ [some (.lst (vs.map fr))]) (d := .r st.length) (seq_ref (by simp)) h0 hb (by omega) (pl1 hp)
    have e2 := append_at (m := mVar 2) (me := mApp m_raw_cell_value (mCons (mVar 3) (mCons (mVar 2) mNil))) (s := [a0, a1, some (.r st.length), some (.d (cellD c))]) (st0 := st ++ [some (.lst (vs.map fr))]) (st := st ++ [some (.lst (vs.map fr))]) (n := st.length) (x := fr (cellVal vs c)) (xs := vs.map fr) (by simp) (by simp [e1]) (by simp) (by rw [List.length_map]; simp at hz; omega)
    refine ⟨s3', ?_⟩
    rw [srcs, ← ih]
    simp only [List.map_cons, forL, e_always, if_true, e_gmName, List.set_cons_succ, List.set_cons_zero, e_mDrop, e2, set_at0, List.map_append, List.map_nil]
/-- the places where a net's sources end: n sources, then the cells -/
structure Room1 (n : Nat) (t : Nt) (bs : List Nat) : Prop where
  len : bs.length = t.m
  bud : 4 + budget (bext bs t.cells.length) < 3900
theorem NtOk.clOk {t : Nt} (ht : NtOk t) {bs : List Nat} (hl : bs.length = t.m) : ∀ (i : Nat) (c : Cl), t.cells[i]? = some c → ClOk (bs.length + i) c := fun i c h => by rw [hl]; exact ht.cells i c h
theorem r_sources {t : Nt} {pts : List Fr} {bs : List Nat} (ht : NtOk t) (hl : bs.length = t.m) (hb : FBs bs pts) (hB : 4 + budget (bext bs t.cells.length) < 4000) (hp : Pl st) : m_raw_sources_at [.d (netD t), .d (.tuple (pts.map fr))] st = some (.d (.list ((srcs pts t.cells).map fr)), st) := by
  obtain ⟨s3', e⟩ := sources_loop hp (some (.d (netD t))) (some (.d (.tuple (pts.map fr)))) t.cells pts bs none (ht.clOk hl) hb hB (by have := ht.m3; have := ht.c3; omega)
  refine run_d (more := [none]) ?_ rfl (pl0 hp)
  simp only [netD] at e
  simp only [List.map_cons, List.map_nil, netD]
  simp [b_raw_sources_at, e, mRetF]
def runF (t : Nt) (pts : List Fr) : List Fr := t.outs.map (worth (srcs pts t.cells))
theorem r_run {t : Nt} {pts : List Fr} {bs : List Nat} (ht : NtOk t) (hl : bs.length = t.m) (hb : FBs bs pts) (hB : 4 + budget (bext bs t.cells.length) < 4000) (hp : Pl st) : m_raw_run [.d (netD t), .d (.tuple (pts.map fr))] st = some (.d (.tuple ((runF t pts).map fr)), st) := by
  refine run_d0 ?_ rfl hp
  have e1 := r_sources (st := st) ht hl hb hB hp
  have hs := srcs_ok t.cells pts bs (ht.clOk hl) hb
  have hlen := bext_len t.cells.length bs
  have e2 := lc_worth (st := st) (i := 3) (s0 := [some (.d (netD t)), some (.d (.tuple (pts.map fr))), some (.d (.list ((srcs pts t.cells).map fr))), none]) (d := .d (.list ((srcs pts t.cells).map fr))) seq_list hs hB hp t.outs (fun s h => by rw [hlen, hl]; exact ht.outs s h) (e := mApp m_raw_worth (mCons (mVar 2) (mCons (mVar 3) mNil))) fun s _ => by simp
  have ho := ht.o2
  have ho2 : t.outs.length ≤ 16777216 := by omega
  simp only [netD] at e1 e2
  simp only [List.map_cons, List.map_nil, netD]
  simp [b_raw_run, e1, ho2] at e2 ⊢
  rw [e2]
  simp [runF]
end
end Q

set_option Elab.async false
set_option linter.all false
set_option maxRecDepth 100000
set_option maxHeartbeats 4000000
/-! QF: signs; what the law works out itself -/
namespace Q
open PySem PySem.Spec PyProof.Rows L2 PD W

theorem feq {x y : Fr} (hx : FOk x) (hy : FOk y) (h : x.1 * y.2 = y.1 * x.2) : x = y := by
  have hn : x.1.natAbs * y.2.natAbs = y.1.natAbs * x.2.natAbs := by rw [← Int.natAbs_mul, ← Int.natAbs_mul, h]
  have cx : Nat.Coprime x.2.natAbs x.1.natAbs := by
    have : Nat.gcd x.1.natAbs x.2.natAbs = 1 := hx.2
    rw [Nat.Coprime, Nat.gcd_comm]; exact this
  have cy : Nat.Coprime y.2.natAbs y.1.natAbs := by
    have : Nat.gcd y.1.natAbs y.2.natAbs = 1 := hy.2
    rw [Nat.Coprime, Nat.gcd_comm]; exact this
  have d1 : x.2.natAbs ∣ y.2.natAbs := cx.dvd_of_dvd_mul_left (by rw [hn]; exact Nat.dvd_mul_left _ _)
  have d2 : y.2.natAbs ∣ x.2.natAbs := cy.dvd_of_dvd_mul_left (by rw [← hn]; exact Nat.dvd_mul_left _ _)
  have e := Nat.dvd_antisymm d1 d2
  have p1 := hx.1
  have p2 := hy.1
  have e2 : x.2 = y.2 := by omega
  rw [e2] at h
  have e1 : x.1 = y.1 := Int.eq_of_mul_eq_mul_right (by omega) h
  exact Prod.ext e1 e2
/-- the first place of the greatest -/
def amaxL (ps : List Fr) : Nat → Nat → List Fr → Nat
  | _, cur, [] => cur
  | k, cur, p :: r => amaxL ps (k + 1) (if flt (ps.getD cur (0, 1)) p then k else cur) r
theorem amax_val {ps : List Fr} (hps : ∀ p ∈ ps, FOk p) : ∀ (r : List Fr) (k cur : Nat) (x : Fr), ps[cur]? = some x → (∀ i, ps[k + i]? = r[i]?) → ps[amaxL ps k cur r]? = some (r.foldl fgreater x)
  | [], k, cur, x, h, _ => h
  | p :: r, k, cur, x, h, hr => by
    have hx := hps x (List.mem_of_getElem? h)
    have hk : ps[k]? = some p := by simpa using hr 0
    have hp := hps p (List.mem_of_getElem? hk)
    have hg : ps.getD cur (0, 1) = x := by rw [List.getD_eq_getElem?_getD, h]; rfl
    have hr' : ∀ i, ps[k + 1 + i]? = r[i]? := fun i => by
      have := hr (i + 1)
      rw [show k + (i + 1) = k + 1 + i by omega] at this
      simpa using this
    rw [amaxL, hg, List.foldl_cons]
    by_cases hl : flt x p = true
    · rw [if_pos hl]
      have e : fgreater x p = p := by
        unfold flt at hl
        unfold fgreater fle
        rw [if_pos (by simp only [decide_eq_true_eq] at hl ⊢; omega)]
      rw [e]
      exact amax_val hps r (k + 1) k p hk hr'
    · rw [if_neg hl]
      have e : fgreater x p = x := by
        unfold flt at hl
        unfold fgreater fle
        split
        · rename_i h2
          simp only [decide_eq_true_eq] at hl h2
          exact (feq hx hp (by omega)).symm
        · rfl
      rw [e]
      exact amax_val hps r (k + 1) cur x h hr'
def sgn : Cl → List Fr → Nat
  | .plain _, _ => 0
  | .most _, ps => amaxL ps 0 0 ps
  | _, p :: _ => if 0 < p.1 then 1 else 0
  | _, [] => 0
def sgns : List Fr → List Cl → List Nat
  | _, [] => []
  | vs, c :: cs => sgn c (parts vs c) :: sgns (vs ++ [cellVal vs c]) cs
def nts (l : List Nat) : List PyData := l.map fun n => .int (n : Nat)
theorem nts_app (l : List Nat) (n : Nat) : nts (l ++ [n]) = nts l ++ [.int (n : Nat)] := by simp [nts]
/-- pairs with their places from k -/
def enumK : Nat → List PyData → List PyData
  | _, [] => []
  | k, x :: xs => .tuple [.int (k : Nat), x] :: enumK (k + 1) xs
theorem mapIdx_enumK : ∀ (xs : List PyData) (k : Nat), xs.mapIdx (fun i x => PyData.tuple [.int ((k + i : Nat) : Int), x]) = enumK k xs
  | [], k => rfl
  | x :: xs, k => by
    rw [List.mapIdx_cons, enumK]
    have := mapIdx_enumK xs (k + 1)
    rw [← this]
    congr 1
    congr 1
    funext i x
    rw [show k + (i + 1) = k + 1 + i by omega]
theorem enumP_eq (xs : List PyData) : enumP xs = enumK 0 xs := by
  rw [← mapIdx_enumK]
  unfold enumP
  congr 1
  funext i x
  rw [Nat.zero_add]
section
variable {st : Store}
theorem sign_loop {ps : List Fr} {b : Nat} (hb : b + b < 8900) (hps : ∀ p ∈ ps, FOk p ∧ FB b p) (hp : Pl st) (a0 : Option DV) : ∀ (r : List Fr) (k cur : Nat) (s3 s4 : Option DV), cur < ps.length → (∀ i, ps[k + i]? = r[i]?) →
    ∃ s3' s4', forL (gmTup 2 (gmCons (gmName 3) (gmCons (gmName 4) gmNil))) (mSet 2 (mIf (mB (mApp m_raw_below (mCons (mBin fIx (mVar 1) (mVar 2)) (mCons (mVar 4) mNil)))) (mVar 3) (mVar 2))) always (enumK k (r.map fr)) [a0, some (.d (.list (ps.map fr))), some (.d (.int (cur : Nat))), s3, s4] st
      = some (.nx [a0, some (.d (.list (ps.map fr))), some (.d (.int (amaxL ps k cur r : Nat))), s3', s4'] st)
  | [], k, cur, s3, s4, _, _ => ⟨s3, s4, by simp [enumK, forL, amaxL]⟩
  | p :: r, k, cur, s3, s4, hc, hr => by
    have hk : ps[k]? = some p := by simpa using hr 0
    have hkl := (List.getElem?_eq_some_iff.mp hk).1
    have hx : ps[cur]? = some ps[cur] := List.getElem?_eq_getElem hc
    have hg : ps.getD cur (0, 1) = ps[cur] := by rw [List.getD_eq_getElem?_getD, hx]; rfl
    have e := r_below (st := st) (hps _ (List.getElem_mem hc)).2 (hps _ (List.mem_of_getElem? hk)).2 hb hp
    have e2 : fIx (.d (.list (ps.map fr))) (.d (.int (cur : Nat))) st = some (.d (fr ps[cur]), st) := seq_list cur _ hx
    have hr' : ∀ i, ps[k + 1 + i]? = r[i]? := fun i => by
      have := hr (i + 1)
      rw [show k + (i + 1) = k + 1 + i by omega] at this
      simpa using this
    have hn : (if flt ps[cur] p then k else cur) < ps.length := by split <;> assumption
    obtain ⟨s3', s4', ih⟩ := sign_loop hb hps hp a0 r (k + 1) (if flt ps[cur] p then k else cur) (some (.d (.int (k : Nat)))) (some (.d (fr p))) hn hr'
    refine ⟨s3', s4', ?_⟩
    rw [amaxL, hg, ← ih]
    cases hf : flt ps[cur] p <;> rw [hf] at e <;> simp [enumK, forL, e2, e]
theorem r_sign_by {b n : Nat} {vs : List Fr} {c : Cl} (hc : ClOk n c) (h : ∀ p ∈ parts vs c, FOk p ∧ FB b p) (hb : b + b < 8900) (hp : Pl st) : m_sign_by [.d (.str (wordD c)), .d (.list ((parts vs c).map fr))] st = some (.d (.int (sgn c (parts vs c) : Nat)), st) := by
  refine run_d0 ?_ rfl hp
  cases c with
  | plain s => simp [b_sign_by, wordD, sgn]
  | cut s =>
    have e : fIx (.d (fr (worth vs s))) (.d (.int 0)) st = some (.d (.int (worth vs s).1), st) := by simp [fr]
    by_cases h0 : 0 < (worth vs s).1 <;> simp [b_sign_by, wordD, parts, Cl.sums, sgn, e, h0]
  | step s =>
    have e : fIx (.d (fr (worth vs s))) (.d (.int 0)) st = some (.d (.int (worth vs s).1), st) := by simp [fr]
    by_cases h0 : 0 < (worth vs s).1 <;> simp [b_sign_by, wordD, parts, Cl.sums, sgn, e, h0]
  | switch x y z =>
    have e : fIx (.d (fr (worth vs x))) (.d (.int 0)) st = some (.d (.int (worth vs x).1), st) := by simp [fr]
    by_cases h0 : 0 < (worth vs x).1 <;> simp [b_sign_by, wordD, parts, Cl.sums, sgn, e, h0]
  | most ss =>
    obtain ⟨s, r, hs⟩ := hc.pos
    have hl : 0 < (parts vs (.most ss)).length := by
      have : ss = s :: r := hs
      subst this
      simp [parts, Cl.sums]
    obtain ⟨s3', s4', e⟩ := sign_loop hb h hp (some (.d (.str "most"))) (parts vs (.most ss)) 0 0 none none hl (fun i => by rw [Nat.zero_add])
    rw [show ((0 : Nat) : Int) = 0 from rfl] at e
    simp [b_sign_by, wordD, sgn, enumP_eq, e]
theorem lsign_loop {ps : List Fr} {b : Nat} (hb : b + b < 8900) (hps : ∀ p ∈ ps, FOk p ∧ FB b p) (hp : Pl st) (a0 a1 a2 a3 a4 a7 a10 : Option DV) : ∀ (r : List Fr) (k cur : Nat) (s3 s4 : Option DV), cur < ps.length → (∀ i, ps[k + i]? = r[i]?) →
    ∃ s3' s4', forL (gmTup 2 (gmCons (gmName 8) (gmCons (gmName 9) gmNil))) (mSet 6 (mIf (mB (mApp m__law_below (mCons (mBin fIx (mVar 5) (mVar 6)) (mCons (mVar 9) mNil)))) (mVar 8) (mVar 6))) always (enumK k (r.map fr)) [a0, a1, a2, a3, a4, some (.d (.list (ps.map fr))), some (.d (.int (cur : Nat))), a7, s3, s4, a10] st
      = some (.nx [a0, a1, a2, a3, a4, some (.d (.list (ps.map fr))), some (.d (.int (amaxL ps k cur r : Nat))), a7, s3', s4', a10] st)
  | [], k, cur, s3, s4, _, _ => ⟨s3, s4, by simp [enumK, forL, amaxL]⟩
  | p :: r, k, cur, s3, s4, hc, hr => by
    have hk : ps[k]? = some p := by simpa using hr 0
    have hkl := (List.getElem?_eq_some_iff.mp hk).1
    have hx : ps[cur]? = some ps[cur] := List.getElem?_eq_getElem hc
    have hg : ps.getD cur (0, 1) = ps[cur] := by rw [List.getD_eq_getElem?_getD, hx]; rfl
    have e := r_lbelow (st := st) (hps _ (List.getElem_mem hc)).2 (hps _ (List.mem_of_getElem? hk)).2 hb hp
    have e2 : fIx (.d (.list (ps.map fr))) (.d (.int (cur : Nat))) st = some (.d (fr ps[cur]), st) := seq_list cur _ hx
    have hr' : ∀ i, ps[k + 1 + i]? = r[i]? := fun i => by
      have := hr (i + 1)
      rw [show k + (i + 1) = k + 1 + i by omega] at this
      simpa using this
    have hn : (if flt ps[cur] p then k else cur) < ps.length := by split <;> assumption
    obtain ⟨s3', s4', ih⟩ := lsign_loop hb hps hp a0 a1 a2 a3 a4 a7 a10 r (k + 1) (if flt ps[cur] p then k else cur) (some (.d (.int (k : Nat)))) (some (.d (fr p))) hn hr'
    refine ⟨s3', s4', ?_⟩
    rw [amaxL, hg, ← ih]
    cases hf : flt ps[cur] p <;> rw [hf] at e <;> simp [enumK, forL, e2, e]
/-- the sign and the value -/
def lwMid : SM := mIfS (mB (mBin fEq (mBin fIx (mVar 2) (mC (.int 0))) (mC (.str "most")))) (mSeq (mSet 6 (mC (.int 0))) (mSeq (mFor (mEnum (mVar 5)) (gmTup 2 (gmCons (gmName 8) (gmCons (gmName 9) gmNil))) (mSet 6 (mIf (mB (mApp m__law_below (mCons (mBin fIx (mVar 5) (mVar 6)) (mCons (mVar 9) mNil)))) (mVar 8) (mVar 6)))) (mSet 7 (mBin fIx (mVar 5) (mVar 6))))) (mIfS (mB (mBin fEq (mBin fIx (mVar 2) (mC (.int 0))) (mC (.str "plain")))) (mPar 6 7 (mC (.int 0)) (mBin fIx (mVar 5) (mC (.int 0)))) (mIfS (mB (mBin fEq (mBin fIx (mVar 2) (mC (.int 0))) (mC (.str "cut")))) (mSet 7 (mIf (mB (mBin fEq (mVar 6) (mC (.int 1)))) (mBin fIx (mVar 5) (mC (.int 0))) (mTup (mCons (mC (.int 0)) (mCons (mC (.int 1)) mNil))))) (mIfS (mB (mBin fEq (mBin fIx (mVar 2) (mC (.int 0))) (mC (.str "step")))) (mSet 7 (mTup (mCons (mVar 6) (mCons (mC (.int 1)) mNil)))) (mSet 7 (mIf (mB (mBin fEq (mVar 6) (mC (.int 1)))) (mBin fIx (mVar 5) (mC (.int 1))) (mBin fIx (mVar 5) (mC (.int 2))))))))
/-- the body of the law's own walk over the cells -/
def lwBody : SM := mSeq (mSet 5 (mLc [10] (mIt (mApp m__law_sums (mCons (mVar 2) mNil))) (gmName 10) mYes (mApp m__law_worth (mCons (mVar 10) (mCons (mVar 3) mNil))))) (mSeq (mSet 6 (mApp fInt (mCons (mBin fGt (mBin fIx (mBin fIx (mVar 5) (mC (.int 0))) (mC (.int 0))) (mC (.int 0))) mNil))) (mSeq (mIfS (mB (mBin fEq (mBin fIx (mVar 2) (mC (.int 0))) (mC (.str "most")))) (mSeq (mSet 6 (mC (.int 0))) (mSeq (mFor (mEnum (mVar 5)) (gmTup 2 (gmCons (gmName 8) (gmCons (gmName 9) gmNil))) (mSet 6 (mIf (mB (mApp m__law_below (mCons (mBin fIx (mVar 5) (mVar 6)) (mCons (mVar 9) mNil)))) (mVar 8) (mVar 6)))) (mSet 7 (mBin fIx (mVar 5) (mVar 6))))) (mIfS (mB (mBin fEq (mBin fIx (mVar 2) (mC (.int 0))) (mC (.str "plain")))) (mPar 6 7 (mC (.int 0)) (mBin fIx (mVar 5) (mC (.int 0)))) (mIfS (mB (mBin fEq (mBin fIx (mVar 2) (mC (.int 0))) (mC (.str "cut")))) (mSet 7 (mIf (mB (mBin fEq (mVar 6) (mC (.int 1)))) (mBin fIx (mVar 5) (mC (.int 0))) (mTup (mCons (mC (.int 0)) (mCons (mC (.int 1)) mNil))))) (mIfS (mB (mBin fEq (mBin fIx (mVar 2) (mC (.int 0))) (mC (.str "step")))) (mSet 7 (mTup (mCons (mVar 6) (mCons (mC (.int 1)) mNil)))) (mSet 7 (mIf (mB (mBin fEq (mVar 6) (mC (.int 1)))) (mBin fIx (mVar 5) (mC (.int 1))) (mBin fIx (mVar 5) (mC (.int 2))))))))) (mSeq (mDrop (mAppend (mVar 3) (mVar 7))) (mDrop (mAppend (mVar 4) (mVar 6))))))
theorem lw_body {vs : List Fr} {bs : List Nat} {c : Cl} {sg : List Nat} (hc : ClOk bs.length c) (hb : FBs bs vs) (hB : 4 + budget bs < 4000) (hz : vs.length < 1000) (hz2 : sg.length < 1000) (hp : Pl st) (a0 a1 s5 s6 s7 s8 s9 s10 : Option DV) :
    ∃ t5 t6 t7 t8 t9 t10, lwBody [a0, a1, some (.d (cellD c)), some (.r st.length), some (.r (st.length + 1)), s5, s6, s7, s8, s9, s10] (st ++ [some (.lst (vs.map fr)), some (.lst (nts sg))])
      = some (.nx [a0, a1, some (.d (cellD c)), some (.r st.length), some (.r (st.length + 1)), t5, t6, t7, t8, t9, t10] (st ++ [some (.lst ((vs ++ [cellVal vs c]).map fr)), some (.lst (nts (sg ++ [sgn c (parts vs c)])))])) := by
  have hp2 := pl2 (xs := vs.map fr) (ys := nts sg) hp
  have e1 := r_lsums (st := st ++ [some (.lst (vs.map fr)), some (.lst (nts sg))]) hc hp2
  have e2 := lc_lworth (st := st ++ [some (.lst (vs.map fr)), some (.lst (nts sg))]) (i := 10) (s0 := [a0, a1, some (.d (cellD c)), some (.r st.length), some (.r (st.length + 1)), s5, s6, s7, s8, s9, none]) (d := .r st.length) (seq_ref (by simp)) hb hB hp2 c.sums hc.sums (e := mApp m__law_worth (mCons (mVar 10) (mCons (mVar 3) mNil))) fun s _ => by simp
  have hl := sums_len hc
  have hl2 : c.sums.length ≤ 16777216 := by omega
  have hvl : (vs.map fr).length < 16777216 := by rw [List.length_map]; omega
  have hsl : (nts sg).length < 16777216 := by unfold nts; rw [List.length_map]; omega
  have hparts := parts_ok hc hb
  -- what is stored at the end
  have fin : ∀ (x : PyData) (n : Nat) (t2 t5 t6 t8 t9 t10 : Option DV), mSeq (mDrop (mAppend (mVar 3) (mVar 7))) (mDrop (mAppend (mVar 4) (mVar 6))) [a0, a1, t2, some (.r st.length), some (.r (st.length + 1)), t5, some (.d (.int (n : Nat))), some (.d x), t8, t9, t10] (st ++ [some (.lst (vs.map fr)), some (.lst (nts sg))])
      = some (.nx [a0, a1, t2, some (.r st.length), some (.r (st.length + 1)), t5, some (.d (.int (n : Nat))), some (.d x), t8, t9, t10] (st ++ [some (.lst (vs.map fr ++ [x])), some (.lst (nts (sg ++ [n])))])) := fun x n t2 t5 t6 t8 t9 t10 => by
    have f1 := append_at (m := mVar 3) (me := mVar 7) (s := [a0, a1, t2, some (.r st.length), some (.r (st.length + 1)), t5, some (.d (.int (n : Nat))), some (.d x), t8, t9, t10]) (st0 := st ++ [some (.lst (vs.map fr)), some (.lst (nts sg))]) (st := st ++ [some (.lst (vs.map fr)), some (.lst (nts sg))]) (n := st.length) (x := x) (xs := vs.map fr) (by simp) (by simp) (by simp) hvl
    have f2 := append_at (m := mVar 4) (me := mVar 6) (s := [a0, a1, t2, some (.r st.length), some (.r (st.length + 1)), t5, some (.d (.int (n : Nat))), some (.d x), t8, t9, t10]) (st0 := st ++ [some (.lst (vs.map fr ++ [x])), some (.lst (nts sg))]) (st := st ++ [some (.lst (vs.map fr ++ [x])), some (.lst (nts sg))]) (n := st.length + 1) (x := .int (n : Nat)) (xs := nts sg) (by simp) (by simp) (by simp) hsl
    rw [set_at0] at f1
    rw [set_at1] at f2
    simp only [e_mSeq, e_mDrop, f1, f2, nts_app]
  have pe : (c.sums.map (worth vs)).map fr = (parts vs c).map fr := rfl
  rw [pe] at e2
  obtain ⟨p0, pr, hp0⟩ : ∃ p r, parts vs c = p :: r := by
    obtain ⟨s, r, hs⟩ := hc.pos
    exact ⟨worth vs s, r.map (worth vs), by rw [parts, hs]; rfl⟩
  have e3 : ∀ st' : Store, fIx (.d (.list ((parts vs c).map fr))) (.d (.int 0)) st' = some (.d (fr p0), st') := fun st' => by rw [hp0]; simp
  have e4 : ∀ st' : Store, fIx (.d (fr p0)) (.d (.int 0)) st' = some (.d (.int p0.1), st') := fun st' => by simp [fr]
  -- the head of the body
  have head : ∀ (rest : SM), mSeq (mSet 5 (mLc [10] (mIt (mApp m__law_sums (mCons (mVar 2) mNil))) (gmName 10) mYes (mApp m__law_worth (mCons (mVar 10) (mCons (mVar 3) mNil))))) (mSeq (mSet 6 (mApp fInt (mCons (mBin fGt (mBin fIx (mBin fIx (mVar 5) (mC (.int 0))) (mC (.int 0))) (mC (.int 0))) mNil))) rest) [a0, a1, some (.d (cellD c)), some (.r st.length), some (.r (st.length + 1)), s5, s6, s7, s8, s9, s10] (st ++ [some (.lst (vs.map fr)), some (.lst (nts sg))])
      = rest [a0, a1, some (.d (cellD c)), some (.r st.length), some (.r (st.length + 1)), some (.d (.list ((parts vs c).map fr))), some (.d (.int (if 0 < p0.1 then 1 else 0))), s7, s8, s9, s10] (st ++ [some (.lst (vs.map fr)), some (.lst (nts sg))]) := fun rest => by
    by_cases h0 : 0 < p0.1 <;> simp [e1, e2, hl2, e3, e4, h0]
  -- the sign, the value
  have mid : ∃ t8 t9, lwMid [a0, a1, some (.d (cellD c)), some (.r st.length), some (.r (st.length + 1)), some (.d (.list ((parts vs c).map fr))), some (.d (.int (if 0 < p0.1 then 1 else 0))), s7, s8, s9, s10] (st ++ [some (.lst (vs.map fr)), some (.lst (nts sg))])
      = some (.nx [a0, a1, some (.d (cellD c)), some (.r st.length), some (.r (st.length + 1)), some (.d (.list ((parts vs c).map fr))), some (.d (.int (sgn c (parts vs c) : Nat))), some (.d (fr (cellVal vs c))), t8, t9, s10] (st ++ [some (.lst (vs.map fr)), some (.lst (nts sg))])) := by
    have hw := fun st' => cell_word (st := st') (c := c)
    cases c with
    | plain s =>
      refine ⟨s8, s9, ?_⟩
      have hv : cellVal vs (.plain s) = p0 := by simp only [cellVal, hp0, cval]
      rw [hv]
      simp [lwMid, hw, wordD, e3, sgn]
    | cut s =>
      refine ⟨s8, s9, ?_⟩
      have hv : cellVal vs (.cut s) = fcut p0 := by simp only [cellVal, hp0, cval]
      have hs : sgn (.cut s) (parts vs (.cut s)) = if 0 < p0.1 then 1 else 0 := by rw [hp0]; rfl
      rw [hv, hs]
      by_cases h0 : 0 < p0.1 <;> simp [lwMid, hw, wordD, e3, h0, fcut, fr]
    | step s =>
      refine ⟨s8, s9, ?_⟩
      have hv : cellVal vs (.step s) = if 0 < p0.1 then (1, 1) else (0, 1) := by simp only [cellVal, hp0, cval]
      have hs : sgn (.step s) (parts vs (.step s)) = if 0 < p0.1 then 1 else 0 := by rw [hp0]; rfl
      rw [hv, hs]
      by_cases h0 : 0 < p0.1 <;> simp [lwMid, hw, wordD, e3, h0, fr]
    | switch x y z =>
      refine ⟨s8, s9, ?_⟩
      have hx : parts vs (.switch x y z) = [worth vs x, worth vs y, worth vs z] := rfl
      rw [hx] at hp0 e3 ⊢
      cases hp0
      have hv : cellVal vs (.switch x y z) = if 0 < (worth vs x).1 then worth vs y else worth vs z := rfl
      have hs : sgn (.switch x y z) [worth vs x, worth vs y, worth vs z] = if 0 < (worth vs x).1 then 1 else 0 := rfl
      rw [hv, hs]
      by_cases h0 : 0 < (worth vs x).1 <;> simp [lwMid, hw, wordD, e3, h0]
    | most ss =>
      have hpl : 0 < (parts vs (.most ss)).length := by rw [hp0]; simp
      obtain ⟨t8, t9, e⟩ := lsign_loop (st := st ++ [some (.lst (vs.map fr)), some (.lst (nts sg))]) (b := 4 + budget bs) (by omega) hparts hp2 a0 a1 (some (.d (cellD (.most ss)))) (some (.r st.length)) (some (.r (st.length + 1))) s7 s10 (parts vs (.most ss)) 0 0 s8 s9 hpl (fun i => by rw [Nat.zero_add])
      rw [show ((0 : Nat) : Int) = 0 from rfl] at e
      have hv : (parts vs (.most ss))[amaxL (parts vs (.most ss)) 0 0 (parts vs (.most ss))]? = some (cellVal vs (.most ss)) := by
        have h1 := amax_val (fun p h => (hparts p h).1) (parts vs (.most ss)) 0 0 p0 (by rw [hp0]; rfl) (fun i => by rw [Nat.zero_add])
        rw [h1, hp0, List.foldl_cons]
        have h2 : fgreater p0 p0 = p0 := by unfold fgreater; split <;> rfl
        rw [h2]
        simp only [cellVal, hp0, cval]
      have e5 := seq_list (st := st ++ [some (.lst (vs.map fr)), some (.lst (nts sg))]) _ _ hv
      refine ⟨t8, t9, ?_⟩
      have hs : sgn (.most ss) (parts vs (.most ss)) = amaxL (parts vs (.most ss)) 0 0 (parts vs (.most ss)) := rfl
      rw [hs]
      simp [lwMid, hw, wordD, enumP_eq, e, e5]
  obtain ⟨t8, t9, mid⟩ := mid
  have f := fin (fr (cellVal vs c)) (sgn c (parts vs c)) (some (.d (cellD c))) (some (.d (.list ((parts vs c).map fr)))) none t8 t9 s10
  refine ⟨some (.d (.list ((parts vs c).map fr))), some (.d (.int (sgn c (parts vs c) : Nat))), some (.d (fr (cellVal vs c))), t8, t9, s10, ?_⟩
  have hb : lwBody = mSeq (mSet 5 (mLc [10] (mIt (mApp m__law_sums (mCons (mVar 2) mNil))) (gmName 10) mYes (mApp m__law_worth (mCons (mVar 10) (mCons (mVar 3) mNil))))) (mSeq (mSet 6 (mApp fInt (mCons (mBin fGt (mBin fIx (mBin fIx (mVar 5) (mC (.int 0))) (mC (.int 0))) (mC (.int 0))) mNil))) (mSeq lwMid (mSeq (mDrop (mAppend (mVar 3) (mVar 7))) (mDrop (mAppend (mVar 4) (mVar 6)))))) := rfl
  rw [hb, head, e_mSeq, mid, List.map_append]
  exact f
theorem lw_loop (hp : Pl st) (a0 a1 : Option DV) : ∀ (cs : List Cl) (vs : List Fr) (bs : List Nat) (sg : List Nat) (s2 s5 s6 s7 s8 s9 s10 : Option DV), (∀ (i : Nat) (c : Cl), cs[i]? = some c → ClOk (bs.length + i) c) → FBs bs vs → 4 + budget (bext bs cs.length) < 4000 → bs.length + cs.length < 900 → sg.length + cs.length < 900 →
    ∃ t2 t5 t6 t7 t8 t9 t10, forL (gmName 2) lwBody always (cs.map cellD) [a0, a1, s2, some (.r st.length), some (.r (st.length + 1)), s5, s6, s7, s8, s9, s10] (st ++ [some (.lst (vs.map fr)), some (.lst (nts sg))])
      = some (.nx [a0, a1, t2, some (.r st.length), some (.r (st.length + 1)), t5, t6, t7, t8, t9, t10] (st ++ [some (.lst ((srcs vs cs).map fr)), some (.lst (nts (sg ++ sgns vs cs)))]))
  | [], vs, bs, sg, s2, s5, s6, s7, s8, s9, s10, _, _, _, _, _ => ⟨s2, s5, s6, s7, s8, s9, s10, by simp [forL, srcs, sgns]⟩
  | c :: cs, vs, bs, sg, s2, s5, s6, s7, s8, s9, s10, hc, hb, hB, hz, hz2 => by
    have h0 : ClOk bs.length c := by simpa using hc 0 c rfl
    have h1 := cellVal_ok h0 hb
    have hbl := bext_le (c :: cs).length bs
    have hvl := hb.length
    simp only [List.length_cons] at hz hz2
    obtain ⟨u5, u6, u7, u8, u9, u10, e⟩ := lw_body (sg := sg) h0 hb (by omega) (by omega) (by omega) hp a0 a1 s5 s6 s7 s8 s9 s10
    obtain ⟨t2, t5, t6, t7, t8, t9, t10, ih⟩ := lw_loop hp a0 a1 cs (vs ++ [cellVal vs c]) (bs ++ [4 + budget bs]) (sg ++ [sgn c (parts vs c)]) (some (.d (cellD c))) u5 u6 u7 u8 u9 u10 (fun i c' h => by
      have := hc (i + 1) c' (by simpa using h)
      rw [List.length_append, List.length_singleton, show bs.length + 1 + i = bs.length + (i + 1) by omega]
      exact this) (hb.snoc h1.1 h1.2) hB (by simp; omega) (by simp; omega)
    refine ⟨t2, t5, t6, t7, t8, t9, t10, ?_⟩
    rw [srcs, sgns, show sg ++ sgn c (parts vs c) :: sgns (vs ++ [cellVal vs c]) cs = (sg ++ [sgn c (parts vs c)]) ++ sgns (vs ++ [cellVal vs c]) cs by simp, ← ih]
    simp only [List.map_cons, forL, e_always, if_true, e_gmName, List.set_cons_succ, List.set_cons_zero, e]
def signsF (t : Nt) (pts : List Fr) : List Nat := sgns pts t.cells
theorem r_lworked {t : Nt} {pts : List Fr} {bs : List Nat} (ht : NtOk t) (hl : bs.length = t.m) (hb : FBs bs pts) (hB : 4 + budget (bext bs t.cells.length) < 4000) (hp : Pl st) : m__law_worked [.d (netD t), .d (.tuple (pts.map fr))] st = some (.d (.tuple [.tuple (nts (signsF t pts)), .tuple ((runF t pts).map fr)]), st) := by
  have m3 := ht.m3
  have c3 := ht.c3
  obtain ⟨t2, t5, t6, t7, t8, t9, t10, e⟩ := lw_loop hp (some (.d (netD t))) (some (.d (.tuple (pts.map fr)))) t.cells pts bs [] none none none none none none none (ht.clOk hl) hb hB (by omega) (by simp; omega)
  have hs := srcs_ok t.cells pts bs (ht.clOk hl) hb
  have hlen := bext_len t.cells.length bs
  have hp2 := pl2 (xs := (srcs pts t.cells).map fr) (ys := nts (signsF t pts)) hp
  have e2 := lc_lworth (st := st ++ [some (.lst ((srcs pts t.cells).map fr)), some (.lst (nts (signsF t pts)))]) (i := 10) (s0 := [some (.d (netD t)), some (.d (.tuple (pts.map fr))), t2, some (.r st.length), some (.r (st.length + 1)), t5, t6, t7, t8, t9, none]) (d := .r st.length) (seq_ref (by simp)) hs hB hp2 t.outs (fun s h => by rw [hlen, hl]; exact ht.outs s h) (e := mApp m__law_worth (mCons (mVar 10) (mCons (mVar 3) mNil))) fun s _ => by simp
  have ho := ht.o2
  have ho2 : t.outs.length ≤ 16777216 := by omega
  refine run_d (more := [some (.lst ((srcs pts t.cells).map fr)), some (.lst (nts (signsF t pts)))]) ?_ rfl hp2
  have ft : fTuple [.r (st.length + 1)] (st ++ [some (.lst ((srcs pts t.cells).map fr)), some (.lst (nts (signsF t pts)))]) = some (.d (.tuple (nts (signsF t pts))), st ++ [some (.lst ((srcs pts t.cells).map fr)), some (.lst (nts (signsF t pts)))]) := by simp [fTuple, tupV, lstV]
  have ub : b__law_worked = mSeq (mPar 3 4 (mApp fListM (mCons (mVar 1) mNil)) (mLstM mNil)) (mSeq (mFor (mIt (mBin fIx (mVar 0) (mC (.int 1)))) (gmName 2) lwBody) (mRet (mTup (mCons (mApp fTuple (mCons (mVar 4) mNil)) (mCons (mApp fTuple (mCons (mLc [10] (mIt (mBin fIx (mVar 0) (mC (.int 2)))) (gmName 10) mYes (mApp m__law_worth (mCons (mVar 10) (mCons (mVar 3) mNil)))) mNil)) mNil))))) := rfl
  rw [ub]
  simp only [netD] at e e2
  simp only [List.map_cons, List.map_nil, netD, nts] at e ⊢
  simp only [signsF, nts, List.nil_append] at *
  simp [e, ho2] at e2 ft ⊢
  simp [e2, ft, runF]
end
end Q

set_option Elab.async false
set_option linter.all false
set_option maxRecDepth 100000
set_option maxHeartbeats 4000000
/-! QG: signs by the package; claims -/
namespace Q
open PySem PySem.Spec PyProof.Rows L2 PD W
theorem worthF_app : ∀ (fs vs ws : List Fr) (acc : Fr), fs.length ≤ vs.length → worthF acc fs (vs ++ ws) = worthF acc fs vs
  | [], vs, ws, acc, _ => by
    rw [worthF, worthF]
    · intro _ _ _ _ e; cases e
    · intro _ _ _ _ e; cases e
  | f :: fs, [], ws, acc, h => by simp at h
  | f :: fs, v :: vs, ws, acc, h => by
    rw [List.cons_append, worthF, worthF, worthF_app fs vs ws _ (by simpa using h)]
theorem worth_app {vs ws : List Fr} {s : Sm} (h : s.1.length ≤ vs.length) : worth (vs ++ ws) s = worth vs s := worthF_app _ _ _ _ h
theorem srcs_app : ∀ (cs : List Cl) (vs : List Fr), ∃ ws, srcs vs cs = vs ++ ws
  | [], vs => ⟨[], by simp [srcs]⟩
  | c :: cs, vs => by
    obtain ⟨ws, e⟩ := srcs_app cs (vs ++ [cellVal vs c])
    exact ⟨cellVal vs c :: ws, by rw [srcs, e]; simp⟩
theorem parts_full {c : Cl} {cs : List Cl} {vs : List Fr} {n : Nat} (hc : ClOk n c) (hn : n ≤ vs.length) : parts (srcs vs (c :: cs)) c = parts vs c := by
  obtain ⟨ws, e⟩ := srcs_app (c :: cs) vs
  rw [e]
  exact List.map_congr_left fun s hs => worth_app (by rw [(hc.sums s hs).len]; exact hn)
section
variable {st : Store}
theorem r_worthG {n : Nat} {d : DV} {vs : List Fr} {bs : List Nat} {s : Sm} (hv : SeqD d st vs) (hs : SmOk n s) (hn : n ≤ bs.length) (hb : FBs bs vs) (hB : 4 + budget bs < 8900) (hp : Pl st) : m_raw_worth [d, .d (smD s)] st = some (.d (fr (worth vs s)), st) := by
  refine run_d0 ?_ rfl hp
  obtain ⟨s3, s4, h⟩ := worth_loop (o := some (.d (smD s))) hv hp s.1 0 bs s.2 4 none none (by simpa using hb) (by rw [hs.len]; exact hn) hs.fs hs.c.1 hs.c.2 hB
  simp only [List.drop_zero, smD] at h
  simp only [List.map_cons, List.map_nil, smD]
  simp [b_raw_worth, h, worth]
theorem lc_worthG {n : Nat} {d : DV} {vs : List Fr} {bs : List Nat} {s0 : SE} {i : Nat} {e : EM} (hv : SeqD d st vs) (hb : FBs bs vs) (hB : 4 + budget bs < 4000) (hp : Pl st) (hn : n ≤ bs.length) : ∀ (ss : List Sm), (∀ s ∈ ss, SmOk n s) → (∀ s ∈ ss, e (s0.set i (some (.d (smD s)))) st = m_raw_worth [d, .d (smD s)] st) →
    lcL (gmName i) mYes e always (ss.map smD) s0 st = some ((ss.map (worth vs)).map fr, st)
  | [], _, _ => by simp [lcL]
  | s :: r, h, he => by
    have e1 := he s List.mem_cons_self
    rw [r_worthG hv (h s List.mem_cons_self) hn hb (by omega) hp] at e1
    have e2 := lc_worthG hv hb hB hp hn r (fun t ht => h t (List.mem_cons_of_mem _ ht)) (fun t ht => he t (List.mem_cons_of_mem _ ht))
    simp only [List.map_cons, lcL, e_always, if_true, e_gmName, e_mYes, e1, e2]
/-- each cell's word, its parts -/
def apd : List Fr → List Cl → List PyData
  | _, [] => []
  | vs, c :: cs => .tuple [.str (wordD c), .list ((parts vs c).map fr)] :: apd (vs ++ [cellVal vs c]) cs
theorem apd_len : ∀ (cs : List Cl) (vs : List Fr), (apd vs cs).length = cs.length
  | [], _ => rfl
  | c :: cs, vs => by simp [apd, apd_len cs]
theorem ap_loop (hp : Pl st) {full : List Fr} {fb : List Nat} (hf : FBs fb full) (hF : 4 + budget fb < 4000) (a0 a1 : Option DV) : ∀ (cs : List Cl) (vs : List Fr) (n : Nat) (acc : List PyData) (s2 s5 : Option DV), (∀ (i : Nat) (c : Cl), cs[i]? = some c → ClOk (n + i) c) → vs.length = n → full = srcs vs cs → acc.length + cs.length < 900 →
    ∃ t2 t5, forL (gmName 2) (mDrop (mAppend (mVar 4) (mTup (mCons (mBin fIx (mVar 2) (mC (.int 0))) (mCons (mLc [5] (mIt (mApp m_raw_cell_sums (mCons (mVar 2) mNil))) (gmName 5) mYes (mApp m_raw_worth (mCons (mVar 3) (mCons (mVar 5) mNil)))) mNil))))) always (cs.map cellD) [a0, a1, s2, some (.d (.list (full.map fr))), some (.r st.length), s5] (st ++ [some (.lst acc)])
      = some (.nx [a0, a1, t2, some (.d (.list (full.map fr))), some (.r st.length), t5] (st ++ [some (.lst (acc ++ apd vs cs))]))
  | [], vs, n, acc, s2, s5, _, _, _, _ => ⟨s2, s5, by simp [forL, apd]⟩
  | c :: cs, vs, n, acc, s2, s5, hc, hv, he, hz => by
    have h0 : ClOk n c := by simpa using hc 0 c rfl
    have hfl := hf.length
    obtain ⟨ws, ew⟩ := srcs_app (c :: cs) vs
    have hn : n ≤ fb.length := by rw [← hfl, he, ew, List.length_append, hv]; omega
    obtain ⟨t2, t5, ih⟩ := ap_loop hp hf hF a0 a1 cs (vs ++ [cellVal vs c]) (n + 1) (acc ++ [.tuple [.str (wordD c), .list ((parts vs c).map fr)]]) (some (.d (cellD c))) s5 (fun i c' h => by
      have := hc (i + 1) c' (by simpa using h)
      rw [show n + 1 + i = n + (i + 1) by omega]
      exact this) (by simp [hv]) (by rw [he, srcs]) (by simp at hz ⊢; omega)
    have hp1 := pl1 (xs := acc) hp
    have e1 := r_cell_sums (st := st ++ [some (.lst acc)]) h0 hp1
    have e2 := lc_worthG (st := st ++ [some (.lst acc)]) (i := 5) (s0 := [a0, a1, some (.d (cellD c)), some (.d (.list (full.map fr))), some (.r st.length), none]) (d := .d (.list (full.map fr))) seq_list hf hF hp1 hn c.sums h0.sums (e := mApp m_raw_worth (mCons (mVar 3) (mCons (mVar 5) mNil))) fun s _ => by simp
    have pe : (c.sums.map (worth full)).map fr = (parts vs c).map fr := by
      have : parts full c = parts vs c := by rw [he]; exact parts_full h0 (by omega)
      rw [← this]; rfl
    rw [pe] at e2
    have hl := sums_len h0
    have hl2 : c.sums.length ≤ 16777216 := by omega
    have e3 := append_at (m := mVar 4) (me := mTup (mCons (mBin fIx (mVar 2) (mC (.int 0))) (mCons (mLc [5] (mIt (mApp m_raw_cell_sums (mCons (mVar 2) mNil))) (gmName 5) mYes (mApp m_raw_worth (mCons (mVar 3) (mCons (mVar 5) mNil)))) mNil))) (s := [a0, a1, some (.d (cellD c)), some (.d (.list (full.map fr))), some (.r st.length), s5]) (st0 := st ++ [some (.lst acc)]) (st := st ++ [some (.lst acc)]) (n := st.length) (x := .tuple [.str (wordD c), .list ((parts vs c).map fr)]) (xs := acc) (by simp) (by simp [e1, e2, hl2, cell_word]) (by simp) (by simp at hz; omega)
    refine ⟨t2, t5, ?_⟩
    rw [apd, show acc ++ PyData.tuple [.str (wordD c), .list ((parts vs c).map fr)] :: apd (vs ++ [cellVal vs c]) cs = (acc ++ [PyData.tuple [.str (wordD c), .list ((parts vs c).map fr)]]) ++ apd (vs ++ [cellVal vs c]) cs by simp, ← ih]
    simp only [List.map_cons, forL, e_always, if_true, e_gmName, List.set_cons_succ, List.set_cons_zero, e_mDrop, e3, set_at0]
theorem r_all_parts {t : Nt} {pts : List Fr} {bs : List Nat} (ht : NtOk t) (hl : bs.length = t.m) (hb : FBs bs pts) (hB : 4 + budget (bext bs t.cells.length) < 4000) (hp : Pl st) : m_all_parts [.d (netD t), .d (.tuple (pts.map fr))] st = some (.d (.list (apd pts t.cells)), st) := by
  have e1 := r_sources (st := st) ht hl hb hB hp
  have hs := srcs_ok t.cells pts bs (ht.clOk hl) hb
  have c3 := ht.c3
  obtain ⟨t2, t5, e⟩ := ap_loop hp hs hB (some (.d (netD t))) (some (.d (.tuple (pts.map fr)))) t.cells pts t.m [] none none ht.cells (by rw [hb.length, hl]) rfl (by simp; omega)
  refine run_d (more := [none]) ?_ rfl (pl0 hp)
  simp only [netD, List.nil_append] at e e1
  simp only [List.map_cons, List.map_nil, netD]
  simp [b_all_parts, e1, e, mRetF]
theorem sg_lc {b : Nat} (hb : b + b < 8900) (hp : Pl st) {s0 : SE} : ∀ (cs : List Cl) (vs : List Fr) (bs : List Nat), (∀ (i : Nat) (c : Cl), cs[i]? = some c → ClOk (bs.length + i) c) → FBs bs vs → 4 + budget (bext bs cs.length) ≤ b →
    (∀ x y : PyData, (mApp m_sign_by (mCons (mVar 2) (mCons (mVar 3) mNil))) ((s0.set 2 (some (.d x))).set 3 (some (.d y))) st = m_sign_by [.d x, .d y] st) →
    lcL (gmTup 2 (gmCons (gmName 2) (gmCons (gmName 3) gmNil))) mYes (mApp m_sign_by (mCons (mVar 2) (mCons (mVar 3) mNil))) always (apd vs cs) s0 st = some (nts (sgns vs cs), st)
  | [], vs, bs, _, _, _, _ => by simp [apd, lcL, sgns, nts]
  | c :: cs, vs, bs, hc, hv, hB, he => by
    have h0 : ClOk bs.length c := by simpa using hc 0 c rfl
    have h1 := cellVal_ok h0 hv
    have hbl := bext_le (c :: cs).length bs
    have ih := sg_lc hb hp cs (vs ++ [cellVal vs c]) (bs ++ [4 + budget bs]) (fun i c' h => by
      have := hc (i + 1) c' (by simpa using h)
      rw [List.length_append, List.length_singleton, show bs.length + 1 + i = bs.length + (i + 1) by omega]
      exact this) (hv.snoc h1.1 h1.2) hB he
    have e1 := r_sign_by (st := st) (b := b) h0 (fun p h => ⟨(parts_ok h0 hv p h).1, (parts_ok h0 hv p h).2.mono (by omega)⟩) hb hp
    have e2 := he (.str (wordD c)) (.list ((parts vs c).map fr))
    rw [e1] at e2
    have e3 : gmTup 2 (gmCons (gmName 2) (gmCons (gmName 3) gmNil)) (.d (.tuple [.str (wordD c), .list ((parts vs c).map fr)])) s0 = some ((s0.set 2 (some (.d (.str (wordD c))))).set 3 (some (.d (.list ((parts vs c).map fr))))) := by simp
    simp only [apd, lcL, e_always, if_true, e3, e_mYes, e2, ih, sgns, nts, List.map_cons]
theorem r_signs {t : Nt} {pts : List Fr} {bs : List Nat} (ht : NtOk t) (hl : bs.length = t.m) (hb : FBs bs pts) (hB : 4 + budget (bext bs t.cells.length) < 4000) (hp : Pl st) : m_raw_signs [.d (netD t), .d (.tuple (pts.map fr))] st = some (.d (.tuple (nts (signsF t pts))), st) := by
  have e1 := r_all_parts (st := st) ht hl hb hB hp
  have e2 := sg_lc (st := st) (b := 4000) (by decide) hp (s0 := [some (.d (netD t)), some (.d (.tuple (pts.map fr))), none, none]) t.cells pts bs (ht.clOk hl) hb (by omega) (fun x y => by simp)
  have c3 := ht.c3
  have hll : (apd pts t.cells).length ≤ 16777216 := by rw [apd_len]; omega
  refine run_d0 ?_ rfl hp
  simp only [netD] at e1 e2
  simp only [List.map_cons, List.map_nil, netD]
  simp [b_raw_signs, e1, hll] at e2 ⊢
  simp [e2, signsF]

/-! ### claims -/
structure Cm where
  s : Sm
  above : Bool
def cmW (c : Cm) : Str := if c.above then "above" else "least"
def cmD (c : Cm) : PyData := .tuple [smD c.s, .str (cmW c)]
@[simp] theorem w_above : fEqB false (.d (.str "above")) (.d (.str "above")) st = some (.d (.bool true), st) := eq_str (by decide +kernel) (by decide +kernel) (by decide +kernel)
@[simp] theorem w_least : fEqB false (.d (.str "least")) (.d (.str "above")) st = some (.d (.bool false), st) := eq_str (by decide +kernel) (by decide +kernel) (by decide +kernel)
@[simp] theorem in_above : fInA false (.d (.str "above")) (.d (.tuple [.str "above", .str "least"])) st = some (.d (.bool true), st) := in_tup (r := true) (by decide +kernel) (by decide +kernel) (by decide +kernel)
@[simp] theorem in_least : fInA false (.d (.str "least")) (.d (.tuple [.str "above", .str "least"])) st = some (.d (.bool true), st) := in_tup (r := true) (by decide +kernel) (by decide +kernel) (by decide +kernel)
structure CmOk (t : Nt) (c : Cm) : Prop where
  s : SmOk t.outs.length c.s
def cmV (t : Nt) (c : Cm) (pts : List Fr) : Fr := worth (runF t pts) c.s
def holdsF (t : Nt) (c : Cm) (pts : List Fr) : Bool := if c.above then decide (0 < (cmV t c pts).1) else decide (0 ≤ (cmV t c pts).1)
theorem runF_ok {t : Nt} {pts : List Fr} {bs : List Nat} (ht : NtOk t) (hl : bs.length = t.m) (hb : FBs bs pts) : FBs (List.replicate t.outs.length (4 + budget (bext bs t.cells.length))) (runF t pts) := by
  have hs := srcs_ok t.cells pts bs (ht.clOk hl) hb
  have key : ∀ os : List Sm, FBs (List.replicate os.length (4 + budget (bext bs t.cells.length))) (os.map (worth (srcs pts t.cells))) ∨ ∃ s ∈ os, ¬ SmOk (t.m + t.cells.length) s := fun os => by
    induction os with
    | nil => exact .inl rfl
    | cons s r ih =>
      by_cases h : SmOk (t.m + t.cells.length) s
      · rcases ih with ih | ⟨s', h1, h2⟩
        · have hlen := bext_len t.cells.length bs
          have := worth_ok (vs := srcs pts t.cells) (bs := bext bs t.cells.length) (s := s) (by rw [hlen, hl]; exact h) hs
          exact .inl ⟨this.1, this.2, ih⟩
        · exact .inr ⟨s', List.mem_cons_of_mem _ h1, h2⟩
      · exact .inr ⟨s, List.mem_cons_self, h⟩
  rcases key t.outs with h | ⟨s, h1, h2⟩
  · exact h
  · exact (h2 (ht.outs s h1)).elim
theorem budget_rep : ∀ (n b : Nat), budget (List.replicate n b) = n * (b + 6)
  | 0, b => by simp [budget]
  | n + 1, b => by rw [List.replicate_succ, budget, budget_rep n b, Nat.succ_mul]; omega
theorem r_holds {t : Nt} {c : Cm} {pts : List Fr} {bs : List Nat} (ht : NtOk t) (hc : CmOk t c) (hl : bs.length = t.m) (hb : FBs bs pts) (hB : 4 + budget (bext bs t.cells.length) < 4000) (hp : Pl st) : m_raw_holds [.d (netD t), .d (.tuple (pts.map fr)), .d (cmD c)] st = some (.d (.bool (holdsF t c pts)), st) := by
  have e1 := r_run (st := st) ht hl hb hB hp
  have ho := ht.o2
  have hr := runF_ok ht hl hb
  have hbud : 4 + budget (List.replicate t.outs.length (4 + budget (bext bs t.cells.length))) < 8900 := by
    rw [budget_rep]
    have : t.outs.length * (4 + budget (bext bs t.cells.length) + 6) ≤ 2 * (4 + budget (bext bs t.cells.length) + 6) := Nat.mul_le_mul_right _ ho
    omega
  have e2 := r_worthG (st := st) (d := .d (.tuple ((runF t pts).map fr))) seq_tuple hc.s (by simp) hr hbud hp
  have e3 : fIx (.d (fr (worth (runF t pts) c.s))) (.d (.int 0)) st = some (.d (.int (worth (runF t pts) c.s).1), st) := by simp [fr]
  refine run_d0 ?_ rfl hp
  simp only [List.map_cons, List.map_nil, cmD]
  cases ha : c.above with
  | true => simp [b_raw_holds, e1, e2, e3, cmW, ha, holdsF, cmV]; exact decide_eq_decide.mpr Iff.rfl
  | false => simp [b_raw_holds, e1, e2, e3, cmW, ha, holdsF, cmV]; exact decide_eq_decide.mpr Iff.rfl
theorem r_lfails {t : Nt} {c : Cm} {pts : List Fr} {bs : List Nat} (ht : NtOk t) (hc : CmOk t c) (hl : bs.length = t.m) (hb : FBs bs pts) (hB : 4 + budget (bext bs t.cells.length) < 4000) (hp : Pl st) : m__law_fails [.d (netD t), .d (.tuple (pts.map fr)), .d (cmD c)] st = some (.d (.bool (!holdsF t c pts)), st) := by
  have e1 := r_lworked (st := st) ht hl hb hB hp
  have ho := ht.o2
  have hr := runF_ok ht hl hb
  have hbud : 4 + budget (List.replicate t.outs.length (4 + budget (bext bs t.cells.length))) < 8900 := by
    rw [budget_rep]
    have : t.outs.length * (4 + budget (bext bs t.cells.length) + 6) ≤ 2 * (4 + budget (bext bs t.cells.length) + 6) := Nat.mul_le_mul_right _ ho
    omega
  have e2 : m__law_worth [.d (smD c.s), .d (.tuple ((runF t pts).map fr))] st = some (.d (fr (worth (runF t pts) c.s)), st) := r_lworth (st := st) (d := .d (.tuple ((runF t pts).map fr))) seq_tuple (by simpa using hc.s) hr hbud hp
  have e3 : fIx (.d (fr (worth (runF t pts) c.s))) (.d (.int 0)) st = some (.d (.int (worth (runF t pts) c.s).1), st) := by simp [fr]
  refine run_d0 ?_ rfl hp
  simp only [List.map_cons, List.map_nil, cmD]
  by_cases h1 : (worth (runF t pts) c.s).1 < 0
  · have g1 : ¬ 0 < (worth (runF t pts) c.s).1 := by omega
    have g2 : ¬ 0 ≤ (worth (runF t pts) c.s).1 := by omega
    cases ha : c.above <;> simp [b__law_fails, e1, e2, e3, cmW, ha, holdsF, cmV, h1, g1, g2]
  · by_cases h2 : (worth (runF t pts) c.s).1 = 0
    · have g1 : ¬ 0 < (worth (runF t pts) c.s).1 := by omega
      have g2 : 0 ≤ (worth (runF t pts) c.s).1 := by omega
      cases ha : c.above <;> simp [b__law_fails, e1, e2, e3, cmW, ha, holdsF, cmV, h1, h2, g1, g2]
    · have g1 : 0 < (worth (runF t pts) c.s).1 := by omega
      have g2 : 0 ≤ (worth (runF t pts) c.s).1 := by omega
      cases ha : c.above <;> simp [b__law_fails, e1, e2, e3, cmW, ha, holdsF, cmV, h1, h2, g1, g2]
theorem r_check_claim {t : Nt} {c : Cm} (ht : NtOk t) (hc : CmOk t c) (hp : Pl st) : m_check_claim [.d (netD t), .d (cmD c)] st = some (.d .none, st) := by
  have ho := ht.o2
  have e1 : m_raw_is_claim [.d (.int (t.outs.length : Nat)), .d (cmD c)] st = some (.d (.bool true), st) := by
    have e := r_is_sum (st := st) (many := (t.outs.length : Int)) hc.s (by omega) (by omega) hp
    refine run_d0 ?_ rfl hp
    simp only [List.map_cons, List.map_nil, cmD]
    cases ha : c.above <;> simp [b_raw_is_claim, r_is_tuple_of, hp, e, cmW, ha]
  refine run_nx0 (s' := [some (.d (netD t)), some (.d (cmD c))]) ?_ rfl hp
  simp only [List.map_cons, List.map_nil, netD]
  simp [b_check_claim, e1]
end
end Q

set_option Elab.async false
set_option linter.all false
set_option maxRecDepth 100000
set_option maxHeartbeats 4000000
/-! QH: boxes, their whole points -/
namespace Q
open PySem PySem.Spec PyProof.Rows L2 PD W
abbrev Sp1 := Fr × Fr
def spD (p : Sp1) : PyData := .tuple [fr p.1, fr p.2]
def boxD (b : List Sp1) : PyData := .tuple (b.map spD)
def ends (p : Sp1) : Int × Int := (0 - (0 - p.1.1) / p.1.2, p.2.1 / p.2.2)
structure SpOk (p : Sp1) : Prop where
  lo : FOk p.1 ∧ FB 12 p.1
  hi : FOk p.2 ∧ FB 12 p.2
  le : fle p.1 p.2 = true
  few : (ends p).2 - (ends p).1 + 1 ≤ 13
  low : -30 ≤ (ends p).1
  high : (ends p).2 ≤ 30
  low2 : (ends p).1 ≤ 60
  high2 : -60 ≤ (ends p).2
structure BxOk (b : List Sp1) : Prop where
  sp : ∀ p ∈ b, SpOk p
  l1 : 1 ≤ b.length
  l3 : b.length ≤ 3
def rngI (i j : Int) : List Int := (List.range (j - i).toNat).map fun k => i + (k : Nat)
theorem rngP_rngI (i j : Int) : rngP i j = (rngI i j).map PyData.int := by
  unfold rngP rngI
  rw [List.map_map]
  rfl
def one1 (k : Int) : Fr := (k, 1)
def ptD (pt : List Fr) : PyData := .tuple (pt.map fr)
/-- a point and one more place -/
def grow (p : Sp1) (pt : List Fr) : List (List Fr) := (rngI (ends p).1 ((ends p).2 + 1)).map fun k => pt ++ [one1 k]
def wholesF : List (List Fr) → List Sp1 → List (List Fr)
  | acc, [] => acc
  | acc, p :: b => wholesF (acc.flatMap (grow p)) b
def wid (p : Sp1) : Nat := ((ends p).2 + 1 - (ends p).1).toNat
theorem grow_len (p : Sp1) (pt : List Fr) : (grow p pt).length = wid p := by simp [grow, rngI, wid]
theorem flat_len (p : Sp1) : ∀ acc : List (List Fr), (acc.flatMap (grow p)).length = acc.length * wid p
  | [] => by simp
  | a :: acc => by rw [List.flatMap_cons, List.length_append, grow_len, flat_len p acc, List.length_cons, Nat.succ_mul]; omega
theorem wid_le {p : Sp1} (h : SpOk p) : wid p ≤ 13 := by have := h.few; unfold wid; omega
theorem wholes_le : ∀ (b : List Sp1) (acc : List (List Fr)), (∀ p ∈ b, SpOk p) → (wholesF acc b).length ≤ acc.length * 13 ^ b.length
  | [], acc, _ => by simp [wholesF]
  | p :: b, acc, h => by
    have h1 := wholes_le b (acc.flatMap (grow p)) fun q hq => h q (List.mem_cons_of_mem _ hq)
    have h2 := wid_le (h p List.mem_cons_self)
    rw [flat_len] at h1
    rw [wholesF, List.length_cons, Nat.pow_succ]
    refine Nat.le_trans h1 ?_
    calc acc.length * wid p * 13 ^ b.length ≤ acc.length * 13 * 13 ^ b.length := Nat.mul_le_mul_right _ (Nat.mul_le_mul_left _ h2)
      _ = acc.length * (13 ^ b.length * 13) := by rw [Nat.mul_assoc, Nat.mul_comm 13]
section
variable {st : Store}
theorem bt_lit {i : Int} {b : Nat} (h : i.natAbs < 2 ^ b) : Bt b i := h
theorem r_is_span {p : Sp1} (h : SpOk p) (hp : Pl st) : m_is_span [.d (spD p)] st = some (.d (.bool true), st) := by
  refine run_d0 ?_ rfl hp
  have e1 := r_is_fraction (st := st) h.lo.1 h.lo.2 (by decide) hp
  have e2 := r_is_fraction (st := st) h.hi.1 h.hi.2 (by decide) hp
  have e3 := r_at_most (st := st) h.lo.2 h.hi.2 (by decide) hp
  rw [h.le] at e3
  simp [b_is_span, spD, r_is_tuple_of, hp, e1, e2, e3]
theorem r_is_box {b : List Sp1} {m : Int} (h : BxOk b) (hm : (b.length : Int) = m) (hp : Pl st) : m_raw_is_box [.d (.int m), .d (boxD b)] st = some (.d (.bool true), st) := by
  refine run_d0 ?_ rfl hp
  have e : lcL (gmName 2) mYes (mApp m_is_span (mCons (mVar 2) mNil)) always (b.map spD) [some (.d (.int m)), some (.d (boxD b)), none] st = some ((b.map spD).map (fun _ => .bool true), st) := by
    refine lcL_map (fun _ => .bool true) rfl _ fun d hd => ?_
    obtain ⟨p, h1, rfl⟩ := List.mem_map.mp hd
    exact ⟨_, rfl, by simp [r_is_span (h.sp p h1) hp]⟩
  rw [map_true] at e
  have hl := h.l3
  have hl2 : b.length ≤ 16777216 := by omega
  simp only [boxD] at e
  simp [b_raw_is_box, boxD, r_is_tuple_of, hp, e, hl2, all_true, hm]
theorem r_check_box {t : Nt} {b : List Sp1} (ht : NtOk t) (h : BxOk b) (hm : b.length = t.m) (hp : Pl st) : m_check_box [.d (netD t), .d (boxD b)] st = some (.d .none, st) := by
  refine run_nx0 (s' := [some (.d (netD t)), some (.d (boxD b))]) ?_ rfl hp
  have e1 := r_check_net (st := st) ht hp
  have e2 := r_is_box (st := st) (m := (t.m : Nat)) h (by rw [hm]) hp
  simp only [netD] at e1
  simp only [List.map_cons, List.map_nil, netD]
  simp [b_check_box, e1, e2]
theorem r_check_lone {b : List Sp1} (h : BxOk b) (hp : Pl st) : m_check_lone_box [.d (boxD b)] st = some (.d .none, st) := by
  refine run_nx0 (s' := [some (.d (boxD b))]) ?_ rfl hp
  have e2 := r_is_box (st := st) (m := (b.length : Nat)) h rfl hp
  have h1 := h.l1
  have h3 := h.l3
  have g1 : (1 : Int) ≤ (b.length : Int) := by omega
  have g2 : (b.length : Int) ≤ 4 := by omega
  simp only [boxD] at e2
  simp only [List.map_cons, List.map_nil, boxD]
  simp [b_check_lone_box, e2, g1, g2]
theorem r_whole_ends {p : Sp1} (h : SpOk p) (hp : Pl st) : m_whole_ends [.d (spD p)] st = some (.d (.tuple [.int (ends p).1, .int (ends p).2]), st) := by
  refine run_d0 ?_ rfl hp
  have p1 := h.lo.1.1
  have p2 := h.hi.1.1
  have d1 : divOk p.1.2 = true := div_ok h.lo.2.2 (by omega)
  have d2 : divOk p.2.2 = true := div_ok h.hi.2.2 (by omega)
  simp [b_whole_ends, spD, fr, d1, d2, fdiv_pos p1, fdiv_pos p2, ends]
theorem many_loop (hp : Pl st) (a0 : Option DV) : ∀ (b : List Sp1) (acc : List (List Fr)) (s2 s3 s4 : Option DV), (∀ p ∈ b, SpOk p) → acc.length * 13 ^ b.length < 2 ^ 30 →
    ∃ t2 t3 t4, forL (gmName 2) (mSeq (mAsg (mApp m_whole_ends (mCons (mVar 2) mNil)) (gmTup 2 (gmCons (gmName 3) (gmCons (gmName 4) gmNil)))) (mAug 1 fMul (mApp fMax2 (mCons (mC (.int 0)) (mCons (mBin fAdd (mBin fSub (mVar 4) (mVar 3)) (mC (.int 1))) mNil))))) always (b.map spD) [a0, some (.d (.int (acc.length : Nat))), s2, s3, s4] st
      = some (.nx [a0, some (.d (.int ((wholesF acc b).length : Nat))), t2, t3, t4] st)
  | [], acc, s2, s3, s4, _, _ => ⟨s2, s3, s4, by simp [forL, wholesF]⟩
  | p :: b, acc, s2, s3, s4, h, hz => by
    have hp1 := h p List.mem_cons_self
    have hw := wid_le hp1
    rw [List.length_cons, Nat.pow_succ] at hz
    have hpos : 0 < 13 ^ b.length := Nat.pow_pos (by decide)
    have hz2 : (acc.flatMap (grow p)).length * 13 ^ b.length < 2 ^ 30 := by
      rw [flat_len]
      refine Nat.lt_of_le_of_lt ?_ hz
      calc acc.length * wid p * 13 ^ b.length ≤ acc.length * 13 * 13 ^ b.length := Nat.mul_le_mul_right _ (Nat.mul_le_mul_left _ hw)
        _ = acc.length * (13 ^ b.length * 13) := by rw [Nat.mul_assoc, Nat.mul_comm 13]
    obtain ⟨t2, t3, t4, ih⟩ := many_loop hp a0 b (acc.flatMap (grow p)) (some (.d (spD p))) (some (.d (.int (ends p).1))) (some (.d (.int (ends p).2))) (fun q hq => h q (List.mem_cons_of_mem _ hq)) hz2
    have e1 := r_whole_ends (st := st) hp1 hp
    have hacc : acc.length < 2 ^ 30 := by
      refine Nat.lt_of_le_of_lt ?_ hz
      exact Nat.le_mul_of_pos_right _ (Nat.mul_pos hpos (by decide))
    have ew : (if (ends p).2 - (ends p).1 + 1 > 0 then (ends p).2 - (ends p).1 + 1 else 0) = (wid p : Int) := by unfold wid; split <;> omega
    have hm : mulOk (acc.length : Int) (wid p : Int) = true := mul_ok (b := 30) (c := 10) (by unfold Bt; omega) (by unfold Bt; omega)
    have el : (acc.length : Int) * (wid p : Int) = ((acc.flatMap (grow p)).length : Int) := by rw [flat_len, Int.natCast_mul]
    refine ⟨t2, t3, t4, ?_⟩
    rw [wholesF, ← ih]
    simp [forL, e1, ew, hm, el]
theorem r_many {b : List Sp1} (h : BxOk b) (hp : Pl st) : m_raw_whole_many [.d (boxD b)] st = some (.d (.int ((wholesF [[]] b).length : Nat)), st) := by
  have h3 := h.l3
  have hz : ([[]] : List (List Fr)).length * 13 ^ b.length < 2 ^ 30 := by
    have : 13 ^ b.length ≤ 13 ^ 3 := Nat.pow_le_pow_right (by decide) h3
    simp at this ⊢
    omega
  obtain ⟨t2, t3, t4, e⟩ := many_loop hp (some (.d (boxD b))) b [[]] none none none h.sp hz
  refine run_d0 ?_ rfl hp
  simp only [boxD] at e
  simp only [List.map_cons, List.map_nil, boxD]
  simp at e
  simp [b_raw_whole_many, e]
theorem wholes_few {b : List Sp1} (h : BxOk b) : (wholesF [[]] b).length ≤ 2197 := by
  have h3 := h.l3
  have h1 := wholes_le b [[]] h.sp
  have : 13 ^ b.length ≤ 13 ^ 3 := Nat.pow_le_pow_right (by decide) h3
  simp at this h1
  omega
theorem r_whole_many {b : List Sp1} (h : BxOk b) (hp : Pl st) : m_whole_many [.d (boxD b)] st = some (.d (.int ((wholesF [[]] b).length : Nat)), st) := by
  refine run_d0 ?_ rfl hp
  simp [b_whole_many, r_check_lone h hp, r_many h hp]
theorem r_check_few {b : List Sp1} (h : BxOk b) (hp : Pl st) : m_check_few [.d (boxD b)] st = some (.d .none, st) := by
  refine run_nx0 (s' := [some (.d (boxD b))]) ?_ rfl hp
  have hf := wholes_few h
  have g : ¬ (5000 : Int) < ((wholesF [[]] b).length : Nat) := by omega
  simp [b_check_few, r_many h hp, g]
theorem r_check_net_box {t : Nt} {b : List Sp1} (ht : NtOk t) (h : BxOk b) (hm : b.length = t.m) (hp : Pl st) : m_check_net_box [.d (netD t), .d (boxD b)] st = some (.d .none, st) := by
  refine run_nx0 (s' := [some (.d (netD t)), some (.d (boxD b))]) ?_ rfl hp
  simp [b_check_net_box, r_check_net ht hp, r_check_box ht h hm hp]
theorem r_check_all {t : Nt} {b : List Sp1} {c : Cm} (ht : NtOk t) (h : BxOk b) (hm : b.length = t.m) (hc : CmOk t c) (hp : Pl st) : m_check_all [.d (netD t), .d (boxD b), .d (cmD c)] st = some (.d .none, st) := by
  refine run_nx0 (s' := [some (.d (netD t)), some (.d (boxD b)), some (.d (cmD c))]) ?_ rfl hp
  simp [b_check_all, r_check_net_box ht h hm hp, r_check_claim ht hc hp, r_check_few h hp]

/-! ### the points -/
theorem noDict_fr (x : Fr) : PD.noDict (fr x) = true := rfl
theorem noDicts_map {α : Type} (f : α → PyData) (h : ∀ a, PD.noDict (f a) = true) : ∀ l : List α, PD.noDicts (l.map f) = true
  | [] => rfl
  | a :: l => by rw [List.map_cons, PD.noDicts, h a, noDicts_map f h l]; rfl
theorem noDict_pt (pt : List Fr) : PD.noDict (ptD pt) = true := by
  unfold ptD
  rw [PD.noDict]
  exact noDicts_map fr noDict_fr pt
theorem noDicts_pts (l : List (List Fr)) : PD.noDicts (l.map ptD) = true := noDicts_map ptD noDict_pt l
/-- a list of points that is walked -/
def FoundAt (dv : DV) (st : Store) (xs : List PyData) : Prop := dv = .d (.list xs) ∨ ∃ n, dv = .r n ∧ st[n]? = some (some (.lst xs))
theorem found_it {dv : DV} {st : Store} {xs : List PyData} (h : FoundAt dv st xs) (hn : PD.noDicts xs = true) : ∃ g, itOf dv st = some ((xs, g), st) ∧ ∀ more, g (st ++ more) = true := by
  rcases h with rfl | ⟨n, rfl, hs⟩
  · exact ⟨always, rfl, fun _ => rfl⟩
  · refine ⟨holds n xs, ?_, fun more => ?_⟩
    · unfold itOf
      simp only [hs]
    · have hl := (List.getElem?_eq_some_iff.mp hs).1
      unfold holds
      rw [List.getElem?_append_left hl, hs]
      exact dEqs_refl xs hn
theorem extend_at {m me : EM} {s : SE} {st0 st : Store} {n : Nat} {xs ys : List PyData} (hm : m s st0 = some (.r n, st)) (he : me s st = some (.d (.list ys), st)) (hn : st[n]? = some (some (.lst xs))) (hl : xs.length + ys.length ≤ 16777216) : mExtend m me s st0 = some (.d .none, st.set n (some (.lst (xs ++ ys)))) := by
  unfold mExtend
  simp only [hm, isL, hn, if_true, he, catOk, decide_eq_true hl, setL]
theorem bd_of {i : Int} (h1 : -1000 ≤ i) (h2 : i ≤ 1000) : bd i = true := by
  unfold bd
  rw [decide_eq_true (by omega), decide_eq_true (by omega)]
  rfl
/-- the places of one more axis -/
theorem lc_grow {s0 : SE} {e : EM} {i : Nat} (p : Sp1) (pt : List Fr) (he : ∀ k : Int, e (s0.set i (some (.d (.int k)))) st = some (.d (ptD (pt ++ [one1 k])), st)) : ∀ l : List Int, lcL (gmName i) mYes e always (l.map PyData.int) s0 st = some ((l.map fun k => pt ++ [one1 k]).map ptD, st)
  | [] => by simp [lcL]
  | k :: l => by
    have ih := lc_grow p pt he l
    simp only [List.map_cons, lcL, e_always, if_true, e_gmName, e_mYes, he k, ih]
theorem cat_pt {pt : List Fr} {k : Int} (h : pt.length ≤ 100) : fAdd (.d (ptD pt)) (.d (.tuple [.tuple [.int k, .int 1]])) st = some (.d (ptD (pt ++ [one1 k])), st) := by
  have hc : catOk (pt.map fr).length 1 = true := by
    unfold catOk
    rw [decide_eq_true]
    rw [List.length_map]; omega
  unfold ptD fAdd
  simp only [tupV, List.length_singleton, hc, if_true, e_ret, List.map_append, List.map_cons, List.map_nil]
  rfl
theorem inner {st' : Store} {g : Store → Bool} (hg : ∀ more, g (st' ++ more) = true) (hp : Pl st') {p : Sp1} (h : SpOk p) (a0 a1 a2 a7 : Option DV) : ∀ (pts acc : List (List Fr)) (s4 : Option DV), (∀ pt ∈ pts, pt.length ≤ 100) → acc.length + pts.length * 13 ≤ 16777216 →
    ∃ t4, forL (gmName 4) (mDrop (mExtend (mVar 3) (mLc [7] (mRng2 (mVar 5) (mBin fAdd (mVar 6) (mC (.int 1)))) (gmName 7) mYes (mBin fAdd (mVar 4) (mTup (mCons (mTup (mCons (mVar 7) (mCons (mC (.int 1)) mNil))) mNil)))))) g (pts.map ptD) [a0, a1, a2, some (.r st'.length), s4, some (.d (.int (ends p).1)), some (.d (.int (ends p).2)), a7] (st' ++ [some (.lst (acc.map ptD))])
      = some (.nx [a0, a1, a2, some (.r st'.length), t4, some (.d (.int (ends p).1)), some (.d (.int (ends p).2)), a7] (st' ++ [some (.lst ((acc ++ pts.flatMap (grow p)).map ptD))]))
  | [], acc, s4, _, _ => ⟨s4, by simp [forL, hg]⟩
  | pt :: pts, acc, s4, hl, hz => by
    have hw := wid_le h
    rw [List.length_cons, Nat.succ_mul] at hz
    obtain ⟨t4, ih⟩ := inner hg hp h a0 a1 a2 a7 pts (acc ++ grow p pt) (some (.d (ptD pt))) (fun q hq => hl q (List.mem_cons_of_mem _ hq)) (by rw [List.length_append, grow_len]; omega)
    have b1 := bd_of (i := (ends p).1) (by have := h.low; omega) (by have := h.low2; omega)
    have b2 := bd_of (i := (ends p).2 + 1) (by have := h.high2; omega) (by have := h.high; omega)
    have e1 := lc_grow (st := st' ++ [some (.lst (acc.map ptD))]) (s0 := [a0, a1, a2, some (.r st'.length), some (.d (ptD pt)), some (.d (.int (ends p).1)), some (.d (.int (ends p).2)), none]) (i := 7) (e := mBin fAdd (mVar 4) (mTup (mCons (mTup (mCons (mVar 7) (mCons (mC (.int 1)) mNil))) mNil))) p pt (fun k => by simp [cat_pt (hl pt List.mem_cons_self)]) (rngI (ends p).1 ((ends p).2 + 1))
    have hgl : (rngI (ends p).1 ((ends p).2 + 1)).length ≤ 16777216 := by
      have := grow_len p pt
      rw [grow, List.length_map] at this
      omega
    have e2 := extend_at (m := mVar 3) (me := mLc [7] (mRng2 (mVar 5) (mBin fAdd (mVar 6) (mC (.int 1)))) (gmName 7) mYes (mBin fAdd (mVar 4) (mTup (mCons (mTup (mCons (mVar 7) (mCons (mC (.int 1)) mNil))) mNil)))) (s := [a0, a1, a2, some (.r st'.length), some (.d (ptD pt)), some (.d (.int (ends p).1)), some (.d (.int (ends p).2)), a7]) (st0 := st' ++ [some (.lst (acc.map ptD))]) (st := st' ++ [some (.lst (acc.map ptD))]) (n := st'.length) (xs := acc.map ptD) (ys := (grow p pt).map ptD) (by simp)
      (by
        simp only [e_mLc, e_mRng2, e_mVar, List.getElem?_cons_succ, List.getElem?_cons_zero, e_mBin, e_mC, e_add, b1, b2, Bool.and_self, if_true, rngP_rngI, List.length_map, decide_eq_true hgl, e_wipe1, e_wipe0, List.set_cons_succ, List.set_cons_zero, e1]
        rfl) (by simp) (by rw [List.length_map, List.length_map, grow_len]; omega)
    refine ⟨t4, ?_⟩
    rw [List.flatMap_cons, show acc ++ (grow p pt ++ pts.flatMap (grow p)) = (acc ++ grow p pt) ++ pts.flatMap (grow p) by simp, ← ih]
    simp only [List.map_cons, forL, hg, if_true, e_gmName, List.set_cons_succ, List.set_cons_zero, e_mDrop, e2, set_at0, List.map_append]
end
end Q

set_option Elab.async false
set_option linter.all false
set_option maxRecDepth 100000
set_option maxHeartbeats 4000000
/-! QI: the lists of points -/
namespace Q
open PySem PySem.Spec PyProof.Rows L2 PD W
theorem grow_mem {p : Sp1} {pt q : List Fr} (h : q ∈ grow p pt) : ∃ k : Int, (ends p).1 ≤ k ∧ k ≤ (ends p).2 ∧ q = pt ++ [one1 k] := by
  unfold grow at h
  obtain ⟨k, hk, rfl⟩ := List.mem_map.mp h
  unfold rngI at hk
  obtain ⟨n, hn, rfl⟩ := List.mem_map.mp hk
  have := List.mem_range.mp hn
  exact ⟨_, by omega, by omega, rfl⟩
theorem one1_ok {k : Int} (h1 : -30 ≤ k) (h2 : k ≤ 30) : FOk (one1 k) ∧ FB 5 (one1 k) := by
  refine ⟨⟨Int.zero_lt_one, ?_⟩, ?_, ?_⟩
  · show Int.gcd k 1 = 1
    exact Int.gcd_one
  · show k.natAbs < 2 ^ 5
    omega
  · show (1 : Int).natAbs < 2 ^ 5
    decide
theorem FBs_snoc_rep {k : Nat} {pt : List Fr} {v : Fr} (h : FBs (List.replicate k 5) pt) (h1 : FOk v ∧ FB 5 v) : FBs (List.replicate (k + 1) 5) (pt ++ [v]) := by
  have := h.snoc h1.1 h1.2
  rw [List.replicate_succ']
  exact this
theorem wholes_pts : ∀ (b : List Sp1) (acc : List (List Fr)) (k : Nat), (∀ p ∈ b, SpOk p) → (∀ pt ∈ acc, FBs (List.replicate k 5) pt) → ∀ pt ∈ wholesF acc b, FBs (List.replicate (k + b.length) 5) pt
  | [], acc, k, _, h, pt, hp => h pt hp
  | p :: b, acc, k, hb, h, pt, hp => by
    have hp1 := hb p List.mem_cons_self
    have := wholes_pts b (acc.flatMap (grow p)) (k + 1) (fun q hq => hb q (List.mem_cons_of_mem _ hq)) (fun q hq => by
      obtain ⟨r, hr, hq⟩ := List.mem_flatMap.mp hq
      obtain ⟨j, j1, j2, rfl⟩ := grow_mem hq
      exact FBs_snoc_rep (h r hr) (one1_ok (by have := hp1.low; omega) (by have := hp1.high; omega))) pt hp
    rw [List.length_cons, show k + (b.length + 1) = k + 1 + b.length by omega]
    exact this
section
variable {st : Store}
def FoundG (k : Nat) (dv : DV) (st : Store) (xs : List PyData) : Prop := dv = .d (.list xs) ∨ ∃ n, k ≤ n ∧ dv = .r n ∧ st[n]? = some (some (.lst xs))
theorem FoundG.at_ {k : Nat} {dv : DV} {st : Store} {xs : List PyData} (h : FoundG k dv st xs) : FoundAt dv st xs := h.elim .inl fun ⟨n, _, h2, h3⟩ => .inr ⟨n, h2, h3⟩
theorem points_loop (k0 : Nat) (a0 : Option DV) : ∀ (b : List Sp1) (acc : List (List Fr)) (dv : DV) (st' : Store) (s2 s3 s4 s5 s6 s7 : Option DV), k0 ≤ st'.length → FoundG k0 dv st' (acc.map ptD) → Pl st' → (∀ p ∈ b, SpOk p) → (∀ pt ∈ acc, pt.length + b.length ≤ 100) → acc.length * 13 ^ b.length ≤ 1000000 →
    ∃ dv' more t2 t3 t4 t5 t6 t7, forL (gmName 2) (mSeq (mAsg (mApp m_whole_ends (mCons (mVar 2) mNil)) (gmTup 2 (gmCons (gmName 5) (gmCons (gmName 6) gmNil)))) (mSeq (mSet 3 (mLstM mNil)) (mSeq (mFor (mIt (mVar 1)) (gmName 4) (mDrop (mExtend (mVar 3) (mLc [7] (mRng2 (mVar 5) (mBin fAdd (mVar 6) (mC (.int 1)))) (gmName 7) mYes (mBin fAdd (mVar 4) (mTup (mCons (mTup (mCons (mVar 7) (mCons (mC (.int 1)) mNil))) mNil))))))) (mSet 1 (mVar 3))))) always (b.map spD) [a0, some dv, s2, s3, s4, s5, s6, s7] st'
      = some (.nx [a0, some dv', t2, t3, t4, t5, t6, t7] (st' ++ more)) ∧ FoundG k0 dv' (st' ++ more) ((wholesF acc b).map ptD) ∧ Pl (st' ++ more)
  | [], acc, dv, st', s2, s3, s4, s5, s6, s7, _, hf, hp, _, _, _ => ⟨dv, [], s2, s3, s4, s5, s6, s7, by simp [forL], by simpa [wholesF] using hf, by simpa using hp⟩
  | p :: b, acc, dv, st', s2, s3, s4, s5, s6, s7, hk, hf, hp, hb, hl, hz => by
    have hp1 := hb p List.mem_cons_self
    have hw := wid_le hp1
    rw [List.length_cons, Nat.pow_succ] at hz
    have hpos : 0 < 13 ^ b.length := Nat.pow_pos (by decide)
    have hz2 : (acc.flatMap (grow p)).length * 13 ^ b.length ≤ 1000000 := by
      rw [flat_len]
      refine Nat.le_trans ?_ hz
      calc acc.length * wid p * 13 ^ b.length ≤ acc.length * 13 * 13 ^ b.length := Nat.mul_le_mul_right _ (Nat.mul_le_mul_left _ hw)
        _ = acc.length * (13 ^ b.length * 13) := by rw [Nat.mul_assoc, Nat.mul_comm 13]
    have hacc : acc.length * 13 ≤ 1000000 := by
      refine Nat.le_trans ?_ hz
      exact Nat.mul_le_mul_left _ (Nat.le_mul_of_pos_left _ hpos)
    have e1 := r_whole_ends (st := st') hp1 hp
    obtain ⟨g, eg, hg⟩ := found_it (st := st' ++ [some (.lst [])]) (dv := dv) (xs := acc.map ptD) (by
      rcases hf.at_ with h | ⟨n, h1, h2⟩
      · exact .inl h
      · exact .inr ⟨n, h1, by rw [List.getElem?_append_left (List.getElem?_eq_some_iff.mp h2).1]; exact h2⟩) (noDicts_pts acc)
    -- the guard over every store that is longer than st'
    have hg' : ∀ more, g (st' ++ more) = true := by
      rcases hf.at_ with h | ⟨n, h1, h2⟩
      · subst h
        have : some (((acc.map ptD, always), st' ++ [some (MO.lst [])]) : (List PyData × (Store → Bool)) × Store) = some ((acc.map ptD, g), st' ++ [some (MO.lst [])]) := eg
        cases this
        exact fun _ => rfl
      · subst h1
        have h3 : (st' ++ [some (MO.lst [])])[n]? = some (some (.lst (acc.map ptD))) := by rw [List.getElem?_append_left (List.getElem?_eq_some_iff.mp h2).1]; exact h2
        unfold itOf at eg
        simp only [h3] at eg
        cases eg
        intro more
        unfold holds
        rw [List.getElem?_append_left (List.getElem?_eq_some_iff.mp h2).1, h2]
        exact dEqs_refl _ (noDicts_pts acc)
    obtain ⟨t4, ei⟩ := inner hg' hp hp1 a0 (some dv) (some (.d (spD p))) s7 acc [] s4 (fun pt hpt => by have := hl pt hpt; omega) (by simp; omega)
    have hfl : ∀ pt ∈ acc.flatMap (grow p), pt.length + b.length ≤ 100 := fun pt hpt => by
      obtain ⟨r, hr, hq⟩ := List.mem_flatMap.mp hpt
      obtain ⟨j, _, _, rfl⟩ := grow_mem hq
      have := hl r hr
      simp at this ⊢
      omega
    obtain ⟨dv', more, t2, t3, u4, t5, t6, t7, ih, hf', hp'⟩ := points_loop k0 a0 b (acc.flatMap (grow p)) (.r st'.length) (st' ++ [some (.lst ((acc.flatMap (grow p)).map ptD))]) (some (.d (spD p))) (some (.r st'.length)) t4 (some (.d (.int (ends p).1))) (some (.d (.int (ends p).2))) s7
      (by simp; omega) (.inr ⟨st'.length, hk, rfl, by simp⟩) (pl1 hp) (fun q hq => hb q (List.mem_cons_of_mem _ hq)) hfl hz2
    refine ⟨dv', some (.lst ((acc.flatMap (grow p)).map ptD)) :: more, t2, t3, u4, t5, t6, t7, ?_, ?_, ?_⟩
    · rw [show st' ++ some (MO.lst ((acc.flatMap (grow p)).map ptD)) :: more = (st' ++ [some (MO.lst ((acc.flatMap (grow p)).map ptD))]) ++ more by simp, ← ih]
      simp only [List.map_nil, List.nil_append] at ei
      simp [forL, e1, eg, ei]
    · rw [show st' ++ some (MO.lst ((acc.flatMap (grow p)).map ptD)) :: more = (st' ++ [some (MO.lst ((acc.flatMap (grow p)).map ptD))]) ++ more by simp, wholesF]
      exact hf'
    · rw [show st' ++ some (MO.lst ((acc.flatMap (grow p)).map ptD)) :: more = (st' ++ [some (MO.lst ((acc.flatMap (grow p)).map ptD))]) ++ more by simp]
      exact hp'
def ptsD (b : List Sp1) : List PyData := (wholesF [[]] b).map ptD
theorem pow_le {b : List Sp1} (h : BxOk b) : 13 ^ b.length ≤ 2197 := Nat.le_trans (Nat.pow_le_pow_right (by decide) h.l3) (by decide)
theorem r_points {b : List Sp1} (h : BxOk b) (hp : Pl st) : m_raw_whole_points [.d (boxD b)] st = some (.d (.list (ptsD b)), st) := by
  have em := r_many h hp
  have hpw := pow_le h
  by_cases h0 : (wholesF [[]] b).length = 0
  · refine run_d0 ?_ rfl hp
    rw [h0] at em
    have hn : ptsD b = [] := by
      unfold ptsD
      rw [List.eq_nil_of_length_eq_zero h0]
      rfl
    rw [hn]
    simp [b_raw_whole_points, em]
  · have hne : ¬ (((wholesF [[]] b).length : Nat) : Int) = 0 := by omega
    have hne2 : ¬ wholesF [[]] b = [] := fun z => h0 (by rw [z]; rfl)
    obtain ⟨dv', more, t2, t3, t4, t5, t6, t7, e, hf, hp'⟩ := points_loop st.length (some (.d (boxD b))) b [[]] (.d (.list [.tuple []])) st none none none none none none (Nat.le_refl _) (.inl rfl) hp h.sp (fun pt hpt => by simp at hpt; subst hpt; have := h.l3; simp; omega) (by simp; omega)
    have key : b_raw_whole_points [some (.d (boxD b)), none, none, none, none, none, none, none] st = mRetF (mVar 1) [some (.d (boxD b)), some dv', t2, t3, t4, t5, t6, t7] (st ++ more) := by
      simp only [boxD] at e ⊢
      simp only [boxD] at em
      simp [b_raw_whole_points, em, hne, hne2, e]
    rcases hf with rfl | ⟨n, hn, rfl, hs⟩
    · refine run_d (more := more) ?_ rfl hp'
      show b_raw_whole_points [some (.d (boxD b)), none, none, none, none, none, none, none] st = _
      rw [key]
      simp [mRetF]
      rfl
    · have hset : (st ++ more).set n none = st ++ more.set (n - st.length) none := List.set_append_right _ _ hn
      refine run_d (more := more.set (n - st.length) none) ?_ rfl (by rw [← hset]; exact hp'.set rfl)
      show b_raw_whole_points [some (.d (boxD b)), none, none, none, none, none, none, none] st = _
      rw [key]
      have : mRetF (mVar 1) [some (.d (boxD b)), some (.r n), t2, t3, t4, t5, t6, t7] (st ++ more) = some (.ret (.d (.list (ptsD b))) ((st ++ more).set n none)) := by
        unfold mRetF
        simp only [e_mVar, List.getElem?_cons_succ, List.getElem?_cons_zero, hs]
        rfl
      rw [this, hset]
theorem r_whole_points {b : List Sp1} (h : BxOk b) (hp : Pl st) : m_whole_points [.d (boxD b)] st = some (.d (.tuple (ptsD b)), st) := by
  refine run_d0 ?_ rfl hp
  simp [b_whole_points, r_check_lone h hp, r_check_few h hp, r_points h hp]

/-! ### the law's own list -/
theorem linner (hp : Pl st) {p : Sp1} (h : SpOk p) (a0 a1 a2 a3 a7 : Option DV) : ∀ (pts acc : List (List Fr)) (s6 : Option DV), (∀ pt ∈ pts, pt.length ≤ 100) → acc.length + pts.length * 13 ≤ 16777216 →
    ∃ t6, forL (gmName 6) (mSet 5 (mBin fAdd (mVar 5) (mLc [7] (mIt (mVar 4)) (gmName 7) mYes (mBin fAdd (mVar 6) (mTup (mCons (mTup (mCons (mVar 7) (mCons (mC (.int 1)) mNil))) mNil)))))) always (pts.map ptD) [a0, a1, a2, a3, some (.d (.list ((rngI (ends p).1 ((ends p).2 + 1)).map PyData.int))), some (.d (.list (acc.map ptD))), s6, a7] st
      = some (.nx [a0, a1, a2, a3, some (.d (.list ((rngI (ends p).1 ((ends p).2 + 1)).map PyData.int))), some (.d (.list ((acc ++ pts.flatMap (grow p)).map ptD))), t6, a7] st)
  | [], acc, s6, _, _ => ⟨s6, by simp [forL]⟩
  | pt :: pts, acc, s6, hl, hz => by
    have hw := wid_le h
    rw [List.length_cons, Nat.succ_mul] at hz
    obtain ⟨t6, ih⟩ := linner hp h a0 a1 a2 a3 a7 pts (acc ++ grow p pt) (some (.d (ptD pt))) (fun q hq => hl q (List.mem_cons_of_mem _ hq)) (by rw [List.length_append, grow_len]; omega)
    have e1 := lc_grow (st := st) (s0 := [a0, a1, a2, a3, some (.d (.list ((rngI (ends p).1 ((ends p).2 + 1)).map PyData.int))), some (.d (.list (acc.map ptD))), some (.d (ptD pt)), none]) (i := 7) (e := mBin fAdd (mVar 6) (mTup (mCons (mTup (mCons (mVar 7) (mCons (mC (.int 1)) mNil))) mNil))) p pt (fun k => by simp [cat_pt (hl pt List.mem_cons_self)]) (rngI (ends p).1 ((ends p).2 + 1))
    have hgl : (rngI (ends p).1 ((ends p).2 + 1)).length ≤ 16777216 := by
      have := grow_len p pt
      rw [grow, List.length_map] at this
      omega
    have e2 : fAdd (.d (.list (acc.map ptD))) (.d (.list ((grow p pt).map ptD))) st = some (.d (.list ((acc ++ grow p pt).map ptD)), st) := by
      have hc : catOk (acc.map ptD).length ((grow p pt).map ptD).length = true := by
        unfold catOk
        rw [decide_eq_true]
        rw [List.length_map, List.length_map, grow_len]; omega
      unfold fAdd
      simp only [tupV, lstV, hc, if_true, e_ret, List.map_append]
    refine ⟨t6, ?_⟩
    rw [List.flatMap_cons, show acc ++ (grow p pt ++ pts.flatMap (grow p)) = (acc ++ grow p pt) ++ pts.flatMap (grow p) by simp, ← ih]
    have e3 : mLc [7] (mIt (mVar 4)) (gmName 7) mYes (mBin fAdd (mVar 6) (mTup (mCons (mTup (mCons (mVar 7) (mCons (mC (.int 1)) mNil))) mNil))) [a0, a1, a2, a3, some (.d (.list ((rngI (ends p).1 ((ends p).2 + 1)).map PyData.int))), some (.d (.list (acc.map ptD))), some (.d (ptD pt)), a7] st = some (.d (.list ((grow p pt).map ptD)), st) := by
      simp only [e_mLc, e_mIt, e_mVar, List.getElem?_cons_succ, List.getElem?_cons_zero, e_it_l, List.length_map, decide_eq_true hgl, if_true, e_wipe1, e_wipe0, List.set_cons_succ, List.set_cons_zero, e1]
      rfl
    simp only [List.map_cons, forL, e_always, if_true, e_gmName, List.set_cons_succ, List.set_cons_zero, e_mSet, e_mBin, e_mVar, List.getElem?_cons_succ, List.getElem?_cons_zero, e3, e2]
theorem lpoints_loop (hp : Pl st) (a0 : Option DV) : ∀ (b : List Sp1) (acc : List (List Fr)) (s2 s3 s4 s5 s6 s7 : Option DV), (∀ p ∈ b, SpOk p) → (∀ pt ∈ acc, pt.length + b.length ≤ 100) → acc.length * 13 ^ b.length ≤ 1000000 →
    ∃ t2 t3 t4 t5 t6 t7, forL (gmTup 2 (gmCons (gmName 2) (gmCons (gmName 3) gmNil))) (mSeq (mSet 4 (mLstRg2 (mBin fSub (mC (.int 0)) (mBin fDiv (mBin fSub (mC (.int 0)) (mBin fIx (mVar 2) (mC (.int 0)))) (mBin fIx (mVar 2) (mC (.int 1))))) (mBin fAdd (mBin fDiv (mBin fIx (mVar 3) (mC (.int 0))) (mBin fIx (mVar 3) (mC (.int 1)))) (mC (.int 1))))) (mSeq (mSet 5 (mLst mNil)) (mSeq (mFor (mIt (mVar 1)) (gmName 6) (mSet 5 (mBin fAdd (mVar 5) (mLc [7] (mIt (mVar 4)) (gmName 7) mYes (mBin fAdd (mVar 6) (mTup (mCons (mTup (mCons (mVar 7) (mCons (mC (.int 1)) mNil))) mNil))))))) (mSet 1 (mVar 5))))) always (b.map spD) [a0, some (.d (.list (acc.map ptD))), s2, s3, s4, s5, s6, s7] st
      = some (.nx [a0, some (.d (.list ((wholesF acc b).map ptD))), t2, t3, t4, t5, t6, t7] st)
  | [], acc, s2, s3, s4, s5, s6, s7, _, _, _ => ⟨s2, s3, s4, s5, s6, s7, by simp [forL, wholesF]⟩
  | p :: b, acc, s2, s3, s4, s5, s6, s7, hb, hl, hz => by
    have hp1 := hb p List.mem_cons_self
    have hw := wid_le hp1
    rw [List.length_cons, Nat.pow_succ] at hz
    have hpos : 0 < 13 ^ b.length := Nat.pow_pos (by decide)
    have hz2 : (acc.flatMap (grow p)).length * 13 ^ b.length ≤ 1000000 := by
      rw [flat_len]
      refine Nat.le_trans ?_ hz
      calc acc.length * wid p * 13 ^ b.length ≤ acc.length * 13 * 13 ^ b.length := Nat.mul_le_mul_right _ (Nat.mul_le_mul_left _ hw)
        _ = acc.length * (13 ^ b.length * 13) := by rw [Nat.mul_assoc, Nat.mul_comm 13]
    have hacc : acc.length * 13 ≤ 1000000 := by
      refine Nat.le_trans ?_ hz
      exact Nat.mul_le_mul_left _ (Nat.le_mul_of_pos_left _ hpos)
    have hfl : ∀ pt ∈ acc.flatMap (grow p), pt.length + b.length ≤ 100 := fun pt hpt => by
      obtain ⟨r, hr, hq⟩ := List.mem_flatMap.mp hpt
      obtain ⟨j, _, _, rfl⟩ := grow_mem hq
      have := hl r hr
      simp at this ⊢
      omega
    obtain ⟨t6, ei⟩ := linner hp hp1 a0 (some (.d (.list (acc.map ptD)))) (some (.d (fr p.1))) (some (.d (fr p.2))) s7 acc [] s6 (fun pt hpt => by have := hl pt hpt; omega) (by simp; omega)
    obtain ⟨u2, u3, u4, u5, u6, u7, ih⟩ := lpoints_loop hp a0 b (acc.flatMap (grow p)) (some (.d (fr p.1))) (some (.d (fr p.2))) (some (.d (.list ((rngI (ends p).1 ((ends p).2 + 1)).map PyData.int)))) (some (.d (.list ((acc.flatMap (grow p)).map ptD)))) t6 s7 (fun q hq => hb q (List.mem_cons_of_mem _ hq)) hfl hz2
    refine ⟨u2, u3, u4, u5, u6, u7, ?_⟩
    have p1 := hp1.lo.1.1
    have p2 := hp1.hi.1.1
    have d1 : divOk p.1.2 = true := div_ok hp1.lo.2.2 (by omega)
    have d2 : divOk p.2.2 = true := div_ok hp1.hi.2.2 (by omega)
    have b1 := bd_of (i := (ends p).1) (by have := hp1.low; omega) (by have := hp1.low2; omega)
    have b2 := bd_of (i := (ends p).2 + 1) (by have := hp1.high2; omega) (by have := hp1.high; omega)
    have hr : rgOk (ends p).1 ((ends p).2 + 1) = true := by
      unfold rgOk
      rw [b1, b2]
      have := hp1.few
      simp
      omega
    have er : mLstRg2 (mBin fSub (mC (.int 0)) (mBin fDiv (mBin fSub (mC (.int 0)) (mBin fIx (mVar 2) (mC (.int 0)))) (mBin fIx (mVar 2) (mC (.int 1))))) (mBin fAdd (mBin fDiv (mBin fIx (mVar 3) (mC (.int 0))) (mBin fIx (mVar 3) (mC (.int 1)))) (mC (.int 1))) [a0, some (.d (.list (acc.map ptD))), some (.d (fr p.1)), some (.d (fr p.2)), s4, s5, s6, s7] st = some (.d (.list ((rngI (ends p).1 ((ends p).2 + 1)).map PyData.int)), st) := by
      have i0 : fIx (.d (fr p.1)) (.d (.int 0)) st = some (.d (.int p.1.1), st) := by simp [fr]
      have i1 : fIx (.d (fr p.1)) (.d (.int 1)) st = some (.d (.int p.1.2), st) := by simp [fr]
      have i2 : fIx (.d (fr p.2)) (.d (.int 0)) st = some (.d (.int p.2.1), st) := by simp [fr]
      have i3 : fIx (.d (fr p.2)) (.d (.int 1)) st = some (.d (.int p.2.2), st) := by simp [fr]
      unfold mLstRg2
      simp only [e_mBin, e_mC, e_mVar, List.getElem?_cons_succ, List.getElem?_cons_zero, i0, i1, i2, i3, e_sub, e_div, d1, d2, if_true, e_add, fdiv_pos p1, fdiv_pos p2]
      show (if rgOk (ends p).1 ((ends p).2 + 1) then _ else _) = _
      rw [hr, if_pos rfl, e_ret, rngP_rngI]
      rfl
    simp only [List.map_nil, List.nil_append] at ei
    rw [wholesF, ← ih]
    have eg : gmTup 2 (gmCons (gmName 2) (gmCons (gmName 3) gmNil)) (.d (spD p)) [a0, some (.d (.list (acc.map ptD))), s2, s3, s4, s5, s6, s7] = some [a0, some (.d (.list (acc.map ptD))), some (.d (fr p.1)), some (.d (fr p.2)), s4, s5, s6, s7] := by simp [spD]
    simp only [List.map_cons, forL, e_always, if_true, eg, e_mSeq, e_mSet, er, List.set_cons_succ, List.set_cons_zero]
    simp [ei]
theorem r_lwholes {b : List Sp1} (h : BxOk b) (hp : Pl st) : m__law_wholes [.d (boxD b)] st = some (.d (.list (ptsD b)), st) := by
  have hpw := pow_le h
  obtain ⟨t2, t3, t4, t5, t6, t7, e⟩ := lpoints_loop hp (some (.d (boxD b))) b [[]] none none none none none none h.sp (fun pt hpt => by simp at hpt; subst hpt; have := h.l3; simp; omega) (by simp; omega)
  refine run_d0 ?_ rfl hp
  have ep : ([[]] : List (List Fr)).map ptD = [.tuple []] := rfl
  rw [ep] at e
  simp only [boxD] at e
  simp only [List.map_cons, List.map_nil, boxD]
  simp only [b__law_wholes]
  simp [e, ptsD]
end
end Q

set_option Elab.async false
set_option linter.all false
set_option maxRecDepth 100000
set_option maxHeartbeats 4000000
/-! QJ: what is counted -/
namespace Q
open PySem PySem.Spec PyProof.Rows L2 PD W
def pts (b : List Sp1) : List (List Fr) := wholesF [[]] b
def lost (t : Nt) (c : Cm) (b : List Sp1) : List (List Fr) := (pts b).filter fun pt => !holdsF t c pt
theorem pt_ok {t : Nt} {b : List Sp1} (h : BxOk b) (hm : b.length = t.m) {pt : List Fr} (hpt : pt ∈ pts b) : FBs (List.replicate t.m 5) pt := by
  have := wholes_pts b [[]] 0 h.sp (fun q hq => by simp at hq; subst hq; rfl) pt hpt
  rw [Nat.zero_add, hm] at this
  exact this
theorem bud_ok {t : Nt} (ht : NtOk t) : 4 + budget (bext (List.replicate t.m 5) t.cells.length) < 4000 := by
  have h1 := ht.m1
  have h3 := ht.m3
  have h4 := ht.c3
  have a : t.m = 1 ∨ t.m = 2 ∨ t.m = 3 := by omega
  have c : t.cells.length = 0 ∨ t.cells.length = 1 ∨ t.cells.length = 2 ∨ t.cells.length = 3 := by omega
  rcases a with a | a | a <;> rcases c with c | c | c | c <;> rw [a, c] <;> decide
section
variable {st : Store}
theorem lc_filter_pts {s0 : SE} {i : Nat} {tm : TM} {e : EM} {g : Store → Bool} (hg : g st = true) (p : List Fr → Bool) (f : List Fr → PyData) : ∀ l : List (List Fr), (∀ pt ∈ l, tm (s0.set i (some (.d (ptD pt)))) st = some (p pt, st) ∧ (p pt = true → e (s0.set i (some (.d (ptD pt)))) st = some (.d (f pt), st))) →
    lcL (gmName i) tm e g (l.map ptD) s0 st = some ((l.filter p).map f, st)
  | [], _ => by simp [lcL, hg]
  | pt :: l, h => by
    have ih := lc_filter_pts hg p f l fun q hq => h q (List.mem_cons_of_mem _ hq)
    obtain ⟨h1, h2⟩ := h pt List.mem_cons_self
    cases hp : p pt with
    | true => simp only [List.map_cons, lcL, hg, if_true, e_gmName, h1, hp, h2 hp, ih, List.filter_cons]
    | false =>
      rw [hp] at h1
      simp only [List.map_cons, lcL, hg, if_true, e_gmName, h1, ih, List.filter_cons, hp]
      simp
theorem lc_map_pts {s0 : SE} {i : Nat} {e : EM} {g : Store → Bool} (hg : g st = true) (f : List Fr → PyData) : ∀ l : List (List Fr), (∀ pt ∈ l, e (s0.set i (some (.d (ptD pt)))) st = some (.d (f pt), st)) →
    lcL (gmName i) mYes e g (l.map ptD) s0 st = some (l.map f, st)
  | [], _ => by simp [lcL, hg]
  | pt :: l, h => by
    have ih := lc_map_pts hg f l fun q hq => h q (List.mem_cons_of_mem _ hq)
    simp only [List.map_cons, lcL, hg, if_true, e_gmName, e_mYes, h pt List.mem_cons_self, ih]
variable {t : Nt} {c : Cm} {b : List Sp1}
theorem pts_len (h : BxOk b) : (pts b).length ≤ 2197 := wholes_few h
theorem ptsD_eq (b : List Sp1) : ptsD b = (pts b).map ptD := rfl
theorem holds_at (ht : NtOk t) (h : BxOk b) (hm : b.length = t.m) (hc : CmOk t c) (hp : Pl st) {pt : List Fr} (hpt : pt ∈ pts b) : m_raw_holds [.d (netD t), .d (ptD pt), .d (cmD c)] st = some (.d (.bool (holdsF t c pt)), st) :=
  r_holds (bs := List.replicate t.m 5) ht hc (by simp) (pt_ok h hm hpt) (bud_ok ht) hp
theorem lfails_at (ht : NtOk t) (h : BxOk b) (hm : b.length = t.m) (hc : CmOk t c) (hp : Pl st) {pt : List Fr} (hpt : pt ∈ pts b) : m__law_fails [.d (netD t), .d (ptD pt), .d (cmD c)] st = some (.d (.bool (!holdsF t c pt)), st) :=
  r_lfails (bs := List.replicate t.m 5) ht hc (by simp) (pt_ok h hm hpt) (bud_ok ht) hp
theorem signs_at (ht : NtOk t) (h : BxOk b) (hm : b.length = t.m) (hp : Pl st) {pt : List Fr} (hpt : pt ∈ pts b) : m_raw_signs [.d (netD t), .d (ptD pt)] st = some (.d (.tuple (nts (signsF t pt))), st) :=
  r_signs (bs := List.replicate t.m 5) ht (by simp) (pt_ok h hm hpt) (bud_ok ht) hp
theorem lworked_at (ht : NtOk t) (h : BxOk b) (hm : b.length = t.m) (hp : Pl st) {pt : List Fr} (hpt : pt ∈ pts b) : m__law_worked [.d (netD t), .d (ptD pt)] st = some (.d (.tuple [.tuple (nts (signsF t pt)), .tuple ((runF t pt).map fr)]), st) :=
  r_lworked (bs := List.replicate t.m 5) ht (by simp) (pt_ok h hm hpt) (bud_ok ht) hp
theorem r_holding_many (ht : NtOk t) (h : BxOk b) (hm : b.length = t.m) (hc : CmOk t c) (hp : Pl st) : m_holding_many [.d (netD t), .d (boxD b), .d (cmD c)] st = some (.d (.int (((pts b).filter (holdsF t c)).length : Nat)), st) := by
  have hl := pts_len h
  have hl2 : (pts b).length ≤ 16777216 := by omega
  have e := lc_filter_pts (st := st) (i := 3) (s0 := [some (.d (netD t)), some (.d (boxD b)), some (.d (cmD c)), none]) (tm := mB (mApp m_raw_holds (mCons (mVar 0) (mCons (mVar 3) (mCons (mVar 2) mNil))))) (e := mC (.int 1)) (g := always) rfl (holdsF t c) (fun _ => .int 1) (pts b) fun pt hpt => ⟨by simp [holds_at ht h hm hc hp hpt], fun _ => by simp⟩
  refine run_d0 ?_ rfl hp
  simp [b_holding_many, r_check_all ht h hm hc hp, r_points h hp, ptsD_eq, hl2, e]
theorem r_failing (ht : NtOk t) (h : BxOk b) (hm : b.length = t.m) (hc : CmOk t c) (hp : Pl st) : m_raw_failing [.d (netD t), .d (boxD b), .d (cmD c)] st = some (.d (.list ((lost t c b).map ptD)), st) := by
  have hl := pts_len h
  have hl2 : (pts b).length ≤ 16777216 := by omega
  have e := lc_filter_pts (st := st) (i := 3) (s0 := [some (.d (netD t)), some (.d (boxD b)), some (.d (cmD c)), none]) (tm := mNotT (mB (mApp m_raw_holds (mCons (mVar 0) (mCons (mVar 3) (mCons (mVar 2) mNil)))))) (e := mVar 3) (g := always) rfl (fun pt => !holdsF t c pt) ptD (pts b) fun pt hpt => ⟨by simp [holds_at ht h hm hc hp hpt], fun _ => by simp⟩
  refine run_d0 ?_ rfl hp
  simp [b_raw_failing, r_points h hp, ptsD_eq, hl2, e, lost]
def firstD (l : List (List Fr)) : PyData := match l with
  | [] => .none
  | pt :: _ => ptD pt
theorem first_loop (ht : NtOk t) (h : BxOk b) (hm : b.length = t.m) (hc : CmOk t c) (hp : Pl st) : ∀ (l : List (List Fr)) (s3 : Option DV), (∀ pt ∈ l, pt ∈ pts b) →
    (∃ s3', (l.filter fun pt => !holdsF t c pt) = [] ∧ forL (gmName 3) (mIfS (mNotT (mB (mApp m_raw_holds (mCons (mVar 0) (mCons (mVar 3) (mCons (mVar 2) mNil)))))) (mRet (mVar 3)) mNx) always (l.map ptD) [some (.d (netD t)), some (.d (boxD b)), some (.d (cmD c)), s3] st = some (.nx [some (.d (netD t)), some (.d (boxD b)), some (.d (cmD c)), s3'] st)) ∨
    ∃ pt r, (l.filter fun pt => !holdsF t c pt) = pt :: r ∧ forL (gmName 3) (mIfS (mNotT (mB (mApp m_raw_holds (mCons (mVar 0) (mCons (mVar 3) (mCons (mVar 2) mNil)))))) (mRet (mVar 3)) mNx) always (l.map ptD) [some (.d (netD t)), some (.d (boxD b)), some (.d (cmD c)), s3] st = some (.ret (.d (ptD pt)) st)
  | [], s3, _ => .inl ⟨s3, rfl, by simp [forL]⟩
  | pt :: l, s3, hl => by
    have e := holds_at (st := st) ht h hm hc hp (hl pt List.mem_cons_self)
    cases hh : holdsF t c pt with
    | true =>
      rw [hh] at e
      have ih := first_loop ht h hm hc hp l (some (.d (ptD pt))) fun q hq => hl q (List.mem_cons_of_mem _ hq)
      have hf : ((pt :: l).filter fun pt => !holdsF t c pt) = l.filter fun pt => !holdsF t c pt := by simp [hh]
      rw [hf]
      rcases ih with ⟨s3', h1, h2⟩ | ⟨q, r, h1, h2⟩
      · exact .inl ⟨s3', h1, by rw [← h2]; simp [forL, e]⟩
      · exact .inr ⟨q, r, h1, by rw [← h2]; simp [forL, e]⟩
    | false =>
      rw [hh] at e
      exact .inr ⟨pt, l.filter fun pt => !holdsF t c pt, by simp [hh], by simp [forL, e]⟩
theorem r_first (ht : NtOk t) (h : BxOk b) (hm : b.length = t.m) (hc : CmOk t c) (hp : Pl st) : m_first_failing [.d (netD t), .d (boxD b), .d (cmD c)] st = some (.d (firstD (lost t c b)), st) := by
  refine run_d0 ?_ rfl hp
  rcases first_loop (st := st) ht h hm hc hp (pts b) none (fun _ h => h) with ⟨s3', h1, h2⟩ | ⟨pt, r, h1, h2⟩
  · have hf : lost t c b = [] := h1
    simp [b_first_failing, r_check_all ht h hm hc hp, r_points h hp, ptsD_eq, h2, hf, firstD]
  · have hf : lost t c b = pt :: r := h1
    simp [b_first_failing, r_check_all ht h hm hc hp, r_points h hp, ptsD_eq, h2, hf, firstD]

/-! ### the tally -/
def cntOf (acc : List (PyData × PyData)) (k : PyData) : Int := match valN acc k with
  | some (.int n) => n
  | _ => 0
def tallyF (ks : List PyData) (acc : List (PyData × PyData)) : List (PyData × PyData) := ks.foldl (fun a k => putN a k (.int (cntOf a k + 1))) acc
def Ints (acc : List (PyData × PyData)) : Prop := ∀ kv ∈ acc, ∃ n, kv.2 = .int n
theorem Ints.put {acc : List (PyData × PyData)} {k : PyData} {n : Int} (h : Ints acc) : Ints (putN acc k (.int n)) := by
  intro kv hkv
  unfold PD.putN at hkv
  split at hkv
  · obtain ⟨x, hx, rfl⟩ := List.mem_map.mp hkv
    split
    · exact ⟨n, rfl⟩
    · exact h x hx
  · rcases List.mem_append.mp hkv with z | z
    · exact h kv z
    · simp at z; subst z; exact ⟨n, rfl⟩
theorem Ints.val {acc : List (PyData × PyData)} (h : Ints acc) (k : PyData) : valN acc k = none ∨ ∃ n, valN acc k = some (.int n) := by
  unfold PD.valN
  cases hf : acc.find? fun kv => dEq kv.1 k with
  | none => exact .inl rfl
  | some kv =>
    obtain ⟨n, hn⟩ := h kv (List.mem_of_find?_eq_some hf)
    exact .inr ⟨n, by rw [Option.map_some, hn]⟩
theorem keyOk_nts (l : List Nat) : keyOk (.tuple (nts l)) = true := by
  have h1 : ∀ l : List Nat, nksOf (nts l) = some (l.map fun n => NestedKey.num (n : Nat)) := fun l => by
    induction l with
    | nil => rfl
    | cons n l ih =>
      show nksOf (.int (n : Nat) :: nts l) = _
      rw [nksOf, nkOf, ih]
      rfl
  have h2 : ∀ l : List Nat, NestedKey.depthAll (l.map fun n => NestedKey.num (n : Nat)) = 0 := fun l => by
    induction l with
    | nil => rfl
    | cons n l ih =>
      rw [List.map_cons, NestedKey.depthAll, ih]
      rfl
  unfold keyOk
  simp only [nkOf, h1, NestedKey.depth, h2]
  rfl
theorem tally_loop (hp : Pl st) (a0 : Option DV) : ∀ (ks : List PyData) (acc : List (PyData × PyData)) (s2 : Option DV), (∀ k ∈ ks, keyOk k = true) → Ints acc → acc.length + ks.length < 16777216 →
    ∃ t2, forL (gmName 2) (mPut (mBin fAdd (mGet2 (mVar 1) (mVar 2) (mC (.int 0))) (mC (.int 1))) (mVar 1) (mVar 2)) always ks [a0, some (.r st.length), s2] (st ++ [some (.dcn acc)]) = some (.nx [a0, some (.r st.length), t2] (st ++ [some (.dcn (tallyF ks acc))]))
  | [], acc, s2, _, _, _ => ⟨s2, by simp [forL, tallyF]⟩
  | k :: ks, acc, s2, hk, hi, hz => by
    have hk1 := hk k List.mem_cons_self
    have hl : (putN acc k (.int (cntOf acc k + 1))).length ≤ acc.length + 1 := putN_le _ _ _
    simp only [List.length_cons] at hz
    obtain ⟨t2, ih⟩ := tally_loop hp a0 ks (putN acc k (.int (cntOf acc k + 1))) (some (.d k)) (fun q hq => hk q (List.mem_cons_of_mem _ hq)) hi.put (by omega)
    refine ⟨t2, ?_⟩
    have eg : mGet2 (mVar 1) (mVar 2) (mC (.int 0)) [a0, some (.r st.length), some (.d k)] (st ++ [some (.dcn acc)]) = some (.d (.int (cntOf acc k)), st ++ [some (.dcn acc)]) := by
      unfold mGet2
      rcases hi.val k with hv | ⟨n, hv⟩ <;> simp [isDct, dget, hk1, hv, cntOf]
    have ep : mPut (mBin fAdd (mGet2 (mVar 1) (mVar 2) (mC (.int 0))) (mC (.int 1))) (mVar 1) (mVar 2) [a0, some (.r st.length), some (.d k)] (st ++ [some (.dcn acc)]) = some (.nx [a0, some (.r st.length), some (.d k)] (st ++ [some (.dcn (putN acc k (.int (cntOf acc k + 1))))])) := by
      have hacc : acc.length < 16777216 := by omega
      unfold mPut
      simp [eg, putO, dput, hk1, hacc]
    have et : tallyF (k :: ks) acc = tallyF ks (putN acc k (.int (cntOf acc k + 1))) := rfl
    rw [et, ← ih]
    simp only [forL, e_always, if_true, e_gmName, List.set_cons_succ, List.set_cons_zero, ep]
noncomputable def tallyS (ls : List (List Nat)) : List (PyData × PyData) := tallyF (sortD (ls.map fun l => .tuple (nts l))) []
theorem alike_nts (l l' : List Nat) : PySem.W.alike (.tuple (nts l)) (.tuple (nts l')) = true := by
  have e : ∀ l : List Nat, nts l = (l.map Int.ofNat).map PyData.int := fun l => by unfold nts; rw [List.map_map]; rfl
  rw [e, e, PySem.W.alike]
  exact PySem.W.alike_ints _ _
theorem depth_nts (l : List Nat) : (PyData.tuple (nts l)).depth ≤ 64 := by
  have : PyData.depthAll (nts l) = 0 := by
    induction l with
    | nil => rfl
    | cons n l ih =>
      show PyData.depthAll (.int (n : Nat) :: nts l) = 0
      rw [PyData.depthAll, ih]
      rfl
  rw [PyData.depth, this]
  decide
theorem sortOk_nts {ls : List (List Nat)} (hne : ∀ l ∈ ls, l ≠ []) (hz : ls.length ≤ 16777216) : sortOk (ls.map fun l => .tuple (nts l)) = true := by
  unfold sortOk
  simp only [Bool.and_eq_true, Bool.or_eq_true, List.all_eq_true, decide_eq_true_eq, List.mem_map, forall_exists_index, and_imp, forall_apply_eq_imp_iff₂]
  refine ⟨⟨⟨fun l _ l' _ => alike_nts l l', .inl fun l hl => ?_⟩, fun l _ => depth_nts l⟩, by rw [List.length_map]; exact hz⟩
  cases l with
  | nil => exact absurd rfl (hne [] hl)
  | cons n l => rfl
theorem r_counted {ls : List (List Nat)} (hne : ∀ l ∈ ls, l ≠ []) (hz : ls.length < 16777216) (hp : Pl st) : m_counted [.d (.list (ls.map fun l => .tuple (nts l)))] st = some (.r st.length, st ++ [some (.dcn (tallyS ls))]) := by
  have hperm : ∀ k ∈ sortD (ls.map fun l => PyData.tuple (nts l)), keyOk k = true := fun k hk => by
    unfold sortD at hk
    rw [List.mem_mergeSort] at hk
    obtain ⟨l, _, rfl⟩ := List.mem_map.mp hk
    exact keyOk_nts l
  have hlen : (sortD (ls.map fun l => PyData.tuple (nts l))).length = ls.length := by unfold sortD; rw [List.length_mergeSort, List.length_map]
  obtain ⟨t2, e⟩ := tally_loop (st := st) hp (some (.d (.list (ls.map fun l => .tuple (nts l))))) (sortD (ls.map fun l => .tuple (nts l))) [] none hperm (fun kv h => by simp at h) (by rw [hlen]; simpa using hz)
  have es : fSorted [.d (.list (ls.map fun l => .tuple (nts l)))] (st ++ [some (.dcn [])]) = some (.d (.list (sortD (ls.map fun l => .tuple (nts l)))), st ++ [some (.dcn [])]) := by
    unfold fSorted
    simp only [lstV, sortOk_nts hne (Nat.le_of_lt hz), if_true, e_ret]
  unfold m_counted runFn
  rw [if_pos (by rfl)]
  simp [b_counted, mNewN, es, e, leave, tallyS]
theorem counted_tally : m__law_tally = m_counted := rfl
theorem sgns_ne {vs : List Fr} : ∀ {cs : List Cl}, cs ≠ [] → sgns vs cs ≠ []
  | [], h => absurd rfl h
  | c :: cs, _ => by simp [sgns]
/-- signs of these points, tallied -/
noncomputable def tallyP (t : Nt) (l : List (List Fr)) : List (PyData × PyData) := tallyS (l.map (signsF t))
theorem r_failing_by (ht : NtOk t) (hcs : t.cells ≠ []) (h : BxOk b) (hm : b.length = t.m) (hc : CmOk t c) (hp : Pl st) : m_failing_by [.d (netD t), .d (boxD b), .d (cmD c)] st = some (.r st.length, st ++ [some (.dcn (tallyP t (lost t c b)))]) := by
  have hl := pts_len h
  have hll : (lost t c b).length ≤ (pts b).length := List.length_filter_le _ _
  have hl2 : (lost t c b).length ≤ 16777216 := by omega
  have e := lc_map_pts (st := st) (i := 3) (s0 := [some (.d (netD t)), some (.d (boxD b)), some (.d (cmD c)), none]) (e := mApp m_raw_signs (mCons (mVar 0) (mCons (mVar 3) mNil))) (g := always) rfl (fun pt => .tuple (nts (signsF t pt))) (lost t c b) fun pt hpt => by simp [signs_at ht h hm hp ((List.mem_filter.mp hpt).1)]
  have ec := r_counted (st := st) (ls := (lost t c b).map (signsF t)) (fun l hl => by
    obtain ⟨pt, _, rfl⟩ := List.mem_map.mp hl
    exact sgns_ne hcs) (by rw [List.length_map]; omega) hp
  rw [List.map_map] at ec
  have ee : (fun pt => PyData.tuple (nts (signsF t pt))) = ((fun l => PyData.tuple (nts l)) ∘ signsF t) := rfl
  rw [ee] at e
  unfold m_failing_by runFn
  rw [if_pos (by rfl)]
  simp [b_failing_by, r_check_all ht h hm hc hp, r_failing ht h hm hc hp, hl2, e, ec, leave, tallyP]
theorem r_whole_signs (ht : NtOk t) (hcs : t.cells ≠ []) (h : BxOk b) (hm : b.length = t.m) (hp : Pl st) : m_whole_signs [.d (netD t), .d (boxD b)] st = some (.r st.length, st ++ [some (.dcn (tallyP t (pts b)))]) := by
  have hl := pts_len h
  have hl2 : (pts b).length ≤ 16777216 := by omega
  have e := lc_map_pts (st := st) (i := 2) (s0 := [some (.d (netD t)), some (.d (boxD b)), none]) (e := mApp m_raw_signs (mCons (mVar 0) (mCons (mVar 2) mNil))) (g := always) rfl (fun pt => .tuple (nts (signsF t pt))) (pts b) fun pt hpt => by simp [signs_at ht h hm hp hpt]
  have ec := r_counted (st := st) (ls := (pts b).map (signsF t)) (fun l hl => by
    obtain ⟨pt, _, rfl⟩ := List.mem_map.mp hl
    exact sgns_ne hcs) (by rw [List.length_map]; omega) hp
  rw [List.map_map] at ec
  have ee : (fun pt => PyData.tuple (nts (signsF t pt))) = ((fun l => PyData.tuple (nts l)) ∘ signsF t) := rfl
  rw [ee] at e
  unfold m_whole_signs runFn
  rw [if_pos (by rfl)]
  simp [b_whole_signs, r_check_net_box ht h hm hp, r_check_few h hp, r_points h hp, ptsD_eq, hl2, e, ec, leave, tallyP]
/-- two dicts of the same pairs -/
theorem r_is_dictN {n1 n2 : Nat} {kvs : List (PyData × PyData)} (h1 : st[n1]? = some (some (.dcn kvs))) (h2 : st[n2]? = some (some (.dcn kvs))) (hg : ∀ kv ∈ kvs, Good 3 kv.1 ∧ Good 3 kv.2) (hp : Pl st) : m__law_is_dict [.r n1, .r n2] st = some (.d (.bool true), st) := by
  refine run_d0 ?_ rfl hp
  have hgood : Good 5 (.list (itemsN kvs)) := Good.list fun x hx => by
    unfold itemsN at hx
    obtain ⟨kv, hkv, rfl⟩ := List.mem_map.mp hx
    refine Good.tuple fun y hy => ?_
    obtain ⟨g1, g2⟩ := hg kv hkv
    simp at hy
    rcases hy with rfl | rfl
    · exact g1
    · exact g2
  have he : fEqB false (.d (.list (itemsN kvs))) (.d (.list (itemsN kvs))) st = some (.d (.bool true), st) := by
    have := eq_good (st := st) (x := .d (.list (itemsN kvs))) (y := .d (.list (itemsN kvs))) rfl rfl hgood hgood
    rw [SeqAt.eqv_refl _ hgood.1] at this
    exact this
  simp [b__law_is_dict, tyNameD, h1, mItems, h2, he]
theorem r_is_dictK {n1 n2 : Nat} {kvs : List (Key × PyData)} (h1 : st[n1]? = some (some (.dct kvs))) (h2 : st[n2]? = some (some (.dct kvs))) (hg : ∀ kv ∈ kvs, Good 3 (keyD kv.1) ∧ Good 3 kv.2) (hp : Pl st) : m__law_is_dict [.r n1, .r n2] st = some (.d (.bool true), st) := by
  refine run_d0 ?_ rfl hp
  have hgood : Good 5 (.list (itemsP kvs)) := Good.list fun x hx => by
    unfold itemsP at hx
    obtain ⟨kv, hkv, rfl⟩ := List.mem_map.mp hx
    refine Good.tuple fun y hy => ?_
    obtain ⟨g1, g2⟩ := hg kv hkv
    simp at hy
    rcases hy with rfl | rfl
    · exact g1
    · exact g2
  have he : fEqB false (.d (.list (itemsP kvs))) (.d (.list (itemsP kvs))) st = some (.d (.bool true), st) := by
    have := eq_good (st := st) (x := .d (.list (itemsP kvs))) (y := .d (.list (itemsP kvs))) rfl rfl hgood hgood
    rw [SeqAt.eqv_refl _ hgood.1] at this
    exact this
  simp [b__law_is_dict, tyNameD, tyName, h1, mItems, h2, he]
theorem good_nts (l : List Nat) : Good 3 (.tuple (nts l)) := (Good.tuple (k := 0) fun x hx => by
  unfold nts at hx
  obtain ⟨n, _, rfl⟩ := List.mem_map.mp hx
  exact Good.int _ _).mono
theorem tallyF_good : ∀ (ks : List PyData) (acc : List (PyData × PyData)), (∀ k ∈ ks, Good 3 k) → (∀ kv ∈ acc, Good 3 kv.1 ∧ Good 3 kv.2) → ∀ kv ∈ tallyF ks acc, Good 3 kv.1 ∧ Good 3 kv.2
  | [], acc, _, h => h
  | k :: ks, acc, hk, h => tallyF_good ks _ (fun q hq => hk q (List.mem_cons_of_mem _ hq)) fun kv hkv => by
    have hkv : kv ∈ PD.putN acc k (.int (cntOf acc k + 1)) := hkv
    unfold PD.putN at hkv
    split at hkv
    · obtain ⟨x, hx, rfl⟩ := List.mem_map.mp hkv
      split
      · exact ⟨(h x hx).1, Good.int _ _⟩
      · exact h x hx
    · rcases List.mem_append.mp hkv with z | z
      · exact h kv z
      · simp at z; subst z; exact ⟨hk k List.mem_cons_self, Good.int _ _⟩
theorem tallyS_good (ls : List (List Nat)) : ∀ kv ∈ tallyS ls, Good 3 kv.1 ∧ Good 3 kv.2 := tallyF_good _ _ (fun k hk => by
  unfold sortD at hk
  rw [List.mem_mergeSort] at hk
  obtain ⟨l, _, rfl⟩ := List.mem_map.mp hk
  exact good_nts l) (fun kv h => by simp at h)
end
end Q

set_option Elab.async false
set_option linter.all false
set_option maxRecDepth 100000
set_option maxHeartbeats 4000000
/-! QK: the counts along one axis -/
namespace Q
open PySem PySem.Spec PyProof.Rows L2 PD W
def axis (p : Sp1) : List Int := rngI (ends p).1 ((ends p).2 + 1)
theorem axis_mem {p : Sp1} {k : Int} : k ∈ axis p ↔ (ends p).1 ≤ k ∧ k ≤ (ends p).2 := by
  unfold axis rngI
  rw [List.mem_map]
  constructor
  · rintro ⟨n, hn, rfl⟩
    have := List.mem_range.mp hn
    omega
  · rintro ⟨h1, h2⟩
    exact ⟨(k - (ends p).1).toNat, by rw [List.mem_range]; omega, by omega⟩
theorem axis_nodup (p : Sp1) : (axis p).Nodup := by
  unfold axis rngI
  refine List.Pairwise.map _ (R := fun a b => a ≠ b) (fun a b h e => h (by omega)) ?_
  exact List.nodup_range
def lineF (c : Int → Nat) (l : List Int) : List (Key × PyData) := l.map fun k => (Sum.inl k, .int (c k : Nat))
theorem any_line (c : Int → Nat) (k : Int) : ∀ l : List Int, (lineF c l).any (fun kv => decide (kv.1 = Sum.inl k)) = decide (k ∈ l)
  | [] => by simp [lineF]
  | j :: l => by
    have ih := any_line c k l
    unfold lineF at ih ⊢
    rw [List.map_cons, List.any_cons, ih]
    by_cases h : j = k
    · subst h; simp
    · have h2 : ¬ k = j := fun e => h e.symm
      have h3 : ¬ (Sum.inl j : Key) = Sum.inl k := fun e => h (Sum.inl.inj e)
      simp [h2, h3]
theorem put_new {c : Int → Nat} {l : List Int} {k : Int} (h : k ∉ l) : PD.putP (lineF c l) (Sum.inl k) (.int (c k : Nat)) = lineF c (l ++ [k]) := by
  unfold PD.putP
  rw [any_line, decide_eq_false h]
  simp [lineF]
theorem line_congr {c d : Int → Nat} {l : List Int} (h : ∀ k ∈ l, c k = d k) : lineF c l = lineF d l := List.map_congr_left fun k hk => by rw [h k hk]
theorem val_line {c : Int → Nat} {k : Int} : ∀ {l : List Int}, k ∈ l → PD.valP (lineF c l) (Sum.inl k) = some (.int (c k : Nat))
  | [], h => by simp at h
  | j :: l, h => by
    unfold PD.valP lineF
    rw [List.map_cons, List.find?_cons]
    by_cases e : j = k
    · subst e; simp
    · have h3 : ¬ (Sum.inl j : Key) = Sum.inl k := fun z => e (Sum.inl.inj z)
      have hm : k ∈ l := by
        rcases List.mem_cons.mp h with z | z
        · exact absurd z.symm e
        · exact z
      have ih := val_line (c := c) hm
      unfold PD.valP lineF at ih
      simp only [h3, decide_false]
      exact ih
theorem put_old {c : Int → Nat} {l : List Int} {k : Int} {n : Nat} (h : k ∈ l) : PD.putP (lineF c l) (Sum.inl k) (.int (n : Nat)) = lineF (fun j => if j = k then n else c j) l := by
  unfold PD.putP
  rw [any_line, decide_eq_true h, if_pos rfl]
  unfold lineF
  rw [List.map_map]
  refine List.map_congr_left fun j _ => ?_
  show (if (Sum.inl j : Key) = Sum.inl k then _ else _) = _
  by_cases e : j = k
  · subst e; simp
  · have h3 : ¬ (Sum.inl j : Key) = Sum.inl k := fun z => e (Sum.inl.inj z)
    rw [if_neg h3]
    simp [e]
theorem line_len (c : Int → Nat) (l : List Int) : (lineF c l).length = l.length := List.length_map _
theorem axis_len {p : Sp1} (h : SpOk p) : (axis p).length ≤ 13 := by
  have := wid_le h
  unfold axis rngI
  rw [List.length_map, List.length_range]
  exact this
/-- what a point is made of -/
theorem wholes_split : ∀ (b : List Sp1) (acc : List (List Fr)) (pt : List Fr), pt ∈ wholesF acc b → ∃ q ∈ acc, ∃ r, pt = q ++ r ∧ r.length = b.length ∧ ∀ (i : Nat) (p : Sp1), b[i]? = some p → ∃ k, r[i]? = some (one1 k) ∧ k ∈ axis p
  | [], acc, pt, h => ⟨pt, h, [], by simp, rfl, fun i p e => by simp at e⟩
  | p :: b, acc, pt, h => by
    obtain ⟨q, hq, r, rfl, hr, hc⟩ := wholes_split b (acc.flatMap (grow p)) pt h
    obtain ⟨q0, hq0, hg⟩ := List.mem_flatMap.mp hq
    obtain ⟨k, k1, k2, rfl⟩ := grow_mem hg
    refine ⟨q0, hq0, one1 k :: r, by simp, by simp [hr], fun i p' e => ?_⟩
    cases i with
    | zero =>
      simp at e
      subst e
      exact ⟨k, rfl, axis_mem.mpr ⟨k1, k2⟩⟩
    | succ i => exact hc i p' (by simpa using e)
theorem pt_coord {b : List Sp1} {pt : List Fr} (h : pt ∈ pts b) {i : Nat} {p : Sp1} (hi : b[i]? = some p) : ∃ k, pt[i]? = some (one1 k) ∧ k ∈ axis p := by
  obtain ⟨q, hq, r, rfl, hr, hc⟩ := wholes_split b [[]] pt h
  simp at hq
  subst hq
  exact hc i p hi
/-- the holding points of a list at a place -/
def cnt (t : Nt) (c : Cm) (i : Nat) (l : List (List Fr)) (k : Int) : Nat := (l.filter fun pt => holdsF t c pt && decide (pt[i]? = some (one1 k))).length
theorem cnt_snoc {t : Nt} {c : Cm} {i : Nat} {l : List (List Fr)} {pt : List Fr} {k : Int} : cnt t c i (l ++ [pt]) k = cnt t c i l k + (if holdsF t c pt && decide (pt[i]? = some (one1 k)) then 1 else 0) := by
  unfold cnt
  rw [List.filter_append, List.length_append]
  congr 1
  cases h : holdsF t c pt && decide (pt[i]? = some (one1 k)) <;> simp [h]
section
variable {st : Store}
theorem dc_zero {s0 : SE} (a b c d e f g h i : Option DV) : ∀ (l pre : List Int), (pre ++ l).Nodup → (pre ++ l).length < 16777216 → dcL (gmName 8) mYes (mVar 8) (mC (.int 0)) always (l.map PyData.int) (a :: b :: c :: d :: e :: f :: g :: h :: i :: s0) st (lineF (fun _ => 0) pre) = some (lineF (fun _ => 0) (pre ++ l), st)
  | [], pre, _, _ => by simp [dcL]
  | k :: l, pre, hn, hl => by
    have hk : k ∉ pre := fun hm => by
      rw [List.nodup_append] at hn
      exact hn.2.2 k hm k List.mem_cons_self rfl
    have hz : (lineF (fun _ => 0) pre).length < 16777216 := by rw [line_len]; simp at hl; omega
    have ih := dc_zero (s0 := s0) a b c d e f g h i l (pre ++ [k]) (by simpa using hn) (by simpa using hl)
    have ep : PD.putP (lineF (fun _ => 0) pre) (Sum.inl k) (.int 0) = lineF (fun _ => 0) (pre ++ [k]) := put_new (c := fun _ => 0) hk
    rw [show pre ++ k :: l = (pre ++ [k]) ++ l by simp, ← ih, ← ep]
    simp [dcL, toKey, hz]
variable {t : Nt} {c : Cm} {b : List Sp1}
theorem line_loop (ht : NtOk t) (h : BxOk b) (hm : b.length = t.m) (hc : CmOk t c) (hp : Pl st) {i : Nat} {p : Sp1} (hi : b[i]? = some p) (a6 a7 a8 : Option DV) : ∀ (l pre : List (List Fr)) (s5 : Option DV), (∀ pt ∈ l, pt ∈ pts b) →
    ∃ t5, forL (gmName 5) (mPutAug fAddI (mVar 4) (mBin fIx (mBin fIx (mVar 5) (mVar 3)) (mC (.int 0))) (mApp fInt (mCons (mApp m_raw_holds (mCons (mVar 0) (mCons (mVar 5) (mCons (mVar 2) mNil)))) mNil))) always (l.map ptD)
      [some (.d (netD t)), some (.d (boxD b)), some (.d (cmD c)), some (.d (.int (i : Nat))), some (.r st.length), s5, a6, a7, a8] (st ++ [some (.dct (lineF (cnt t c i pre) (axis p)))])
      = some (.nx [some (.d (netD t)), some (.d (boxD b)), some (.d (cmD c)), some (.d (.int (i : Nat))), some (.r st.length), t5, a6, a7, a8] (st ++ [some (.dct (lineF (cnt t c i (pre ++ l)) (axis p)))]))
  | [], pre, s5, _ => ⟨s5, by simp [forL]⟩
  | pt :: l, pre, s5, hl => by
    have hpt := hl pt List.mem_cons_self
    obtain ⟨k, hk, hka⟩ := pt_coord hpt hi
    have hp1 : Pl (st ++ [some (.dct (lineF (cnt t c i pre) (axis p)))]) := hp.app (.one rfl)
    have eh := holds_at (st := st ++ [some (.dct (lineF (cnt t c i pre) (axis p)))]) ht h hm hc hp1 hpt
    obtain ⟨t5, ih⟩ := line_loop ht h hm hc hp hi a6 a7 a8 l (pre ++ [pt]) (some (.d (ptD pt))) fun q hq => hl q (List.mem_cons_of_mem _ hq)
    have ei : fIx (.d (ptD pt)) (.d (.int (i : Nat))) (st ++ [some (.dct (lineF (cnt t c i pre) (axis p)))]) = some (.d (fr (one1 k)), st ++ [some (.dct (lineF (cnt t c i pre) (axis p)))]) := seq_tuple i _ hk
    have e0 : fIx (.d (fr (one1 k))) (.d (.int 0)) (st ++ [some (.dct (lineF (cnt t c i pre) (axis p)))]) = some (.d (.int k), st ++ [some (.dct (lineF (cnt t c i pre) (axis p)))]) := by simp [fr, one1]
    have hv := val_line (c := cnt t c i pre) hka
    have hlen : (lineF (cnt t c i pre) (axis p)).length < 16777216 := by
      have := axis_len (h.sp p (List.mem_of_getElem? hi))
      rw [line_len]; omega
    have hb : ((cnt t c i pre k : Nat) : Int) + (if holdsF t c pt then 1 else 0) = ((cnt t c i pre k + (if holdsF t c pt then 1 else 0) : Nat) : Int) := by cases holdsF t c pt <;> simp
    have eput : PD.putP (lineF (cnt t c i pre) (axis p)) (Sum.inl k) (.int ((cnt t c i pre k + (if holdsF t c pt then 1 else 0) : Nat) : Int)) = lineF (cnt t c i (pre ++ [pt])) (axis p) := by
      rw [put_old hka]
      refine line_congr fun j _ => ?_
      rw [cnt_snoc, hk]
      by_cases e : j = k
      · subst e
        cases holdsF t c pt <;> simp
      · have e2 : ¬ (one1 k : Fr) = one1 j := fun z => e (congrArg Prod.fst z).symm
        simp [e, e2]
    have es : mPutAug fAddI (mVar 4) (mBin fIx (mBin fIx (mVar 5) (mVar 3)) (mC (.int 0))) (mApp fInt (mCons (mApp m_raw_holds (mCons (mVar 0) (mCons (mVar 5) (mCons (mVar 2) mNil)))) mNil))
        [some (.d (netD t)), some (.d (boxD b)), some (.d (cmD c)), some (.d (.int (i : Nat))), some (.r st.length), some (.d (ptD pt)), a6, a7, a8] (st ++ [some (.dct (lineF (cnt t c i pre) (axis p)))])
        = some (.nx [some (.d (netD t)), some (.d (boxD b)), some (.d (cmD c)), some (.d (.int (i : Nat))), some (.r st.length), some (.d (ptD pt)), a6, a7, a8] (st ++ [some (.dct (lineF (cnt t c i (pre ++ [pt])) (axis p)))])) := by
      rw [← eput, ← hb]
      unfold mPutAug
      cases hh : holdsF t c pt <;> rw [hh] at eh <;> simp [ei, e0, dget, toKey, hv, eh, putO, dput, hlen]
    refine ⟨t5, ?_⟩
    rw [show pre ++ pt :: l = (pre ++ [pt]) ++ l by simp, ← ih]
    simp only [List.map_cons, forL, e_always, if_true, e_gmName, List.set_cons_succ, List.set_cons_zero, es]
theorem r_line_counts (ht : NtOk t) (h : BxOk b) (hm : b.length = t.m) (hc : CmOk t c) (hp : Pl st) {i : Nat} {p : Sp1} (hi : b[i]? = some p) : m_line_counts [.d (netD t), .d (boxD b), .d (cmD c), .d (.int (i : Nat))] st = some (.r st.length, st ++ [some (.dct (lineF (cnt t c i (pts b)) (axis p)))]) := by
  have hil := (List.getElem?_eq_some_iff.mp hi).1
  have hsp := h.sp p (List.mem_of_getElem? hi)
  have g1 : (0 : Int) ≤ (i : Int) := Int.natCast_nonneg i
  have g2 : (i : Int) ≤ (t.m : Int) - 1 := by omega
  have e1 := r_is_within (st := st) i 0 ((t.m : Int) - 1) hp
  rw [decide_eq_true (⟨g1, g2⟩ : (0 : Int) ≤ i ∧ (i : Int) ≤ (t.m : Int) - 1)] at e1
  have e2 : fIx (.d (boxD b)) (.d (.int (i : Nat))) st = some (.d (spD p), st) := by
    unfold boxD
    rw [e_ix_t, at_nat (x := spD p) (by rw [List.getElem?_map, hi]; rfl)]
    rfl
  have e3 := r_whole_ends (st := st) hsp hp
  have b1 := bd_of (i := (ends p).1) (by have := hsp.low; omega) (by have := hsp.low2; omega)
  have b2 := bd_of (i := (ends p).2 + 1) (by have := hsp.high2; omega) (by have := hsp.high; omega)
  have hal := axis_len hsp
  have e4 : ∀ (x4 x5 x6 x7 : Option DV), dcL (gmName 8) mYes (mVar 8) (mC (.int 0)) always (rngP (ends p).1 ((ends p).2 + 1)) [some (.d (netD t)), some (.d (boxD b)), some (.d (cmD c)), some (.d (.int (i : Nat))), x4, x5, x6, x7, none] st [] = some (lineF (cnt t c i []) (axis p), st) := fun x4 x5 x6 x7 => by
    rw [rngP_rngI]
    have := dc_zero (st := st) (s0 := []) (some (.d (netD t))) (some (.d (boxD b))) (some (.d (cmD c))) (some (.d (.int (i : Nat)))) x4 x5 x6 x7 none (axis p) [] (by simpa using axis_nodup p) (by simp; omega)
    simp only [List.nil_append] at this
    have hz : lineF (fun _ => 0) (axis p) = lineF (cnt t c i []) (axis p) := line_congr fun k _ => rfl
    rw [← hz]
    exact this
  obtain ⟨t5, e5⟩ := line_loop (st := st) ht h hm hc hp hi (some (.d (.int (ends p).1))) (some (.d (.int (ends p).2))) none (pts b) [] none (fun _ z => z)
  rw [List.nil_append] at e5
  have e6 := r_points (st := st ++ [some (.dct (lineF (cnt t c i []) (axis p)))]) h (hp.app (.one rfl))
  rw [ptsD_eq] at e6
  have e7 : fIx (.d (netD t)) (.d (.int 0)) st = some (.d (.int (t.m : Nat)), st) := by simp [netD]
  unfold m_line_counts runFn
  rw [if_pos (by rfl)]
  simp [b_line_counts, r_check_net_box ht h hm hp, r_check_claim ht hc hp, e7, e1, r_check_few h hp, e2, e3, mDc, b1, b2, e4, e6, e5, leave]
end
end Q

set_option Elab.async false
set_option linter.all false
set_option maxRecDepth 100000
set_option maxHeartbeats 4000000
/-! QL: the hand, what is drawn from it -/
namespace Q
open PySem PySem.Spec PyProof.Rows L2 PD W
structure Hd where
  cs : List Int
  pos : Int
  carry : Int
  seed : Int
  count : Int
def hdD (h : Hd) : List PyData := [.list (h.cs.map PyData.int), .int h.pos, .int h.carry, .int h.seed, .int h.count]
structure HdOk (h : Hd) : Prop where
  cs : ∀ n ∈ h.cs, 0 ≤ n
  pos : 0 ≤ h.pos
  carry : 0 ≤ h.carry
/-- the hand stands first -/
def HS (rest st : Store) : Prop := ∃ h, HdOk h ∧ st = some (.lst (hdD h)) :: rest
theorem HS.pl {rest st : Store} (h : HS rest st) (hp : Pl rest) : Pl st := by
  obtain ⟨h, _, rfl⟩ := h
  intro o ho
  rcases List.mem_cons.mp ho with rfl | ho
  · rfl
  · exact hp o ho
theorem HS.len {rest st : Store} (h : HS rest st) : st.length = rest.length + 1 := by
  obtain ⟨h, _, rfl⟩ := h
  rfl
theorem HS.app {rest st : Store} (h : HS rest st) (more : Store) : HS (rest ++ more) (st ++ more) := by
  obtain ⟨h, ok, rfl⟩ := h
  exact ⟨h, ok, rfl⟩
theorem HS.of_app {rest st : Store} (h : HS rest st) : ∃ hd, HdOk hd ∧ st = [some (.lst (hdD hd))] ++ rest := h
@[simp] theorem ix5_0 {a b c d e : PyData} : atI [a, b, c, d, e] 0 = some a := at_nat (i := 0) rfl
@[simp] theorem ix5_3 {a b c d e : PyData} : atI [a, b, c, d, e] 3 = some d := at_nat (i := 3) rfl
@[simp] theorem ix5_4 {a b c d e : PyData} : atI [a, b, c, d, e] 4 = some e := at_nat (i := 4) rfl
theorem ixN5 (i : Nat) (h : i < 5) : ixN 5 (i : Int) = some i := by
  unfold ixN
  rw [if_pos (Int.natCast_nonneg i), if_pos (by omega)]
  rfl
@[simp] theorem ixn1 : ixN 5 1 = some 1 := ixN5 1 (by decide)
@[simp] theorem ixn2 : ixN 5 2 = some 2 := ixN5 2 (by decide)
@[simp] theorem ixn3 : ixN 5 3 = some 3 := ixN5 3 (by decide)
@[simp] theorem ixn4 : ixN 5 4 = some 4 := ixN5 4 (by decide)
theorem mul_small {i j : Int} (h : j.natAbs < 2 ^ 60) : mulOk i j = true := by
  unfold mulOk
  have := (show Bt 60 j from h).log (by decide)
  simp only [Bool.or_eq_true, decide_eq_true_eq]
  exact .inl (.inr (by omega))
theorem mul_smallL {i j : Int} (h : i.natAbs < 2 ^ 60) : mulOk i j = true := by
  unfold mulOk
  have := (show Bt 60 i from h).log (by decide)
  simp only [Bool.or_eq_true, decide_eq_true_eq]
  exact .inl (.inl (by omega))
theorem div_small {j : Int} (h0 : 0 < j) (h : j < 2 ^ 60) : divOk j = true := div_ok (b := 60) (by show j.natAbs < 2 ^ 60; omega) (by omega)
section
variable {rest st : Store}
@[simp] theorem get0 {o : Option MO} {r : Store} : (o :: r)[0]? = some o := rfl
@[simp] theorem ix_hd {xs : List PyData} {i : Int} {r : Store} : fIx (.r 0) (.d (.int i)) (some (.lst xs) :: r) = opt (atI xs i) (some (.lst xs) :: r) := rfl
theorem put_hd {me mo mi : EM} {s : SE} {st0 st1 : Store} {x : PyData} {i : Int} {xs : List PyData} {r : Store} {j : Nat} (h1 : me s st0 = some (.d x, st1)) (h2 : mo s st1 = some (.r 0, some (.lst xs) :: r)) (h3 : mi s (some (.lst xs) :: r) = some (.d (.int i), some (.lst xs) :: r)) (h4 : ixN xs.length i = some j) : mPut me mo mi s st0 = some (.nx s (some (.lst (xs.set j x)) :: r)) := by
  unfold mPut
  simp only [h1, h2, h3, get0, putO, h4]
  rfl
/-- the last part of a draw: nothing is carried -/
theorem fmod_range {a m : Int} (hm : 0 < m) : 0 ≤ a.fmod m ∧ a.fmod m < m := by
  rw [fmod_pos hm]
  exact ⟨Int.emod_nonneg a (by omega), Int.emod_lt_of_pos a hm⟩
def drawTail : SM := mSeq (mIfS (mB (mBin fGt (mBin fIx (mVar 0) (mC (.int 2))) (mC (.int 0)))) (mSeq (mSet 4 (mBin fMod (mApp fInt (mCons (mBin fIx (mVar 0) (mC (.int 2))) mNil)) (mVar 1))) (mSeq (mPut (mBin fDiv (mBin fIx (mVar 0) (mC (.int 2))) (mVar 1)) (mVar 0) (mC (.int 2))) (mRet (mVar 4)))) mNx) (mSeq (mPut (mBin fAdd (mBin fIx (mVar 0) (mC (.int 4))) (mC (.int 1))) (mVar 0) (mC (.int 4))) (mSeq (mSet 2 (mBin fMod (mApp fInt (mCons (mBin fMul (mApp fInt (mCons (mBin fAdd (mBin fIx (mVar 0) (mC (.int 3))) (mBin fMul (mC (.int 7919)) (mBin fIx (mVar 0) (mC (.int 4))))) mNil)) (mC (.int 48271))) mNil)) (mC (.int 2147483647)))) (mSeq (mSet 2 (mBin fMod (mApp fInt (mCons (mBin fMul (mVar 2) (mBin fAdd (mBin fDiv (mVar 2) (mC (.int 1009))) (mC (.int 69621)))) mNil)) (mC (.int 2147483647)))) (mSeq (mSet 2 (mBin fMod (mApp fInt (mCons (mBin fMul (mVar 2) (mBin fAdd (mBin fDiv (mVar 2) (mC (.int 2003))) (mC (.int 40014)))) mNil)) (mC (.int 2147483563)))) (mRet (mBin fMod (mApp fInt (mCons (mBin fDiv (mVar 2) (mC (.int 16))) mNil)) (mVar 1)))))))
theorem b_draw : b__law_draw = mSeq (mIfS (mAndT (mB (mBin fEq (mBin fIx (mVar 0) (mC (.int 2))) (mC (.int 0)))) (mB (mBin fLt (mBin fIx (mVar 0) (mC (.int 1))) (mApp fLen (mCons (mBin fIx (mVar 0) (mC (.int 0))) mNil))))) (mSeq (mSet 3 (mBin fIx (mBin fIx (mVar 0) (mC (.int 0))) (mBin fIx (mVar 0) (mC (.int 1))))) (mSeq (mPut (mBin fAdd (mBin fIx (mVar 0) (mC (.int 1))) (mC (.int 1))) (mVar 0) (mC (.int 1))) (mSeq (mPut (mBin fMod (mApp fInt (mCons (mBin fAdd (mBin fAdd (mBin fMul (mBin fIx (mVar 0) (mC (.int 3))) (mC (.int 69621))) (mBin fMul (mVar 3) (mC (.int 40692)))) (mC (.int 31))) mNil)) (mC (.int 2147483629))) (mVar 0) (mC (.int 3))) (mIfS (mB (mBin fGe (mVar 3) (mBin fPow (mC (.int 10)) (mC (.int 18))))) (mPut (mVar 3) (mVar 0) (mC (.int 2))) mNx)))) mNx) drawTail := rfl
theorem draw_tail {h : Hd} (ok : HdOk h) {many : Int} (h1 : 0 < many) (h2 : many < 2 ^ 60) (x2 x3 x4 : Option DV) : ∃ v st', drawTail [some (.r 0), some (.d (.int many)), x2, x3, x4] (some (.lst (hdD h)) :: rest) = some (.ret (.d (.int v)) st') ∧ HS rest st' ∧ 0 ≤ v ∧ v < many := by
  have hd := div_small h1 h2
  have hm : decide (many ≠ 0) = true := decide_eq_true (by omega)
  by_cases hc : 0 < h.carry
  · refine ⟨h.carry.fmod many, some (.lst (hdD { h with carry := h.carry.fdiv many })) :: rest, ?_, ⟨{ h with carry := h.carry.fdiv many }, ⟨ok.cs, ok.pos, ?_⟩, rfl⟩, (fmod_range h1).1, (fmod_range h1).2⟩
    · have e := put_hd (me := mBin fDiv (mBin fIx (mVar 0) (mC (.int 2))) (mVar 1)) (mo := mVar 0) (mi := mC (.int 2)) (s := [some (.r 0), some (.d (.int many)), x2, x3, some (.d (.int (h.carry.fmod many)))]) (st0 := some (.lst (hdD h)) :: rest) (st1 := some (.lst (hdD h)) :: rest) (x := .int (h.carry.fdiv many)) (i := 2) (xs := hdD h) (r := rest) (j := 2) (by simp [hdD, hd]) (by simp) (by simp) (by simp [hdD])
      have hm' : ¬ many = 0 := by omega
      simp only [hdD] at e ⊢
      simp [drawTail, hc, hm', e]
    · show 0 ≤ h.carry.fdiv many
      rw [fdiv_pos h1]
      exact Int.ediv_nonneg ok.carry (by omega)
  · have hm' : ¬ many = 0 := by omega
    have e := put_hd (me := mBin fAdd (mBin fIx (mVar 0) (mC (.int 4))) (mC (.int 1))) (mo := mVar 0) (mi := mC (.int 4)) (s := [some (.r 0), some (.d (.int many)), x2, x3, x4]) (st0 := some (.lst (hdD h)) :: rest) (st1 := some (.lst (hdD h)) :: rest) (x := .int (h.count + 1)) (i := 4) (xs := hdD h) (r := rest) (j := 4) (by simp [hdD]) (by simp) (by simp) (by simp [hdD])
    have m1 : mulOk 7919 (h.count + 1) = true := mul_smallL (by decide)
    have m2 : mulOk (h.seed + 7919 * (h.count + 1)) 48271 = true := mul_small (by decide)
    have d1 : divOk 1009 = true := div_small (by decide) (by decide)
    have d2 : divOk 2003 = true := div_small (by decide) (by decide)
    have d3 : divOk 16 = true := div_small (by decide) (by decide)
    generalize hn1 : ((h.seed + 7919 * (h.count + 1)) * 48271).fmod 2147483647 = n1
    have r1 := fmod_range (a := (h.seed + 7919 * (h.count + 1)) * 48271) (m := 2147483647) (by decide)
    rw [hn1] at r1
    have m3 : mulOk n1 (n1.fdiv 1009 + 69621) = true := mul_smallL (by omega)
    generalize hn2 : (n1 * (n1.fdiv 1009 + 69621)).fmod 2147483647 = n2
    have r2 := fmod_range (a := n1 * (n1.fdiv 1009 + 69621)) (m := 2147483647) (by decide)
    rw [hn2] at r2
    have m4 : mulOk n2 (n2.fdiv 2003 + 40014) = true := mul_smallL (by omega)
    generalize hn3 : (n2 * (n2.fdiv 2003 + 40014)).fmod 2147483563 = n3
    refine ⟨(n3.fdiv 16).fmod many, some (.lst (hdD { h with count := h.count + 1 })) :: rest, ?_, ⟨{ h with count := h.count + 1 }, ⟨ok.cs, ok.pos, ok.carry⟩, rfl⟩, (fmod_range h1).1, (fmod_range h1).2⟩
    simp only [hdD] at e ⊢
    simp [drawTail, hc, hm', e, m1, m2, hn1, m3, d1, hn2, m4, d2, hn3, d3]
theorem r_draw {many : Int} (h1 : 0 < many) (h2 : many < 2 ^ 60) (hp : Pl rest) (hs : HS rest st) : ∃ v st', m__law_draw [.r 0, .d (.int many)] st = some (.d (.int v), st') ∧ HS rest st' ∧ 0 ≤ v ∧ v < many := by
  obtain ⟨h, ok, rfl⟩ := hs
  -- the body behind the first test
  have fin : ∀ (h' : Hd) (x2 x3 x4 : Option DV), HdOk h' → b__law_draw [some (.r 0), some (.d (.int many)), none, none, none] (some (.lst (hdD h)) :: rest) = drawTail [some (.r 0), some (.d (.int many)), x2, x3, x4] (some (.lst (hdD h')) :: rest) →
      ∃ v st', m__law_draw [.r 0, .d (.int many)] (some (.lst (hdD h)) :: rest) = some (.d (.int v), st') ∧ HS rest st' ∧ 0 ≤ v ∧ v < many := fun h' x2 x3 x4 ok' e => by
    obtain ⟨v, st', e2, hs', v1, v2⟩ := draw_tail (rest := rest) ok' h1 h2 x2 x3 x4
    refine ⟨v, st', ?_, hs', v1, v2⟩
    have hpl := hs'.pl hp
    refine run_dS (more := []) ?_ rfl (by rw [hs'.len]; rfl) (by simpa using hpl)
    show b__law_draw [some (.r 0), some (.d (.int many)), none, none, none] (some (.lst (hdD h)) :: rest) = _
    rw [e, e2, List.append_nil]
  by_cases hc : h.carry = 0 ∧ h.pos < (h.cs.length : Int)
  · obtain ⟨c0, c1⟩ := hc
    have hpos := ok.pos
    obtain ⟨n, hn⟩ := Int.eq_ofNat_of_zero_le hpos
    have hl : n < h.cs.length := by omega
    have hc1 : h.cs[n]? = some h.cs[n] := List.getElem?_eq_getElem hl
    have hcell : 0 ≤ h.cs[n] := ok.cs _ (List.getElem_mem hl)
    have ec : atI (h.cs.map PyData.int) h.pos = some (.int h.cs[n]) := by rw [hn]; exact at_nat (by rw [List.getElem?_map, hc1]; rfl)
    generalize h.cs[n] = cell at ec hcell
    have m1 : mulOk h.seed 69621 = true := mul_small (by decide)
    have m2 : mulOk cell 40692 = true := mul_small (by decide)
    let h2' : Hd := { h with pos := h.pos + 1 }
    let h3 : Hd := { h2' with seed := (h.seed * 69621 + cell * 40692 + 31).fmod 2147483629 }
    have e1 := put_hd (me := mBin fAdd (mBin fIx (mVar 0) (mC (.int 1))) (mC (.int 1))) (mo := mVar 0) (mi := mC (.int 1)) (s := [some (.r 0), some (.d (.int many)), none, some (.d (.int cell)), none]) (st0 := some (.lst (hdD h)) :: rest) (st1 := some (.lst (hdD h)) :: rest) (x := .int (h.pos + 1)) (i := 1) (xs := hdD h) (r := rest) (j := 1) (by simp [hdD]) (by simp) (by simp) (by simp [hdD])
    have e2 := put_hd (me := mBin fMod (mApp fInt (mCons (mBin fAdd (mBin fAdd (mBin fMul (mBin fIx (mVar 0) (mC (.int 3))) (mC (.int 69621))) (mBin fMul (mVar 3) (mC (.int 40692)))) (mC (.int 31))) mNil)) (mC (.int 2147483629))) (mo := mVar 0) (mi := mC (.int 3)) (s := [some (.r 0), some (.d (.int many)), none, some (.d (.int cell)), none]) (st0 := some (.lst (hdD h2')) :: rest) (st1 := some (.lst (hdD h2')) :: rest) (x := .int ((h.seed * 69621 + cell * 40692 + 31).fmod 2147483629)) (i := 3) (xs := hdD h2') (r := rest) (j := 3) (by simp [hdD, m1, m2, h2']) (by simp) (by simp) (by simp [hdD])
    have epow : fPow (.d (.int 10)) (.d (.int 18)) (some (.lst (hdD h3)) :: rest) = some (.d (.int (10 ^ 18)), some (.lst (hdD h3)) :: rest) := by
      unfold fPow
      simp
    by_cases hbig : 10 ^ 18 ≤ cell
    · let h4 : Hd := { h3 with carry := cell }
      have e3 := put_hd (me := mVar 3) (mo := mVar 0) (mi := mC (.int 2)) (s := [some (.r 0), some (.d (.int many)), none, some (.d (.int cell)), none]) (st0 := some (.lst (hdD h3)) :: rest) (st1 := some (.lst (hdD h3)) :: rest) (x := .int cell) (i := 2) (xs := hdD h3) (r := rest) (j := 2) (by simp) (by simp) (by simp) (by simp [hdD])
      refine fin h4 none (some (.d (.int cell))) none ⟨ok.cs, by show 0 ≤ h.pos + 1; omega, hcell⟩ ?_
      rw [b_draw]
      simp only [hdD, h2', h3, h4] at e1 e2 e3 epow ⊢
      have hbig' : (1000000000000000000 : Int) ≤ cell := by simpa using hbig
      have epow' : ∀ st : Store, fPow (.d (.int 10)) (.d (.int 18)) st = some (.d (.int 1000000000000000000), st) := fun st => rfl
      simp only [c0] at e1 e2 e3
      simp [c0, c1, ec, e1, e2, epow', hbig', e3]
    · refine fin h3 none (some (.d (.int cell))) none ⟨ok.cs, by show 0 ≤ h.pos + 1; omega, ok.carry⟩ ?_
      rw [b_draw]
      simp only [hdD, h2', h3] at e1 e2 epow ⊢
      have hbig' : ¬ (1000000000000000000 : Int) ≤ cell := by simpa using hbig
      have epow' : ∀ st : Store, fPow (.d (.int 10)) (.d (.int 18)) st = some (.d (.int 1000000000000000000), st) := fun st => rfl
      simp only [c0] at e1 e2
      simp [c0, c1, ec, e1, e2, epow', hbig']
  · refine fin h none none none ok ?_
    rw [b_draw]
    by_cases c0 : h.carry = 0
    · have c1 : ¬ h.pos < (h.cs.length : Int) := fun z => hc ⟨c0, z⟩
      simp [hdD, c0, c1]
    · simp [hdD, c0]
end
end Q

set_option Elab.async false
set_option linter.all false
set_option maxRecDepth 100000
set_option maxHeartbeats 4000000
/-! QM: sums, cells, nets, boxes, claims that are drawn -/
namespace Q
open PySem PySem.Spec PyProof.Rows L2 PD W
section
variable {rest st : Store}
/-- a call that ends with data, the hand first as before -/
theorem run_HS {n N : Nat} {body : SM} {ds : List DV} {st st2 more : Store} {x : PyData} (h : body (ds.map some ++ List.replicate (N - n) none) st = some (.ret (.d x) (st2 ++ more))) (hl : ds.length = n) (hs : HS rest st) (hs2 : HS rest st2) (hp : Pl rest) (hm : Pl more) : runFn n N body ds st = some (.d x, st2) :=
  run_dS h hl (by rw [hs.len, hs2.len]) ((hs2.pl hp).app hm)
theorem run_HS0 {n N : Nat} {body : SM} {ds : List DV} {st st2 : Store} {x : PyData} (h : body (ds.map some ++ List.replicate (N - n) none) st = some (.ret (.d x) st2)) (hl : ds.length = n) (hs : HS rest st) (hs2 : HS rest st2) (hp : Pl rest) : runFn n N body ds st = some (.d x, st2) :=
  run_HS (more := []) (by simpa using h) hl hs hs2 hp .nil
theorem r_any {xs : List PyData} (h1 : 0 < xs.length) (h2 : xs.length < 1000) (hp : Pl rest) (hs : HS rest st) : ∃ x st', m__law_any [.r 0, .d (.list xs)] st = some (.d x, st') ∧ HS rest st' ∧ x ∈ xs := by
  obtain ⟨v, st', e, hs', v1, v2⟩ := r_draw (rest := rest) (st := st) (many := (xs.length : Int)) (by omega) (by omega) hp hs
  obtain ⟨n, rfl⟩ := Int.eq_ofNat_of_zero_le v1
  have hl : n < xs.length := by omega
  refine ⟨xs[n], st', ?_, hs', List.getElem_mem hl⟩
  refine run_HS0 ?_ rfl hs hs' hp
  have e2 : atI xs (n : Int) = some xs[n] := at_nat (List.getElem?_eq_getElem hl)
  simp [b__law_any, e, e2]
theorem top_ok {i : Int} (h1 : -9 ≤ i) (h2 : i ≤ 9) : FOk (i, 1) ∧ FB 4 (i, 1) := by
  refine ⟨⟨Int.zero_lt_one, Int.gcd_one⟩, ?_, ?_⟩
  · show i.natAbs < 2 ^ 4
    omega
  · show (1 : Int).natAbs < 2 ^ 4
    decide
theorem r_number (hp : Pl rest) (hs : HS rest st) : ∃ f st', m__law_number [.r 0] st = some (.d (fr f), st') ∧ HS rest st' ∧ FOk f ∧ FB 4 f := by
  obtain ⟨v, st1, e1, hs1, v1, v2⟩ := r_draw (rest := rest) (st := st) (many := 9) (by decide) (by decide) hp hs
  obtain ⟨u, st2, e2, hs2, u1, u2⟩ := r_draw (rest := rest) (st := st1) (many := 3) (by decide) (by decide) hp hs1
  by_cases h : 0 < u
  · refine ⟨(v - 4, 1), st2, ?_, hs2, top_ok (by omega) (by omega)⟩
    refine run_HS0 ?_ rfl hs hs2 hp
    simp [b__law_number, e1, e2, h, fr]
  · have hb : Bt 4 (2 * (v - 4) + 1) := by
      show (2 * (v - 4) + 1).natAbs < 2 ^ 4
      omega
    have hb2 : Bt 4 2 := by
      show (2 : Int).natAbs < 2 ^ 4
      decide
    have e3 := r_lmade (st := st2) (B := 4) (by decide) (t := 2 * (v - 4) + 1) (b := 2) (by decide) hb hb2 (hs2.pl hp)
    have hm : mulOk 2 (v - 4) = true := mul_smallL (by decide)
    refine ⟨fmk (2 * (v - 4) + 1) 2, st2, ?_, hs2, fmk_ok (by decide), fmk_B hb hb2⟩
    refine run_HS0 ?_ rfl hs hs2 hp
    simp [b__law_number, e1, e2, h, e3, hm]
/-- the terms of a list of factors -/
theorem terms_lc {s0 : SE} : ∀ (fs : List Fr) (k : Nat), (∀ x y : PyData, ∃ s1, gmTup 2 (gmCons (gmName 2) (gmCons (gmName 3) gmNil)) (.d (.tuple [x, y])) s0 = some s1 ∧ s1[2]? = some (some (.d x)) ∧ s1[3]? = some (some (.d y))) →
    lcL (gmTup 2 (gmCons (gmName 2) (gmCons (gmName 3) gmNil))) (mB (mBin fNe (mBin fIx (mVar 3) (mC (.int 0))) (mC (.int 0)))) (mTup (mCons (mVar 2) (mCons (mVar 3) mNil))) always (enumK k (fs.map fr)) s0 st = some (termsD k fs, st)
  | [], k, _ => by simp [lcL, enumK, termsD]
  | f :: fs, k, hg => by
    have ih := terms_lc (s0 := s0) fs (k + 1) hg
    obtain ⟨s1, g1, g2, g3⟩ := hg (.int (k : Nat)) (fr f)
    have e : fIx (.d (fr f)) (.d (.int 0)) st = some (.d (.int f.1), st) := by simp [fr]
    by_cases h0 : f.1 = 0
    · simp only [List.map_cons, enumK, lcL, e_always, if_true, g1, e_mB, e_mBin, e_mVar, g3, e_mC, e, ne_int, h0, decide_true, Bool.not_true, ih, termsD]
      simp
    · simp only [List.map_cons, enumK, lcL, e_always, if_true, g1, e_mB, e_mBin, e_mVar, g2, g3, e_mC, e, ne_int, h0, decide_false, Bool.not_false, ih, termsD, e_mTup, e_mCons, e_mNil, e_pures_cons, e_pures_nil]
      simp [h0, ih]
theorem r_as_sum {s : Sm} (hl : s.1.length < 1000) (hp : Pl st) : m__law_as_sum [.d (.list (s.1.map fr)), .d (fr s.2)] st = some (.d (smD s), st) := by
  refine run_d0 ?_ rfl hp
  have e := terms_lc (st := st) (s0 := [some (.d (.list (s.1.map fr))), some (.d (fr s.2)), none, none]) s.1 0 (fun x y => ⟨_, rfl, rfl, rfl⟩)
  have hz : (enumK 0 (s.1.map fr)).length ≤ 16777216 := by rw [← enumP_eq, enumP_length, List.length_map]; omega
  simp [b__law_as_sum, enumP_eq, hz, e, smD]
theorem ex_list {P : PyData → Prop} {α : Type} {D : α → PyData} {Ok : α → Prop} (hP : ∀ x, P x → ∃ a, x = D a ∧ Ok a) : ∀ (xs : List PyData), (∀ x ∈ xs, P x) → ∃ as : List α, xs = as.map D ∧ ∀ a ∈ as, Ok a
  | [], _ => ⟨[], rfl, fun a h => by simp at h⟩
  | x :: xs, h => by
    obtain ⟨a, rfl, ha⟩ := hP x (h x List.mem_cons_self)
    obtain ⟨as, rfl, has⟩ := ex_list hP xs fun y hy => h y (List.mem_cons_of_mem _ hy)
    exact ⟨a :: as, rfl, fun b hb => by
      rcases List.mem_cons.mp hb with rfl | hb
      · exact ha
      · exact has b hb⟩
/-- a comprehension over range(n), each item drawn -/
theorem lc_drawn {α : Type} {D : α → PyData} {Ok : α → Prop} {e : EM} {s0 : SE} {i : Nat} {n : Nat} (hs : HS rest st) (he : ∀ (k : Nat) (st : Store), k < n → HS rest st → ∃ a st', e (s0.set i (some (.d (.int (k : Nat))))) st = some (.d (D a), st') ∧ HS rest st' ∧ Ok a) :
    ∃ (as : List α) (st' : Store), lcL (gmName i) mYes e always (rngP 0 (n : Int)) s0 st = some (as.map D, st') ∧ HS rest st' ∧ as.length = n ∧ ∀ a ∈ as, Ok a := by
  have hlen : (rngP 0 (n : Int)).length = n := by rw [rngP_length]; omega
  obtain ⟨xs, st', e1, hs', hl, hx⟩ := lcL_ex (gm := gmName i) (e := e) (g := always) (s := s0) (HS rest) (fun _ x => ∃ a, x = D a ∧ Ok a) (rngP 0 (n : Int)) 0 st hs (fun _ _ => rfl) (fun j d st hd hst => by
    have hj : j < n := by rw [← hlen]; exact (List.getElem?_eq_some_iff.mp hd).1
    have hdj := rngP_get (i := 0) (j := (n : Int)) (k := j) (by omega)
    rw [hdj] at hd
    cases hd
    obtain ⟨a, st', e1, hs', ha⟩ := he j st hj hst
    rw [Int.zero_add]
    exact ⟨_, rfl, D a, st', e1, hs', a, rfl, ha⟩)
  obtain ⟨as, rfl, has⟩ := ex_list (P := fun x => ∃ a, x = D a ∧ Ok a) (fun x h => h) xs (fun x hx' => by
    obtain ⟨j, hj⟩ := List.mem_iff_getElem?.mp hx'
    exact hx j x hj)
  exact ⟨as, st', e1, hs', by rw [List.length_map] at hl; omega, has⟩
theorem seq_nx {a b : SM} {s s1 : SE} {st st1 : Store} (h : a s st = some (.nx s1 st1)) : mSeq a b s st = b s1 st1 := by rw [e_mSeq, h]
theorem set_nx {i : Nat} {m : EM} {s : SE} {st st1 : Store} {d : DV} (h : m s st = some (d, st1)) : mSet i m s st = some (.nx (s.set i (some d)) st1) := by rw [e_mSet, h]
theorem ret_of {m : EM} {s : SE} {st st1 : Store} {d : DV} (h : m s st = some (d, st1)) : mRet m s st = some (.ret d st1) := by rw [e_mRet, h]
theorem app1 {f : FN} {m : EM} {s : SE} {st st1 : Store} {d : DV} (h : m s st = some (d, st1)) : mApp f (mCons m mNil) s st = f [d] st1 := by unfold mApp mCons mNil; rw [h]
theorem bin_of {f : F2} {m k : EM} {s : SE} {st st1 st2 : Store} {x y : DV} (h : m s st = some (x, st1)) (h' : k s st1 = some (y, st2)) : mBin f m k s st = f x y st2 := by rw [e_mBin, h]; dsimp only; rw [h']
theorem lc_rng {vs : List Nat} {gm : GM} {t : TM} {e m : EM} {s : SE} {st st1 st2 : Store} {j : Int} {xs : List PyData} (hm : m s st = some (.d (.int j), st1)) (hb : bd j = true) (hz : (rngP 0 j).length ≤ 16777216) (h : lcL gm t e always (rngP 0 j) (wipeS s vs) st1 = some (xs, st2)) : mLc vs (mRng1 m) gm t e s st = some (.d (.list xs), st2) := by
  unfold mLc mRng1
  rw [hm]
  dsimp only
  rw [if_pos hb]
  dsimp only
  rw [if_pos (decide_eq_true hz), h]
theorem r_drawn_sum {m : Nat} (hm : m < 900) (hp : Pl rest) (hs : HS rest st) : ∃ s st', m__law_drawn_sum [.r 0, .d (.int (m : Nat))] st = some (.d (smD s), st') ∧ HS rest st' ∧ SmOk m s := by
  obtain ⟨fs, st1, e1, hs1, hl, hf⟩ := lc_drawn (rest := rest) (st := st) (D := fr) (Ok := fun f => FOk f ∧ FB 4 f) (i := 3) (n := m) (s0 := [some (.r 0), some (.d (.int (m : Nat))), none, none])
    (e := mIf (mB (mBin fGt (mApp m__law_draw (mCons (mVar 0) (mCons (mC (.int 4)) mNil))) (mC (.int 0)))) (mApp m__law_number (mCons (mVar 0) mNil)) (mTup (mCons (mC (.int 0)) (mCons (mC (.int 1)) mNil)))) hs fun k st hk hst => by
      obtain ⟨v, st1, e1, hs1, v1, v2⟩ := r_draw (rest := rest) (st := st) (many := 4) (by decide) (by decide) hp hst
      by_cases h : 0 < v
      · obtain ⟨f, st2, e2, hs2, hf⟩ := r_number hp hs1
        exact ⟨f, st2, by simp [e1, h, e2], hs2, hf⟩
      · exact ⟨(0, 1), st1, by simp [e1, h, fr], hs1, top_ok (by decide) (by decide)⟩
  obtain ⟨c, st2, e2, hs2, hc⟩ := r_number hp hs1
  have e3 := r_as_sum (st := st2) (s := (fs, c)) (by show fs.length < 1000; omega) (hs2.pl hp)
  have b1 : bd (m : Int) = true := bd_of (by omega) (by omega)
  have hz : (rngP 0 (m : Int)).length ≤ 16777216 := by rw [rngP_length]; omega
  refine ⟨(fs, c), st2, ?_, hs2, ⟨hl, hf, hc⟩⟩
  refine run_HS0 ?_ rfl hs hs2 hp
  have e4 := lc_rng (vs := [3]) (m := mVar 1) (s := [some (.r 0), some (.d (.int (m : Nat))), none, none]) (st := st) (st1 := st) (j := (m : Int)) (by simp) b1 hz e1
  show b__law_drawn_sum [some (.r 0), some (.d (.int (m : Nat))), none, none] st = _
  unfold b__law_drawn_sum
  refine (seq_nx (set_nx e4)).trans ?_
  simp [e2, e3]
theorem cat1 (w : Str) (xs : List PyData) (st : Store) (hl : xs.length < 1000) : fAdd (.d (.tuple [.str w])) (.d (.tuple xs)) st = some (.d (.tuple (.str w :: xs)), st) := by
  have hc : catOk 1 xs.length = true := by
    unfold catOk
    rw [decide_eq_true]
    omega
  unfold fAdd
  simp only [tupV, List.length_singleton, hc, if_true, e_ret, List.cons_append, List.nil_append]
end
end Q

set_option Elab.async false
set_option linter.all false
set_option maxRecDepth 100000
set_option maxHeartbeats 4000000
/-! QN: cells and claims that are drawn -/
namespace Q
open PySem PySem.Spec PyProof.Rows L2 PD W
theorem app2 {f : FN} {m1 m2 : EM} {s : SE} {st st1 st2 : Store} {d1 d2 : DV} (h1 : m1 s st = some (d1, st1)) (h2 : m2 s st1 = some (d2, st2)) : mApp f (mCons m1 (mCons m2 mNil)) s st = f [d1, d2] st2 := by
  simp only [e_mApp, e_mCons, e_mNil, h1, h2]
theorem app3 {f : FN} {m1 m2 m3 : EM} {s : SE} {st st1 st2 st3 : Store} {d1 d2 d3 : DV} (h1 : m1 s st = some (d1, st1)) (h2 : m2 s st1 = some (d2, st2)) (h3 : m3 s st2 = some (d3, st3)) : mApp f (mCons m1 (mCons m2 (mCons m3 mNil))) s st = f [d1, d2, d3] st3 := by
  simp only [e_mApp, e_mCons, e_mNil, h1, h2, h3]
section
variable {rest st : Store}
theorem tup2 {m1 m2 : EM} {s : SE} {st st1 st2 : Store} {x y : PyData} (h1 : m1 s st = some (.d x, st1)) (h2 : m2 s st1 = some (.d y, st2)) : mTup (mCons m1 (mCons m2 mNil)) s st = some (.d (.tuple [x, y]), st2) := by
  simp [h1, h2]
theorem lst2 {m1 m2 : EM} {s : SE} {st st1 st2 : Store} {x y : PyData} (h1 : m1 s st = some (.d x, st1)) (h2 : m2 s st1 = some (.d y, st2)) : mLst (mCons m1 (mCons m2 mNil)) s st = some (.d (.list [x, y]), st2) := by
  simp [h1, h2]
theorem rng_len (n : Nat) (h : n < 1000) : (rngP 0 (n : Int)).length ≤ 16777216 := by rw [rngP_length]; omega
theorem var_at {i : Nat} {d : DV} {s : SE} (h : s[i]? = some (some d)) : mVar i s st = some (d, st) := by simp [h]
/-- a comprehension of drawn sums -/
theorem drawn_sums {mn me : EM} {s0 : SE} {st1 : Store} {n m : Nat} {i : Nat} (hm : m < 900) (hn : n < 900) (hp : Pl rest) (hs : HS rest st1) (h : mn s0 st = some (.d (.int (n : Nat)), st1))
    (h0 : ∀ k : Nat, ((wipeS s0 [i]).set i (some (.d (.int (k : Nat)))))[0]? = some (some (.r 0)))
    (h1 : ∀ (k : Nat) (st : Store), me ((wipeS s0 [i]).set i (some (.d (.int (k : Nat))))) st = some (.d (.int (m : Nat)), st)) :
    ∃ (ss : List Sm) (st' : Store), mLc [i] (mRng1 mn) (gmName i) mYes (mApp m__law_drawn_sum (mCons (mVar 0) (mCons me mNil))) s0 st = some (.d (.list (ss.map smD)), st') ∧ HS rest st' ∧ ss.length = n ∧ ∀ s ∈ ss, SmOk m s := by
  obtain ⟨ss, st2, e2, hs2, hl, ok⟩ := lc_drawn (rest := rest) (st := st1) (D := smD) (Ok := SmOk m) (i := i) (n := n) (s0 := wipeS s0 [i])
    (e := mApp m__law_drawn_sum (mCons (mVar 0) (mCons me mNil))) hs fun k st hk hst => by
      obtain ⟨s, st', e, hs', ok⟩ := r_drawn_sum hm hp hst
      exact ⟨s, st', (app2 (var_at (h0 k)) (h1 k st)).trans e, hs', ok⟩
  exact ⟨ss, st2, lc_rng (vs := [i]) h (bd_of (by omega) (by omega)) (rng_len n (by omega)) e2, hs2, hl, ok⟩
theorem tup_of {me : EM} {s : SE} {st st1 : Store} {xs : List PyData} (h : me s st = some (.d (.list xs), st1)) : mApp fTuple (mCons me mNil) s st = fTuple [.d (.list xs)] st1 := app1 h
def words : List Str := ["cut", "cut", "step", "most", "switch", "plain"]
theorem r_claim {t : Nt} (ht : NtOk t) (hp : Pl rest) (hs : HS rest st) : ∃ c st', m__law_claim [.r 0, .d (.int (t.outs.length : Nat))] st = some (.d (cmD c), st') ∧ HS rest st' ∧ CmOk t c := by
  have o2 := ht.o2
  obtain ⟨s, st1, e1, hs1, ok⟩ := r_drawn_sum (m := t.outs.length) (by omega) hp hs
  obtain ⟨x, st2, e2, hs2, hx⟩ := r_any (xs := [.str "above", .str "least"]) (by decide) (by decide) hp hs1
  have e3 : mApp m__law_drawn_sum (mCons (mVar 0) (mCons (mVar 1) mNil)) [some (.r 0), some (.d (.int (t.outs.length : Nat)))] st = some (.d (smD s), st1) := (app2 (var_at rfl) (var_at rfl)).trans e1
  have e4 : mApp m__law_any (mCons (mVar 0) (mCons (mLst (mCons (mC (.str "above")) (mCons (mC (.str "least")) mNil))) mNil)) [some (.r 0), some (.d (.int (t.outs.length : Nat)))] st1 = some (.d x, st2) := (app2 (var_at rfl) (lst2 (e_mC ..) (e_mC ..))).trans e2
  simp only [List.mem_cons, List.not_mem_nil, or_false] at hx
  have key : ∀ b : Bool, x = .str (cmW ⟨s, b⟩) → ∃ c st', m__law_claim [.r 0, .d (.int (t.outs.length : Nat))] st = some (.d (cmD c), st') ∧ HS rest st' ∧ CmOk t c := by
    intro b hb
    refine ⟨⟨s, b⟩, st2, ?_, hs2, ⟨ok⟩⟩
    refine run_HS0 ?_ rfl hs hs2 hp
    show b__law_claim [some (.r 0), some (.d (.int (t.outs.length : Nat)))] st = _
    unfold b__law_claim
    refine ret_of ?_
    subst hb
    exact tup2 e3 e4
  rcases hx with hx | hx
  · exact key true hx
  · exact key false hx
end
end Q

set_option Elab.async false
set_option linter.all false
set_option maxRecDepth 100000
set_option maxHeartbeats 4000000
/-! QO: cells that are drawn -/
namespace Q
open PySem PySem.Spec PyProof.Rows L2 PD W
section
variable {rest st : Store}
theorem ifs_t {t : TM} {a b : SM} {s : SE} {st1 : Store} (h : t s st = some (true, st1)) : mIfS t a b s st = a s st1 := by rw [e_mIfS, h]
theorem ifs_f {t : TM} {a b : SM} {s : SE} {st1 : Store} (h : t s st = some (false, st1)) : mIfS t a b s st = b s st1 := by rw [e_mIfS, h]
theorem seq_ret {a b : SM} {s : SE} {d : DV} {st1 : Store} (h : a s st = some (.ret d st1)) : mSeq a b s st = some (.ret d st1) := by rw [e_mSeq, h]
theorem eqv_w {v w : Str} {b : Bool} {s : SE} {i : Nat} (h : s[i]? = some (some (.d (.str v)))) (he : ∀ st, fEqB false (.d (.str v)) (.d (.str w)) st = some (.d (.bool b), st)) : mB (mBin fEq (mVar i) (mC (.str w))) s st = some (b, st) := by
  have e : mBin fEq (mVar i) (mC (.str w)) s st = some (.d (.bool b), st) := (bin_of (var_at h) (e_mC ..)).trans (he st)
  rw [e_mB, e]
def cellB : EM := mLc [3] (mRng1 (mIf (mB (mBin fEq (mVar 2) (mC (.str "switch")))) (mC (.int 3)) (mC (.int 1)))) (gmName 3) mYes (mApp m__law_drawn_sum (mCons (mVar 0) (mCons (mVar 1) mNil)))
def cellM : EM := mLc [3] (mRng1 (mBin fAdd (mC (.int 2)) (mApp m__law_draw (mCons (mVar 0) (mCons (mC (.int 2)) mNil))))) (gmName 3) mYes (mApp m__law_drawn_sum (mCons (mVar 0) (mCons (mVar 1) mNil)))
def cellA : EM := mApp m__law_any (mCons (mVar 0) (mCons (mLst (mCons (mC (.str "cut")) (mCons (mC (.str "cut")) (mCons (mC (.str "step")) (mCons (mC (.str "most")) (mCons (mC (.str "switch")) (mCons (mC (.str "plain")) mNil))))))) mNil))
theorem b_cell : b__law_cell = mSeq (mSet 2 cellA) (mSeq (mIfS (mB (mBin fEq (mVar 2) (mC (.str "most")))) (mRet (mTup (mCons (mVar 2) (mCons (mApp fTuple (mCons cellM mNil)) mNil)))) mNx) (mRet (mBin fAdd (mTup (mCons (mVar 2) mNil)) (mApp fTuple (mCons cellB mNil))))) := rfl
theorem wordL : mLst (mCons (mC (.str "cut")) (mCons (mC (.str "cut")) (mCons (mC (.str "step")) (mCons (mC (.str "most")) (mCons (mC (.str "switch")) (mCons (mC (.str "plain")) mNil)))))) s st = some (.d (.list [.str "cut", .str "cut", .str "step", .str "most", .str "switch", .str "plain"]), st) := by simp
theorem cell_any {m : Nat} (hp : Pl rest) (hs : HS rest st) (x2 x3 : Option DV) : ∃ x st', cellA [some (.r 0), some (.d (.int (m : Nat))), x2, x3] st = some (.d x, st') ∧ HS rest st' ∧ (x = .str "cut" ∨ x = .str "step" ∨ x = .str "most" ∨ x = .str "switch" ∨ x = .str "plain") := by
  obtain ⟨x, st2, e2, hs2, hx⟩ := r_any (xs := [.str "cut", .str "cut", .str "step", .str "most", .str "switch", .str "plain"]) (by decide) (by decide) hp hs
  refine ⟨x, st2, (app2 (var_at rfl) wordL).trans e2, hs2, ?_⟩
  simp only [List.mem_cons, List.not_mem_nil, or_false] at hx
  rcases hx with h | h | h | h | h | h
  · exact .inl h
  · exact .inl h
  · exact .inr (.inl h)
  · exact .inr (.inr (.inl h))
  · exact .inr (.inr (.inr (.inl h)))
  · exact .inr (.inr (.inr (.inr h)))
theorem if_v {t : TM} {b : Bool} {i j : Int} {s : SE} (h : t s st = some (b, st)) : mIf t (mC (.int i)) (mC (.int j)) s st = some (.d (.int (if b then i else j)), st) := by
  rw [e_mIf, h]
  cases b <;> rfl
/-- the other words -/
theorem cell_w {m : Nat} (hm : m < 900) (hp : Pl rest) (hs : HS rest st) (w : Str) (b : Bool) (x3 : Option DV)
    (h1 : ∀ st, fEqB false (.d (.str w)) (.d (.str "most")) st = some (.d (.bool false), st)) (h2 : ∀ st, fEqB false (.d (.str w)) (.d (.str "switch")) st = some (.d (.bool b), st)) :
    ∃ (ss : List Sm) (st' : Store), mSeq (mIfS (mB (mBin fEq (mVar 2) (mC (.str "most")))) (mRet (mTup (mCons (mVar 2) (mCons (mApp fTuple (mCons cellM mNil)) mNil)))) mNx) (mRet (mBin fAdd (mTup (mCons (mVar 2) mNil)) (mApp fTuple (mCons cellB mNil)))) [some (.r 0), some (.d (.int (m : Nat))), some (.d (.str w)), x3] st = some (.ret (.d (.tuple (.str w :: ss.map smD))) st') ∧ HS rest st' ∧ ss.length = (if b then 3 else 1) ∧ ∀ s ∈ ss, SmOk m s := by
  have e0 : mB (mBin fEq (mVar 2) (mC (.str "most"))) [some (.r 0), some (.d (.int (m : Nat))), some (.d (.str w)), x3] st = some (false, st) := eqv_w rfl h1
  have e1 : mIf (mB (mBin fEq (mVar 2) (mC (.str "switch")))) (mC (.int 3)) (mC (.int 1)) [some (.r 0), some (.d (.int (m : Nat))), some (.d (.str w)), x3] st = some (.d (.int (((if b then 3 else 1 : Nat)) : Nat)), st) := by
    rw [if_v (eqv_w rfl h2)]
    cases b <;> rfl
  obtain ⟨ss, st', e2, hs', hl, ok⟩ := drawn_sums (rest := rest) (m := m) (n := if b then 3 else 1) (i := 3) (me := mVar 1) hm (by split <;> omega) hp hs e1 (fun k => rfl) (fun k st => var_at rfl)
  refine ⟨ss, st', ?_, hs', hl, ok⟩
  refine (seq_nx ((ifs_f e0).trans rfl)).trans ?_
  refine ret_of ?_
  have e3 : mTup (mCons (mVar 2) mNil) [some (.r 0), some (.d (.int (m : Nat))), some (.d (.str w)), x3] st = some (.d (.tuple [.str w]), st) := by simp
  refine (bin_of e3 ((tup_of e2).trans e_tuple_l)).trans ?_
  refine cat1 w _ st' ?_
  rw [List.length_map, hl]
  split <;> omega
theorem cell_m {m : Nat} (hm : m < 900) (hp : Pl rest) (hs : HS rest st) (x3 : Option DV) :
    ∃ (ss : List Sm) (st' : Store), mSeq (mIfS (mB (mBin fEq (mVar 2) (mC (.str "most")))) (mRet (mTup (mCons (mVar 2) (mCons (mApp fTuple (mCons cellM mNil)) mNil)))) mNx) (mRet (mBin fAdd (mTup (mCons (mVar 2) mNil)) (mApp fTuple (mCons cellB mNil)))) [some (.r 0), some (.d (.int (m : Nat))), some (.d (.str "most")), x3] st = some (.ret (.d (.tuple [.str "most", .tuple (ss.map smD)])) st') ∧ HS rest st' ∧ (2 ≤ ss.length ∧ ss.length ≤ 4) ∧ ∀ s ∈ ss, SmOk m s := by
  have e0 : mB (mBin fEq (mVar 2) (mC (.str "most"))) [some (.r 0), some (.d (.int (m : Nat))), some (.d (.str "most")), x3] st = some (true, st) := eqv_w rfl fun _ => w_most_most
  obtain ⟨v, st1, e1, hs1, v1, v2⟩ := r_draw (rest := rest) (st := st) (many := 2) (by decide) (by decide) hp hs
  have e4 : mApp m__law_draw (mCons (mVar 0) (mCons (mC (.int 2)) mNil)) [some (.r 0), some (.d (.int (m : Nat))), some (.d (.str "most")), x3] st = some (.d (.int v), st1) := (app2 (var_at rfl) (e_mC ..)).trans e1
  have e5 : mBin fAdd (mC (.int 2)) (mApp m__law_draw (mCons (mVar 0) (mCons (mC (.int 2)) mNil))) [some (.r 0), some (.d (.int (m : Nat))), some (.d (.str "most")), x3] st = some (.d (.int ((2 + v).toNat : Nat)), st1) := by
    refine (bin_of (e_mC ..) e4).trans ?_
    have : (((2 + v).toNat : Nat) : Int) = 2 + v := by omega
    rw [this]
    simp
  obtain ⟨ss, st', e2, hs', hl, ok⟩ := drawn_sums (rest := rest) (m := m) (n := (2 + v).toNat) (i := 3) (me := mVar 1) hm (by omega) hp hs1 e5 (fun k => rfl) (fun k st => var_at rfl)
  refine ⟨ss, st', ?_, hs', by omega, ok⟩
  refine seq_ret ((ifs_t e0).trans ?_)
  refine ret_of ?_
  exact tup2 (var_at rfl) ((tup_of e2).trans e_tuple_l)
end
end Q

set_option Elab.async false
set_option linter.all false
set_option maxRecDepth 100000
set_option maxHeartbeats 4000000
/-! QP: nets that are drawn -/
namespace Q
open PySem PySem.Spec PyProof.Rows L2 PD W
section
variable {rest st : Store}
theorem r_cell {m : Nat} (hm : m < 900) (hp : Pl rest) (hs : HS rest st) : ∃ c st', m__law_cell [.r 0, .d (.int (m : Nat))] st = some (.d (cellD c), st') ∧ HS rest st' ∧ ClOk m c := by
  obtain ⟨x, st1, e1, hs1, hx⟩ := cell_any (m := m) hp hs none none
  have fin : ∀ c st', HS rest st' → ClOk m c → mSeq (mIfS (mB (mBin fEq (mVar 2) (mC (.str "most")))) (mRet (mTup (mCons (mVar 2) (mCons (mApp fTuple (mCons cellM mNil)) mNil)))) mNx) (mRet (mBin fAdd (mTup (mCons (mVar 2) mNil)) (mApp fTuple (mCons cellB mNil)))) [some (.r 0), some (.d (.int (m : Nat))), some (.d x), none] st1 = some (.ret (.d (cellD c)) st') → ∃ c st', m__law_cell [.r 0, .d (.int (m : Nat))] st = some (.d (cellD c), st') ∧ HS rest st' ∧ ClOk m c := by
    intro c st' hs' ok e
    refine ⟨c, st', ?_, hs', ok⟩
    refine run_HS0 ?_ rfl hs hs' hp
    show b__law_cell [some (.r 0), some (.d (.int (m : Nat))), none, none] st = _
    rw [b_cell]
    exact (seq_nx (set_nx e1)).trans e
  have one : ∀ ss : List Sm, ss.length = 1 → ∃ s, ss = [s] := fun ss h => by
    match ss, h with
    | [s], _ => exact ⟨s, rfl⟩
  rcases hx with rfl | rfl | rfl | rfl | rfl
  · obtain ⟨ss, st2, e2, hs2, hl, ok⟩ := cell_w hm hp hs1 "cut" false none (fun _ => w_cut_most) (fun _ => w_cut_switch)
    obtain ⟨s, rfl⟩ := one ss hl
    exact fin (.cut s) st2 hs2 ⟨fun t ht => ok t ht, fun _ h => nomatch h⟩ e2
  · obtain ⟨ss, st2, e2, hs2, hl, ok⟩ := cell_w hm hp hs1 "step" false none (fun _ => w_step_most) (fun _ => w_step_switch)
    obtain ⟨s, rfl⟩ := one ss hl
    exact fin (.step s) st2 hs2 ⟨fun t ht => ok t ht, fun _ h => nomatch h⟩ e2
  · obtain ⟨ss, st2, e2, hs2, hl, ok⟩ := cell_m hm hp hs1 none
    exact fin (.most ss) st2 hs2 ⟨fun t ht => ok t ht, fun _ h => by cases h; exact hl⟩ e2
  · obtain ⟨ss, st2, e2, hs2, hl, ok⟩ := cell_w hm hp hs1 "switch" true none (fun _ => w_switch_most) (fun _ => w_switch_switch)
    match ss, hl with
    | [a, b, c], _ => exact fin (.switch a b c) st2 hs2 ⟨fun t ht => ok t ht, fun _ h => nomatch h⟩ e2
  · obtain ⟨ss, st2, e2, hs2, hl, ok⟩ := cell_w hm hp hs1 "plain" false none (fun _ => w_plain_most) (fun _ => w_plain_switch)
    obtain ⟨s, rfl⟩ := one ss hl
    exact fin (.plain s) st2 hs2 ⟨fun t ht => ok t ht, fun _ h => nomatch h⟩ e2
/-- the list at the end of the store -/
theorem HS.last {xs : List PyData} (h : HS (rest ++ [some (.lst xs)]) st) : st[rest.length + 1]? = some (some (.lst xs)) ∧ ∀ ys, HS (rest ++ [some (.lst ys)]) (st.set (rest.length + 1) (some (.lst ys))) := by
  obtain ⟨hd, ok, rfl⟩ := h
  refine ⟨by simp, fun ys => ⟨hd, ok, ?_⟩⟩
  simp
theorem append_to {m me : EM} {s : SE} {st0 st1 st2 : Store} {n : Nat} {x : PyData} {xs ys : List PyData} (hm : m s st0 = some (.r n, st1)) (h1 : st1[n]? = some (some (.lst ys))) (he : me s st1 = some (.d x, st2)) (hn : st2[n]? = some (some (.lst xs))) (hl : xs.length < 16777216) : mAppend m me s st0 = some (.d .none, st2.set n (some (.lst (xs ++ [x])))) := by
  unfold mAppend
  simp only [hm, isL, h1, hn, if_true, he, decide_eq_true hl, setL]
theorem drop_nx {m : EM} {s : SE} {st1 : Store} {d : DV} (h : m s st = some (d, st1)) : mDrop m s st = some (.nx s st1) := by rw [e_mDrop, h]
theorem for_rng {m : EM} {gm : GM} {b : SM} {s : SE} {st1 : Store} {j : Int} (h : m s st = some (.d (.int j), st1)) (hb : bd j = true) : mFor (mRng1 m) gm b s st = forL gm b always (rngP 0 j) s st1 := by
  unfold mFor mRng1
  rw [h]
  dsimp only
  rw [if_pos hb]
/-- a loop that draws one thing more each time -/
theorem for_drawn {α : Type} {D : α → PyData} {Ok : Nat → α → Prop} {Sl : SE → Prop} {b : SM} {gm : GM} {n : Nat} {s0 : SE} {st0 : Store} (hsl : Sl s0) (hs : HS (rest ++ [some (.lst [])]) st0)
    (he : ∀ (k : Nat) (xs : List PyData) (s : SE) (st : Store), k < n → xs.length = k → Sl s → HS (rest ++ [some (.lst xs)]) st → ∃ s1, gm (.d (.int (k : Nat))) s = some s1 ∧ ∃ a s2 st2, b s1 st = some (.nx s2 st2) ∧ Sl s2 ∧ HS (rest ++ [some (.lst (xs ++ [D a]))]) st2 ∧ Ok k a) :
    ∃ (as : List α) (s' : SE) (st' : Store), forL gm b always (rngP 0 (n : Int)) s0 st0 = some (.nx s' st') ∧ Sl s' ∧ HS (rest ++ [some (.lst (as.map D))]) st' ∧ as.length = n ∧ ∀ (i : Nat) (a : α), as[i]? = some a → Ok i a := by
  have hlen : (rngP 0 (n : Int)).length = n := by rw [rngP_length]; omega
  obtain ⟨s', st', e, h⟩ := forL_run (gm := gm) (b := b) (g := always) (fun k s st => Sl s ∧ ∃ as : List α, as.length = k ∧ HS (rest ++ [some (.lst (as.map D))]) st ∧ ∀ (i : Nat) (a : α), as[i]? = some a → Ok i a) (rngP 0 (n : Int)) 0 s0 st0
    ⟨hsl, [], rfl, hs, fun i a h => by simp at h⟩
    (fun j d s st hd hi => by
      obtain ⟨hsl, as, hal, hst, hok⟩ := hi
      have hj : j < n := by rw [← hlen]; exact (List.getElem?_eq_some_iff.mp hd).1
      have hdj := rngP_get (i := 0) (j := (n : Int)) (k := j) (by omega)
      rw [hdj] at hd
      cases hd
      obtain ⟨s1, g1, a, s2, st2, e2, hsl2, hs2, hok2⟩ := he j (as.map D) s st hj (by rw [List.length_map]; omega) hsl hst
      rw [Int.zero_add]
      refine ⟨rfl, s1, g1, s2, st2, .inl e2, hsl2, as ++ [a], by simp; omega, by simpa using hs2, fun i x hx => ?_⟩
      by_cases hi : i < as.length
      · rw [List.getElem?_append_left hi] at hx
        exact hok i x hx
      · rw [List.getElem?_append_right (by omega)] at hx
        have : i - as.length = 0 := by
          have := (List.getElem?_eq_some_iff.mp hx).1
          simp at this
          omega
        rw [this] at hx
        cases hx
        have : i = j := by omega
        rw [this]
        exact hok2)
    (fun _ _ _ => rfl)
  obtain ⟨h1, as, h2, h3, h4⟩ := h
  exact ⟨as, s', st', e, h1, h3, by omega, h4⟩
end
end Q

set_option Elab.async false
set_option linter.all false
set_option maxRecDepth 100000
set_option maxHeartbeats 4000000
/-! QR: nets that are drawn -/
namespace Q
open PySem PySem.Spec PyProof.Rows L2 PD W
section
variable {rest st : Store}
theorem tup3 {m1 m2 m3 : EM} {s : SE} {st st1 st2 st3 : Store} {x y z : PyData} (h1 : m1 s st = some (.d x, st1)) (h2 : m2 s st1 = some (.d y, st2)) (h3 : m3 s st2 = some (.d z, st3)) : mTup (mCons m1 (mCons m2 (mCons m3 mNil))) s st = some (.d (.tuple [x, y, z]), st3) := by
  simp [h1, h2, h3]
theorem drawn_sums2 {mn me : EM} {s0 : SE} {st1 : Store} {n m : Nat} {i : Nat} (hm : m < 900) (hn : n < 900) (hp : Pl rest) (hs : HS rest st1) (h : mn s0 st = some (.d (.int (n : Nat)), st1))
    (h0 : ∀ k : Nat, ((wipeS s0 [i]).set i (some (.d (.int (k : Nat)))))[0]? = some (some (.r 0)))
    (h1 : ∀ (k : Nat) (st : Store), HS rest st → me ((wipeS s0 [i]).set i (some (.d (.int (k : Nat))))) st = some (.d (.int (m : Nat)), st)) :
    ∃ (ss : List Sm) (st' : Store), mLc [i] (mRng1 mn) (gmName i) mYes (mApp m__law_drawn_sum (mCons (mVar 0) (mCons me mNil))) s0 st = some (.d (.list (ss.map smD)), st') ∧ HS rest st' ∧ ss.length = n ∧ ∀ s ∈ ss, SmOk m s := by
  obtain ⟨ss, st2, e2, hs2, hl, ok⟩ := lc_drawn (rest := rest) (st := st1) (D := smD) (Ok := SmOk m) (i := i) (n := n) (s0 := wipeS s0 [i])
    (e := mApp m__law_drawn_sum (mCons (mVar 0) (mCons me mNil))) hs fun k st hk hst => by
      obtain ⟨s, st', e, hs', ok⟩ := r_drawn_sum hm hp hst
      exact ⟨s, st', (app2 (var_at (h0 k)) (h1 k st hst)).trans e, hs', ok⟩
  exact ⟨ss, st2, lc_rng (vs := [i]) h (bd_of (by omega) (by omega)) (rng_len n (by omega)) e2, hs2, hl, ok⟩
theorem add_i {m1 m2 : EM} {s : SE} {st1 st2 : Store} {i j k : Int} (h1 : m1 s st = some (.d (.int i), st1)) (h2 : m2 s st1 = some (.d (.int j), st2)) (h : i + j = k) : mBin fAdd m1 m2 s st = some (.d (.int k), st2) := by
  subst h
  exact (bin_of h1 h2).trans (by simp)
theorem draw_i {mm : EM} {s : SE} {many : Int} (h0 : s[0]? = some (some (.r 0))) (hmm : mm s st = some (.d (.int many), st)) (h1 : 0 < many) (h2 : many < 2 ^ 60) (hp : Pl rest) (hs : HS rest st) : ∃ v st', mApp m__law_draw (mCons (mVar 0) (mCons mm mNil)) s st = some (.d (.int v), st') ∧ HS rest st' ∧ 0 ≤ v ∧ v < many := by
  obtain ⟨v, st1, e1, hs1, v1, v2⟩ := r_draw h1 h2 hp hs
  exact ⟨v, st1, (app2 (var_at h0) hmm).trans e1, hs1, v1, v2⟩
theorem one_draw {mm : EM} {s : SE} {many : Int} (h0 : s[0]? = some (some (.r 0))) (hmm : mm s st = some (.d (.int many), st)) (h1 : 0 < many) (h2 : many < 2 ^ 60) (hp : Pl rest) (hs : HS rest st) : ∃ (n : Nat) (st' : Store), mBin fAdd (mC (.int 1)) (mApp m__law_draw (mCons (mVar 0) (mCons mm mNil))) s st = some (.d (.int (n : Nat)), st') ∧ HS rest st' ∧ 1 ≤ n ∧ (n : Int) ≤ many := by
  obtain ⟨v, st1, e1, hs1, v1, v2⟩ := draw_i h0 hmm h1 h2 hp hs
  exact ⟨(1 + v).toNat, st1, add_i (e_mC ..) e1 (by omega), hs1, by omega, by omega⟩
theorem len_r {n : Nat} {xs : List PyData} (h : st[n]? = some (some (.lst xs))) : fLen [.r n] st = some (.d (.int (xs.length : Nat)), st) := by
  simp [fLen, h]
theorem tuple_r {n : Nat} {xs : List PyData} (h : st[n]? = some (some (.lst xs))) : fTuple [.r n] st = some (.d (.tuple xs), st) := by
  simp [fTuple, tupV, lstV, h]
end
end Q

set_option Elab.async false
set_option linter.all false
set_option maxRecDepth 100000
set_option maxHeartbeats 4000000
/-! QT: nets that are drawn -/
namespace Q
open PySem PySem.Spec PyProof.Rows L2 PD W
section
variable {rest st : Store}
theorem HS.split {xs : List PyData} (h : HS (rest ++ [some (.lst xs)]) st) : ∃ st2, st = st2 ++ [some (.lst xs)] ∧ HS rest st2 := by
  obtain ⟨hd, ok, rfl⟩ := h
  exact ⟨some (.lst (hdD hd)) :: rest, by simp, hd, ok, rfl⟩
theorem r_lnet {m : Nat} (m1 : 1 ≤ m) (m3 : m ≤ 3) (hp : Pl rest) (hs : HS rest st) : ∃ t st', m__law_net [.r 0, .d (.int (m : Nat)), .d (.int 3)] st = some (.d (netD t), st') ∧ HS rest st' ∧ NtOk t ∧ t.m = m ∧ 1 ≤ t.cells.length := by
  have hlen := hs.len
  have hsA : HS (rest ++ [some (.lst [])]) (st ++ [some (.lst [])]) := hs.app _
  have eA : mLstM mNil [some (.r 0), some (.d (.int (m : Nat))), some (.d (.int 3)), none, none, none] st = some (.r (rest.length + 1), st ++ [some (.lst [])]) := by
    simp [hlen]
  obtain ⟨n, st1, e1, hs1, n1, n2⟩ := one_draw (s := [some (.r 0), some (.d (.int (m : Nat))), some (.d (.int 3)), some (.r (rest.length + 1)), none, none]) (mm := mVar 2) (many := 3) rfl (var_at rfl) (by decide) (by decide) (pl1 (xs := []) hp) hsA
  obtain ⟨cs, s2, st2, e2, ⟨x4, rfl⟩, hs2, hl2, ok2⟩ := for_drawn (D := cellD) (Ok := fun k c => ClOk (m + k) c) (Sl := fun s => ∃ x4, s = [some (.r 0), some (.d (.int (m : Nat))), some (.d (.int 3)), some (.r (rest.length + 1)), x4, none])
    (b := mDrop (mAppend (mVar 3) (mApp m__law_cell (mCons (mVar 0) (mCons (mBin fAdd (mVar 1) (mVar 4)) mNil))))) (gm := gmName 4) (n := n) ⟨none, rfl⟩ hs1 fun k xs s st hk hx hsl hst => by
      obtain ⟨x4, rfl⟩ := hsl
      refine ⟨[some (.r 0), some (.d (.int (m : Nat))), some (.d (.int 3)), some (.r (rest.length + 1)), some (.d (.int (k : Nat))), none], rfl, ?_⟩
      obtain ⟨c, st', e, hs', ok⟩ := r_cell (m := m + k) (by omega) (pl1 (xs := xs) hp) hst
      have e3 : mBin fAdd (mVar 1) (mVar 4) [some (.r 0), some (.d (.int (m : Nat))), some (.d (.int 3)), some (.r (rest.length + 1)), some (.d (.int (k : Nat))), none] st = some (.d (.int ((m + k : Nat) : Int)), st) := add_i (var_at rfl) (var_at rfl) (by omega)
      refine ⟨c, _, _, drop_nx (append_to (var_at rfl) hst.last.1 ((app2 (var_at rfl) e3).trans e) hs'.last.1 (by omega)), ⟨_, rfl⟩, hs'.last.2 _, ok⟩
  obtain ⟨k, st3, e3, hs3, k1, k2⟩ := one_draw (s := [some (.r 0), some (.d (.int (m : Nat))), some (.d (.int 3)), some (.r (rest.length + 1)), x4, none]) (mm := mC (.int 2)) (many := 2) rfl (e_mC ..) (by decide) (by decide) (pl1 (xs := cs.map cellD) hp) hs2
  obtain ⟨os, st4, e4, hs4, hl4, ok4⟩ := drawn_sums2 (me := mBin fAdd (mVar 1) (mApp fLen (mCons (mVar 3) mNil))) (m := m + cs.length) (n := k) (i := 4) (by omega) (by omega) (pl1 (xs := cs.map cellD) hp) hs3 e3 (fun _ => rfl) (fun j st h => by
    have hlen := len_r h.last.1
    rw [List.length_map] at hlen
    refine add_i (var_at rfl) ((app1 (var_at rfl)).trans hlen) (by omega))
  obtain ⟨st5, rfl, hs5⟩ := hs4.split
  refine ⟨⟨m, cs, os⟩, st5, ?_, hs5, ⟨m1, m3, by show cs.length ≤ 3; omega, by show 1 ≤ os.length; omega, by show os.length ≤ 2; omega, ok2, ok4⟩, rfl, by show 1 ≤ cs.length; omega⟩
  refine run_HS (more := [some (.lst (cs.map cellD))]) ?_ rfl hs hs5 hp (.one rfl)
  show b__law_net [some (.r 0), some (.d (.int (m : Nat))), some (.d (.int 3)), none, none, none] st = _
  unfold b__law_net
  refine (seq_nx (set_nx eA)).trans ?_
  refine (seq_nx ((for_rng e1 (bd_of (by omega) (by omega))).trans e2)).trans ?_
  refine (seq_nx (set_nx e4)).trans ?_
  refine ret_of ?_
  exact tup3 (var_at rfl) ((app1 (var_at rfl)).trans (tuple_r hs4.last.1)) ((app1 (var_at rfl)).trans e_tuple_l)
end
end Q

set_option Elab.async false
set_option linter.all false
set_option maxRecDepth 100000
set_option maxHeartbeats 4000000
/-! QU: boxes that are drawn -/
namespace Q
open PySem PySem.Spec PyProof.Rows L2 PD W
section
variable {rest st : Store}
theorem fmk_cross (t b : Int) : (fmk t b).1 * b = t * (fmk t b).2 := by
  have h1 : t / (Int.gcd t b : Int) * (Int.gcd t b : Int) = t := Int.ediv_mul_cancel (Int.gcd_dvd_left t b)
  have h2 : b / (Int.gcd t b : Int) * (Int.gcd t b : Int) = b := Int.ediv_mul_cancel (Int.gcd_dvd_right t b)
  show t / (Int.gcd t b : Int) * b = t * (b / (Int.gcd t b : Int))
  generalize (Int.gcd t b : Int) = g at *
  generalize ht : t / g = t' at *
  generalize hb : b / g = b' at *
  subst h1
  subst h2
  simp only [Int.mul_assoc, Int.mul_comm, Int.mul_left_comm]
theorem le_of_mul {a b c : Int} (h : a * c ≤ b * c) (hc : 0 < c) : a ≤ b := Int.le_of_mul_le_mul_right h hc
theorem mul_le {a b c : Int} (h : a ≤ b) (hc : 0 ≤ c) : a * c ≤ b * c := Int.mul_le_mul_of_nonneg_right h hc
/-- a quotient of small numbers lies between small numbers -/
theorem fmk_le {t b k : Int} (hb : 0 < b) (h : t ≤ k) (hk : 0 ≤ k) : (fmk t b).1 ≤ k * (fmk t b).2 := by
  have ok := (fmk_ok (t := t) hb).1
  refine le_of_mul (c := b) ?_ hb
  rw [fmk_cross]
  have h1 : t ≤ k * b := by
    have : k * 1 ≤ k * b := Int.mul_le_mul_of_nonneg_left (by omega) hk
    omega
  have := mul_le h1 (Int.le_of_lt ok)
  have e : k * (fmk t b).2 * b = k * b * (fmk t b).2 := by simp only [Int.mul_assoc, Int.mul_comm, Int.mul_left_comm]
  rw [e]
  exact this
theorem fmk_ge {t b k : Int} (hb : 0 < b) (h : -k ≤ t) (hk : 0 ≤ k) : -k * (fmk t b).2 ≤ (fmk t b).1 := by
  have ok := (fmk_ok (t := t) hb).1
  refine le_of_mul (c := b) ?_ hb
  rw [fmk_cross]
  have h1 : -k * b ≤ t := by
    have : k * 1 ≤ k * b := Int.mul_le_mul_of_nonneg_left (by omega) hk
    rw [Int.neg_mul]
    omega
  have := mul_le h1 (Int.le_of_lt ok)
  have e : -k * (fmk t b).2 * b = -k * b * (fmk t b).2 := by simp only [Int.mul_assoc, Int.mul_comm, Int.mul_left_comm]
  rw [e]
  exact this
theorem small4 {i : Int} (h1 : -16 < i) (h2 : i < 16) : Bt 4 i := by
  show i.natAbs < 16
  omega
theorem span_ok {a d e f : Int} (a1 : -12 ≤ a) (a2 : a ≤ 12) (d1 : 1 ≤ d) (d2 : d ≤ 4) (e1 : 0 ≤ e) (e2 : e ≤ 12) (f1 : 1 ≤ f) (f2 : f ≤ 4) : SpOk (fmk a d, fplus (fmk a d) (fmk e f)) := by
  have okx := fmk_ok (t := a) (b := d) (by omega)
  have oky := fmk_ok (t := e) (b := f) (by omega)
  have okz := fplus_ok okx oky
  have bx : FB 4 (fmk a d) := fmk_B (small4 (by omega) (by omega)) (small4 (by omega) (by omega))
  have bY : FB 4 (fmk e f) := fmk_B (small4 (by omega) (by omega)) (small4 (by omega) (by omega))
  have bz := fplus_B bx bY
  have x1 := fmk_ge (t := a) (b := d) (k := 12) (by omega) a1 (by decide)
  have x2 := fmk_le (t := a) (b := d) (k := 12) (by omega) a2 (by decide)
  have y1 := fmk_ge (t := e) (b := f) (k := 0) (by omega) (by omega) (by decide)
  have y2 := fmk_le (t := e) (b := f) (k := 12) (by omega) e2 (by decide)
  have cz : (fplus (fmk a d) (fmk e f)).1 * ((fmk a d).2 * (fmk e f).2) = ((fmk a d).1 * (fmk e f).2 + (fmk e f).1 * (fmk a d).2) * (fplus (fmk a d) (fmk e f)).2 := fmk_cross _ _
  generalize fplus (fmk a d) (fmk e f) = z at *
  generalize fmk a d = x at *
  generalize fmk e f = y at *
  obtain ⟨xt, xb⟩ := x
  obtain ⟨yt, yb⟩ := y
  obtain ⟨zt, zb⟩ := z
  have px : 0 < xb := okx.1
  have py : 0 < yb := oky.1
  have pz : 0 < zb := okz.1
  have hy0 : 0 ≤ yt := by
    have : -0 * yb ≤ yt := y1
    omega
  have cz : zt * (xb * yb) = (xt * yb + yt * xb) * zb := cz
  have x1 : -12 * xb ≤ xt := x1
  have x2 : xt ≤ 12 * xb := x2
  have y2 : yt ≤ 12 * yb := y2
  -- x ≤ z
  have le : xt * zb ≤ zt * xb := by
    refine le_of_mul (c := yb) ?_ py
    have h : 0 ≤ yt * xb * zb := Int.mul_nonneg (Int.mul_nonneg hy0 (Int.le_of_lt px)) (Int.le_of_lt pz)
    have e1 : zt * xb * yb = zt * (xb * yb) := by rw [Int.mul_assoc]
    have e2 : (xt * yb + yt * xb) * zb = xt * zb * yb + yt * xb * zb := by rw [Int.add_mul, Int.mul_assoc, Int.mul_comm yb zb, ← Int.mul_assoc]
    rw [e1, cz, e2]
    omega
  -- c and g
  have c1 : xt ≤ (0 - (0 - xt) / xb) * xb := by
    have := Int.mul_ediv_add_emod (0 - xt) xb
    have h2 := Int.emod_nonneg (0 - xt) (show xb ≠ 0 by omega)
    have e : (0 - (0 - xt) / xb) * xb = -(xb * ((0 - xt) / xb)) := by rw [Int.zero_sub, Int.neg_mul, Int.mul_comm]
    omega
  have c2 : (0 - (0 - xt) / xb) ≤ 12 := by
    have : -12 ≤ (0 - xt) / xb := (Int.le_ediv_iff_mul_le px).mpr (by omega)
    omega
  have g1 : zt / zb * zb ≤ zt := Int.ediv_mul_le _ (by omega)
  have c3 : -12 ≤ (0 - (0 - xt) / xb) := by
    have : -12 * xb ≤ (0 - (0 - xt) / xb) * xb := Int.le_trans x1 c1
    exact le_of_mul this px
  generalize hc : 0 - (0 - xt) / xb = c at *
  have g3 : -12 ≤ zt / zb := by
    refine (Int.le_ediv_iff_mul_le pz).mpr ?_
    refine le_of_mul (c := xb) ?_ px
    refine Int.le_trans ?_ le
    have := mul_le x1 (Int.le_of_lt pz)
    have e : -12 * zb * xb = -12 * xb * zb := by rw [Int.mul_assoc, Int.mul_comm zb xb, ← Int.mul_assoc]
    rw [e]
    exact this
  have g2 : zt / zb ≤ c + 12 := by
    refine le_of_mul (c := zb) ?_ pz
    refine Int.le_trans g1 ?_
    refine le_of_mul (c := xb * yb) ?_ (Int.mul_pos px py)
    rw [cz]
    have h1 : xt * yb ≤ c * xb * yb := mul_le c1 (Int.le_of_lt py)
    have h2 : yt * xb ≤ 12 * yb * xb := mul_le y2 (Int.le_of_lt px)
    have h3 : xt * yb + yt * xb ≤ c * xb * yb + 12 * yb * xb := by omega
    have h4 := mul_le h3 (Int.le_of_lt pz)
    have e : (c + 12) * zb * (xb * yb) = (c * xb * yb + 12 * yb * xb) * zb := by
      simp only [Int.add_mul, Int.mul_add, Int.mul_assoc, Int.mul_comm, Int.mul_left_comm]
    rw [e]
    exact h4
  refine ⟨⟨okx, bx.mono (by decide)⟩, ⟨okz, bz.mono (by decide)⟩, decide_eq_true le, ?_, ?_, ?_, ?_, ?_⟩
  · show zt / zb - (0 - (0 - xt) / xb) + 1 ≤ 13
    omega
  · show -30 ≤ 0 - (0 - xt) / xb
    omega
  · show zt / zb ≤ 30
    omega
  · show 0 - (0 - xt) / xb ≤ 60
    omega
  · show -60 ≤ zt / zb
    omega
end
end Q

set_option Elab.async false
set_option linter.all false
set_option maxRecDepth 100000
set_option maxHeartbeats 4000000
/-! QV: boxes that are drawn -/
namespace Q
open PySem PySem.Spec PyProof.Rows L2 PD W
section
variable {rest st : Store}
theorem sub_i {m1 m2 : EM} {s : SE} {st1 st2 : Store} {i j k : Int} (h1 : m1 s st = some (.d (.int i), st1)) (h2 : m2 s st1 = some (.d (.int j), st2)) (h : i - j = k) : mBin fSub m1 m2 s st = some (.d (.int k), st2) := by
  subst h
  exact (bin_of h1 h2).trans (by simp)
theorem sp_draws {x0 : DV} (m : Option DV) (L : Option DV) (x3 x4 : Option DV) (hp : Pl rest) (hs : HS rest st) : ∃ a d st', mApp m__law_made (mCons (mBin fSub (mApp m__law_draw (mCons (mVar 0) (mCons (mC (.int 25)) mNil))) (mC (.int 12))) (mCons (mBin fAdd (mC (.int 1)) (mApp m__law_draw (mCons (mVar 0) (mCons (mC (.int 4)) mNil)))) mNil)) [some (.r 0), m, L, x3, x4] st = some (.d (fr (fmk a d)), st') ∧ HS rest st' ∧ -12 ≤ a ∧ a ≤ 12 ∧ 1 ≤ d ∧ d ≤ 4 := by
  obtain ⟨v, st1, e1, hs1, v1, v2⟩ := draw_i (s := [some (.r 0), m, L, x3, x4]) (mm := mC (.int 25)) (many := 25) rfl (e_mC ..) (by decide) (by decide) hp hs
  obtain ⟨n, st2, e2, hs2, n1, n2⟩ := one_draw (s := [some (.r 0), m, L, x3, x4]) (mm := mC (.int 4)) (many := 4) rfl (e_mC ..) (by decide) (by decide) hp hs1
  refine ⟨v - 12, n, st2, (app2 (sub_i e1 (e_mC ..) rfl) e2).trans (r_lmade (B := 4) (by decide) (by omega) (small4 (by omega) (by omega)) (small4 (by omega) (by omega)) (hs2.pl hp)), hs2, by omega, by omega, by omega, by omega⟩
theorem sp_gap (m : Option DV) (L : Option DV) (x3 x4 : Option DV) (hp : Pl rest) (hs : HS rest st) : ∃ a d st', mApp m__law_made (mCons (mApp m__law_draw (mCons (mVar 0) (mCons (mC (.int 13)) mNil))) (mCons (mBin fAdd (mC (.int 1)) (mApp m__law_draw (mCons (mVar 0) (mCons (mC (.int 4)) mNil)))) mNil)) [some (.r 0), m, L, x3, x4] st = some (.d (fr (fmk a d)), st') ∧ HS rest st' ∧ 0 ≤ a ∧ a ≤ 12 ∧ 1 ≤ d ∧ d ≤ 4 := by
  obtain ⟨v, st1, e1, hs1, v1, v2⟩ := draw_i (s := [some (.r 0), m, L, x3, x4]) (mm := mC (.int 13)) (many := 13) rfl (e_mC ..) (by decide) (by decide) hp hs
  obtain ⟨n, st2, e2, hs2, n1, n2⟩ := one_draw (s := [some (.r 0), m, L, x3, x4]) (mm := mC (.int 4)) (many := 4) rfl (e_mC ..) (by decide) (by decide) hp hs1
  refine ⟨v, n, st2, (app2 e1 e2).trans (r_lmade (B := 4) (by decide) (by omega) (small4 (by omega) (by omega)) (small4 (by omega) (by omega)) (hs2.pl hp)), hs2, by omega, by omega, by omega, by omega⟩
theorem r_lbox {m : Nat} (m3 : m ≤ 3) (hp : Pl rest) (hs : HS rest st) : ∃ b st', m__law_box [.r 0, .d (.int (m : Nat))] st = some (.d (boxD b), st') ∧ HS rest st' ∧ b.length = m ∧ ∀ p ∈ b, SpOk p := by
  have hlen := hs.len
  have hsA : HS (rest ++ [some (.lst [])]) (st ++ [some (.lst [])]) := hs.app _
  have eA : mLstM mNil [some (.r 0), some (.d (.int (m : Nat))), none, none, none] st = some (.r (rest.length + 1), st ++ [some (.lst [])]) := by
    simp [hlen]
  obtain ⟨ps, s2, st2, e2, ⟨x3, x4, rfl⟩, hs2, hl2, ok2⟩ := for_drawn (D := spD) (Ok := fun _ p => SpOk p) (Sl := fun s => ∃ x3 x4, s = [some (.r 0), some (.d (.int (m : Nat))), some (.r (rest.length + 1)), x3, x4])
    (b := mSeq (mSet 4 (mApp m__law_made (mCons (mBin fSub (mApp m__law_draw (mCons (mVar 0) (mCons (mC (.int 25)) mNil))) (mC (.int 12))) (mCons (mBin fAdd (mC (.int 1)) (mApp m__law_draw (mCons (mVar 0) (mCons (mC (.int 4)) mNil)))) mNil)))) (mDrop (mAppend (mVar 2) (mTup (mCons (mVar 4) (mCons (mApp m__law_plus (mCons (mVar 4) (mCons (mApp m__law_made (mCons (mApp m__law_draw (mCons (mVar 0) (mCons (mC (.int 13)) mNil))) (mCons (mBin fAdd (mC (.int 1)) (mApp m__law_draw (mCons (mVar 0) (mCons (mC (.int 4)) mNil)))) mNil))) mNil))) mNil))))))
    (gm := gmName 3) (n := m) ⟨none, none, rfl⟩ hsA fun k xs s st hk hx hsl hst => by
      obtain ⟨x3, x4, rfl⟩ := hsl
      refine ⟨[some (.r 0), some (.d (.int (m : Nat))), some (.r (rest.length + 1)), some (.d (.int (k : Nat))), x4], rfl, ?_⟩
      have hq : Pl (rest ++ [some (.lst xs)]) := pl1 hp
      obtain ⟨a, d, st1, e1, hs1, a1, a2, d1, d2⟩ := sp_draws (x0 := .r 0) (some (.d (.int (m : Nat)))) (some (.r (rest.length + 1))) (some (.d (.int (k : Nat)))) x4 hq hst
      obtain ⟨e, f, st2, e3, hs2, e1', e2', f1, f2⟩ := sp_gap (some (.d (.int (m : Nat)))) (some (.r (rest.length + 1))) (some (.d (.int (k : Nat)))) (some (.d (fr (fmk a d)))) hq hs1
      have okx := fmk_ok (t := a) (b := d) (by omega)
      have oky := fmk_ok (t := e) (b := f) (by omega)
      have bx : FB 4 (fmk a d) := fmk_B (small4 (by omega) (by omega)) (small4 (by omega) (by omega))
      have bY : FB 4 (fmk e f) := fmk_B (small4 (by omega) (by omega)) (small4 (by omega) (by omega))
      have e4 := r_lplus okx oky bx bY (by decide) (hs2.pl hq)
      refine ⟨(fmk a d, fplus (fmk a d) (fmk e f)), _, _, (seq_nx (set_nx e1)).trans (drop_nx (append_to (var_at rfl) hs1.last.1 (tup2 (var_at rfl) ((app2 (var_at rfl) e3).trans e4)) hs2.last.1 (by omega))), ⟨_, _, rfl⟩, hs2.last.2 _, span_ok a1 a2 d1 d2 e1' e2' f1 f2⟩
  obtain ⟨st5, rfl, hs5⟩ := hs2.split
  refine ⟨ps, st5, ?_, hs5, hl2, fun p hp => by
    obtain ⟨i, hi⟩ := List.mem_iff_getElem?.mp hp
    exact ok2 i p hi⟩
  refine run_HS (more := [some (.lst (ps.map spD))]) ?_ rfl hs hs5 hp (.one rfl)
  show b__law_box [some (.r 0), some (.d (.int (m : Nat))), none, none, none] st = _
  unfold b__law_box
  refine (seq_nx (set_nx eA)).trans ?_
  refine (seq_nx ((for_rng (var_at rfl) (bd_of (by omega) (by omega))).trans e2)).trans ?_
  refine ret_of ?_
  exact (app1 (var_at rfl)).trans (tuple_r hs2.last.1)
end
end Q

set_option Elab.async false
set_option linter.all false
set_option maxRecDepth 100000
set_option maxHeartbeats 1000000
/-! QW: the hand, the box of a turn -/
namespace Q
open PySem PySem.Spec PyProof.Rows L2 PD W
section
variable {rest st : Store}
theorem lsti5 {m1 m2 m3 m4 m5 : EM} {s : SE} {x1 x2 x3 x4 x5 : PyData} (h1 : m1 s st = some (.d x1, st)) (h2 : m2 s st = some (.d x2, st)) (h3 : m3 s st = some (.d x3, st)) (h4 : m4 s st = some (.d x4, st)) (h5 : m5 s st = some (.d x5, st)) : mLstM (mCons m1 (mCons m2 (mCons m3 (mCons m4 (mCons m5 mNil))))) s st = some (.r st.length, st ++ [some (.lst [x1, x2, x3, x4, x5])]) := by
  simp [h1, h2, h3, h4, h5]
def absD : PyData → PyData
  | .int n => .int (if n < 0 then -n else n)
  | d => d
theorem abs_lc (ns : List Int) (x0 : Option DV) : lcL (gmName 2) mYes (mApp fAbs (mCons (mApp fInt (mCons (mVar 2) mNil)) mNil)) always (ns.map PyData.int) [x0, none, none] st = some ((ns.map PyData.int).map absD, st) :=
  lcL_map absD rfl _ fun d hd => by
    obtain ⟨n, _, rfl⟩ := List.mem_map.mp hd
    refine ⟨_, rfl, ?_⟩
    exact (app1 ((app1 (var_at rfl)).trans e_int)).trans e_abs
theorem cut63 {xs : List PyData} (h : xs.length ≤ 63) : cutP xs none (some 63) = xs := by
  have e1 : HT.sIx xs.length 0 none = 0 := rfl
  have e2 : xs.length ≤ HT.sIx xs.length xs.length (some 63) := by
    simp [HT.sIx]
    omega
  unfold cutP
  rw [e1]
  exact List.take_of_length_le (by simpa using e2)
theorem r_lhand (ns : List Int) (h : ns.length ≤ 63) : ∃ st', m__law_hand [PD.script ns] [] = some (.r 0, st') ∧ HS [] st' := by
  have hl : (ns.map PyData.int).length ≤ 16777216 := by rw [List.length_map]; omega
  have e1 : mSl (mVar 0) mNoPart (mPart (mC (.int 63))) [some (PD.script ns), none, none] [] = some (.d (.list (ns.map PyData.int)), []) := by
    have hc := cut63 (xs := ns.map PyData.int) (by rw [List.length_map]; exact h)
    have : PD.cutD (PD.script ns) none (some 63) [] = some (.d (.list (cutP (ns.map PyData.int) none (some 63))), []) := rfl
    rw [hc] at this
    simp [this]
  have e2 : mLc [2] (mIt (mSl (mVar 0) mNoPart (mPart (mC (.int 63))))) (gmName 2) mYes (mApp fAbs (mCons (mApp fInt (mCons (mVar 2) mNil)) mNil)) [some (PD.script ns), none, none] [] = some (.d (.list ((ns.map PyData.int).map absD)), []) := by
    have e3 : mIt (mSl (mVar 0) mNoPart (mPart (mC (.int 63)))) [some (PD.script ns), none, none] [] = some ((ns.map PyData.int, always), []) := by
      unfold mIt
      rw [e1]
      rfl
    have e4 := abs_lc (st := []) ns (some (PD.script ns))
    unfold mLc
    rw [e3]
    dsimp only
    rw [if_pos (decide_eq_true hl)]
    have : wipeS [some (PD.script ns), none, none] [2] = [some (PD.script ns), none, none] := rfl
    rw [this, e4]
  have hm : (ns.map PyData.int).map absD = (ns.map fun n => if n < 0 then -n else n).map PyData.int := by
    rw [List.map_map, List.map_map]
    rfl
  rw [hm] at e2
  generalize hcs : (ns.map fun n => if n < 0 then -n else n) = cs at *
  have hcl : cs.length = ns.length := by rw [← hcs, List.length_map]
  refine ⟨[some (.lst (hdD ⟨cs, 0, 0, 83 + 7 * (cs.length : Int), 0⟩))], ?_, ⟨cs, 0, 0, 83 + 7 * (cs.length : Int), 0⟩, ⟨fun n hn => by
    rw [← hcs] at hn
    obtain ⟨k, _, rfl⟩ := List.mem_map.mp hn
    split <;> omega, Int.le_refl 0, Int.le_refl 0⟩, rfl⟩
  have e5 : mBin fAdd (mC (.int 83)) (mBin fMul (mC (.int 7)) (mApp fLen (mCons (mVar 1) mNil))) [some (PD.script ns), some (.d (.list (cs.map PyData.int))), none] [] = some (.d (.int (83 + 7 * (cs.length : Int))), []) := by
    refine add_i (e_mC ..) ((bin_of (e_mC ..) ((app1 (var_at rfl)).trans e_len_l)).trans ?_) rfl
    rw [List.length_map]
    have : mulOk 7 (cs.length : Int) = true := mul_smallL (by decide)
    simp [this]
  have e6 : b__law_hand [some (PD.script ns), none, none] [] = some (.ret (.r 0) [some (.lst (hdD ⟨cs, 0, 0, 83 + 7 * (cs.length : Int), 0⟩))]) := by
    unfold b__law_hand
    refine (seq_nx (set_nx e2)).trans ?_
    exact ret_of (lsti5 (var_at rfl) (e_mC ..) (e_mC ..) e5 (e_mC ..))
  show runFn 1 3 b__law_hand [PD.script ns] [] = _
  unfold runFn
  have : [PD.script ns].map some ++ List.replicate (3 - 1) none = [some (PD.script ns), none, none] := rfl
  rw [this, e6]
  rfl
end
end Q

set_option Elab.async false
set_option linter.all false
set_option maxRecDepth 100000
set_option maxHeartbeats 1000000
/-! QX: the box of a turn -/
namespace Q
open PySem PySem.Spec PyProof.Rows L2 PD W
section
variable {rest st : Store}
theorem unit_ok : SpOk ((0, 1), (1, 1)) := by
  refine ⟨top_ok' ?_ ?_, top_ok' ?_ ?_, ?_, ?_, ?_, ?_, ?_, ?_⟩ <;> decide
where
  top_ok' {i : Int} (h1 : -9 ≤ i) (h2 : i ≤ 9) : FOk (i, 1) ∧ FB 12 (i, 1) := ⟨(top_ok h1 h2).1, (top_ok h1 h2).2.mono (by decide)⟩
theorem cat_box {b : List Sp1} (h : b.length ≤ 3) : fAdd (.d (boxD b)) (.d (.tuple [.tuple [.tuple [.int 0, .int 1], .tuple [.int 1, .int 1]]])) st = some (.d (boxD (b ++ [((0, 1), (1, 1))])), st) := by
  have hc : catOk (b.map spD).length 1 = true := by
    unfold catOk
    rw [decide_eq_true]
    rw [List.length_map]
    omega
  have e : boxD (b ++ [((0, 1), (1, 1))]) = .tuple (b.map spD ++ [.tuple [.tuple [.int 0, .int 1], .tuple [.int 1, .int 1]]]) := by
    unfold boxD
    rw [List.map_append]
    rfl
  rw [e]
  unfold fAdd boxD
  simp only [tupV, List.length_singleton, hc, if_true, e_ret]
def turnBox : EM := mIf (mB (mBin fLt (mVar 3) (mC (.int 3)))) (mApp m__law_box (mCons (mVar 1) (mCons (mVar 3) mNil))) (mBin fAdd (mApp m__law_box (mCons (mVar 1) (mCons (mC (.int 2)) mNil))) (mTup (mCons (mTup (mCons (mTup (mCons (mC (.int 0)) (mCons (mC (.int 1)) mNil))) (mCons (mTup (mCons (mC (.int 1)) (mCons (mC (.int 1)) mNil))) mNil))) mNil)))
theorem r_turnBox {m : Nat} {s : SE} (m1 : 1 ≤ m) (m3 : m ≤ 3) (h1 : s[1]? = some (some (.r 0))) (h3 : s[3]? = some (some (.d (.int (m : Nat))))) (hp : Pl rest) (hs : HS rest st) : ∃ b st', turnBox s st = some (.d (boxD b), st') ∧ HS rest st' ∧ b.length = m ∧ BxOk b := by
  have e0 : mB (mBin fLt (mVar 3) (mC (.int 3))) s st = some (decide ((m : Int) < 3), st) := by
    have e : mBin fLt (mVar 3) (mC (.int 3)) s st = some (.d (.bool (decide ((m : Int) < 3))), st) := (bin_of (var_at h3) (e_mC ..)).trans (by simp)
    rw [e_mB, e]
  by_cases h : m < 3
  · obtain ⟨b, st', e, hs', hl, ok⟩ := r_lbox m3 hp hs
    refine ⟨b, st', ?_, hs', hl, ⟨ok, by omega, by omega⟩⟩
    unfold turnBox
    rw [e_mIf, e0, decide_eq_true (by omega : (m : Int) < 3)]
    exact (app2 (var_at h1) (var_at h3)).trans e
  · obtain ⟨b, st', e, hs', hl, ok⟩ := r_lbox (m := 2) (by decide) hp hs
    refine ⟨b ++ [((0, 1), (1, 1))], st', ?_, hs', by simp; omega, ⟨fun p hp => ?_, by simp, by simp; omega⟩⟩
    · unfold turnBox
      rw [e_mIf, e0, decide_eq_false (by omega : ¬ (m : Int) < 3)]
      refine (bin_of ((app2 (var_at h1) (e_mC ..)).trans e) ?_).trans (cat_box (by omega))
      simp
    · rcases List.mem_append.mp hp with hp | hp
      · exact ok p hp
      · simp at hp
        subst hp
        exact unit_ok
end
end Q

set_option Elab.async false
set_option linter.all false
set_option maxRecDepth 100000
set_option maxHeartbeats 1000000
/-! QY: the dict of the lost points -/
namespace Q
open PySem PySem.Spec PyProof.Rows L2 PD W
section
variable {rest st : Store}
def hasN (kvs : List (PyData × PyData)) (k : PyData) : Bool := kvs.any fun kv => dEq kv.1 k
theorem valN_has (kvs : List (PyData × PyData)) (k : PyData) : (PD.valN kvs k).isSome = hasN kvs k := by
  unfold PD.valN hasN
  rw [Option.isSome_map, Bool.eq_iff_iff, List.find?_isSome, List.any_eq_true]
theorem keyOk_pt (pt : List Fr) : keyOk (ptD pt) = true := by
  have h1 : ∀ l : List Fr, nksOf (l.map fr) = some (l.map fun f => NestedKey.tup [.num f.1, .num f.2]) := fun l => by
    induction l with
    | nil => rfl
    | cons f l ih =>
      show nksOf (.tuple [.int f.1, .int f.2] :: l.map fr) = _
      rw [nksOf, nkOf, ih]
      rfl
  have h2 : ∀ l : List Fr, NestedKey.depthAll (l.map fun f => NestedKey.tup [.num f.1, .num f.2]) ≤ 2 := fun l => by
    induction l with
    | nil => exact Nat.zero_le 2
    | cons f l ih =>
      rw [List.map_cons, NestedKey.depthAll]
      simp only [NestedKey.depth, NestedKey.depthAll]
      omega
  have h3 := h2 pt
  unfold keyOk ptD
  simp only [nkOf, h1, NestedKey.depth]
  exact decide_eq_true (by omega)
theorem ptD_inj {p q : List Fr} (h : ptD p = ptD q) : p = q := by
  have h : p.map fr = q.map fr := by
    unfold ptD at h
    exact PyData.tuple.inj h
  refine (List.map_inj_right fun x y hxy => ?_).mp h
  have e := PyData.tuple.inj hxy
  simp only [List.cons.injEq, PyData.int.injEq, and_true] at e
  exact Prod.ext e.1 e.2
theorem dEq_pt (p q : List Fr) : dEq (ptD p) (ptD q) = decide (p = q) := by
  by_cases h : p = q
  · rw [decide_eq_true h, h]
    exact dEq_refl _ (noDict_pt q)
  · rw [decide_eq_false h]
    cases e : dEq (ptD p) (ptD q) with
    | false => rfl
    | true => exact absurd (ptD_inj (dEq_eq _ _ e)) h
/-- points as keys, each with True -/
def keysT (l : List (List Fr)) : List (PyData × PyData) := l.map fun pt => (ptD pt, .bool true)
theorem hasN_keys (l : List (List Fr)) (pt : List Fr) : hasN (keysT l) (ptD pt) = decide (pt ∈ l) := by
  induction l with
  | nil => rfl
  | cons q l ih =>
    have : hasN (keysT (q :: l)) (ptD pt) = (dEq (ptD q) (ptD pt) || hasN (keysT l) (ptD pt)) := rfl
    rw [this, ih, dEq_pt]
    by_cases h : q = pt
    · subst h; simp
    · have h3 : pt ≠ q := fun z => h z.symm
      simp [h, h3]
theorem putN_new {acc : List (PyData × PyData)} {k v : PyData} (h : hasN acc k = false) : PD.putN acc k v = acc ++ [(k, v)] := by
  unfold PD.putN
  rw [valN_has, h]
  rfl
/-- whatever the order, the keys are those points -/
theorem putN_has {acc : List (PyData × PyData)} {p : List Fr} {v k : PyData} : hasN (PD.putN acc (ptD p) v) k = (hasN acc k || dEq (ptD p) k) := by
  by_cases h : hasN acc (ptD p) = true
  · unfold PD.putN
    rw [valN_has, h, if_pos rfl]
    have e : hasN (acc.map fun kv => if dEq kv.1 (ptD p) then (kv.1, v) else kv) k = hasN acc k := by
      unfold hasN
      rw [List.any_map]
      congr 1
      funext kv
      show dEq (if dEq kv.1 (ptD p) then (kv.1, v) else kv).1 k = dEq kv.1 k
      split <;> rfl
    rw [e]
    cases hd : dEq (ptD p) k with
    | false => rw [Bool.or_false]
    | true =>
      have := dEq_eq _ _ hd
      subst this
      rw [h]; rfl
  · rw [Bool.not_eq_true] at h
    rw [putN_new h]
    unfold hasN
    rw [List.any_append]
    simp
theorem mkN_has {k : PyData} : ∀ (l : List (List Fr)) (acc : List (PyData × PyData)), hasN (mkN (keysT l) acc) k = (hasN acc k || hasN (keysT l) k)
  | [], acc => by simp [mkN, keysT, hasN]
  | p :: l, acc => by
    have e : mkN (keysT (p :: l)) acc = mkN (keysT l) (PD.putN acc (ptD p) (.bool true)) := rfl
    have e2 : hasN (keysT (p :: l)) k = (dEq (ptD p) k || hasN (keysT l) k) := rfl
    rw [e, mkN_has l, putN_has, e2, Bool.or_assoc]
theorem pairsN_keys : ∀ l : List (List Fr), pairsN (l.map fun pt => PyData.tuple [ptD pt, .bool true]) = some (keysT l)
  | [] => rfl
  | p :: l => by
    rw [List.map_cons, pairsN, keyOk_pt, if_pos rfl, pairsN_keys l]
    rfl
theorem r_gone {l : List (List Fr)} (hl : l.length ≤ 16777216) : fDictN [.d (.list (l.map fun pt => PyData.tuple [ptD pt, .bool true]))] st = some (.r st.length, st ++ [some (.dcn (mkN (keysT l) []))]) := by
  have h2 : (keysT l).length ≤ 16777216 := by unfold keysT; rw [List.length_map]; exact hl
  simp only [fDictN, lstV, pairsN_keys, decide_eq_true h2, if_true]
theorem in_gone {l : List (List Fr)} {pt : List Fr} {n : Nat} (h : st[n]? = some (some (.dcn (mkN (keysT l) [])))) : fInA true (.d (ptD pt)) (.r n) st = some (.d (.bool (!decide (pt ∈ l))), st) := by
  have e : (PD.valN (mkN (keysT l) []) (ptD pt)).isSome = decide (pt ∈ l) := by
    rw [valN_has, mkN_has, hasN_keys]
    rfl
  have d : dget (st[n]?) (ptD pt) = some (PD.valN (mkN (keysT l) []) (ptD pt)) := by
    rw [h]
    unfold dget
    dsimp only
    rw [if_pos (keyOk_pt pt)]
  unfold fInA
  dsimp only
  rw [d]
  dsimp only
  rw [e, Bool.true_xor]
  rfl
end
end Q

set_option Elab.async false
set_option linter.all false
set_option maxRecDepth 100000
set_option maxHeartbeats 1000000
/-! QZ: one count of the expected table -/
namespace Q
open PySem PySem.Spec PyProof.Rows L2 PD W
section
variable {rest st : Store} {t : Nt} {c : Cm} {b : List Sp1}
theorem eq_one (j k : Int) : fEq (.d (fr (one1 j))) (.d (fr (one1 k))) st = some (.d (.bool (decide (j = k))), st) := by
  have g : ∀ i : Int, Good 1 (fr (one1 i)) := fun i => Good.tuple fun y hy => by
    simp only [List.mem_cons, List.not_mem_nil, or_false] at hy
    rcases hy with rfl | rfl <;> exact Good.int _ 0
  refine (eq_good (a := fr (one1 j)) (b := fr (one1 k)) rfl rfl (g j) (g k)).trans ?_
  have e : PyData.eqv (fr (one1 j)) (fr (one1 k)) = decide (j = k) := by
    simp [fr, one1, PyData.eqv, PyData.eqvAll, beq_dec]
  rw [e]
  rfl
theorem at_pt {pt : List Fr} {i : Nat} {f : Fr} (h : pt[i]? = some f) : fIx (.d (ptD pt)) (.d (.int (i : Nat))) st = some (.d (fr f), st) := by
  have hi := (List.getElem?_eq_some_iff.mp h).1
  have h2 : (pt.map fr)[i]? = some (fr f) := by rw [List.getElem?_map, h]; rfl
  unfold ptD
  rw [e_ix_t]
  have : atI (pt.map fr) (i : Int) = some (fr f) := by
    have h3 : pt[i] = f := (List.getElem?_eq_some_iff.mp h).2
    simp [atI, ixN, hi, h3]
  rw [this]
  rfl
def dueLc : EM := mLc [13] (mIt (mVar 9)) (gmName 13) (mAndT (mB (mBin fEq (mBin fIx (mVar 13) (mVar 10)) (mBin fIx (mVar 7) (mC (.int 0))))) (mB (mBin (fInA true) (mVar 13) (mVar 12)))) (mC (.int 1))
def dueBody : SM := mPut (mApp fLen (mCons dueLc mNil)) (mVar 11) (mBin fIx (mBin fIx (mVar 7) (mC (.int 0))) (mC (.int 0)))
theorem lost_mem {pt : List Fr} (h : pt ∈ pts b) : (!decide (pt ∈ lost t c b)) = holdsF t c pt := by
  unfold lost
  cases e : holdsF t c pt <;> simp [List.mem_filter, h, e]
theorem due_lc (h : BxOk b) {i g : Nat} {p : Sp1} {k : Int} (hi : b[i]? = some p) {s0 : SE} (hz : s0.length = 14) (h7 : s0[7]? = some (some (.d (ptD [one1 k])))) (h9 : s0[9]? = some (some (.d (.list (ptsD b))))) (h10 : s0[10]? = some (some (.d (.int (i : Nat))))) (h12 : s0[12]? = some (some (.r g)))
    (hg : st[g]? = some (some (.dcn (mkN (keysT (lost t c b)) [])))) : mApp fLen (mCons dueLc mNil) s0 st = some (.d (.int (cnt t c i (pts b) k : Nat)), st) := by
  have hl := pts_len h
  have hl2 : ((pts b).map ptD).length ≤ 16777216 := by rw [List.length_map]; omega
  have hw : ∀ j, j < 13 → (wipeS s0 [13])[j]? = s0[j]? := fun j hj => by
    have : wipeS s0 [13] = s0.set 13 none := by simp [wipeS]
    rw [this, List.getElem?_set_ne (by omega)]
  have hwz : (wipeS s0 [13]).length = 14 := by
    have : wipeS s0 [13] = s0.set 13 none := by simp [wipeS]
    rw [this, List.length_set, hz]
  have e := lc_filter_pts (st := st) (i := 13) (s0 := wipeS s0 [13]) (tm := mAndT (mB (mBin fEq (mBin fIx (mVar 13) (mVar 10)) (mBin fIx (mVar 7) (mC (.int 0))))) (mB (mBin (fInA true) (mVar 13) (mVar 12)))) (e := mC (.int 1)) (g := always) rfl (fun pt => holdsF t c pt && decide (pt[i]? = some (one1 k))) (fun _ => .int 1) (pts b) fun pt hpt => ⟨by
    obtain ⟨j, hj, _⟩ := pt_coord hpt hi
    have a13 : ((wipeS s0 [13]).set 13 (some (.d (ptD pt))))[13]? = some (some (.d (ptD pt))) := by
      rw [List.getElem?_set_self (by omega)]
    have at' : ∀ n, n < 13 → ((wipeS s0 [13]).set 13 (some (.d (ptD pt))))[n]? = s0[n]? := fun n hn => by
      rw [List.getElem?_set_ne (by omega), hw n hn]
    have q1 := (bin_of (st := st) (var_at a13) (var_at ((at' 10 (by decide)).trans h10))).trans (at_pt hj)
    have q2 := (bin_of (st := st) (var_at ((at' 7 (by decide)).trans h7)) (e_mC (d := .int 0) ..)).trans (at_pt (pt := [one1 k]) (i := 0) rfl)
    have q3 := (bin_of q1 q2).trans (eq_one j k)
    have q4 := (bin_of (st := st) (var_at a13) (var_at ((at' 12 (by decide)).trans h12))).trans (in_gone (pt := pt) hg)
    rw [lost_mem hpt] at q4
    have hd : decide (pt[i]? = some (one1 k)) = decide (j = k) := by
      rw [hj]
      simp [one1]
    rw [hd, e_mAndT, e_mB, q3]
    dsimp only
    cases decide (j = k) with
    | false => simp
    | true =>
      dsimp only
      rw [e_mB, q4]
      simp, fun _ => rfl⟩
  have e3 : mIt (mVar 9) s0 st = some (((pts b).map ptD, always), st) := by
    unfold mIt
    rw [var_at h9]
    rfl
  have e4 : dueLc s0 st = some (.d (.list (((pts b).filter fun pt => holdsF t c pt && decide (pt[i]? = some (one1 k))).map fun _ => .int 1)), st) := by
    unfold dueLc mLc
    rw [e3]
    dsimp only
    rw [if_pos (decide_eq_true hl2), e]
  refine (app1 e4).trans ?_
  rw [e_len_l, List.length_map]
  rfl
end
end Q

set_option Elab.async false
set_option linter.all false
set_option maxRecDepth 100000
set_option maxHeartbeats 1000000
/-! QZA: the expected table -/
namespace Q
open PySem PySem.Spec PyProof.Rows L2 PD W
section
variable {rest st : Store} {t : Nt} {c : Cm} {b : List Sp1}
theorem due_loop (h : BxOk b) {i g d : Nat} {p : Sp1} (hi : b[i]? = some p) (hgd : d ≠ g) {s0 : SE} (hz : s0.length = 14) (h9 : s0[9]? = some (some (.d (.list (ptsD b))))) (h10 : s0[10]? = some (some (.d (.int (i : Nat))))) (h11 : s0[11]? = some (some (.r d))) (h12 : s0[12]? = some (some (.r g))) :
    ∀ (l done : List Int) (x : Option DV) (st : Store), done.length + l.length ≤ 1000 → (∀ k ∈ l, k ∉ done) → l.Nodup → st[d]? = some (some (.dct (lineF (cnt t c i (pts b)) done))) → st[g]? = some (some (.dcn (mkN (keysT (lost t c b)) []))) →
      ∃ y, forL (gmName 7) dueBody always (l.map fun k => ptD [one1 k]) (s0.set 7 x) st = some (.nx (s0.set 7 y) (st.set d (some (.dct (lineF (cnt t c i (pts b)) (done ++ l))))))
  | [], done, x, st, _, _, _, hd, _ => by
    refine ⟨x, ?_⟩
    have : st.set d (some (.dct (lineF (cnt t c i (pts b)) (done ++ [])))) = st := by
      rw [List.append_nil]
      obtain ⟨hlt, he⟩ := List.getElem?_eq_some_iff.mp hd
      rw [← he, List.set_getElem_self]
    rw [this]
    simp [forL, always]
  | k :: l, done, x, st, hlen, hn, hnd, hd, hg => by
    have hlt := (List.getElem?_eq_some_iff.mp hd).1
    have a7 : (s0.set 7 (some (.d (ptD [one1 k]))))[7]? = some (some (.d (ptD [one1 k]))) := by rw [List.getElem?_set_self (by omega)]
    have ao : ∀ n, n ≠ 7 → (s0.set 7 (some (.d (ptD [one1 k]))))[n]? = s0[n]? := fun n hn => by rw [List.getElem?_set_ne (Ne.symm hn)]
    have e1 := due_lc (st := st) (t := t) (c := c) h (k := k) hi (s0 := s0.set 7 (some (.d (ptD [one1 k])))) (by rw [List.length_set, hz]) a7 ((ao 9 (by decide)).trans h9) ((ao 10 (by decide)).trans h10) ((ao 12 (by decide)).trans h12) hg
    have e2 : mBin fIx (mBin fIx (mVar 7) (mC (.int 0))) (mC (.int 0)) (s0.set 7 (some (.d (ptD [one1 k])))) st = some (.d (.int k), st) := by
      have q := (bin_of (st := st) (var_at a7) (e_mC (d := .int 0) ..)).trans (at_pt (pt := [one1 k]) (i := 0) rfl)
      exact (bin_of q (e_mC ..)).trans rfl
    have e3 : dueBody (s0.set 7 (some (.d (ptD [one1 k])))) st = some (.nx (s0.set 7 (some (.d (ptD [one1 k])))) (st.set d (some (.dct (lineF (cnt t c i (pts b)) (done ++ [k])))))) := by
      have hp : putO st[d]? (.int k) (.int (cnt t c i (pts b) k : Nat)) = some (.dct (lineF (cnt t c i (pts b)) (done ++ [k]))) := by
        rw [hd]
        have := put_new (c := cnt t c i (pts b)) (hn k List.mem_cons_self)
        rw [← this]
        have hb : decide ((lineF (cnt t c i (pts b)) done).length < 16777216) = true := by
          rw [line_len]
          rw [List.length_cons] at hlen
          exact decide_eq_true (by omega)
        simp only [putO, dput, toKey, hb, if_true]
      unfold dueBody mPut
      rw [e1]
      dsimp only
      rw [var_at ((ao 11 (by decide)).trans h11)]
      dsimp only
      rw [e2]
      dsimp only
      rw [hp]
    obtain ⟨y, e4⟩ := due_loop h hi hgd hz h9 h10 h11 h12 l (done ++ [k]) (some (.d (ptD [one1 k]))) (st.set d (some (.dct (lineF (cnt t c i (pts b)) (done ++ [k])))))
      (by rw [List.length_append, List.length_singleton]; rw [List.length_cons] at hlen; omega) (fun j hj hm => by
        rcases List.mem_append.mp hm with hm | hm
        · exact hn j (List.mem_cons_of_mem _ hj) hm
        · simp at hm
          subst hm
          exact (List.nodup_cons.mp hnd).1 hj)
      (List.nodup_cons.mp hnd).2 (by rw [List.getElem?_set_self hlt]) (by rw [List.getElem?_set_ne hgd]; exact hg)
    refine ⟨y, ?_⟩
    rw [List.map_cons, forL]
    have hgm : gmName 7 (.d (ptD [one1 k])) (s0.set 7 x) = some (s0.set 7 (some (.d (ptD [one1 k])))) := by
      rw [e_gmName, List.set_set]
    rw [if_pos (show always st = true from rfl), hgm]
    dsimp only
    rw [e3]
    dsimp only
    rw [e4, List.set_set, List.append_assoc]
    rfl
end
end Q

set_option Elab.async false
set_option linter.all false
set_option maxRecDepth 100000
set_option maxHeartbeats 1000000
/-! QZB: the lines of an axis -/
namespace Q
open PySem PySem.Spec PyProof.Rows L2 PD W
theorem pts_one (p : Sp1) : pts [p] = (axis p).map fun k => [one1 k] := by
  show ([[]].flatMap (grow p)) = _
  simp [grow, axis]
theorem bx_one {b : List Sp1} (h : BxOk b) {p : Sp1} (hp : p ∈ b) : BxOk [p] := ⟨fun q hq => by
  simp at hq
  subst hq
  exact h.sp _ hp, by simp, by simp⟩
end Q

set_option Elab.async false
set_option linter.all false
set_option maxRecDepth 100000
set_option maxHeartbeats 1000000
/-! QZC: the lines of the law's loop -/
namespace Q
open PySem PySem.Spec PyProof.Rows L2 PD W
section
variable {rest st : Store} {b : List Sp1}
theorem due_it (h : BxOk b) {i : Nat} {p : Sp1} (hi : b[i]? = some p) {s : SE} (h5 : s[5]? = some (some (.d (boxD b)))) (h10 : s[10]? = some (some (.d (.int (i : Nat))))) (hp : Pl st) : mIt (mApp m__law_wholes (mCons (mTup (mCons (mBin fIx (mVar 5) (mVar 10)) mNil)) mNil)) s st = some (((axis p).map fun k => ptD [one1 k], always), st) := by
  have hlt := (List.getElem?_eq_some_iff.mp hi).1
  have e0 : fIx (.d (boxD b)) (.d (.int (i : Nat))) st = some (.d (spD p), st) := by
    unfold boxD
    rw [e_ix_t]
    have h3 : b[i] = p := (List.getElem?_eq_some_iff.mp hi).2
    have : atI (b.map spD) (i : Int) = some (spD p) := by simp [atI, ixN, hlt, h3]
    rw [this]
    rfl
  have e1 : mBin fIx (mVar 5) (mVar 10) s st = some (.d (spD p), st) := (bin_of (var_at h5) (var_at h10)).trans e0
  have e2 : mTup (mCons (mBin fIx (mVar 5) (mVar 10)) mNil) s st = some (.d (boxD [p]), st) := by
    simp only [e_mTup, e_mCons, e_mNil, e1]
    rfl
  have e3 := (app1 e2).trans (r_lwholes (bx_one h (List.mem_of_getElem? hi)) hp)
  unfold mIt
  rw [e3, ptsD_eq, pts_one, List.map_map]
  rfl
end
end Q

set_option Elab.async false
set_option linter.all false
set_option maxRecDepth 100000
/-! QZD: one turn of the law -/
namespace Q
open PySem PySem.Spec PyProof.Rows L2 PD W
noncomputable def turn : SM := mSeq (mSet 3 (mBin fAdd (mC (.int 1)) (mApp m__law_draw (mCons (mVar 1) (mCons (mC (.int 3)) mNil))))) (mSeq (mSet 4 (mApp m__law_net (mCons (mVar 1) (mCons (mVar 3) (mCons (mC (.int 3)) mNil))))) (mSeq (mSet 5 (mIf (mB (mBin fLt (mVar 3) (mC (.int 3)))) (mApp m__law_box (mCons (mVar 1) (mCons (mVar 3) mNil))) (mBin fAdd (mApp m__law_box (mCons (mVar 1) (mCons (mC (.int 2)) mNil))) (mTup (mCons (mTup (mCons (mTup (mCons (mC (.int 0)) (mCons (mC (.int 1)) mNil))) (mCons (mTup (mCons (mC (.int 1)) (mCons (mC (.int 1)) mNil))) mNil))) mNil))))) (mSeq (mPar 8 9 (mApp m__law_claim (mCons (mVar 1) (mCons (mApp fLen (mCons (mBin fIx (mVar 4) (mC (.int 2))) mNil)) mNil))) (mApp m__law_wholes (mCons (mVar 5) mNil))) (mSeq (mIfS (mOrT (mB (mBin fNe (mApp m_whole_many (mCons (mVar 5) mNil)) (mApp fLen (mCons (mVar 9) mNil)))) (mB (mBin fNe (mApp m_whole_points (mCons (mVar 5) mNil)) (mApp fTuple (mCons (mVar 9) mNil))))) (mRet (mC (.bool false))) mNx) (mSeq (mSet 6 (mLc [13] (mIt (mVar 9)) (gmName 13) (mB (mApp m__law_fails (mCons (mVar 4) (mCons (mVar 13) (mCons (mVar 8) mNil))))) (mVar 13))) (mSeq (mIfS (mB (mBin fNe (mApp m_holding_many (mCons (mVar 4) (mCons (mVar 5) (mCons (mVar 8) mNil)))) (mBin fSub (mApp fLen (mCons (mVar 9) mNil)) (mApp fLen (mCons (mVar 6) mNil))))) (mRet (mC (.bool false))) mNx) (mSeq (mIfS (mB (mBin fNe (mApp m_first_failing (mCons (mVar 4) (mCons (mVar 5) (mCons (mVar 8) mNil)))) (mIf (mB (mBin fNe (mVar 6) (mLst mNil))) (mBin fIx (mVar 6) (mC (.int 0))) (mC .none)))) (mRet (mC (.bool false))) mNx) (mSeq (mIfS (mNotT (mB (mApp m__law_is_dict (mCons (mApp m_failing_by (mCons (mVar 4) (mCons (mVar 5) (mCons (mVar 8) mNil)))) (mCons (mApp m__law_tally (mCons (mLc [13] (mIt (mVar 6)) (gmName 13) mYes (mBin fIx (mApp m__law_worked (mCons (mVar 4) (mCons (mVar 13) mNil))) (mC (.int 0)))) mNil)) mNil))))) (mRet (mC (.bool false))) mNx) (mSeq (mIfS (mNotT (mB (mApp m__law_is_dict (mCons (mApp m_whole_signs (mCons (mVar 4) (mCons (mVar 5) mNil))) (mCons (mApp m__law_tally (mCons (mLc [13] (mIt (mVar 9)) (gmName 13) mYes (mBin fIx (mApp m__law_worked (mCons (mVar 4) (mCons (mVar 13) mNil))) (mC (.int 0)))) mNil)) mNil))))) (mRet (mC (.bool false))) mNx) (mSeq (mPar3 10 11 12 (mApp m__law_draw (mCons (mVar 1) (mCons (mVar 3) mNil))) mNewK (mApp fDictN (mCons (mLc [13] (mIt (mVar 6)) (gmName 13) mYes (mTup (mCons (mVar 13) (mCons (mC (.bool true)) mNil)))) mNil))) (mSeq (mFor (mIt (mApp m__law_wholes (mCons (mTup (mCons (mBin fIx (mVar 5) (mVar 10)) mNil)) mNil))) (gmName 7) (mPut (mApp fLen (mCons (mLc [13] (mIt (mVar 9)) (gmName 13) (mAndT (mB (mBin fEq (mBin fIx (mVar 13) (mVar 10)) (mBin fIx (mVar 7) (mC (.int 0))))) (mB (mBin (fInA true) (mVar 13) (mVar 12)))) (mC (.int 1))) mNil)) (mVar 11) (mBin fIx (mBin fIx (mVar 7) (mC (.int 0))) (mC (.int 0))))) (mIfS (mNotT (mB (mApp m__law_is_dict (mCons (mApp m_line_counts (mCons (mVar 4) (mCons (mVar 5) (mCons (mVar 8) (mCons (mVar 10) mNil))))) (mCons (mVar 11) mNil))))) (mRet (mC (.bool false))) mNx))))))))))))
theorem b_law_eq : b_law = mSeq (mSet 1 (mApp m__law_hand (mCons (mVar 0) mNil))) (mSeq (mFor (mRng1 (mC (.int 4))) (gmName 2) turn) (mRet (mC (.bool true)))) := rfl
end Q

set_option Elab.async false
set_option linter.all false
set_option maxRecDepth 100000
set_option maxHeartbeats 1000000
/-! QZE: steps of a turn -/
namespace Q
open PySem PySem.Spec PyProof.Rows L2 PD W
section
variable {rest st : Store} {t : Nt} {c : Cm} {b : List Sp1}
theorem mb_of {m : EM} {s : SE} {v : Bool} {st1 : Store} (h : m s st = some (.d (.bool v), st1)) : mB m s st = some (v, st1) := by rw [e_mB, h]
theorem not_of {u : TM} {s : SE} {v : Bool} {st1 : Store} (h : u s st = some (v, st1)) : mNotT u s st = some (!v, st1) := by rw [e_mNotT, h]
theorem or_ff {u v : TM} {s : SE} {st1 st2 : Store} (h : u s st = some (false, st1)) (h' : v s st1 = some (false, st2)) : mOrT u v s st = some (false, st2) := by
  rw [e_mOrT, h]
  exact h'
theorem pass {u : TM} {s : SE} {st1 : Store} {x : EM} (h : u s st = some (false, st1)) : mIfS u (mRet x) mNx s st = some (.nx s st1) := (ifs_f h).trans rfl
theorem par_nx {i j : Nat} {m k : EM} {s : SE} {st1 st2 : Store} {x y : DV} (h : m s st = some (x, st1)) (h' : k s st1 = some (y, st2)) : mPar i j m k s st = some (.nx ((s.set i (some x)).set j (some y)) st2) := by
  rw [e_mPar, h]
  dsimp only
  rw [h']
theorem par3_nx {i j l : Nat} {m k e : EM} {s : SE} {st1 st2 st3 : Store} {x y z : DV} (h : m s st = some (x, st1)) (h' : k s st1 = some (y, st2)) (h'' : e s st2 = some (z, st3)) : mPar3 i j l m k e s st = some (.nx (((s.set i (some x)).set j (some y)).set l (some z)) st3) := by
  rw [e_mPar3, h]
  dsimp only
  rw [h']
  dsimp only
  rw [h'']
theorem HS.set {k : Nat} {x : Option MO} (h : HS rest st) : HS (rest.set k x) (st.set (k + 1) x) := by
  obtain ⟨hd, ok, rfl⟩ := h
  exact ⟨hd, ok, rfl⟩
theorem ne_same {x y : DV} {a : PyData} {k : Nat} (hx : view st x = some a) (hy : view st y = some a) (g : Good k a) (hk : k ≤ 64 := by decide) : fNe x y st = some (.d (.bool false), st) := by
  rw [ne_good hx hy g g hk hk, SeqAt.eqv_refl _ g.1]
  rfl
theorem it_var {k : Nat} {s : SE} {xs : List PyData} (h : s[k]? = some (some (.d (.list xs)))) : mIt (mVar k) s st = some ((xs, always), st) := by
  unfold mIt
  rw [var_at h]
  rfl
theorem lc_of {vs : List Nat} {mi : IM} {gm : GM} {u : TM} {e : EM} {s s0 : SE} {st1 st2 : Store} {ds xs : List PyData} {g : Store → Bool} (h : mi s st = some ((ds, g), st1)) (hl : ds.length ≤ 16777216) (hw : wipeS s vs = s0) (h' : lcL gm u e g ds s0 st1 = some (xs, st2)) : mLc vs mi gm u e s st = some (.d (.list xs), st2) := by
  unfold mLc
  rw [h]
  dsimp only
  rw [if_pos (decide_eq_true hl), hw, h']
theorem at13 {s : SE} (hz : s.length = 14) (x : Option DV) : ((s.set 13 none).set 13 x)[13]? = some x := by
  rw [List.getElem?_set_self (by rw [List.length_set]; omega)]
theorem atn {s : SE} {n : Nat} (x : Option DV) (hn : n ≠ 13) : ((s.set 13 none).set 13 x)[n]? = s[n]? := by
  rw [List.getElem?_set_ne (Ne.symm hn), List.getElem?_set_ne (Ne.symm hn)]
theorem good_pt (pt : List Fr) : Good 2 (ptD pt) := Good.tuple fun x hx => by
  obtain ⟨f, _, rfl⟩ := List.mem_map.mp hx
  exact Good.tuple fun y hy => by
    simp only [List.mem_cons, List.not_mem_nil, or_false] at hy
    rcases hy with rfl | rfl <;> exact Good.int _ 0
theorem good_pts (l : List (List Fr)) : Good 3 (.tuple (l.map ptD)) := Good.tuple fun x hx => by
  obtain ⟨f, _, rfl⟩ := List.mem_map.mp hx
  exact good_pt f
theorem lost_lc (ht : NtOk t) (h : BxOk b) (hm : b.length = t.m) (hc : CmOk t c) (hp : Pl st) {s : SE} (hz : s.length = 14) (h4 : s[4]? = some (some (.d (netD t)))) (h8 : s[8]? = some (some (.d (cmD c)))) (h9 : s[9]? = some (some (.d (.list (ptsD b))))) :
    mLc [13] (mIt (mVar 9)) (gmName 13) (mB (mApp m__law_fails (mCons (mVar 4) (mCons (mVar 13) (mCons (mVar 8) mNil))))) (mVar 13) s st = some (.d (.list ((lost t c b).map ptD)), st) := by
  have hl := pts_len h
  refine lc_of (it_var h9) (by rw [ptsD_eq, List.length_map]; omega) rfl ?_
  rw [ptsD_eq]
  exact lc_filter_pts rfl (fun pt => !holdsF t c pt) ptD (pts b) fun pt hpt => ⟨mb_of ((app3 (var_at ((atn _ (by decide)).trans h4)) (var_at (at13 hz _)) (var_at ((atn _ (by decide)).trans h8))).trans (lfails_at ht h hm hc hp hpt)), fun _ => var_at (at13 hz _)⟩
theorem tally_at (ht : NtOk t) (hcs : t.cells ≠ []) (h : BxOk b) (hm : b.length = t.m) (hp : Pl st) {s : SE} {k : Nat} {l : List (List Fr)} (hl : ∀ pt ∈ l, pt ∈ pts b) (hll : l.length ≤ 100000) (hz : s.length = 14) (h4 : s[4]? = some (some (.d (netD t)))) (hk : s[k]? = some (some (.d (.list (l.map ptD))))) :
    mApp m__law_tally (mCons (mLc [13] (mIt (mVar k)) (gmName 13) mYes (mBin fIx (mApp m__law_worked (mCons (mVar 4) (mCons (mVar 13) mNil))) (mC (.int 0)))) mNil) s st = some (.r st.length, st ++ [some (.dcn (tallyP t l))]) := by
  have e : mLc [13] (mIt (mVar k)) (gmName 13) mYes (mBin fIx (mApp m__law_worked (mCons (mVar 4) (mCons (mVar 13) mNil))) (mC (.int 0))) s st = some (.d (.list (l.map fun pt => .tuple (nts (signsF t pt)))), st) := by
    refine lc_of (it_var hk) (by rw [List.length_map]; omega) rfl ?_
    exact lc_map_pts rfl (fun pt => .tuple (nts (signsF t pt))) l fun pt hpt => (bin_of ((app2 (var_at ((atn _ (by decide)).trans h4)) (var_at (at13 hz _))).trans (lworked_at ht h hm hp (hl pt hpt))) (e_mC ..)).trans (by rw [e_ix_t, at_0]; rfl)
  have ec := r_counted (st := st) (ls := l.map (signsF t)) (fun q hq => by
    obtain ⟨pt, _, rfl⟩ := List.mem_map.mp hq
    exact sgns_ne hcs) (by rw [List.length_map]; omega) hp
  rw [List.map_map] at ec
  refine (app1 e).trans ?_
  rw [counted_tally]
  exact ec
theorem dictN_pass {A B x : EM} {s : SE} {st1 st2 : Store} {n1 n2 : Nat} {kvs : List (PyData × PyData)} (hA : A s st = some (.r n1, st1)) (hB : B s st1 = some (.r n2, st2)) (h1 : st2[n1]? = some (some (.dcn kvs))) (h2 : st2[n2]? = some (some (.dcn kvs))) (hg : ∀ kv ∈ kvs, Good 3 kv.1 ∧ Good 3 kv.2) (hp : Pl st2) : mIfS (mNotT (mB (mApp m__law_is_dict (mCons A (mCons B mNil))))) (mRet x) mNx s st = some (.nx s st2) :=
  pass (not_of (mb_of ((app2 hA hB).trans (r_is_dictN h1 h2 hg hp))))
theorem dictK_pass {A B x : EM} {s : SE} {st1 st2 : Store} {n1 n2 : Nat} {kvs : List (Key × PyData)} (hA : A s st = some (.r n1, st1)) (hB : B s st1 = some (.r n2, st2)) (h1 : st2[n1]? = some (some (.dct kvs))) (h2 : st2[n2]? = some (some (.dct kvs))) (hg : ∀ kv ∈ kvs, Good 3 (keyD kv.1) ∧ Good 3 kv.2) (hp : Pl st2) : mIfS (mNotT (mB (mApp m__law_is_dict (mCons A (mCons B mNil))))) (mRet x) mNx s st = some (.nx s st2) :=
  pass (not_of (mb_of ((app2 hA hB).trans (r_is_dictK h1 h2 hg hp))))
theorem line_good (f : Int → Nat) (l : List Int) : ∀ kv ∈ lineF f l, Good 3 (keyD kv.1) ∧ Good 3 kv.2 := fun kv hkv => by
  unfold lineF at hkv
  obtain ⟨k, _, rfl⟩ := List.mem_map.mp hkv
  exact ⟨Good.int _ _, Good.int _ _⟩
end
end Q

set_option Elab.async false
set_option linter.all false
set_option maxRecDepth 100000
set_option maxHeartbeats 1000000
/-! QZF: the parts of a turn -/
namespace Q
open PySem PySem.Spec PyProof.Rows L2 PD W
noncomputable def p1 : SM := mSet 3 (mBin fAdd (mC (.int 1)) (mApp m__law_draw (mCons (mVar 1) (mCons (mC (.int 3)) mNil))))
noncomputable def p2 : SM := mSet 4 (mApp m__law_net (mCons (mVar 1) (mCons (mVar 3) (mCons (mC (.int 3)) mNil))))
noncomputable def p3 : SM := mSet 5 (mIf (mB (mBin fLt (mVar 3) (mC (.int 3)))) (mApp m__law_box (mCons (mVar 1) (mCons (mVar 3) mNil))) (mBin fAdd (mApp m__law_box (mCons (mVar 1) (mCons (mC (.int 2)) mNil))) (mTup (mCons (mTup (mCons (mTup (mCons (mC (.int 0)) (mCons (mC (.int 1)) mNil))) (mCons (mTup (mCons (mC (.int 1)) (mCons (mC (.int 1)) mNil))) mNil))) mNil))))
noncomputable def p4 : SM := mPar 8 9 (mApp m__law_claim (mCons (mVar 1) (mCons (mApp fLen (mCons (mBin fIx (mVar 4) (mC (.int 2))) mNil)) mNil))) (mApp m__law_wholes (mCons (mVar 5) mNil))
noncomputable def p5 : SM := mIfS (mOrT (mB (mBin fNe (mApp m_whole_many (mCons (mVar 5) mNil)) (mApp fLen (mCons (mVar 9) mNil)))) (mB (mBin fNe (mApp m_whole_points (mCons (mVar 5) mNil)) (mApp fTuple (mCons (mVar 9) mNil))))) (mRet (mC (.bool false))) mNx
noncomputable def p6 : SM := mSet 6 (mLc [13] (mIt (mVar 9)) (gmName 13) (mB (mApp m__law_fails (mCons (mVar 4) (mCons (mVar 13) (mCons (mVar 8) mNil))))) (mVar 13))
noncomputable def p7 : SM := mIfS (mB (mBin fNe (mApp m_holding_many (mCons (mVar 4) (mCons (mVar 5) (mCons (mVar 8) mNil)))) (mBin fSub (mApp fLen (mCons (mVar 9) mNil)) (mApp fLen (mCons (mVar 6) mNil))))) (mRet (mC (.bool false))) mNx
noncomputable def p8 : SM := mIfS (mB (mBin fNe (mApp m_first_failing (mCons (mVar 4) (mCons (mVar 5) (mCons (mVar 8) mNil)))) (mIf (mB (mBin fNe (mVar 6) (mLst mNil))) (mBin fIx (mVar 6) (mC (.int 0))) (mC .none)))) (mRet (mC (.bool false))) mNx
noncomputable def p9 : SM := mIfS (mNotT (mB (mApp m__law_is_dict (mCons (mApp m_failing_by (mCons (mVar 4) (mCons (mVar 5) (mCons (mVar 8) mNil)))) (mCons (mApp m__law_tally (mCons (mLc [13] (mIt (mVar 6)) (gmName 13) mYes (mBin fIx (mApp m__law_worked (mCons (mVar 4) (mCons (mVar 13) mNil))) (mC (.int 0)))) mNil)) mNil))))) (mRet (mC (.bool false))) mNx
noncomputable def p10 : SM := mIfS (mNotT (mB (mApp m__law_is_dict (mCons (mApp m_whole_signs (mCons (mVar 4) (mCons (mVar 5) mNil))) (mCons (mApp m__law_tally (mCons (mLc [13] (mIt (mVar 9)) (gmName 13) mYes (mBin fIx (mApp m__law_worked (mCons (mVar 4) (mCons (mVar 13) mNil))) (mC (.int 0)))) mNil)) mNil))))) (mRet (mC (.bool false))) mNx
noncomputable def p11 : SM := mPar3 10 11 12 (mApp m__law_draw (mCons (mVar 1) (mCons (mVar 3) mNil))) mNewK (mApp fDictN (mCons (mLc [13] (mIt (mVar 6)) (gmName 13) mYes (mTup (mCons (mVar 13) (mCons (mC (.bool true)) mNil)))) mNil))
noncomputable def p12 : SM := mFor (mIt (mApp m__law_wholes (mCons (mTup (mCons (mBin fIx (mVar 5) (mVar 10)) mNil)) mNil))) (gmName 7) (mPut (mApp fLen (mCons (mLc [13] (mIt (mVar 9)) (gmName 13) (mAndT (mB (mBin fEq (mBin fIx (mVar 13) (mVar 10)) (mBin fIx (mVar 7) (mC (.int 0))))) (mB (mBin (fInA true) (mVar 13) (mVar 12)))) (mC (.int 1))) mNil)) (mVar 11) (mBin fIx (mBin fIx (mVar 7) (mC (.int 0))) (mC (.int 0))))
noncomputable def p13 : SM := mIfS (mNotT (mB (mApp m__law_is_dict (mCons (mApp m_line_counts (mCons (mVar 4) (mCons (mVar 5) (mCons (mVar 8) (mCons (mVar 10) mNil))))) (mCons (mVar 11) mNil))))) (mRet (mC (.bool false))) mNx
theorem turn_eq : turn = mSeq p1 (mSeq p2 (mSeq p3 (mSeq p4 (mSeq p5 (mSeq p6 (mSeq p7 (mSeq p8 (mSeq p9 (mSeq p10 (mSeq p11 (mSeq p12 (p13)))))))))))) := rfl
section
variable {rest st : Store} {t : Nt} {c : Cm} {b : List Sp1}
/-- what stands while a turn goes -/
structure Sl (t : Nt) (c : Cm) (b : List Sp1) (s : SE) : Prop where
  z : s.length = 14
  h1 : s[1]? = some (some (.r 0))
  h3 : s[3]? = some (some (.d (.int (t.m : Nat))))
  h4 : s[4]? = some (some (.d (netD t)))
  h5 : s[5]? = some (some (.d (boxD b)))
  h8 : s[8]? = some (some (.d (cmD c)))
  h9 : s[9]? = some (some (.d (.list (ptsD b))))
structure Cs (t : Nt) (c : Cm) (b : List Sp1) : Prop where
  ht : NtOk t
  hn : t.cells ≠ []
  h : BxOk b
  hm : b.length = t.m
  hc : CmOk t c
theorem gs {s : SE} {i j : Nat} {x : Option DV} (h : i ≠ j) : (s.set i x)[j]? = s[j]? := List.getElem?_set_ne h
theorem gself {s : SE} {i : Nat} {x : Option DV} (h : i < s.length) : (s.set i x)[i]? = some x := List.getElem?_set_self h
theorem Sl.set {s : SE} (h : Sl t c b s) {i : Nat} {x : Option DV} (hi : i = 6 ∨ i = 7 ∨ i = 10 ∨ i = 11 ∨ i = 12 ∨ i = 13) : Sl t c b (s.set i x) := by
  have hn : ∀ j, j = 1 ∨ j = 3 ∨ j = 4 ∨ j = 5 ∨ j = 8 ∨ j = 9 → (s.set i x)[j]? = s[j]? := fun j hj => gs (by omega)
  exact ⟨by rw [List.length_set]; exact h.z, (hn 1 (by omega)).trans h.h1, (hn 3 (by omega)).trans h.h3, (hn 4 (by omega)).trans h.h4, (hn 5 (by omega)).trans h.h5, (hn 8 (by omega)).trans h.h8, (hn 9 (by omega)).trans h.h9⟩
theorem p1_ok {s : SE} (h1 : s[1]? = some (some (.r 0))) (hp : Pl rest) (hs : HS rest st) : ∃ (m : Nat) (st' : Store), p1 s st = some (.nx (s.set 3 (some (.d (.int (m : Nat))))) st') ∧ HS rest st' ∧ 1 ≤ m ∧ m ≤ 3 := by
  obtain ⟨v, st', e, hs', v0, v1⟩ := r_draw (many := 3) (by decide) (by decide) hp hs
  refine ⟨(1 + v).toNat, st', set_nx (add_i (e_mC ..) ((app2 (var_at h1) (e_mC ..)).trans e) (by omega)), hs', by omega, by omega⟩
theorem p2_ok {s : SE} {m : Nat} (h1 : s[1]? = some (some (.r 0))) (h3 : s[3]? = some (some (.d (.int (m : Nat))))) (m1 : 1 ≤ m) (m3 : m ≤ 3) (hp : Pl rest) (hs : HS rest st) : ∃ (t : Nt) (st' : Store), p2 s st = some (.nx (s.set 4 (some (.d (netD t)))) st') ∧ HS rest st' ∧ NtOk t ∧ t.m = m ∧ 1 ≤ t.cells.length := by
  obtain ⟨t, st', e, hs', ok, hm, hc⟩ := r_lnet m1 m3 hp hs
  exact ⟨t, st', set_nx ((app3 (var_at h1) (var_at h3) (e_mC ..)).trans e), hs', ok, hm, hc⟩
theorem p3_ok {s : SE} {m : Nat} (h1 : s[1]? = some (some (.r 0))) (h3 : s[3]? = some (some (.d (.int (m : Nat))))) (m1 : 1 ≤ m) (m3 : m ≤ 3) (hp : Pl rest) (hs : HS rest st) : ∃ (b : List Sp1) (st' : Store), p3 s st = some (.nx (s.set 5 (some (.d (boxD b)))) st') ∧ HS rest st' ∧ b.length = m ∧ BxOk b := by
  obtain ⟨b, st', e, hs', hl, ok⟩ := r_turnBox m1 m3 h1 h3 hp hs
  exact ⟨b, st', set_nx e, hs', hl, ok⟩
theorem p4_ok {s : SE} (h1 : s[1]? = some (some (.r 0))) (h4 : s[4]? = some (some (.d (netD t)))) (h5 : s[5]? = some (some (.d (boxD b)))) (ht : NtOk t) (hb : BxOk b) (hp : Pl rest) (hs : HS rest st) : ∃ (c : Cm) (st' : Store), p4 s st = some (.nx ((s.set 8 (some (.d (cmD c)))).set 9 (some (.d (.list (ptsD b))))) st') ∧ HS rest st' ∧ CmOk t c := by
  obtain ⟨c, st', e, hs', ok⟩ := r_claim ht hp hs
  have e1 : mApp fLen (mCons (mBin fIx (mVar 4) (mC (.int 2))) mNil) s st = some (.d (.int (t.outs.length : Nat)), st) := by
    have q : fIx (.d (netD t)) (.d (.int 2)) st = some (.d (.tuple (t.outs.map smD)), st) := by
      unfold netD
      rw [e_ix_t, at_2]
      rfl
    refine (app1 ((bin_of (var_at h4) (e_mC ..)).trans q)).trans ?_
    rw [e_len_t, List.length_map]
  exact ⟨c, st', par_nx ((app2 (var_at h1) e1).trans e) ((app1 (var_at h5)).trans (r_lwholes hb (hs'.pl hp))), hs', ok⟩
theorem p5_ok {s : SE} (C : Cs t c b) (S : Sl t c b s) (hp : Pl st) : p5 s st = some (.nx s st) := by
  refine pass (or_ff (mb_of ((bin_of ((app1 (var_at S.h5)).trans (r_whole_many C.h hp)) ((app1 (var_at S.h9)).trans e_len_l)).trans ?_)) (mb_of ((bin_of ((app1 (var_at S.h5)).trans (r_whole_points C.h hp)) ((app1 (var_at S.h9)).trans e_tuple_l)).trans ?_)))
  · rw [ptsD_eq, List.length_map]
    exact ne_int.trans (by simp [pts])
  · exact ne_same rfl rfl (good_pts (pts b))
theorem p6_ok {s : SE} (C : Cs t c b) (S : Sl t c b s) (hp : Pl st) : p6 s st = some (.nx (s.set 6 (some (.d (.list ((lost t c b).map ptD))))) st) :=
  set_nx (lost_lc C.ht C.h C.hm C.hc hp S.z S.h4 S.h8 S.h9)
theorem count_lost : (((pts b).filter (holdsF t c)).length : Int) = (pts b).length - (lost t c b).length := by
  unfold lost
  induction pts b with
  | nil => rfl
  | cons p l ih => cases e : holdsF t c p <;> simp [List.filter_cons, e] <;> omega
theorem p7_ok {s : SE} (C : Cs t c b) (S : Sl t c b s) (h6 : s[6]? = some (some (.d (.list ((lost t c b).map ptD))))) (hp : Pl st) : p7 s st = some (.nx s st) := by
  refine pass (mb_of ((bin_of ((app3 (var_at S.h4) (var_at S.h5) (var_at S.h8)).trans (r_holding_many C.ht C.h C.hm C.hc hp)) (sub_i ((app1 (var_at S.h9)).trans e_len_l) ((app1 (var_at h6)).trans e_len_l) rfl)).trans ?_))
  rw [ptsD_eq, List.length_map, List.length_map, count_lost]
  exact ne_int.trans (by simp)
theorem good_first (l : List (List Fr)) : Good 2 (firstD l) := by
  cases l with
  | nil => exact Good.none _
  | cons p l => exact good_pt p
theorem first_if {s : SE} {l : List (List Fr)} (h6 : s[6]? = some (some (.d (.list (l.map ptD))))) : mIf (mB (mBin fNe (mVar 6) (mLst mNil))) (mBin fIx (mVar 6) (mC (.int 0))) (mC .none) s st = some (.d (firstD l), st) := by
  have g : Good 3 (.list (l.map ptD)) := Good.list fun x hx => by
    obtain ⟨f, _, rfl⟩ := List.mem_map.mp hx
    exact good_pt f
  have e : mB (mBin fNe (mVar 6) (mLst mNil)) s st = some (!decide (l = []), st) := by
    refine mb_of ((bin_of (var_at h6) (show mLst mNil s st = some (.d (.list []), st) from rfl)).trans ?_)
    refine (ne_good (a := .list (l.map ptD)) (b := .list []) rfl rfl g (Good.list (k := 0) fun x hx => by simp at hx)).trans ?_
    cases l <;> simp [rb, PyData.eqv, PyData.eqvAll]
  rw [e_mIf, e]
  cases l with
  | nil => rfl
  | cons p l => exact (bin_of (var_at h6) (e_mC ..)).trans (by rw [List.map_cons, e_ix_l, at_0]; rfl)
theorem p8_ok {s : SE} (C : Cs t c b) (S : Sl t c b s) (h6 : s[6]? = some (some (.d (.list ((lost t c b).map ptD))))) (hp : Pl st) : p8 s st = some (.nx s st) := by
  refine pass (mb_of ((bin_of ((app3 (var_at S.h4) (var_at S.h5) (var_at S.h8)).trans (r_first C.ht C.h C.hm C.hc hp)) (first_if h6)).trans ?_))
  exact ne_same rfl rfl (good_first _)
theorem lost_in {pt : List Fr} (h : pt ∈ lost t c b) : pt ∈ pts b := (List.mem_filter.mp h).1
theorem lost_len (h : BxOk b) : (lost t c b).length ≤ 100000 := Nat.le_trans (List.length_filter_le _ _) (by have := pts_len h; omega)
theorem tallyP_good (l : List (List Fr)) : ∀ kv ∈ tallyP t l, Good 3 kv.1 ∧ Good 3 kv.2 := tallyS_good _
theorem pl_dcn {kvs : List (PyData × PyData)} (hp : Pl st) : Pl (st ++ [some (.dcn kvs)]) := hp.app (.one rfl)
theorem pl_dct {kvs : List (Key × PyData)} (hp : Pl st) : Pl (st ++ [some (.dct kvs)]) := hp.app (.one rfl)
theorem two_at {x y : Option MO} : (st ++ [x] ++ [y])[st.length]? = some x ∧ (st ++ [x] ++ [y])[(st ++ [x]).length]? = some y := by
  constructor
  · simp
  · simp
theorem p9_ok {s : SE} (C : Cs t c b) (S : Sl t c b s) (h6 : s[6]? = some (some (.d (.list ((lost t c b).map ptD))))) (hp : Pl st) : p9 s st = some (.nx s (st ++ [some (.dcn (tallyP t (lost t c b)))] ++ [some (.dcn (tallyP t (lost t c b)))])) :=
  dictN_pass ((app3 (var_at S.h4) (var_at S.h5) (var_at S.h8)).trans (r_failing_by C.ht C.hn C.h C.hm C.hc hp)) (tally_at C.ht C.hn C.h C.hm (pl_dcn hp) (fun _ => lost_in) (lost_len C.h) S.z S.h4 h6) two_at.1 two_at.2 (tallyP_good _) (pl_dcn (pl_dcn hp))
theorem p10_ok {s : SE} (C : Cs t c b) (S : Sl t c b s) (hp : Pl st) : p10 s st = some (.nx s (st ++ [some (.dcn (tallyP t (pts b)))] ++ [some (.dcn (tallyP t (pts b)))])) :=
  dictN_pass ((app2 (var_at S.h4) (var_at S.h5)).trans (r_whole_signs C.ht C.hn C.h C.hm hp)) (tally_at C.ht C.hn C.h C.hm (pl_dcn hp) (fun _ z => z) (by have := pts_len C.h; omega) S.z S.h4 S.h9) two_at.1 two_at.2 (tallyP_good _) (pl_dcn (pl_dcn hp))
theorem gone_lc {s : SE} (hz : s.length = 14) {l : List (List Fr)} (hl : l.length ≤ 100000) (h6 : s[6]? = some (some (.d (.list (l.map ptD))))) : mLc [13] (mIt (mVar 6)) (gmName 13) mYes (mTup (mCons (mVar 13) (mCons (mC (.bool true)) mNil))) s st = some (.d (.list (l.map fun pt => .tuple [ptD pt, .bool true])), st) :=
  lc_of (it_var h6) (by rw [List.length_map]; omega) rfl (lc_map_pts rfl (fun pt => .tuple [ptD pt, .bool true]) l fun pt _ => tup2 (var_at (at13 hz _)) (e_mC ..))
theorem p11_ok {s : SE} (C : Cs t c b) (S : Sl t c b s) (h6 : s[6]? = some (some (.d (.list ((lost t c b).map ptD))))) (hp : Pl rest) (hs : HS rest st) : ∃ (i : Nat) (st' : Store), p11 s st = some (.nx (((s.set 10 (some (.d (.int (i : Nat))))).set 11 (some (.r st'.length))).set 12 (some (.r (st'.length + 1)))) (st' ++ [some (.dct [])] ++ [some (.dcn (mkN (keysT (lost t c b)) []))])) ∧ HS rest st' ∧ i < t.m := by
  obtain ⟨v, st', e, hs', v0, v1⟩ := r_draw (many := (t.m : Nat)) (by have := C.ht.m1; omega) (by have := C.ht.m3; omega) hp hs
  refine ⟨v.toNat, st', ?_, hs', by omega⟩
  have hv : ((v.toNat : Nat) : Int) = v := by omega
  have hll := lost_len (t := t) (c := c) C.h
  have e3 := (app1 (f := fDictN) (gone_lc (st := st' ++ [some (.dct [])]) S.z hll h6)).trans (r_gone (by omega))
  rw [hv]
  have := par3_nx (i := 10) (j := 11) (l := 12) ((app2 (var_at S.h1) (var_at S.h3)).trans e) (show mNewK s st' = some (.r st'.length, st' ++ [some (.dct [])]) from rfl) e3
  rw [List.length_append, List.length_singleton] at this
  exact this
end
end Q

set_option Elab.async false
set_option linter.all false
set_option maxRecDepth 100000
set_option maxHeartbeats 1000000
/-! QZG: a whole turn, the law's loop, the plain law -/
namespace Q
open PySem PySem.Spec PyProof.Rows L2 PD W
section
variable {rest st : Store} {t : Nt} {c : Cm} {b : List Sp1}
theorem app4 {f : FN} {m1 m2 m3 m4 : EM} {s : SE} {st1 st2 st3 st4 : Store} {d1 d2 d3 d4 : DV} (h1 : m1 s st = some (d1, st1)) (h2 : m2 s st1 = some (d2, st2)) (h3 : m3 s st2 = some (d3, st3)) (h4 : m4 s st3 = some (d4, st4)) : mApp f (mCons m1 (mCons m2 (mCons m3 (mCons m4 mNil)))) s st = f [d1, d2, d3, d4] st4 := by
  unfold mApp mCons mNil
  rw [h1]; dsimp only
  rw [h2]; dsimp only
  rw [h3]; dsimp only
  rw [h4]
theorem slot {s : SE} {i : Nat} (h : i < s.length) : ∃ x, s[i]? = some x ∧ s.set i x = s := ⟨s[i], List.getElem?_eq_getElem h, List.set_getElem_self h⟩
theorem p12_ok {s : SE} {i d g : Nat} {p : Sp1} (C : Cs t c b) (S : Sl t c b s) (hi : b[i]? = some p) (h10 : s[10]? = some (some (.d (.int (i : Nat))))) (h11 : s[11]? = some (some (.r d))) (h12 : s[12]? = some (some (.r g))) (hdg : d ≠ g) (hd : st[d]? = some (some (.dct []))) (hg : st[g]? = some (some (.dcn (mkN (keysT (lost t c b)) [])))) (hp : Pl st) :
    ∃ y, p12 s st = some (.nx (s.set 7 y) (st.set d (some (.dct (lineF (cnt t c i (pts b)) (axis p)))))) := by
  obtain ⟨x, _, hx⟩ := slot (s := s) (i := 7) (by rw [S.z]; decide)
  have ha := axis_len (C.h.sp p (List.mem_of_getElem? hi))
  obtain ⟨y, e⟩ := due_loop (t := t) (c := c) C.h hi hdg S.z S.h9 h10 h11 h12 (axis p) [] x st (by simp; omega) (fun _ _ z => by simp at z) (axis_nodup p) hd hg
  rw [hx, List.nil_append] at e
  refine ⟨y, ?_⟩
  have e0 := due_it (st := st) C.h hi S.h5 h10 hp
  show mFor _ (gmName 7) dueBody s st = _
  rw [e_mFor, e0]
  exact e
theorem p13_ok {s : SE} {i d : Nat} {p : Sp1} (C : Cs t c b) (S : Sl t c b s) (hi : b[i]? = some p) (h10 : s[10]? = some (some (.d (.int (i : Nat))))) (h11 : s[11]? = some (some (.r d))) (hd : st[d]? = some (some (.dct (lineF (cnt t c i (pts b)) (axis p))))) (hp : Pl st) :
    p13 s st = some (.nx s (st ++ [some (.dct (lineF (cnt t c i (pts b)) (axis p)))])) := by
  refine dictK_pass ((app4 (var_at S.h4) (var_at S.h5) (var_at S.h8) (var_at h10)).trans (r_line_counts C.ht C.h C.hm C.hc hp hi)) (var_at h11) (n1 := st.length) (n2 := d) ?_ ?_ (line_good (cnt t c i (pts b)) (axis p)) (pl_dct hp)
  · simp
  · rw [List.getElem?_append_left (List.getElem?_eq_some_iff.mp hd).1]
    exact hd
theorem turn_ok {s : SE} (hz : s.length = 14) (h1 : s[1]? = some (some (.r 0))) (hp : Pl rest) (hs : HS rest st) : ∃ (s' : SE) (st' rest' : Store), turn s st = some (.nx s' st') ∧ HS rest' st' ∧ Pl rest' ∧ s'.length = 14 ∧ s'[1]? = some (some (.r 0)) := by
  obtain ⟨m, st1, e1, hs1, m1, m3⟩ := p1_ok h1 hp hs
  generalize hsA : s.set 3 (some (.d (.int (m : Nat)))) = sA at e1
  have zA : sA.length = 14 := by rw [← hsA, List.length_set]; exact hz
  have a1 : sA[1]? = some (some (.r 0)) := by rw [← hsA, gs (by decide)]; exact h1
  have a3 : sA[3]? = some (some (.d (.int (m : Nat)))) := by rw [← hsA, gself (by omega)]
  obtain ⟨t, st2, e2, hs2, ht, hm, hn⟩ := p2_ok a1 a3 m1 m3 hp hs1
  subst hm
  generalize hsB : sA.set 4 (some (.d (netD t))) = sB at e2
  have zB : sB.length = 14 := by rw [← hsB, List.length_set]; exact zA
  have b1 : sB[1]? = some (some (.r 0)) := by rw [← hsB, gs (by decide)]; exact a1
  have b3 : sB[3]? = some (some (.d (.int (t.m : Nat)))) := by rw [← hsB, gs (by decide)]; exact a3
  have b4 : sB[4]? = some (some (.d (netD t))) := by rw [← hsB, gself (by omega)]
  obtain ⟨b, st3, e3, hs3, hb, ok3⟩ := p3_ok b1 b3 m1 m3 hp hs2
  generalize hsC : sB.set 5 (some (.d (boxD b))) = sC at e3
  have zC : sC.length = 14 := by rw [← hsC, List.length_set]; exact zB
  have c1 : sC[1]? = some (some (.r 0)) := by rw [← hsC, gs (by decide)]; exact b1
  have c3 : sC[3]? = some (some (.d (.int (t.m : Nat)))) := by rw [← hsC, gs (by decide)]; exact b3
  have c4 : sC[4]? = some (some (.d (netD t))) := by rw [← hsC, gs (by decide)]; exact b4
  have c5 : sC[5]? = some (some (.d (boxD b))) := by rw [← hsC, gself (by omega)]
  obtain ⟨c, st4, e4, hs4, hc⟩ := p4_ok c1 c4 c5 ht ok3 hp hs3
  generalize hsD : (sC.set 8 (some (.d (cmD c)))).set 9 (some (.d (.list (ptsD b)))) = sD at e4
  have SD : Sl t c b sD := by
    rw [← hsD]
    refine ⟨by rw [List.length_set, List.length_set]; exact zC, ?_, ?_, ?_, ?_, ?_, ?_⟩
    · rw [gs (by decide), gs (by decide)]; exact c1
    · rw [gs (by decide), gs (by decide)]; exact c3
    · rw [gs (by decide), gs (by decide)]; exact c4
    · rw [gs (by decide), gs (by decide)]; exact c5
    · rw [gs (by decide), gself (by omega)]
    · rw [gself (by rw [List.length_set]; omega)]
  have C : Cs t c b := ⟨ht, fun z => by rw [z] at hn; simp at hn, ok3, hb, hc⟩
  have pl4 := hs4.pl hp
  have e5 := p5_ok C SD pl4
  have e6 := p6_ok C SD pl4
  generalize hsE : sD.set 6 (some (.d (.list ((lost t c b).map ptD)))) = sE at e6
  have SE' : Sl t c b sE := by rw [← hsE]; exact SD.set (by omega)
  have d6 : sE[6]? = some (some (.d (.list ((lost t c b).map ptD)))) := by rw [← hsE, gself (by rw [SD.z]; decide)]
  have e7 := p7_ok C SE' d6 pl4
  have e8 := p8_ok C SE' d6 pl4
  have e9 := p9_ok C SE' d6 pl4
  have hs9 := (hs4.app [some (.dcn (tallyP t (lost t c b)))]).app [some (.dcn (tallyP t (lost t c b)))]
  have pl9 := pl_dcn (kvs := tallyP t (lost t c b)) (pl_dcn (kvs := tallyP t (lost t c b)) hp)
  have e10 := p10_ok C SE' (hs9.pl pl9)
  have hs10 := (hs9.app [some (.dcn (tallyP t (pts b)))]).app [some (.dcn (tallyP t (pts b)))]
  have pl10 := pl_dcn (kvs := tallyP t (pts b)) (pl_dcn (kvs := tallyP t (pts b)) pl9)
  obtain ⟨i, st11, e11, hs11, hi⟩ := p11_ok C SE' d6 pl10 hs10
  have hib : i < b.length := by rw [hb]; exact hi
  have hip : b[i]? = some b[i] := List.getElem?_eq_getElem hib
  generalize hsF : ((sE.set 10 (some (.d (.int (i : Nat))))).set 11 (some (.r st11.length))).set 12 (some (.r (st11.length + 1))) = sF at e11
  have SF : Sl t c b sF := by rw [← hsF]; exact ((SE'.set (by omega)).set (by omega)).set (by omega)
  have f10 : sF[10]? = some (some (.d (.int (i : Nat)))) := by rw [← hsF, gs (by decide), gs (by decide), gself (by rw [SE'.z]; decide)]
  have f11 : sF[11]? = some (some (.r st11.length)) := by rw [← hsF, gs (by decide), gself (by rw [List.length_set, SE'.z]; decide)]
  have f12 : sF[12]? = some (some (.r (st11.length + 1))) := by rw [← hsF, gself (by rw [List.length_set, List.length_set, SE'.z]; decide)]
  have hs11' := (hs11.app [some (.dct [])]).app [some (.dcn (mkN (keysT (lost t c b)) []))]
  have pl11 := pl_dcn (kvs := mkN (keysT (lost t c b)) []) (pl_dct (kvs := []) pl10)
  have at11 := two_at (st := st11) (x := some (.dct [])) (y := some (.dcn (mkN (keysT (lost t c b)) [])))
  have at11b : (st11 ++ [some (.dct [])] ++ [some (.dcn (mkN (keysT (lost t c b)) []))])[st11.length + 1]? = some (some (.dcn (mkN (keysT (lost t c b)) []))) := by
    have := at11.2
    rw [List.length_append, List.length_singleton] at this
    exact this
  obtain ⟨y, e12⟩ := p12_ok C SF hip f10 f11 f12 (Nat.ne_of_lt (Nat.lt_succ_self _)) at11.1 at11b (hs11'.pl pl11)
  have hl11 := hs11.len
  have hs12 := hs11'.set (k := st11.length - 1) (x := some (.dct (lineF (cnt t c i (pts b)) (axis b[i]))))
  have hk : st11.length - 1 + 1 = st11.length := by omega
  rw [hk] at hs12
  have pl12 := pl11.set (n := st11.length - 1) (o := some (.dct (lineF (cnt t c i (pts b)) (axis b[i])))) rfl
  have SG : Sl t c b (sF.set 7 y) := SF.set (by omega)
  have g10 := (gs (s := sF) (i := 7) (j := 10) (x := y) (by decide)).trans f10
  have g11 := (gs (s := sF) (i := 7) (j := 11) (x := y) (by decide)).trans f11
  have e13 := p13_ok C SG hip g10 g11 (by rw [List.getElem?_set_self (by simp)]) (hs12.pl pl12)
  refine ⟨sF.set 7 y, _, _, ?_, hs12.app _, pl_dct (kvs := lineF (cnt t c i (pts b)) (axis b[i])) pl12, SG.z, SG.h1⟩
  rw [turn_eq]
  exact (seq_nx e1).trans ((seq_nx e2).trans ((seq_nx e3).trans ((seq_nx e4).trans ((seq_nx e5).trans ((seq_nx e6).trans ((seq_nx e7).trans ((seq_nx e8).trans ((seq_nx e9).trans ((seq_nx e10).trans ((seq_nx e11).trans ((seq_nx e12).trans e13)))))))))))
end
theorem plain (ns : List Int) (h : ns.length ≤ 63) : ∃ st', m_law [PD.script ns] [] = some (.d (.bool true), st') := by
  obtain ⟨st1, e1, hs1⟩ := r_lhand ns h
  obtain ⟨s2, st2, e2, _⟩ := forL_run (gm := gmName 2) (b := turn) (g := always) (fun _ s st => s.length = 14 ∧ s[1]? = some (some (.r 0)) ∧ ∃ rest, HS rest st ∧ Pl rest) (rngP 0 4) 0
    [some (PD.script ns), some (.r 0), none, none, none, none, none, none, none, none, none, none, none, none] st1 ⟨rfl, rfl, [], hs1, Pl.nil⟩
    (fun i d s st _ hI => by
      obtain ⟨hz, h1, rest, hs, hp⟩ := hI
      refine ⟨rfl, s.set 2 (some (.d d)), rfl, ?_⟩
      obtain ⟨s', st', rest', e, hs', hp', hz', h1'⟩ := turn_ok (s := s.set 2 (some (.d d))) (by rw [List.length_set]; exact hz) ((gs (by decide)).trans h1) hp hs
      exact ⟨s', st', .inl e, hz', h1', rest', hs', hp'⟩)
    (fun _ _ _ => rfl)
  refine ⟨(leave 0 (.d (.bool true)) st2).2, ?_⟩
  have e3 : mSet 1 (mApp m__law_hand (mCons (mVar 0) mNil)) [some (PD.script ns), none, none, none, none, none, none, none, none, none, none, none, none, none] [] = some (.nx [some (PD.script ns), some (.r 0), none, none, none, none, none, none, none, none, none, none, none, none] st1) := set_nx ((app1 (var_at rfl)).trans e1)
  have e4 : b_law [some (PD.script ns), none, none, none, none, none, none, none, none, none, none, none, none, none] [] = some (.ret (.d (.bool true)) st2) := by
    rw [b_law_eq]
    refine (seq_nx e3).trans ?_
    exact (seq_nx ((for_rng (e_mC ..) (by decide)).trans e2)).trans rfl
  show runFn 1 14 b_law [PD.script ns] [] = _
  unfold runFn
  have : [PD.script ns].map some ++ List.replicate (14 - 1) none = [some (PD.script ns), none, none, none, none, none, none, none, none, none, none, none, none, none] := rfl
  rw [this, e4]
  rfl
end Q

open PySem PySem.W PyProof.Rows
theorem PySem.Challenge.cw_cutsumsways_k77_whole_points_counted_holds : PySem.Challenge.rw_cutsumsways_k77_whole_points_counted.Holds := by
  exact W.holds_of Q.plain
