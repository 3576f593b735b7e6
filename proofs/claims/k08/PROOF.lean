import PyProof.Rows.All
import Wide.All
import OpenK.AllK
import Wide.FinOn
import HandS.ForMost
import HandS.ForExc
import HandS.Wide
import HandS.CallSlots
import HandS.Defaults
import HandS.More
import HandS.Star
import HandS.Property
import HandS.TupLe
import HandS.IsInst
import HandS.Zip
import HandS.HeadHook2
import HandS.Head0
import HandS.Head1
import HandS.Head2
import HandS.HeadEnd
import HandS.SetBool
import PyProof.SetRoads
import PyProof.InstNe
import HandS.ClsMeth
import HandS.Style
import HandS.HeadNt
import HandS.Deep
import HandS.TupSets
import HandS.SortOrd
import HandS.TupMul
import HandS.SortRule
import HandS.SortInts
import HandS.Sort
import PyProof.WalkInts
import HandS.Text
import HandS.TupAny
import HandS.OwnEq
import KE.KExcSuper
import HandS.ExcInit
import HandS.ExcField
import HandS.Nested
import KE.KTryMore
import HandS.Lambda
import HandS.EndTab
import HandS.MakeKwOnly
import KE.KDflt
import HandS.FStr
import HandS.RaiseMore
import PyProof.Conv_bool
import PyProof.Rows.Range3
import HandS.DictComp
import HandS.Conv
import HandS.StrMore
import HandS.ReplaceLit
import HandS.Strs
import HandS.Dict
import HandS.Flow
import PyProof.Rows.MatchSeqLen
import PyProof.ExcBaseAll.LookupError
import PyProof.ExcBaseAll.IndexError
import KE.KExcInit
import HandS.ExcOwn
import PyProof.MaxThree
import KE.LtData
import HandS.Codes
import PySem.Challenge.RW_grainmeet_k08_texts_that_are_no_fours
set_option Elab.async false
set_option linter.all false
set_option maxRecDepth 100000
set_option maxHeartbeats 4000000
set_option autoImplicit false
namespace G
open PySem PySem.Spec PyProof.Rows L2
inductive D where
  | non | bl (b : Bool) | int (i : Int) | str (x : Str)
  | tup (xs : List D) | lst (xs : List D)
  | ob (c : Nat) (fs : List (Nat × D))
  | cel (n : Nat) | cls (c : Nat) | ty (s : String) | scr (xs : List D)
  | dct (kvs : List (D × D)) | dtt (kvs : List (D × D)) | raw (a : Addr) | wtp (xs : List D)
/-- a key of a dict as a thing -/
def keyD : L2.Key → D
  | .inl i => .int i
  | .inr s => .str s
inductive Cell where
  | lst (xs : List D) | ins (c : Nat) (fs : List (Nat × D)) | dct (kvs : List (D × D))
/-- a caught or flying error: its class, its fields -/
structure Exc where
  c : Nat
  fs : List (Nat × D)
abbrev Store := List Cell
/-- what the text fixes: the written part, the classes' addresses, the fields' names, the tables of code objects -/
structure Con where
  K : PySem.W.Frag
  ca : Nat → Addr
  fn : Nat → Str
  mn : Nat → Str
  TT : Hp → Prop
/-- the ghost: what never changes, where the cells lie -/
structure Gh where
  P : Hp
  ad : Nat → Option Addr
structure Gh.le (g g' : Gh) : Prop where
  p : ∀ a o, g.P a = some o → g'.P a = some o
  a : ∀ n a, g.ad n = some a → g'.ad n = some a
theorem Gh.le.refl (g : Gh) : g.le g := ⟨fun _ _ h => h, fun _ _ h => h⟩
theorem Gh.le.trans {g g1 g2 : Gh} (x : g.le g1) (y : g1.le g2) : g.le g2 := ⟨fun a o h => y.p a o (x.p a o h), fun n a h => y.a n a (x.a n a h)⟩
/-- a tuple that stands: tracked, or of the written part -/
def SqU (K : PySem.W.Frag) (P : Hp) (a : Addr) (xs : List V) : Prop :=
  P a = some (.tup xs) ∨
    ∃ (o : Obj) (its : Array Value) (n : Nat), K.lookup a = some o ∧ o.cls = .type "tuple" ∧ o.data = .seq its n ∧ its.size ≤ sizeLine ∧ Vals xs its.toList
theorem SqU.t {K : PySem.W.Frag} {H : Hp} {a : Addr} {xs : List V} (h : SqU K H a xs) : SqT K H a xs := h.imp (fun z => .inl z) id
/-- a tuple of the written part -/
def SqW (K : PySem.W.Frag) (a : Addr) (xs : List V) : Prop := ∃ (o : Obj) (its : Array Value) (n : Nat), K.lookup a = some o ∧ o.cls = .type "tuple" ∧ o.data = .seq its n ∧ its.size ≤ sizeLine ∧ Vals xs its.toList
theorem SqW.u {K : PySem.W.Frag} {P : Hp} {a : Addr} {xs : List V} (h : SqW K a xs) : SqU K P a xs := .inr h
mutual
def Rep (C : Con) (g : Gh) : D → V → Prop
  | .non, v => v = .non
  | .bl b, v => v = .bl b
  | .int i, v => v = .int i
  | .str x, v => v = .str x
  | .tup ds, v => ∃ a xs, v = .ref a ∧ g.P a = some (.tup xs) ∧ Reps C g ds xs
  | .lst ds, v => ∃ a xs, v = .ref a ∧ g.P a = some (.lst xs) ∧ Reps C g ds xs
  | .scr ds, v => ∃ a xs, v = .ref a ∧ SqL C.K g.P a xs ∧ Reps C g ds xs
  | .ob c fs, v => ∃ a dx fv, v = .ref a ∧ g.P a = some (.ins (C.ca c) dx fv) ∧ RepF C g fs fv
  | .cel n, v => ∃ a, g.ad n = some a ∧ v = .ref a
  | .cls c, v => v = .ref (C.ca c)
  | .ty s, v => v = .ty s
  | .dct kvs, v => ∃ a xs, v = .ref a ∧ g.P a = some (.dK xs) ∧ RepK C g kvs xs
  | .dtt kvs, v => ∃ a xs, v = .ref a ∧ g.P a = some (.dT xs) ∧ RepT C g kvs xs
  | .raw a, v => v = .ref a
  | .wtp ds, v => ∃ a xs, v = .ref a ∧ SqW C.K a xs ∧ Reps C g ds xs
def Reps (C : Con) (g : Gh) : List D → List V → Prop
  | [], vs => vs = []
  | d :: ds, vs => ∃ v r, vs = v :: r ∧ Rep C g d v ∧ Reps C g ds r
def RepF (C : Con) (g : Gh) : List (Nat × D) → List (Str × V) → Prop
  | [], vs => vs = []
  | (i, d) :: ds, vs => ∃ v r, vs = (C.fn i, v) :: r ∧ Rep C g d v ∧ RepF C g ds r
def RepK (C : Con) (g : Gh) : List (D × D) → List (L2.Key × V) → Prop
  | [], vs => vs = []
  | (k, d) :: ds, vs => ∃ key v r, vs = (key, v) :: r ∧ k = keyD key ∧ Rep C g d v ∧ RepK C g ds r
def RepT (C : Con) (g : Gh) : List (D × D) → List (List L2.Key × V) → Prop
  | [], vs => vs = []
  | (k, d) :: ds, vs => ∃ key v r, vs = (key, v) :: r ∧ k = .tup (key.map keyD) ∧ Rep C g d v ∧ RepT C g ds r
end
theorem Same.sqU {K : PySem.W.Frag} {H H' : Hp} {a : Addr} {xs : List V} (e : ∀ a o, H a = some o → H' a = some o) (h : SqU K H a xs) : SqU K H' a xs := h.imp (e _ _) id
theorem Same.sqL {K : PySem.W.Frag} {H H' : Hp} {a : Addr} {xs : List V} (e : ∀ a o, H a = some o → H' a = some o) (h : SqL K H a xs) : SqL K H' a xs := by
  rcases h with (h | ⟨o, h⟩) | h
  · exact .inl (.inl (e _ _ h))
  · exact .inl (.inr ⟨o, e _ _ h⟩)
  · exact .inr h
mutual
theorem Rep.mono {C : Con} {g g' : Gh} (l : g.le g') : ∀ {d : D} {v : V}, Rep C g d v → Rep C g' d v
  | .non, v, h => h
  | .bl _, v, h => h
  | .int _, v, h => h
  | .str _, v, h => h
  | .tup ds, v, h => by
    unfold Rep at h ⊢
    obtain ⟨a, xs, e, s, r⟩ := h
    exact ⟨a, xs, e, l.p _ _ s, Reps.mono l r⟩
  | .lst ds, v, h => by
    unfold Rep at h ⊢
    obtain ⟨a, xs, e, s, r⟩ := h
    exact ⟨a, xs, e, l.p _ _ s, Reps.mono l r⟩
  | .scr ds, v, h => by
    unfold Rep at h ⊢
    obtain ⟨a, xs, e, s, r⟩ := h
    exact ⟨a, xs, e, Same.sqL l.p s, Reps.mono l r⟩
  | .ob c fs, v, h => by
    unfold Rep at h ⊢
    obtain ⟨a, dx, fv, e, s, r⟩ := h
    exact ⟨a, dx, fv, e, l.p _ _ s, RepF.mono l r⟩
  | .cel n, v, h => by
    unfold Rep at h ⊢
    obtain ⟨a, e, s⟩ := h
    exact ⟨a, l.a _ _ e, s⟩
  | .cls _, v, h => h
  | .ty _, v, h => h
  | .dct kvs, v, h => by
    unfold Rep at h ⊢
    obtain ⟨a, xs, e, s, r⟩ := h
    exact ⟨a, xs, e, l.p _ _ s, RepK.mono l r⟩
  | .dtt kvs, v, h => by
    unfold Rep at h ⊢
    obtain ⟨a, xs, e, s, r⟩ := h
    exact ⟨a, xs, e, l.p _ _ s, RepT.mono l r⟩
  | .raw _, v, h => h
  | .wtp ds, v, h => by
    unfold Rep at h ⊢
    obtain ⟨a, xs, e, s, r⟩ := h
    exact ⟨a, xs, e, s, Reps.mono l r⟩
theorem Reps.mono {C : Con} {g g' : Gh} (l : g.le g') : ∀ {ds : List D} {vs : List V}, Reps C g ds vs → Reps C g' ds vs
  | [], vs, h => h
  | d :: ds, vs, h => by
    unfold Reps at h ⊢
    obtain ⟨v, r, e, a, b⟩ := h
    exact ⟨v, r, e, Rep.mono l a, Reps.mono l b⟩
theorem RepF.mono {C : Con} {g g' : Gh} (l : g.le g') : ∀ {ds : List (Nat × D)} {vs : List (Str × V)}, RepF C g ds vs → RepF C g' ds vs
  | [], vs, h => h
  | (i, d) :: ds, vs, h => by
    unfold RepF at h ⊢
    obtain ⟨v, r, e, a, b⟩ := h
    exact ⟨v, r, e, Rep.mono l a, RepF.mono l b⟩
theorem RepK.mono {C : Con} {g g' : Gh} (l : g.le g') : ∀ {ds : List (D × D)} {vs : List (L2.Key × V)}, RepK C g ds vs → RepK C g' ds vs
  | [], vs, h => h
  | (k, d) :: ds, vs, h => by
    unfold RepK at h ⊢
    obtain ⟨key, v, r, e, ek, a, b⟩ := h
    exact ⟨key, v, r, e, ek, Rep.mono l a, RepK.mono l b⟩
theorem RepT.mono {C : Con} {g g' : Gh} (l : g.le g') : ∀ {ds : List (D × D)} {vs : List (List L2.Key × V)}, RepT C g ds vs → RepT C g' ds vs
  | [], vs, h => h
  | (k, d) :: ds, vs, h => by
    unfold RepT at h ⊢
    obtain ⟨key, v, r, e, ek, a, b⟩ := h
    exact ⟨key, v, r, e, ek, Rep.mono l a, RepT.mono l b⟩
end
theorem Reps.nil {C : Con} {g : Gh} : Reps C g [] [] := by unfold Reps; rfl
theorem Reps.cons {C : Con} {g : Gh} {d : D} {ds : List D} {v : V} {vs : List V} (h : Rep C g d v) (r : Reps C g ds vs) : Reps C g (d :: ds) (v :: vs) := by
  unfold Reps; exact ⟨v, vs, rfl, h, r⟩
theorem Reps.length {C : Con} {g : Gh} : ∀ {ds : List D} {vs : List V}, Reps C g ds vs → ds.length = vs.length
  | [], vs, h => by unfold Reps at h; subst h; rfl
  | d :: ds, vs, h => by
    unfold Reps at h
    obtain ⟨v, r, e, a, b⟩ := h
    subst e
    simp [Reps.length b]
theorem Reps.append {C : Con} {g : Gh} : ∀ {ds es : List D} {vs us : List V}, Reps C g ds vs → Reps C g es us → Reps C g (ds ++ es) (vs ++ us)
  | [], es, vs, us, h, k => by unfold Reps at h; subst h; exact k
  | d :: ds, es, vs, us, h, k => by
    unfold Reps at h
    obtain ⟨v, r, e, a, b⟩ := h
    subst e
    exact Reps.cons a (Reps.append b k)
theorem Reps.get {C : Con} {g : Gh} : ∀ {ds : List D} {vs : List V} {i : Nat} {d : D}, Reps C g ds vs → ds[i]? = some d → ∃ v, vs[i]? = some v ∧ Rep C g d v
  | [], _, i, d, h, e => by simp at e
  | x :: ds, vs, 0, d, h, e => by
    unfold Reps at h
    obtain ⟨v, r, e1, a, b⟩ := h
    subst e1
    simp at e; subst e
    exact ⟨v, rfl, a⟩
  | x :: ds, vs, i + 1, d, h, e => by
    unfold Reps at h
    obtain ⟨v, r, e1, a, b⟩ := h
    subst e1
    obtain ⟨u, h1, h2⟩ := Reps.get (i := i) (d := d) b (by simpa using e)
    exact ⟨u, by simpa using h1, h2⟩
theorem Reps.set {C : Con} {g : Gh} {d : D} {v : V} (r : Rep C g d v) : ∀ {ds : List D} {vs : List V} (i : Nat), Reps C g ds vs → Reps C g (ds.set i d) (vs.set i v)
  | [], vs, i, h => by unfold Reps at h; subst h; simp; exact Reps.nil
  | x :: ds, vs, 0, h => by
    unfold Reps at h
    obtain ⟨u, q, e1, a, b⟩ := h
    subst e1
    exact Reps.cons r b
  | x :: ds, vs, i + 1, h => by
    unfold Reps at h
    obtain ⟨u, q, e1, a, b⟩ := h
    subst e1
    exact Reps.cons a (Reps.set r i b)
theorem Reps.take {C : Con} {g : Gh} : ∀ {ds : List D} {vs : List V} (i : Nat), Reps C g ds vs → Reps C g (ds.take i) (vs.take i)
  | _, _, 0, h => by simp; exact Reps.nil
  | [], vs, i + 1, h => by unfold Reps at h; subst h; simp; exact Reps.nil
  | x :: ds, vs, i + 1, h => by
    unfold Reps at h
    obtain ⟨u, q, e1, a, b⟩ := h
    subst e1
    exact Reps.cons a (Reps.take i b)
theorem Reps.drop {C : Con} {g : Gh} : ∀ {ds : List D} {vs : List V} (i : Nat), Reps C g ds vs → Reps C g (ds.drop i) (vs.drop i)
  | _, _, 0, h => h
  | [], vs, i + 1, h => by unfold Reps at h; subst h; simp; exact Reps.nil
  | x :: ds, vs, i + 1, h => by
    unfold Reps at h
    obtain ⟨u, q, e1, a, b⟩ := h
    subst e1
    exact Reps.drop i b
def Keep (g : Gh) (H H' : Hp) : Prop := ∀ a o, H a = some o → (∀ ps, o ≠ .tbl ps) → (∀ n, g.ad n ≠ some a) → H' a = some o
structure Nx (g : Gh) (H : Hp) (g' : Gh) (H' : Hp) : Prop where
  le : g.le g'
  kp : Keep g H H'
  dm : ∀ a, H' a = none → H a = none
  nc : ∀ n a, g'.ad n = some a → g.ad n = some a ∨ H a = none
  np : ∀ a o, g'.P a = some o → g.P a = some o ∨ H a = none
theorem Nx.refl (g : Gh) (H : Hp) : Nx g H g H := ⟨.refl g, fun _ _ h _ _ => h, fun _ h => h, fun _ _ h => .inl h, fun _ _ h => .inl h⟩
theorem Nx.trans {g g1 g2 : Gh} {H H1 H2 : Hp} (x : Nx g H g1 H1) (y : Nx g1 H1 g2 H2) : Nx g H g2 H2 where
  le := x.le.trans y.le
  kp := fun a o h t c => y.kp a o (x.kp a o h t c) t fun n z => (x.nc n a z).elim (c n) fun q => by rw [q] at h; cases h
  dm := fun a h => x.dm a (y.dm a h)
  nc := fun n a h => (y.nc n a h).elim (x.nc n a) fun q => .inr (x.dm a q)
  np := fun a o h => (y.np a o h).elim (x.np a o) fun q => .inr (x.dm a q)
def CellRep (C : Con) (g : Gh) (H : Hp) (a : Addr) : Cell → Prop
  | .lst ds => ∃ xs, H a = some (.lst xs) ∧ Reps C g ds xs
  | .ins c fs => ∃ dx fv, H a = some (.ins (C.ca c) dx fv) ∧ RepF C g fs fv
  | .dct kvs => ∃ xs, H a = some (.dK xs) ∧ RepK C g kvs xs
structure GOk (C : Con) (g : Gh) (H : Hp) (st : Store) : Prop where
  p : ∀ a o, g.P a = some o → H a = some o
  nt : ∀ a ps, g.P a ≠ some (.tbl ps)
  np : ∀ n a, g.ad n = some a → g.P a = none
  inj : ∀ n m a, g.ad n = some a → g.ad m = some a → n = m
  cell : ∀ n c, st[n]? = some c → ∃ a, g.ad n = some a ∧ CellRep C g H a c
  dom : ∀ n a, g.ad n = some a → n < st.length
  tab : C.TT H
inductive Slot where
  | no | val (d : D) | own (ds : List D) | exc (x : Exc)
abbrev Envr := List Slot
structure Bd where
  C : Con
  g0 : Gh
  H0 : Hp
def XRep (C : Con) (g : Gh) (H : Hp) (x : Exc) (cls : Value) (d : Option Addr) : Prop :=
  cls = .ref (C.ca x.c) ∧ ∃ dd fv, d = some dd ∧ H dd = some (.xd fv) ∧ RepF C g x.fs fv
structure EOk (C : Con) (g : Gh) (H0 : Hp) (env : Envr) (σ : L2.St) (H : Hp) : Prop where
  len : env.length = σ.length
  val : ∀ (i : Nat) (d : D), env[i]? = some (Slot.val d) → ∃ v : V, σ[i]? = some (some v) ∧ Rep C g d v
  own : ∀ (i : Nat) (ds : List D), env[i]? = some (Slot.own ds) → ∃ (a : Addr) (xs : List V), σ[i]? = some (some (V.ref a)) ∧ H a = some (.lst xs) ∧ Reps C g ds xs ∧ g.P a = none ∧ (∀ n, g.ad n ≠ some a) ∧ H0 a = none
  dis : ∀ (i j : Nat) (ds es : List D) (a : Addr), i ≠ j → env[i]? = some (Slot.own ds) → env[j]? = some (Slot.own es) → σ[i]? = some (some (V.ref a)) → σ[j]? ≠ some (some (V.ref a))
structure BOk (B : Bd) (g : Gh) (env : Envr) (st : Store) (σ : L2.St) (H : Hp) : Prop where
  ok : GOk B.C g H st
  nx : Nx B.g0 B.H0 g H
  en : EOk B.C g B.H0 env σ H
/-- the tables stay as they are told while all else stays -/
def tabO : HO → Prop
  | .tbl _ => True | .ext _ => True | _ => False
structure ConOk (C : Con) : Prop where
  tt : ∀ H H', C.TT H → (∀ a o, H a = some o → tabO o → H' a = some o) → C.TT H'
section
variable {C : Con} {g g' : Gh} {H H' : Hp} {st st' : Store} {env : Envr} {σ : L2.St} {B : Bd}
/-- a new object that never changes -/
def Gh.add (g : Gh) (p : Addr) (o : HO) : Gh := ⟨upd g.P p o, g.ad⟩
theorem Gh.le_add {p : Addr} {o : HO} (h : g.P p = none) : g.le (g.add p o) := ⟨fun a u e => by
  show upd g.P p o a = some u
  rw [upd_ne (ne_of_none e h)]; exact e, fun _ _ h => h⟩
theorem GOk.free (k : GOk C g H st) {p : Addr} (h : H p = none) : g.P p = none := by
  cases e : g.P p with
  | none => rfl
  | some o => rw [k.p p o e] at h; cases h
theorem CellRep.mono {a : Addr} (l : g.le g') (hk : H' a = H a) : ∀ {c : Cell}, CellRep C g H a c → CellRep C g' H' a c
  | .lst ds, ⟨xs, h, r⟩ => ⟨xs, hk.trans h, Reps.mono l r⟩
  | .ins c fs, ⟨dx, fv, h, r⟩ => ⟨dx, fv, hk.trans h, RepF.mono l r⟩
  | .dct kvs, ⟨xs, h, r⟩ => ⟨xs, hk.trans h, RepK.mono l r⟩
theorem CellRep.there {a : Addr} {c : Cell} (h : CellRep C g H a c) : H a ≠ none := by
  cases c with
  | lst ds => obtain ⟨xs, h, _⟩ := h; rw [h]; simp
  | ins c fs => obtain ⟨dx, fv, h, _⟩ := h; rw [h]; simp
  | dct kvs => obtain ⟨xs, h, _⟩ := h; rw [h]; simp
/-- the heap grows by untracked-by-us objects: everything stays -/
theorem GOk.grow (ck : ConOk C) (k : GOk C g H st) (e : ∀ a o, H a = some o → H' a = some o) : GOk C g H' st where
  p := fun a o h => e _ _ (k.p a o h)
  nt := k.nt
  np := k.np
  inj := k.inj
  cell := fun n c h => by
    obtain ⟨a, h1, h2⟩ := k.cell n c h
    refine ⟨a, h1, ?_⟩
    cases c with
    | lst ds => obtain ⟨xs, h, r⟩ := h2; exact ⟨xs, e _ _ h, r⟩
    | ins c fs => obtain ⟨dx, fv, h, r⟩ := h2; exact ⟨dx, fv, e _ _ h, r⟩
    | dct kvs => obtain ⟨xs, h, r⟩ := h2; exact ⟨xs, e _ _ h, r⟩
  dom := k.dom
  tab := ck.tt _ _ k.tab fun a o h _ => e a o h
theorem EOk.grow (k : EOk C g B.H0 env σ H) (e : ∀ a o, H a = some o → H' a = some o) : EOk C g B.H0 env σ H' where
  len := k.len
  val := k.val
  own := fun i ds h => by
    obtain ⟨a, xs, h1, h2, h3⟩ := k.own i ds h
    exact ⟨a, xs, h1, e _ _ h2, h3⟩
  dis := k.dis
theorem dm_of (e : ∀ a o, H a = some o → H' a = some o) : ∀ a, H' a = none → H a = none := fun a h => by
  cases q : H a with
  | none => rfl
  | some o => rw [e a o q] at h; cases h
theorem BOk.grow (ck : ConOk B.C) (k : BOk B g env st σ H) (e : ∀ a o, H a = some o → H' a = some o) : BOk B g env st σ H' :=
  ⟨k.ok.grow ck e, k.nx.trans ⟨.refl g, fun a o h _ _ => e a o h, dm_of e, fun _ _ h => .inl h, fun _ _ h => .inl h⟩, k.en.grow e⟩
theorem GOk.le_add (k : GOk C g H st) {p : Addr} {o : HO} (h : H p = none) : g.le (g.add p o) := Gh.le_add (k.free h)
theorem GOk.nx_new (k : GOk C g H st) {p : Addr} {o : HO} (h : H p = none) : Nx g H (g.add p o) (upd H p o) := by
  have e : ∀ a u, H a = some u → upd H p o a = some u := fun a u q => by rw [upd_ne (ne_of_none q h)]; exact q
  refine ⟨k.le_add h, fun a u q _ _ => e a u q, dm_of e, fun _ _ z => .inl z, fun a u q => ?_⟩
  by_cases ha : a = p
  · exact .inr (by rw [ha]; exact h)
  · exact .inl (by
      have q' : upd g.P p o a = some u := q
      rw [upd_ne ha] at q'; exact q')
/-- a new object, laid at p, joins what never changes -/
theorem BOk.new (ck : ConOk B.C) (k : BOk B g env st σ H) {p : Addr} {o : HO} (h : H p = none) (nt : ∀ ps, o ≠ .tbl ps) (hp : ∀ n, g.ad n ≠ some p) : BOk B (g.add p o) env st σ (upd H p o) := by
  have e : ∀ a u, H a = some u → upd H p o a = some u := fun a u q => by rw [upd_ne (ne_of_none q h)]; exact q
  have l : g.le (g.add p o) := k.ok.le_add h
  have k1 := k.grow ck e
  have hP : ∀ a, a ≠ p → (g.add p o).P a = g.P a := fun a ha => upd_ne ha
  refine ⟨⟨fun a u q => ?_, fun a ps q => ?_, fun n a q => ?_, k.ok.inj, fun n c q => ?_, k.ok.dom, k1.ok.tab⟩, k.nx.trans ⟨l, fun a u q _ _ => e a u q, dm_of e, fun _ _ z => .inl z, fun a u q => ?_⟩, ⟨k.en.len, fun i d q => ?_, fun i ds q => ?_, k.en.dis⟩⟩
  · by_cases ha : a = p
    · subst ha
      rw [upd_same]
      have : upd g.P a o a = some u := q
      rw [upd_same] at this; exact this
    · rw [upd_ne ha]
      rw [hP a ha] at q
      exact k.ok.p a u q
  · by_cases ha : a = p
    · subst ha
      have : upd g.P a o a = some (.tbl ps) := q
      rw [upd_same] at this
      exact nt ps (Option.some.inj this)
    · rw [hP a ha] at q; exact k.ok.nt a ps q
  · rw [hP a (fun z => hp n (by rw [← z]; exact q))]
    exact k.ok.np n a q
  · obtain ⟨a, h1, h2⟩ := k.ok.cell n c q
    exact ⟨a, h1, h2.mono l (upd_ne fun z => hp n (by rw [← z]; exact h1))⟩
  · by_cases ha : a = p
    · exact .inr (by rw [ha]; exact h)
    · rw [hP a ha] at q; exact .inl q
  · obtain ⟨v, h1, h2⟩ := k.en.val i d q
    exact ⟨v, h1, h2.mono l⟩
  · obtain ⟨a, xs, h1, h2, h3, h4, h5⟩ := k.en.own i ds q
    have ha : a ≠ p := ne_of_none h2 h
    exact ⟨a, xs, h1, e _ _ h2, h3.mono l, by rw [hP a ha]; exact h4, h5⟩
end
end G
namespace G
open PySem PySem.Spec PyProof.Rows L2
abbrev QE := D → Store → Prop
abbrev XQ := Exc → Store → Prop
abbrev WE := Envr → Store → QE → XQ → Prop
abbrev WA := Envr → Store → (List D → Store → Prop) → XQ → Prop
abbrev WT := Envr → Store → (Bool → Store → Prop) → XQ → Prop
/-- a def's promise -/
abbrev WF := List D → Store → QE → XQ → Prop
structure EW where
  nx : Envr → Store → Prop
  rt : D → Store → Prop
  bk : Envr → Store → Prop
  ct : Envr → Store → Prop
  ex : Exc → Envr → Store → Prop
abbrev WS := Envr → Store → EW → Prop
def QV (B : Bd) (g : Gh) (H : Hp) (env : Envr) (σ : L2.St) (Q : QE) : VK := fun v H' => ∃ d st' g', Nx g H g' H' ∧ BOk B g' env st' σ H' ∧ Rep B.C g' d v ∧ Q d st'
/-- a value that is only read: told, or a list of the frame's own -/
def RepB (B : Bd) (g : Gh) (env : Envr) (σ : L2.St) (d : D) (v : V) : Prop := Rep B.C g d v ∨ ∃ (i : Nat) (ds : List D), env[i]? = some (Slot.own ds) ∧ d = .lst ds ∧ σ[i]? = some (some v)
def RepsB (B : Bd) (g : Gh) (env : Envr) (σ : L2.St) : List D → List V → Prop
  | [], vs => vs = []
  | d :: ds, vs => ∃ v r, vs = v :: r ∧ RepB B g env σ d v ∧ RepsB B g env σ ds r
def QVb (B : Bd) (g : Gh) (H : Hp) (env : Envr) (σ : L2.St) (Q : D → Store → Prop) : VK := fun v H' => ∃ d st' g', Nx g H g' H' ∧ BOk B g' env st' σ H' ∧ RepB B g' env σ d v ∧ Q d st'
def QAb (B : Bd) (g : Gh) (H : Hp) (env : Envr) (σ : L2.St) (Q : List D → Store → Prop) : List V → Hp → Prop := fun vs H' => ∃ ds st' g', Nx g H g' H' ∧ BOk B g' env st' σ H' ∧ RepsB B g' env σ ds vs ∧ Q ds st'
def QB (B : Bd) (g : Gh) (H : Hp) (env : Envr) (σ : L2.St) (Q : Bool → Store → Prop) : Bool → Hp → Prop := fun b H' => ∃ st' g', Nx g H g' H' ∧ BOk B g' env st' σ H' ∧ Q b st'
def QA (B : Bd) (g : Gh) (H : Hp) (env : Envr) (σ : L2.St) (Q : List D → Store → Prop) : List V → Hp → Prop := fun vs H' => ∃ ds st' g', Nx g H g' H' ∧ BOk B g' env st' σ H' ∧ Reps B.C g' ds vs ∧ Q ds st'
def QN (B : Bd) (g : Gh) (Q : Envr → Store → Prop) : L2.St → Hp → Prop := fun σ' H' => ∃ env' st' g', g.le g' ∧ BOk B g' env' st' σ' H' ∧ Q env' st'
def QR (B : Bd) (g : Gh) (Q : QE) : VK := fun v H' => ∃ d st' g', g.le g' ∧ GOk B.C g' H' st' ∧ Nx B.g0 B.H0 g' H' ∧ Rep B.C g' d v ∧ Q d st'
def EndsOf (B : Bd) (g : Gh) (D : EW) : Ends := { nx := QN B g D.nx, rt := QR B g D.rt, bk := QN B g D.bk, ct := QN B g D.ct }
/-- how an error that leaves is told to the layer below -/
def RW (B : Bd) (W : WX) (env : Envr) (σ : L2.St) (R : XQ) : Prop := ∀ x g st H cls d, BOk B g env st σ H → XRep B.C g H x cls d → R x st → W cls d σ H
def RWs (B : Bd) (W : WX) (R : Exc → Envr → Store → Prop) : Prop := ∀ x g env st σ H cls d, BOk B g env st σ H → XRep B.C g H x cls d → R x env st → W cls d σ H
theorem RWs.at {B : Bd} {W : WX} {R : Exc → Envr → Store → Prop} (r : RWs B W R) (env : Envr) (σ : L2.St) : RW B W env σ (fun x st => R x env st) := fun x g st H cls d b x' q => r x g env st σ H cls d b x' q
structure J (B : Bd) (X : Cx) (W : WX) : Prop where
  ck : ConOk B.C
  hK : X.K = B.C.K
  tk : Takes X W
  po : PassesOwn (model X.prog X.w) X.A X.env X.xe
  calm : X.calm = true
  nd : X.N.Nodup
  hd : X.A.handled = none
  hu : X.A.units + 64 < cLine
  hu2 : X.A.units + 150 < cLine
structure PEg (B : Bd) (X : Cx) (W : WX) (e : Expr) (w : WE) : Prop where
  run : ∀ (pins : List (Addr × Obj)) (s : Shared) (σ : L2.St) (H : Hp) (g : Gh) (env : Envr) (st : Store) (Q : QE) (R : XQ), Inv X pins σ H s → BOk B g env st σ H → RW B W env σ R → w env st Q R →
    wpAny (model X.prog X.w) X.A (eval e X.env) (EP X pins σ (QV B g H env σ Q)) X.xe s
structure PBg (B : Bd) (X : Cx) (W : WX) (e : Expr) (w : WE) : Prop where
  run : ∀ (pins : List (Addr × Obj)) (s : Shared) (σ : L2.St) (H : Hp) (g : Gh) (env : Envr) (st : Store) (Q : QE) (R : XQ), Inv X pins σ H s → BOk B g env st σ H → RW B W env σ R → w env st Q R →
    wpAny (model X.prog X.w) X.A (eval e X.env) (EP X pins σ (QVb B g H env σ Q)) X.xe s
structure PAb (B : Bd) (X : Cx) (W : WX) (es : List Expr) (w : WA) : Prop where
  run : ∀ (pos : Pos) (pins : List (Addr × Obj)) (s : Shared) (σ : L2.St) (H : Hp) (g : Gh) (env : Envr) (st : Store) (Q : List D → Store → Prop) (R : XQ), Inv X pins σ H s → BOk B g env st σ H → RW B W env σ R → w env st Q R →
    wpAny (model X.prog X.w) X.A (spliced (backTo pos (starEach es X.env))) (AP X pins σ (QAb B g H env σ Q)) X.xe s
structure PTg (B : Bd) (X : Cx) (W : WX) (e : Expr) (w : WT) : Prop where
  run : ∀ (pins : List (Addr × Obj)) (s : Shared) (σ : L2.St) (H : Hp) (g : Gh) (env : Envr) (st : Store) (Q : Bool → Store → Prop) (R : XQ), Inv X pins σ H s → BOk B g env st σ H → RW B W env σ R → w env st Q R →
    wpAny (model X.prog X.w) X.A (isTrue e X.env (eval e X.env)) (TP X pins σ (QB B g H env σ Q)) X.xe s
structure PAg (B : Bd) (X : Cx) (W : WX) (es : List Expr) (w : WA) : Prop where
  run : ∀ (pos : Pos) (pins : List (Addr × Obj)) (s : Shared) (σ : L2.St) (H : Hp) (g : Gh) (env : Envr) (st : Store) (Q : List D → Store → Prop) (R : XQ), Inv X pins σ H s → BOk B g env st σ H → RW B W env σ R → w env st Q R →
    wpAny (model X.prog X.w) X.A (spliced (backTo pos (starEach es X.env))) (AP X pins σ (QA B g H env σ Q)) X.xe s
structure PSg (B : Bd) (X : Cx) (W : WX) (st : Stmt) (w : WS) : Prop where
  run : ∀ (pins : List (Addr × Obj)) (s : Shared) (σ : L2.St) (H : Hp) (g : Gh) (env : Envr) (sto : Store) (D : EW), Inv X pins σ H s → BOk B g env sto σ H → RWs B W D.ex → w env sto D →
    wpAny (model X.prog X.w) X.A (exec st X.env) (SP X pins (EndsOf B g D)) X.xe s
structure PSsg (B : Bd) (X : Cx) (W : WX) (st : List Stmt) (w : WS) : Prop where
  run : ∀ (pins : List (Addr × Obj)) (s : Shared) (σ : L2.St) (H : Hp) (g : Gh) (env : Envr) (sto : Store) (D : EW), Inv X pins σ H s → BOk B g env sto σ H → RWs B W D.ex → w env sto D →
    wpAny (model X.prog X.w) X.A (execs st X.env) (SP X pins (EndsOf B g D)) X.xe s
section
variable {B : Bd} {X : Cx} {W : WX} {e : Expr} {w : WE}
def tg (B : Bd) (W : WX) (w : WE) : TE := fun σ H Q => ∃ g env st Qg R, BOk B g env st σ H ∧ RW B W env σ R ∧ w env st Qg R ∧ ∀ v H', QV B g H env σ Qg v H' → Q v H'
def tgb (B : Bd) (W : WX) (w : WE) : TE := fun σ H Q => ∃ g env st Qg R, BOk B g env st σ H ∧ RW B W env σ R ∧ w env st Qg R ∧ ∀ v H', QVb B g H env σ Qg v H' → Q v H'
def tgab (B : Bd) (W : WX) (w : WA) : TA := fun σ H Q => ∃ g env st Qg R, BOk B g env st σ H ∧ RW B W env σ R ∧ w env st Qg R ∧ ∀ v H', QAb B g H env σ Qg v H' → Q v H'
def tgt (B : Bd) (W : WX) (w : WT) : TT := fun σ H Q => ∃ g env st Qg R, BOk B g env st σ H ∧ RW B W env σ R ∧ w env st Qg R ∧ ∀ b H', QB B g H env σ Qg b H' → Q b H'
def tga (B : Bd) (W : WX) (w : WA) : TA := fun σ H Q => ∃ g env st Qg R, BOk B g env st σ H ∧ RW B W env σ R ∧ w env st Qg R ∧ ∀ v H', QA B g H env σ Qg v H' → Q v H'
def tgs (B : Bd) (W : WX) (w : WS) : TS := fun D σ H => ∃ g env st Dw, BOk B g env st σ H ∧ RWs B W Dw.ex ∧ w env st Dw ∧ (∀ σ' H', QN B g Dw.nx σ' H' → D.nx σ' H') ∧ (∀ v H', QR B g Dw.rt v H' → D.rt v H') ∧ (∀ σ' H', QN B g Dw.bk σ' H' → D.bk σ' H') ∧ (∀ σ' H', QN B g Dw.ct σ' H' → D.ct σ' H')
theorem EP.imp {pins : List (Addr × Obj)} {σ : L2.St} {Q Q' : VK} {u : Value} {s : Shared} (h : EP X pins σ Q u s) (q : ∀ v H', Q v H' → Q' v H') : EP X pins σ Q' u s := by
  obtain ⟨v, H', I, r, z⟩ := h
  exact ⟨v, H', I, r, q v H' z⟩
theorem TP.imp {pins : List (Addr × Obj)} {σ : L2.St} {Q Q' : Bool → Hp → Prop} {b : Bool} {s : Shared} (h : TP X pins σ Q b s) (q : ∀ v H', Q v H' → Q' v H') : TP X pins σ Q' b s := by
  obtain ⟨H', I, z⟩ := h
  exact ⟨H', I, q b H' z⟩
theorem SP.imp {pins : List (Addr × Obj)} {D D' : Ends} {f : Flow} {s : Shared} (h : SP X pins D f s) (h1 : ∀ σ' H', D.nx σ' H' → D'.nx σ' H') (h2 : ∀ v H', D.rt v H' → D'.rt v H') (h3 : ∀ σ' H', D.bk σ' H' → D'.bk σ' H') (h4 : ∀ σ' H', D.ct σ' H' → D'.ct σ' H') : SP X pins D' f s := by
  cases f with
  | next => obtain ⟨σ', H', I, q⟩ := h; exact ⟨σ', H', I, h1 _ _ q⟩
  | brk => obtain ⟨σ', H', I, q⟩ := h; exact ⟨σ', H', I, h3 _ _ q⟩
  | cont => obtain ⟨σ', H', I, q⟩ := h; exact ⟨σ', H', I, h4 _ _ q⟩
  | ret u => obtain ⟨v, σ', H', I, r, q⟩ := h; exact ⟨v, σ', H', I, r, h2 _ _ q⟩
theorem PEg.pe (h : PEg B X W e w) : PE X e (tg B W w) := ⟨fun pins s σ H Q I ⟨g, env, st, Qg, R, b, r, hw, k⟩ =>
  thn (h.run pins s σ H g env st Qg R I b r hw) fun _ _ z => EP.imp z k⟩
theorem PBg.pe (h : PBg B X W e w) : PE X e (tgb B W w) := ⟨fun pins s σ H Q I ⟨g, env, st, Qg, R, b, r, hw, k⟩ =>
  thn (h.run pins s σ H g env st Qg R I b r hw) fun _ _ z => EP.imp z k⟩
theorem PEg.b (h : PEg B X W e w) : PBg B X W e w := ⟨fun pins s σ H g env st Q R I b r hw =>
  thn (h.run pins s σ H g env st Q R I b r hw) fun _ _ z => EP.imp z fun v H' ⟨d, st', g', l, b', r', q⟩ => ⟨d, st', g', l, b', .inl r', q⟩⟩
theorem PAb.pa {w : WA} {es : List Expr} (h : PAb B X W es w) : PA X es (tgab B W w) := ⟨fun pos pins s σ H Q I ⟨g, env, st, Qg, R, b, r, hw, k⟩ =>
  thn (h.run pos pins s σ H g env st Qg R I b r hw) fun _ _ ⟨vs, H', I', r', z⟩ => ⟨vs, H', I', r', k _ _ z⟩⟩
theorem PBg.of {t : TE} (h : PE X e t) (k : ∀ (σ : L2.St) (H : Hp) (g : Gh) (env : Envr) (st : Store) (Q : QE) (R : XQ), BOk B g env st σ H → RW B W env σ R → w env st Q R → t σ H (QVb B g H env σ Q)) : PBg B X W e w :=
  ⟨fun pins s σ H g env st Q R I b r hw => h.run pins s σ H _ I (k σ H g env st Q R b r hw)⟩
theorem RepB.mono {g g' : Gh} {env : Envr} {σ : L2.St} {d : D} {v : V} (l : g.le g') (h : RepB B g env σ d v) : RepB B g' env σ d v := h.imp (fun r => r.mono l) id
theorem RepsB.mono {g g' : Gh} {env : Envr} {σ : L2.St} (l : g.le g') : ∀ {ds : List D} {vs : List V}, RepsB B g env σ ds vs → RepsB B g' env σ ds vs
  | [], _, h => h
  | _ :: _, _, ⟨v, r, e, a, b⟩ => ⟨v, r, e, a.mono l, RepsB.mono l b⟩
theorem PAg.pa {w : WA} {es : List Expr} (h : PAg B X W es w) : PA X es (tga B W w) := ⟨fun pos pins s σ H Q I ⟨g, env, st, Qg, R, b, r, hw, k⟩ =>
  thn (h.run pos pins s σ H g env st Qg R I b r hw) fun _ _ ⟨vs, H', I', r', z⟩ => ⟨vs, H', I', r', k _ _ z⟩⟩
theorem PSg.ps {w : WS} {st : Stmt} (h : PSg B X W st w) : PS X st (tgs B W w) := ⟨fun pins s σ H Q I ⟨g, env, st, Dw, b, r, hw, k1, k2, k3, k4⟩ =>
  thn (h.run pins s σ H g env st Dw I b r hw) fun _ _ z => SP.imp z k1 k2 k3 k4⟩
theorem PSsg.ps {w : WS} {st : List Stmt} (h : PSsg B X W st w) : PSs X st (tgs B W w) := ⟨fun pins s σ H Q I ⟨g, env, st, Dw, b, r, hw, k1, k2, k3, k4⟩ =>
  thn (h.run pins s σ H g env st Dw I b r hw) fun _ _ z => SP.imp z k1 k2 k3 k4⟩
theorem PEg.of {t : TE} (h : PE X e t) (k : ∀ (σ : L2.St) (H : Hp) (g : Gh) (env : Envr) (st : Store) (Q : QE) (R : XQ), BOk B g env st σ H → RW B W env σ R → w env st Q R → t σ H (QV B g H env σ Q)) : PEg B X W e w :=
  ⟨fun pins s σ H g env st Q R I b r hw => h.run pins s σ H _ I (k σ H g env st Q R b r hw)⟩
theorem PTg.of {w : WT} {t : TT} (h : PT X e t) (k : ∀ (σ : L2.St) (H : Hp) (g : Gh) (env : Envr) (st : Store) (Q : Bool → Store → Prop) (R : XQ), BOk B g env st σ H → RW B W env σ R → w env st Q R → t σ H (QB B g H env σ Q)) : PTg B X W e w :=
  ⟨fun pins s σ H g env st Q R I b r hw => h.run pins s σ H _ I (k σ H g env st Q R b r hw)⟩
theorem PSg.of {w : WS} {st : Stmt} {t : TS} (h : PS X st t) (k : ∀ (σ : L2.St) (H : Hp) (g : Gh) (env : Envr) (st : Store) (D : EW), BOk B g env st σ H → RWs B W D.ex → w env st D → t (EndsOf B g D) σ H) : PSg B X W st w :=
  ⟨fun pins s σ H g env st D I b r hw => h.run pins s σ H _ I (k σ H g env st D b r hw)⟩
theorem QV.le {g g1 : Gh} {H0 H1 : Hp} {env : Envr} {σ : L2.St} {Q : QE} {v : V} {H : Hp} (l : Nx g H0 g1 H1) (h : QV B g1 H1 env σ Q v H) : QV B g H0 env σ Q v H := by
  obtain ⟨d, st, g', a, b⟩ := h
  exact ⟨d, st, g', l.trans a, b⟩
theorem QB.le {g g1 : Gh} {H0 H1 : Hp} {env : Envr} {σ : L2.St} {Q : Bool → Store → Prop} {v : Bool} {H : Hp} (l : Nx g H0 g1 H1) (h : QB B g1 H1 env σ Q v H) : QB B g H0 env σ Q v H := by
  obtain ⟨st, g', a, b⟩ := h
  exact ⟨st, g', l.trans a, b⟩
theorem QA.le {g g1 : Gh} {H0 H1 : Hp} {env : Envr} {σ : L2.St} {Q : List D → Store → Prop} {v : List V} {H : Hp} (l : Nx g H0 g1 H1) (h : QA B g1 H1 env σ Q v H) : QA B g H0 env σ Q v H := by
  obtain ⟨d, st, g', a, b⟩ := h
  exact ⟨d, st, g', l.trans a, b⟩
theorem QN.le {g g1 : Gh} {Q : Envr → Store → Prop} {σ : L2.St} {H : Hp} (l : g.le g1) (h : QN B g1 Q σ H) : QN B g Q σ H := by
  obtain ⟨d, st, g', a, b⟩ := h
  exact ⟨d, st, g', l.trans a, b⟩
theorem QR.le {g g1 : Gh} {Q : QE} {v : V} {H : Hp} (l : g.le g1) (h : QR B g1 Q v H) : QR B g Q v H := by
  obtain ⟨d, st, g', a, b⟩ := h
  exact ⟨d, st, g', l.trans a, b⟩
end
section
variable {B : Bd} {X : Cx} {W : WX} {a b c e : Expr} {es : List Expr} {wa wb wc : WE} {ta : WA} {pos : Pos}
/-- a two-place operation on values -/
abbrev O2 := D → D → Store → QE → XQ → Prop
abbrev O1 := D → Store → QE → XQ → Prop
abbrev ON := List D → Store → QE → XQ → Prop
def wBin (o : O2) (wa wb : WE) : WE := fun env st Q R => wa env st (fun d1 st1 => wb env st1 (fun d2 st2 => o d1 d2 st2 Q R) R) R
def wUn (o : O1) (wa : WE) : WE := fun env st Q R => wa env st (fun d st1 => o d st1 Q R) R
def wArgs (o : ON) (ta : WA) : WE := fun env st Q R => ta env st (fun ds st1 => o ds st1 Q R) R
def OpV (B : Bd) (W : WX) (r : R2) (o : O2) : Prop := ∀ (gb g : Gh) (Hb : Hp) (env : Envr) (st : Store) (σ : L2.St) (H : Hp) (d1 d2 : D) (x y : V) (Q : QE) (R : XQ), Nx gb Hb g H → BOk B g env st σ H → RW B W env σ R → RepB B g env σ d1 x → RepB B g env σ d2 y → o d1 d2 st Q R → r x y H (QV B gb Hb env σ Q)
def NV (B : Bd) (W : WX) (r : List V → Hp → VK → Prop) (o : ON) : Prop := ∀ (gb g : Gh) (Hb : Hp) (env : Envr) (st : Store) (σ : L2.St) (H : Hp) (ds : List D) (xs : List V) (Q : QE) (R : XQ), Nx gb Hb g H → BOk B g env st σ H → RW B W env σ R → RepsB B g env σ ds xs → o ds st Q R → r xs H (QV B gb Hb env σ Q)
theorem g_two {r : R2} {o : O2} (h : ∀ ta tb, PE X a ta → PE X b tb → PE X e (tOp r ta tb)) (ov : OpV B W r o) (ha : PBg B X W a wa) (hb : PBg B X W b wb) : PEg B X W e (wBin o wa wb) := by
  refine PEg.of (h _ _ ha.pe hb.pe) fun σ H g env st Q R bo rw hw => ?_
  refine ⟨g, env, st, _, R, bo, rw, hw, fun x H1 ⟨d1, st1, g1, l1, b1, r1, h1⟩ => ?_⟩
  refine ⟨g1, env, st1, _, R, b1, rw, h1, fun y H2 ⟨d2, st2, g2, l2, b2, r2, h2⟩ => ?_⟩
  exact ov g g2 H env st2 σ H2 d1 d2 x y Q R (l1.trans l2) b2 rw (r1.mono l2.le) r2 h2
theorem g_many {r : List V → Hp → VK → Prop} {o : ON} (h : ∀ t, PA X es t → PE X e (tCB r t)) (ov : NV B W r o) (ha : PAb B X W es ta) : PEg B X W e (wArgs o ta) := by
  refine PEg.of (h _ ha.pa) fun σ H g env st Q R bo rw hw => ?_
  refine ⟨g, env, st, _, R, bo, rw, hw, fun x H1 ⟨d1, st1, g1, l1, b1, r1, h1⟩ => ?_⟩
  exact ov g g1 H env st1 σ H1 d1 x Q R l1 b1 rw r1 h1
def wVar (i : Nat) : WE := fun env st Q _ => match env[i]? with
  | some (Slot.val d) => Q d st
  | _ => False
def wC (d : D) : WE := fun _ st Q _ => Q d st
theorem g_var (i : Nat) {x : Str} (hN : X.N[i]? = some x := by rfl) (hv : Vis X.env.scope x := by first | exact Or.inl rfl | exact Or.inr (Or.inl rfl) | exact Or.inr (Or.inr rfl)) (hd : (x == ("__debug__" : Str)) = false := by decide)
    (hcd : (x == ("__classdict__" : Str)) = false := by decide) : PEg B X W (.Name x pos) (wVar i) := by
  refine PEg.of (pe_var hN hv hd hcd) fun σ H g env st Q R bo rw hw => ?_
  unfold wVar at hw
  split at hw
  · rename_i d e
    obtain ⟨v, h1, h2⟩ := bo.en.val i d e
    exact ⟨v, h1, d, st, g, .refl g _, bo, h2, hw⟩
  · exact hw.elim
/-- a name that is only read -/
def wVarB (i : Nat) : WE := fun env st Q _ => match env[i]? with
  | some (Slot.val d) => Q d st
  | some (Slot.own ds) => Q (.lst ds) st
  | _ => False
theorem gb_var (i : Nat) {x : Str} (hN : X.N[i]? = some x := by rfl) (hv : Vis X.env.scope x := by first | exact Or.inl rfl | exact Or.inr (Or.inl rfl) | exact Or.inr (Or.inr rfl)) (hd : (x == ("__debug__" : Str)) = false := by decide)
    (hcd : (x == ("__classdict__" : Str)) = false := by decide) : PBg B X W (.Name x pos) (wVarB i) := by
  refine PBg.of (pe_var hN hv hd hcd) fun σ H g env st Q R bo rw hw => ?_
  unfold wVarB at hw
  split at hw
  · rename_i d e
    obtain ⟨v, h1, h2⟩ := bo.en.val i d e
    exact ⟨v, h1, d, st, g, .refl g _, bo, .inl h2, hw⟩
  · rename_i ds e
    obtain ⟨a, xs, h1, h2⟩ := bo.en.own i ds e
    exact ⟨_, h1, .lst ds, st, g, .refl g _, bo, .inr ⟨i, ds, e, rfl, h1⟩, hw⟩
  · exact hw.elim
theorem g_const {t : TE} {d : D} {v : V} (h : PE X e (tC v)) (r : ∀ g, Rep B.C g d v) : PEg B X W e (wC d) :=
  PEg.of h fun σ H g env st Q R bo rw hw => ⟨d, st, g, .refl g _, bo, r g, hw⟩
theorem g_int {i j} : PEg B X W (.Constant (.int i) j pos) (wC (.int i)) := g_const (t := tC (.int i)) pe_int fun _ => rfl
theorem g_bl {b j} : PEg B X W (.Constant (.bool b) j pos) (wC (.bl b)) := g_const (t := tC (.bl b)) pe_bl fun _ => rfl
theorem g_non {j} : PEg B X W (.Constant .none j pos) (wC .non) := g_const (t := tC .non) pe_non fun _ => rfl
theorem g_str {x j} : PEg B X W (.Constant (.str x) j pos) (wC (.str x)) := g_const (t := tC (.str x)) pe_str fun _ => rfl
def waNil : WA := fun _ st Q _ => Q [] st
def waCons (wa : WE) (ta : WA) : WA := fun env st Q R => wa env st (fun d st1 => ta env st1 (fun ds st2 => Q (d :: ds) st2) R) R
theorem ga_nil : PAg B X W [] waNil := ⟨fun pos pins s σ H g env st Q R I bo rw hw => (pa_nil (X := X)).run pos pins s σ H _ I ⟨[], st, g, .refl g _, bo, Reps.nil, hw⟩⟩
theorem ga_cons (ha : PEg B X W e wa) (hr : PAg B X W es ta) (hs : starEach (e :: es) X.env = (false, eval e X.env) :: starEach es X.env := by rfl) : PAg B X W (e :: es) (waCons wa ta) := by
  refine ⟨fun pos pins s σ H g env st Q R I bo rw hw => (pa_cons ha.pe hr.pa hs).run pos pins s σ H _ I ?_⟩
  refine ⟨g, env, st, _, R, bo, rw, hw, fun x H1 ⟨d1, st1, g1, l1, b1, r1, h1⟩ => ?_⟩
  refine ⟨g1, env, st1, _, R, b1, rw, h1, fun xs H2 ⟨ds, st2, g2, l2, b2, r2, h2⟩ => ?_⟩
  exact ⟨d1 :: ds, st2, g2, l1.trans l2, b2, Reps.cons (r1.mono l2.le) r2, h2⟩
theorem gab_nil : PAb B X W [] waNil := ⟨fun pos pins s σ H g env st Q R I bo rw hw => (pa_nil (X := X)).run pos pins s σ H _ I ⟨[], st, g, .refl g _, bo, rfl, hw⟩⟩
theorem gab_cons (ha : PBg B X W e wa) (hr : PAb B X W es ta) (hs : starEach (e :: es) X.env = (false, eval e X.env) :: starEach es X.env := by rfl) : PAb B X W (e :: es) (waCons wa ta) := by
  refine ⟨fun pos pins s σ H g env st Q R I bo rw hw => (pa_cons ha.pe hr.pa hs).run pos pins s σ H _ I ?_⟩
  refine ⟨g, env, st, _, R, bo, rw, hw, fun x H1 ⟨d1, st1, g1, l1, b1, r1, h1⟩ => ?_⟩
  refine ⟨g1, env, st1, _, R, b1, rw, h1, fun xs H2 ⟨ds, st2, g2, l2, b2, r2, h2⟩ => ?_⟩
  exact ⟨d1 :: ds, st2, g2, l1.trans l2, b2, ⟨x, xs, rfl, r1.mono l2.le, r2⟩, h2⟩
theorem BOk.cellNe {g : Gh} {env : Envr} {st : Store} {σ : L2.St} {H : Hp} (k : BOk B g env st σ H) {p : Addr} (h : H p = none) : ∀ n, g.ad n ≠ some p := fun n e => by
  have hn := k.ok.dom n p e
  obtain ⟨c, hc⟩ : ∃ c, st[n]? = some c := ⟨st[n], by simp [hn]⟩
  obtain ⟨a, h1, h2⟩ := k.ok.cell n c hc
  rw [e] at h1; cases h1
  exact h2.there h
theorem sqT_new {g : Gh} {p : Addr} {xs : List V} : (g.add p (.tup xs)).P p = some (.tup xs) := upd_same
/-- a new tuple of what is told, as a result -/
theorem QV.tup (ck : ConOk B.C) {g gb : Gh} {Hb : Hp} {env : Envr} {st : Store} {σ : L2.St} {H : Hp} {Q : QE} {ds : List D} {xs : List V} (l : Nx gb Hb g H) (bo : BOk B g env st σ H) (r : Reps B.C g ds xs) (q : Q (.tup ds) st) {p : Addr} (hp : H p = none) :
    QV B gb Hb env σ Q (.ref p) (upd H p (.tup xs)) := by
  have l2 := bo.ok.le_add (o := .tup xs) hp
  refine ⟨.tup ds, st, g.add p (.tup xs), l.trans (bo.ok.nx_new hp), bo.new ck hp (fun ps z => by cases z) (bo.cellNe hp), ?_, q⟩
  unfold Rep
  exact ⟨p, xs, rfl, sqT_new, r.mono l2⟩
theorem QV.lst (ck : ConOk B.C) {g gb : Gh} {Hb : Hp} {env : Envr} {st : Store} {σ : L2.St} {H : Hp} {Q : QE} {ds : List D} {xs : List V} (l : Nx gb Hb g H) (bo : BOk B g env st σ H) (r : Reps B.C g ds xs) (q : Q (.lst ds) st) {p : Addr} (hp : H p = none) :
    QV B gb Hb env σ Q (.ref p) (upd H p (.lst xs)) := by
  have l2 := bo.ok.le_add (o := .lst xs) hp
  refine ⟨.lst ds, st, g.add p (.lst xs), l.trans (bo.ok.nx_new hp), bo.new ck hp (fun ps z => by cases z) (bo.cellNe hp), ?_, q⟩
  unfold Rep
  exact ⟨p, xs, rfl, upd_same, r.mono l2⟩
theorem QV.same {g gb : Gh} {Hb : Hp} {env : Envr} {st : Store} {σ : L2.St} {H : Hp} {Q : QE} {d : D} {v : V} (l : Nx gb Hb g H) (bo : BOk B g env st σ H) (r : Rep B.C g d v) (q : Q d st) : QV B gb Hb env σ Q v H := ⟨d, st, g, l, bo, r, q⟩
def wTup (ta : WA) : WE := fun env st Q R => ta env st (fun ds st1 => ds.length ≤ sizeLine ∧ Q (.tup ds) st1) R
def wLst (ta : WA) : WE := fun env st Q R => ta env st (fun ds st1 => ds.length ≤ sizeLine ∧ Q (.lst ds) st1) R
theorem g_tup (j : J B X W) {k} (h : PAg B X W es ta) : PEg B X W (.Tuple es k pos) (wTup ta) := by
  refine PEg.of (pe_tup h.pa) fun σ H g env st Q R bo rw hw => ?_
  refine ⟨g, env, st, _, R, bo, rw, hw, fun xs H1 ⟨ds, st1, g1, l1, b1, r1, hz, h1⟩ => ⟨r1.length ▸ hz, fun p hp => ?_⟩⟩
  exact QV.tup j.ck l1 b1 r1 h1 hp
theorem g_lst (j : J B X W) (h : PAg B X W es ta) : PEg B X W (.List es pos) (wLst ta) := by
  refine PEg.of (pe_lst h.pa) fun σ H g env st Q R bo rw hw => ?_
  refine ⟨g, env, st, _, R, bo, rw, hw, fun xs H1 ⟨ds, st1, g1, l1, b1, r1, hz, h1⟩ => ⟨r1.length ▸ hz, fun p hp => ?_⟩⟩
  exact QV.lst j.ck l1 b1 r1 h1 hp
theorem Rep.tupT {C : Con} {g : Gh} {ds : List D} {v : V} (h : Rep C g (.tup ds) v) : ∃ a xs, v = .ref a ∧ g.P a = some (.tup xs) ∧ Reps C g ds xs := by unfold Rep at h; exact h
theorem Rep.tupV {C : Con} {g : Gh} {ds : List D} {v : V} (h : Rep C g (.tup ds) v) : ∃ a xs, v = .ref a ∧ SqU C.K g.P a xs ∧ Reps C g ds xs := by
  obtain ⟨a, xs, e, s, r⟩ := h.tupT
  exact ⟨a, xs, e, .inl s, r⟩
theorem Rep.wtpV {C : Con} {g : Gh} {ds : List D} {v : V} (h : Rep C g (.wtp ds) v) : ∃ a xs, v = .ref a ∧ SqU C.K g.P a xs ∧ Reps C g ds xs := by
  unfold Rep at h
  obtain ⟨a, xs, e, s, r⟩ := h
  exact ⟨a, xs, e, s.u, r⟩
theorem Rep.scrV {C : Con} {g : Gh} {ds : List D} {v : V} (h : Rep C g (.scr ds) v) : ∃ a xs, v = .ref a ∧ SqL C.K g.P a xs ∧ Reps C g ds xs := by unfold Rep at h; exact h
theorem Rep.lstV {C : Con} {g : Gh} {ds : List D} {v : V} (h : Rep C g (.lst ds) v) : ∃ a xs, v = .ref a ∧ g.P a = some (.lst xs) ∧ Reps C g ds xs := by unfold Rep at h; exact h
theorem Rep.obV {C : Con} {g : Gh} {c : Nat} {fs : List (Nat × D)} {v : V} (h : Rep C g (.ob c fs) v) : ∃ a dx fv, v = .ref a ∧ g.P a = some (.ins (C.ca c) dx fv) ∧ RepF C g fs fv := by unfold Rep at h; exact h
theorem Rep.celV {C : Con} {g : Gh} {n : Nat} {v : V} (h : Rep C g (.cel n) v) : ∃ a, g.ad n = some a ∧ v = .ref a := by unfold Rep at h; exact h
theorem Rep.intV {C : Con} {g : Gh} {i : Int} {v : V} (h : Rep C g (.int i) v) : v = .int i := by unfold Rep at h; exact h
theorem Rep.blV {C : Con} {g : Gh} {i : Bool} {v : V} (h : Rep C g (.bl i) v) : v = .bl i := by unfold Rep at h; exact h
theorem Rep.strV {C : Con} {g : Gh} {i : Str} {v : V} (h : Rep C g (.str i) v) : v = .str i := by unfold Rep at h; exact h
theorem Rep.nonV {C : Con} {g : Gh} {v : V} (h : Rep C g .non v) : v = .non := by unfold Rep at h; exact h
theorem rep_int {C : Con} {g : Gh} {i : Int} : Rep C g (.int i) (.int i) := by unfold Rep; rfl
theorem rep_bl {C : Con} {g : Gh} {i : Bool} : Rep C g (.bl i) (.bl i) := by unfold Rep; rfl
theorem rep_str {C : Con} {g : Gh} {i : Str} : Rep C g (.str i) (.str i) := by unfold Rep; rfl
theorem rep_non {C : Con} {g : Gh} : Rep C g .non .non := by unfold Rep; rfl
theorem RepB.full {g : Gh} {env : Envr} {σ : L2.St} {d : D} {v : V} (h : RepB B g env σ d v) (hd : ∀ ds, d ≠ .lst ds) : Rep B.C g d v := by
  rcases h with h | ⟨i, ds, _, e, _⟩
  · exact h
  · exact absurd e (hd ds)
theorem RepB.intV {g : Gh} {env : Envr} {σ : L2.St} {i : Int} {v : V} (h : RepB B g env σ (.int i) v) : v = .int i := (h.full fun ds z => by cases z).intV
theorem RepB.blV {g : Gh} {env : Envr} {σ : L2.St} {i : Bool} {v : V} (h : RepB B g env σ (.bl i) v) : v = .bl i := (h.full fun ds z => by cases z).blV
theorem RepB.strV {g : Gh} {env : Envr} {σ : L2.St} {i : Str} {v : V} (h : RepB B g env σ (.str i) v) : v = .str i := (h.full fun ds z => by cases z).strV
theorem RepB.nonV {g : Gh} {env : Envr} {σ : L2.St} {v : V} (h : RepB B g env σ .non v) : v = .non := (h.full fun ds z => by cases z).nonV
theorem RepB.tupV {g : Gh} {env : Envr} {st : Store} {σ : L2.St} {H : Hp} (bo : BOk B g env st σ H) {ds : List D} {v : V} (h : RepB B g env σ (.tup ds) v) : ∃ a xs, v = .ref a ∧ SqU B.C.K H a xs ∧ Reps B.C g ds xs := by
  obtain ⟨a, xs, e, s, r⟩ := (h.full fun ds z => by cases z).tupV
  exact ⟨a, xs, e, Same.sqU bo.ok.p s, r⟩
theorem RepB.lstV {g : Gh} {env : Envr} {st : Store} {σ : L2.St} {H : Hp} (bo : BOk B g env st σ H) {ds : List D} {v : V} (h : RepB B g env σ (.lst ds) v) : ∃ a xs, v = .ref a ∧ H a = some (.lst xs) ∧ Reps B.C g ds xs := by
  rcases h with h | ⟨i, es, e1, e2, e3⟩
  · obtain ⟨a, xs, e, s, r⟩ := h.lstV
    exact ⟨a, xs, e, bo.ok.p _ _ s, r⟩
  · cases e2
    obtain ⟨a, xs, h1, h2, h3, _⟩ := bo.en.own i ds e1
    rw [e3] at h1
    cases h1
    exact ⟨a, xs, rfl, h2, h3⟩
theorem RepB.celV {g : Gh} {env : Envr} {st : Store} {σ : L2.St} {H : Hp} (bo : BOk B g env st σ H) {n : Nat} {v : V} (h : RepB B g env σ (.cel n) v) : ∃ a, v = .ref a ∧ g.ad n = some a ∧ ∀ c, st[n]? = some c → CellRep B.C g H a c := by
  obtain ⟨a, e, s⟩ := (h.full fun ds z => by cases z).celV
  refine ⟨a, s, e, fun c hc => ?_⟩
  obtain ⟨b, h1, h2⟩ := bo.ok.cell n c hc
  rw [e] at h1; cases h1
  exact h2
end
end G
namespace G
open PySem PySem.Spec PyProof.Rows L2
def SpQ (C : Con) (g : Gh) (H : Hp) (Q : QE) (v : V) (H' : Hp) : Prop := ∃ d st' g', g.le g' ∧ GOk C g' H' st' ∧ Nx g H g' H' ∧ Rep C g' d v ∧ Q d st'
def SpR (C : Con) (g : Gh) (H : Hp) (R : XQ) (cls : Value) (dd : Option Addr) (H' : Hp) : Prop := ∃ x st' g', g.le g' ∧ GOk C g' H' st' ∧ Nx g H g' H' ∧ XRep C g' H' x cls dd ∧ R x st'
def spOf (C : Con) (φ : WF) (n : Nat) : Sp := fun vs H Q E => vs.length = n ∧ ∃ g ds st Qg R, GOk C g H st ∧ Reps C g ds vs ∧ φ ds st Qg R ∧ (∀ v H', SpQ C g H Qg v H' → Q v H') ∧ (∀ cls dd H', SpR C g H R cls dd H' → E cls dd H')
/-- the names of methods -/
inductive Mn where
  | add | sub | mul | neg | eq | bool | contains | call | repr | len | init | nm (n : Nat)
  deriving DecidableEq
def Mn.str (C : Con) : Mn → Str
  | .add => "__add__" | .sub => "__sub__" | .mul => "__mul__" | .neg => "__neg__" | .eq => "__eq__" | .bool => "__bool__" | .contains => "__contains__"
  | .call => "__call__" | .repr => "__repr__" | .len => "__len__" | .init => "__init__" | .nm n => C.mn n
/-- the methods that may be called here, by class and name -/
abbrev MT := Nat → Mn → Option WF
/-- a promise for whatever number of arguments -/
def spOfA (C : Con) (φ : WF) : Sp := fun vs H Q E => ∃ g ds st Qg R, GOk C g H st ∧ Reps C g ds vs ∧ φ ds st Qg R ∧ (∀ v H', SpQ C g H Qg v H' → Q v H') ∧ (∀ cls dd H', SpR C g H R cls dd H' → E cls dd H')
def FnA (X : Cx) (C : Con) (k : Nat) (f : Addr) (φ : WF) : Prop := L2.FnR X.prog X.w X.K X.mg X.base (L2.CX X.prog X.w) k f (spOfA C φ)
structure MetG (X : Cx) (C : Con) (k : Nat) (c : Nat) (m : Mn) (φ : WF) : Prop where
  ex : ∃ f, FnA X C k f φ ∧ Meth X.K (C.ca c) (m.str C) f
  cls : Cls X.K (C.ca c)
  sf : PySem.W.selfFirst X.K (C.ca c) = true
structure MOk (B : Bd) (X : Cx) (M : MT) : Prop where
  met : ∀ c m φ, M c m = some φ → ∃ k, Room k X.A ∧ MetG X B.C k c m φ
/-- a def of the module -/
structure FunG (B : Bd) (X : Cx) (x : Str) (n : Nat) (φ : WF) : Prop where
  len : ∀ ds st Q R, φ ds st Q R → ds.length = n
  ex : ∃ k f fd ps, Room k X.A ∧ FnOk X.prog X.w X.K X.mg X.base (L2.CX X.prog X.w) k f fd ps (spOf B.C φ n) ∧ ps.length = n ∧ X.mg x = some (.ref f) ∧ PySem.W.keepIn X.K (.ref f) = true ∧ L2.Binds X.K fd ps []
section
variable {B : Bd} {X : Cx} {W : WX} {a b c e : Expr} {es : List Expr} {wa wb wc : WE} {ta : WA} {pos : Pos}
theorem BOk.of_sp {g g' : Gh} {env : Envr} {st st' : Store} {σ : L2.St} {H H' : Hp} (bo : BOk B g env st σ H) (l : g.le g') (ok : GOk B.C g' H' st') (nx : Nx g H g' H') : BOk B g' env st' σ H' := by
  refine ⟨ok, bo.nx.trans nx, ⟨bo.en.len, fun i d h => ?_, fun i ds h => ?_, bo.en.dis⟩⟩
  · obtain ⟨v, h1, h2⟩ := bo.en.val i d h
    exact ⟨v, h1, h2.mono l⟩
  · obtain ⟨a, xs, h1, h2, h3, h4, h5, h6⟩ := bo.en.own i ds h
    refine ⟨a, xs, h1, nx.kp a _ h2 (fun ps z => by cases z) h5, h3.mono l, ?_, fun n z => ?_, h6⟩
    · cases e : g'.P a with
      | none => rfl
      | some o =>
        rcases nx.np a o e with z | z
        · rw [h4] at z; cases z
        · rw [h2] at z; cases z
    · rcases nx.nc n a z with z | z
      · exact h5 n z
      · rw [h2] at z; cases z
/-- the call of a def whose promise is known -/
theorem sp_at (j : J B X W) {φ : WF} {n : Nat} {gb g : Gh} {Hb : Hp} {env : Envr} {st : Store} {σ : L2.St} {H : Hp} {Q : QE} {R : XQ} {ds : List D} {vs : List V} (l : Nx gb Hb g H) (bo : BOk B g env st σ H) (rw : RW B W env σ R)
    (r : Reps B.C g ds vs) (hn : ds.length = n) (h : φ ds st Q R) : spOf B.C φ n vs H (QV B gb Hb env σ Q) (L2.WE W σ) := by
  refine ⟨r.length.symm.trans hn, g, ds, st, Q, R, bo.ok, r, h, fun v H' ⟨d, st', g', l', ok, nx, rv, q⟩ => ?_, fun cls dd H' ⟨x, st', g', l', ok, nx, rx, q⟩ => ?_⟩
  · exact ⟨d, st', g', l.trans nx, bo.of_sp l' ok nx, rv, q⟩
  · exact rw x g' st' H' cls dd (bo.of_sp l' ok nx) rx q
/-- the run of a def whose promise is known -/
theorem run_A (j : J B X W) {φ : WF} {k : Nat} {f : Addr} (F : FnA X B.C k f φ) (hr : Room k X.A) {gb g : Gh} {Hb : Hp} {env : Envr} {st : Store} {σ : L2.St} {H : Hp} {pins : List (Addr × Obj)} {s : Shared} {Q : QE} {R : XQ} {ds : List D} {vs : List V} {us : List Value} (l : Nx gb Hb g H) (bo : BOk B g env st σ H) (rw : RW B W env σ R)
    (I : Inv X pins σ H s) (r : Reps B.C g ds vs) (ru : Vals vs us) (h : φ ds st Q R) : wpAny (model X.prog X.w) X.A (call (.ref f) us) (EP X pins σ (QV B gb Hb env σ Q)) X.xe s := by
  have hs : spOfA B.C φ vs H (QV B gb Hb env σ Q) (L2.WE W σ) := by
    refine ⟨g, ds, st, Q, R, bo.ok, r, h, fun v H' ⟨d, st', g', l', ok, nx, rv, q⟩ => ?_, fun cls dd H' ⟨x, st', g', l', ok, nx, rx, q⟩ => ?_⟩
    · exact ⟨d, st', g', l.trans nx, bo.of_sp l' ok nx, rv, q⟩
    · exact rw x g' st' H' cls dd (bo.of_sp l' ok nx) rx q
  refine wpAny_call (codeAny_mono (F X.A X.stack s H us vs _ (L2.WE W σ) hr I.env0 ru hs) fun r s' hq => ?_)
  cases r with
  | error e => exact passAt j.tk σ pins H s e s' I hq
  | ok fl =>
    cases fl with
    | ret u => exact I.after hq
    | next => exact False.elim hq
    | brk => exact False.elim hq
    | cont => exact False.elim hq
theorem fnA_of {P : Program} {w : World} {C : Con} {mg : Str → Option Value} {base : Heap} {CX : CXT} {k n : Nat} {f : Addr} {fd : FuncData} {ps : List Str} {φ : WF} (len : ∀ ds st Q R, φ ds st Q R → ds.length = n) (ok : FnOk P w C.K mg base CX k f fd ps (spOf C φ n)) (hb : L2.Binds C.K fd ps []) :
    L2.FnR P w C.K mg base CX k f (spOfA C φ) := by
  refine (FnOk.raw ok hb .nil).imp fun vs H Q E ⟨g, ds, st, Qg, R, o, r, h, k1, k2⟩ => ?_
  rw [List.append_nil]
  exact ⟨r.length.symm.trans (len _ _ _ _ h), g, ds, st, Qg, R, o, r, h, k1, k2⟩
def wCall (φ : WF) (ta : WA) : WE := fun env st Q R => ta env st (fun ds st1 => φ ds st1 Q R) R
theorem g_call {x : Str} {p : Pos} {φ : WF} {n : Nat} (j : J B X W) (F : FunG B X x n φ) (hg : Gl X x) (ha : PAg B X W (e :: es) ta)
    (hdb : (x == ("__debug__" : Str)) = false := by decide) (he : starEach (e :: es) X.env = (false, eval e X.env) :: starEach es X.env := by rfl) (hpl : (backTo pos (starEach es X.env)).any (·.1) = false := by rfl) :
    PEg B X W (.Call (.Name x p) (e :: es) [] pos) (wCall φ ta) := by
  obtain ⟨k, f, fd, ps, hr, ok, hn, hm, hk, hb⟩ := F.ex
  refine PEg.of (pe_callS (E := L2.WE W) ok hr hg hm hk hb (fun σ => passAt j.tk σ) ha.pa hdb he hpl) fun σ H g env st Q R bo rw hw => ?_
  refine ⟨g, env, st, _, R, bo, rw, hw, fun vs H1 ⟨ds, st1, g1, l1, b1, r1, h1⟩ => ?_⟩
  exact sp_at j l1 b1 rw r1 (F.len _ _ _ _ h1) h1
def startE (m : Nat) (ds : List D) : Envr := ds.map Slot.val ++ List.replicate (m - ds.length) Slot.no
/-- a body w over m names, the first n parameters -/
def wfn (m n : Nat) (w : WS) : WF := fun ds st Q R => ds.length = n ∧ w (startE m ds) st { nx := fun _ st' => Q .non st', rt := Q, bk := fun _ _ => False, ct := fun _ _ => False, ex := fun x _ st' => R x st' }
theorem wfn_len {m n : Nat} {w : WS} : ∀ ds st Q R, wfn m n w ds st Q R → ds.length = n := fun _ _ _ _ h => h.1
theorem startE_own {m : Nat} {ds es : List D} {i : Nat} (h : (startE m ds)[i]? = some (Slot.own es)) : False := by
  unfold startE at h
  by_cases hi : i < ds.length
  · rw [List.getElem?_append_left (by simpa using hi), List.getElem?_map] at h
    cases e : ds[i]? <;> (rw [e] at h; cases h)
  · rw [List.getElem?_append_right (by simpa using hi), List.getElem?_replicate] at h
    split at h <;> cases h
theorem start_ok {C : Con} {g : Gh} {H : Hp} {st : Store} {ds : List D} {vs : List V} {N : List Str} (ok : GOk C g H st) (r : Reps C g ds vs) : BOk ⟨C, g, H⟩ g (startE N.length ds) st (L2.start N vs) H := by
  have hl := r.length
  refine ⟨ok, .refl g H, ⟨?_, fun i d h => ?_, fun i es h => (startE_own h).elim, fun i j ds es a hij h => (startE_own h).elim⟩⟩
  · simp [startE, L2.start, hl]
  · unfold startE at h
    have hi : i < ds.length := by
      by_cases hi : i < ds.length
      · exact hi
      · rw [List.getElem?_append_right (by simpa using hi), List.getElem?_replicate] at h
        split at h <;> cases h
    rw [List.getElem?_append_left (by simpa using hi), List.getElem?_map] at h
    cases e : ds[i]? with
    | none => rw [e] at h; cases h
    | some d' =>
      rw [e] at h
      cases h
      obtain ⟨v, h1, h2⟩ := r.get e
      refine ⟨v, ?_, h2⟩
      unfold L2.start
      rw [List.getElem?_append_left (by simpa using (by omega : i < vs.length)), List.getElem?_map, h1]
      rfl
/-- THE RULE for a def -/
theorem fn_ok {P : Program} {w : World} {C : Con} {mg : Str → Option Value} {base : Heap} {x qual : Str} {params : Arguments} {body : List Stmt} {scope : Scope} {dvs : List V} {kws : List (Str × V)} {f : Addr} {fd : FuncData} {N ps : List Str} {k : Nat} {wb : WS}
    (ck : ConOk C) (F : FunD C.K x qual params body scope dvs kws f fd) (S : FnScope N ps scope)
    (h : ∀ (cdv : Value) (A : Around) (outer : List Env) (s : Shared) (H : Hp) (E : XK) (g : Gh) (W : WX), Room k (A.deeper (envOfC qual scope s.heap.objs.size f cdv)) → J ⟨C, g, H⟩ (cxOf (L2.CX P w) P w C.K mg base N qual scope f cdv A outer s H E) W →
      PSsg ⟨C, g, H⟩ (cxOf (L2.CX P w) P w C.K mg base N qual scope f cdv A outer s H E) W body wb) : FnOk P w C.K mg base (L2.CX P w) (k + 1) f fd ps (spOf C (wfn N.length ps.length wb) ps.length) := by
  refine F.ok (CX := L2.CX P w) S (fun vs H Q E h => h.1) fun cdv A outer s H vs Q E hr ⟨hn, g, ds, st, Qg, R, ok, r, hw, hQ, hE⟩ => ?_
  have j : J ⟨C, g, H⟩ (cxOf (L2.CX P w) P w C.K mg base N qual scope f cdv A outer s H E) (fun cls d _ H' => E cls d H') :=
    { ck := ck, hK := rfl, tk := takes_of rfl rfl rfl rfl, po := passes_of rfl, calm := rfl, nd := S.nd, hd := hr.hd, hu := hr.units, hu2 := by have h := hr.un; show (A.deeper _).units + 150 < cLine; omega }
  refine ⟨_, (h cdv A outer s H E g _ hr j).ps, ?_⟩
  refine ⟨g, startE N.length ds, st, _, start_ok ok r, ?_, hw.2, ?_, ?_, ?_, ?_⟩
  · intro x g' env st' σ H' cls d b x' q
    exact hE cls d H' ⟨x, st', g', b.nx.le, b.ok, b.nx, x', q⟩
  · rintro σ' H' ⟨env', st', g', l, b, q⟩
    exact hQ .non H' ⟨.non, st', g', l, b.ok, b.nx, rep_non, q⟩
  · rintro v H' ⟨d, st', g', l, ok', nx, rv, q⟩
    exact hQ v H' ⟨d, st', g', l, ok', nx, rv, q⟩
  · rintro σ' H' ⟨env', st', g', l, b, q⟩
    exact q.elim
  · rintro σ' H' ⟨env', st', g', l, b, q⟩
    exact q.elim
end
end G
namespace G
open PySem PySem.Spec PyProof.Rows L2
def MulOk (i j : Int) : Prop := i.natAbs.log2 + j.natAbs.log2 < 1000000
def DivOk (j : Int) : Prop := j ≠ 0 ∧ (j.natAbs < 1073741824 ∨ (0 < j ∧ j.natAbs.log2 < 9000))
def PowOk (i j : Int) : Prop := 0 ≤ j ∧ j ≤ 1000000 ∧ i.natAbs < 2 ^ 64
def callM (M : MT) (c : Nat) (m : Mn) (ds : List D) (st : Store) (Q : QE) (R : XQ) : Prop := match M c m with
  | some φ => φ ds st Q R
  | none => False
def oAdd (M : MT) : O2 := fun d1 d2 st Q R => match d1, d2 with
  | .int i, .int j => Q (.int (i + j)) st
  | .str x, .str y => x.length + y.length ≤ sizeLine ∧ Q (.str (x ++ y)) st
  | .lst xs, .lst ys => xs.length + ys.length ≤ sizeLine ∧ Q (.lst (xs ++ ys)) st
  | .ob c fs, .ob c' fs' => c = c' ∧ callM M c .add [.ob c fs, .ob c' fs'] st Q R
  | _, _ => False
def oSub (M : MT) : O2 := fun d1 d2 st Q R => match d1, d2 with
  | .int i, .int j => Q (.int (i - j)) st
  | .ob c fs, .ob c' fs' => c = c' ∧ callM M c .sub [.ob c fs, .ob c' fs'] st Q R
  | _, _ => False
def oMul (M : MT) : O2 := fun d1 d2 st Q R => match d1, d2 with
  | .int i, .int j => MulOk i j ∧ Q (.int (i * j)) st
  | .lst xs, .int k => (0 ≤ k ∧ k < 1000 ∧ xs.length * k.toNat ≤ sizeLine) ∧ Q (.lst ((List.replicate k.toNat xs).flatten)) st
  | .ob c fs, .ob c' fs' => c = c' ∧ callM M c .mul [.ob c fs, .ob c' fs'] st Q R
  | _, _ => False
def oFdiv : O2 := fun d1 d2 st Q R => match d1, d2 with
  | .int i, .int j => DivOk j ∧ Q (.int (Int.fdiv i j)) st
  | _, _ => False
def oMod : O2 := fun d1 d2 st Q R => match d1, d2 with
  | .int i, .int j => j ≠ 0 ∧ Q (.int (Int.fmod i j)) st
  | _, _ => False
def oPow : O2 := fun d1 d2 st Q R => match d1, d2 with
  | .int i, .int j => PowOk i j ∧ Q (.int (i ^ j.toNat)) st
  | _, _ => False
section
variable {B : Bd} {X : Cx} {W : WX} {a b c e : Expr} {es : List Expr} {wa wb wc : WE} {ta : WA} {pos : Pos} {M : MT}
/-- a method of an object, called with values -/
theorem met_call (j : J B X W) (m : MOk B X M) {cc : Nat} {mn : Mn} {gb g : Gh} {Hb : Hp} {env : Envr} {st : Store} {σ : L2.St} {H : Hp} {pins : List (Addr × Obj)} {s : Shared} {Q : QE} {R : XQ} {ds : List D} {vs : List V} {us : List Value} {φ : WF} (l : Nx gb Hb g H) (bo : BOk B g env st σ H) (rw : RW B W env σ R)
    (I : Inv X pins σ H s) (r : Reps B.C g ds vs) (ru : Vals vs us) (hm : M cc mn = some φ) (h : φ ds st Q R) : ∃ f, Meth X.K (B.C.ca cc) (mn.str B.C) f ∧ Cls X.K (B.C.ca cc) ∧ PySem.W.selfFirst X.K (B.C.ca cc) = true ∧
      wpAny (model X.prog X.w) X.A (call (.ref f) us) (EP X pins σ (QV B gb Hb env σ Q)) X.xe s := by
  obtain ⟨k, hr, ⟨f, ok, hme⟩, hc, hs⟩ := m.met cc mn φ hm
  exact ⟨f, hme, hc, hs, run_A j ok hr l bo rw I r ru h⟩
theorem rep_ob {g : Gh} {env : Envr} {st : Store} {σ : L2.St} {H : Hp} (bo : BOk B g env st σ H) {cc : Nat} {fs : List (Nat × D)} {v : V} (h : RepB B g env σ (.ob cc fs) v) : ∃ a dx fv, v = .ref a ∧ H a = some (.ins (B.C.ca cc) dx fv) ∧ RepF B.C g fs fv ∧ Rep B.C g (.ob cc fs) v := by
  have h' := h.full fun ds z => by cases z
  obtain ⟨a, dx, fv, e, p, r⟩ := h'.obV
  exact ⟨a, dx, fv, e, bo.ok.p _ _ p, r, h'⟩
theorem reps2 {C : Con} {g : Gh} {d1 d2 : D} {x y : V} (h1 : Rep C g d1 x) (h2 : Rep C g d2 y) : Reps C g [d1, d2] [x, y] := Reps.cons h1 (Reps.cons h2 Reps.nil)
theorem inst_at {pins : List (Addr × Obj)} {σ : L2.St} {H : Hp} {s : Shared} (I : Inv X pins σ H s) {a C dx : Addr} {fs : List (Str × V)} (h : H a = some (.ins C dx fs)) : ∃ (od : Obj) (mA : Str → Option Value), PySem.W.InstAt s.heap a (PySem.W.instObj C dx) C (some od) ∧ (∀ name, PySem.W.lookIn name od = some (mA name)) ∧ ∀ f, RelO (fs.lookup f) (mA f) := by
  obtain ⟨mA, O, r, _, _, _⟩ := ins_get I.hok h
  obtain ⟨od, J, hl⟩ := O.look
  exact ⟨od, mA, J, hl, r⟩
theorem cmpBack {pins : List (Addr × Obj)} {σ : L2.St} {Q : VK} {v : Value} {s' : Shared} (h : EP X pins σ Q v s') : PySem.W.CmpBack (EP X pins σ Q) v s' := by
  cases v with
  | notImplemented =>
    exfalso
    obtain ⟨x, H', I, r, q⟩ := h
    cases x <;> first | (cases r; done) | (obtain ⟨t, e⟩ := r; cases e; done)
  | _ => exact h
/-- a two-place operation on values, f, does what o tells -/
def OpG (B : Bd) (X : Cx) (W : WX) (f : Value → Value → Sem Value) (o : O2) : Prop := ∀ (gb g : Gh) (Hb : Hp) (env : Envr) (st : Store) (σ : L2.St) (H : Hp) (d1 d2 : D) (x y : V) (v u : Value) (pins : List (Addr × Obj)) (s : Shared) (Q : QE) (R : XQ), Nx gb Hb g H → Inv X pins σ H s → BOk B g env st σ H → RW B W env σ R →
  RepB B g env σ d1 x → RepB B g env σ d2 y → RelV x v → RelV y u → o d1 d2 st Q R → wpAny (model X.prog X.w) X.A (f v u) (EP X pins σ (QV B gb Hb env σ Q)) X.xe s
theorem OpG.of {f : Value → Value → Sem Value} {r : R2} {o : O2} (h : OpR X f r) (k : OpV B W r o) : OpG B X W f o := fun gb g Hb env st σ H d1 d2 x y v u pins s Q R l I bo rw r1 r2 rx ry q =>
  h pins s σ H x y v u _ I rx ry (k gb g Hb env st σ H d1 d2 x y Q R l bo rw r1 r2 q)
theorem g_binop {op : Operator} {o : O2} (h : OpG B X W (binaryOp op) o) (ha : PBg B X W a wa) (hb : PBg B X W b wb) : PEg B X W (.BinOp a op b pos) (wBin o wa wb) := by
  refine ⟨fun pins s σ H g env st Q R I bo rw hw => ?_⟩
  refine wpAny_BinOp (thn (ha.run pins s σ H g env st _ R I bo rw hw) fun v s1 ⟨x, H1, I1, rx, d1, st1, g1, l1, b1, r1, h1⟩ => ?_)
  refine thn (hb.run pins s1 σ H1 g1 env st1 _ R I1 b1 rw h1) fun u s2 ⟨y, H2, I2, ry, d2, st2, g2, l2, b2, r2, h2⟩ => ?_
  exact h g g2 H env st2 σ H2 d1 d2 x y v u pins s2 Q R (l1.trans l2) I2 b2 rw (r1.mono l2.le) r2 rx ry h2
theorem g_cmp {op : CmpOp} {o : O2} (h : OpG B X W (compareOp op) o) (ha : PBg B X W a wa) (hb : PBg B X W b wb) (hm : behindInMarks op b = false := by first | exact nomark _ | rfl) : PEg B X W (.Compare a [op] [b] pos) (wBin o wa wb) := by
  refine ⟨fun pins s σ H g env st Q R I bo rw hw => ?_⟩
  refine wpAny_Compare1 (thn (ha.run pins s σ H g env st _ R I bo rw hw) fun v s1 ⟨x, H1, I1, rx, d1, st1, g1, l1, b1, r1, h1⟩ => ?_) hm
  refine thn (hb.run pins s1 σ H1 g1 env st1 _ R I1 b1 rw h1) fun u s2 ⟨y, H2, I2, ry, d2, st2, g2, l2, b2, r2, h2⟩ => ?_
  exact h g g2 H env st2 σ H2 d1 d2 x y v u pins s2 Q R (l1.trans l2) I2 b2 rw (r1.mono l2.le) r2 rx ry h2
/-- an expression that gives True or False, as a test -/
def wBool (w : WE) : WT := fun env st Q R => w env st (fun d st1 => match d with | .bl b => Q b st1 | _ => False) R
theorem gt_cmp {op : CmpOp} {o : O2} (h : OpG B X W (compareOp op) o) (ha : PBg B X W a wa) (hb : PBg B X W b wb) (hm : behindInMarks op b = false := by first | exact nomark _ | rfl) : PTg B X W (.Compare a [op] [b] pos) (wBool (wBin o wa wb)) := by
  refine ⟨fun pins s σ H g env st Q R I bo rw hw => ?_⟩
  refine wpAny_isTrue_Compare1 (thn (ha.run pins s σ H g env st _ R I bo rw hw) fun v s1 ⟨x, H1, I1, rx, d1, st1, g1, l1, b1, r1, h1⟩ => ?_) hm
  refine thn (hb.run pins s1 σ H1 g1 env st1 _ R I1 b1 rw h1) fun u s2 ⟨y, H2, I2, ry, d2, st2, g2, l2, b2, r2, h2⟩ => ?_
  refine thn (h g g2 H env st2 σ H2 d1 d2 x y v u pins s2 _ R (l1.trans l2) I2 b2 rw (r1.mono l2.le) r2 rx ry h2) fun c s3 ⟨z, H3, I3, rz, d3, st3, g3, l3, b3, r3, h3⟩ => ?_
  cases d3 with
  | bl k =>
    have e := r3.blV
    subst e
    cases rz
    exact wpAny_truthy_bool ⟨H3, I3, st3, g3, l3, b3, h3⟩
  | _ => exact h3.elim
theorem gt_val (h : PEg B X W e wa) (he : ∀ whole, isTrue e X.env whole = (do let v ← whole; standAt e.pos; holding [v] (truthy v)) := by intro _; rfl) : PTg B X W e (wBool wa) := by
  refine ⟨fun pins s σ H g env st Q R I bo rw hw => ?_⟩
  refine isTrue_plain (thn (h.run pins s σ H g env st _ R I bo rw hw) fun v s1 ⟨x, H1, I1, rx, d1, st1, g1, l1, b1, r1, h1⟩ => ?_) (he _)
  cases d1 with
  | bl k =>
    have e := r1.blV
    subst e
    cases rx
    exact wpAny_truthy_bool ⟨H1, I1, st1, g1, l1, b1, h1⟩
  | _ => exact h1.elim
def wNotT (w : WT) : WT := fun env st Q R => w env st (fun b st1 => Q (!b) st1) R
def wAndT (w u : WT) : WT := fun env st Q R => w env st (fun b st1 => if b = true then u env st1 Q R else Q false st1) R
def wOrT (w u : WT) : WT := fun env st Q R => w env st (fun b st1 => if b = true then Q true st1 else u env st1 Q R) R
structure PWg (B : Bd) (X : Cx) (W : WX) (e : Expr) (w : WT) : Prop where
  run : ∀ (whole : Sem Value) (pins : List (Addr × Obj)) (s : Shared) (σ : L2.St) (H : Hp) (g : Gh) (env : Envr) (st : Store) (Q : Bool → Store → Prop) (R : XQ), Inv X pins σ H s → BOk B g env st σ H → RW B W env σ R → w env st Q R →
    wpAny (model X.prog X.w) X.A (isTrue e X.env whole) (TP X pins σ (QB B g H env σ Q)) X.xe s
theorem PWg.pt {w : WT} (h : PWg B X W e w) : PTg B X W e w := ⟨h.run _⟩
variable {ta' tb' : WT}
theorem gw_and1 (ha : PTg B X W a ta') : PWg B X W (.BoolOp .And [a] pos) ta' := by
  refine ⟨fun wh pins s σ H g env st Q R I bo rw hw => ?_⟩
  refine isTrue_and (thn (ha.run pins s σ H g env st Q R I bo rw hw) fun c s1 e => ?_)
  cases c with
  | true => exact isTrue_and_nil e
  | false => exact e
theorem gw_or1 (ha : PTg B X W a ta') : PWg B X W (.BoolOp .Or [a] pos) ta' := by
  refine ⟨fun wh pins s σ H g env st Q R I bo rw hw => ?_⟩
  refine isTrue_or (thn (ha.run pins s σ H g env st Q R I bo rw hw) fun c s1 e => ?_)
  cases c with
  | false => exact isTrue_or_nil e
  | true => exact e
theorem TP.le {pins : List (Addr × Obj)} {σ : L2.St} {g g1 : Gh} {H H1 : Hp} {env : Envr} {Q : Bool → Store → Prop} {b : Bool} {s : Shared} (l : Nx g H g1 H1) (h : TP X pins σ (QB B g1 H1 env σ Q) b s) : TP X pins σ (QB B g H env σ Q) b s := TP.imp h fun _ _ z => QB.le l z
theorem EP.le {pins : List (Addr × Obj)} {σ : L2.St} {g g1 : Gh} {H H1 : Hp} {env : Envr} {Q : QE} {b : Value} {s : Shared} (l : Nx g H g1 H1) (h : EP X pins σ (QV B g1 H1 env σ Q) b s) : EP X pins σ (QV B g H env σ Q) b s := EP.imp h fun _ _ z => QV.le l z
theorem gw_and {r : List Expr} (ha : PTg B X W a ta') (hb : PWg B X W (.BoolOp .And (b :: r) pos) tb') : PWg B X W (.BoolOp .And (a :: b :: r) pos) (wAndT ta' tb') := by
  refine ⟨fun wh pins s σ H g env st Q R I bo rw hw => ?_⟩
  refine isTrue_and (thn (ha.run pins s σ H g env st _ R I bo rw hw) fun c s1 ⟨H1, I1, st1, g1, l1, b1, q1⟩ => ?_)
  cases c with
  | true => exact thn (hb.run wh pins s1 σ H1 g1 env st1 Q R I1 b1 rw q1) fun _ _ z => TP.le l1 z
  | false => exact ⟨H1, I1, st1, g1, l1, b1, q1⟩
theorem gw_or {r : List Expr} (ha : PTg B X W a ta') (hb : PWg B X W (.BoolOp .Or (b :: r) pos) tb') : PWg B X W (.BoolOp .Or (a :: b :: r) pos) (wOrT ta' tb') := by
  refine ⟨fun wh pins s σ H g env st Q R I bo rw hw => ?_⟩
  refine isTrue_or (thn (ha.run pins s σ H g env st _ R I bo rw hw) fun c s1 ⟨H1, I1, st1, g1, l1, b1, q1⟩ => ?_)
  cases c with
  | false => exact thn (hb.run wh pins s1 σ H1 g1 env st1 Q R I1 b1 rw q1) fun _ _ z => TP.le l1 z
  | true => exact ⟨H1, I1, st1, g1, l1, b1, q1⟩
theorem gt_not (ha : PTg B X W a ta') : PTg B X W (.UnaryOp .Not a pos) (wNotT ta') := by
  refine ⟨fun pins s σ H g env st Q R I bo rw hw => ?_⟩
  exact isTrue_not (thn (ha.run pins s σ H g env st _ R I bo rw hw) fun c s1 ⟨H1, I1, st1, g1, l1, b1, q1⟩ => ⟨H1, I1, st1, g1, l1, b1, q1⟩)
/-- the same as values (True, False) -/
def wAnd (w u : WE) : WE := fun env st Q R => w env st (fun d st1 => match d with | .bl true => u env st1 Q R | .bl false => Q (.bl false) st1 | _ => False) R
def wOr (w u : WE) : WE := fun env st Q R => w env st (fun d st1 => match d with | .bl true => Q (.bl true) st1 | .bl false => u env st1 Q R | _ => False) R
def wNot (w : WT) : WE := fun env st Q R => w env st (fun b st1 => Q (.bl (!b)) st1) R
theorem g_bone {op} (h : PEg B X W a wa) : PEg B X W (.BoolOp op [a] pos) wa := ⟨fun pins s σ H g env st Q R I bo rw hw => BoolOp_one (h.run pins s σ H g env st Q R I bo rw hw)⟩
theorem g_and {r : List Expr} (ha : PEg B X W a wa) (hb : PEg B X W (.BoolOp .And (b :: r) pos) wb) : PEg B X W (.BoolOp .And (a :: b :: r) pos) (wAnd wa wb) := by
  refine ⟨fun pins s σ H g env st Q R I bo rw hw => ?_⟩
  refine BoolOp_and (thn (ha.run pins s σ H g env st _ R I bo rw hw) fun v s1 ⟨x, H1, I1, rx, d1, st1, g1, l1, b1, r1, h1⟩ => ?_)
  cases d1 with
  | bl k =>
    have e := r1.blV
    subst e
    cases rx
    refine wpAny_truthy_bool ?_
    cases k with
    | true => exact thn (hb.run pins s1 σ H1 g1 env st1 Q R I1 b1 rw h1) fun _ _ z => EP.le l1 z
    | false => exact ⟨.bl false, H1, I1, rfl, .bl false, st1, g1, l1, b1, rep_bl, h1⟩
  | _ => exact h1.elim
theorem g_or {r : List Expr} (ha : PEg B X W a wa) (hb : PEg B X W (.BoolOp .Or (b :: r) pos) wb) : PEg B X W (.BoolOp .Or (a :: b :: r) pos) (wOr wa wb) := by
  refine ⟨fun pins s σ H g env st Q R I bo rw hw => ?_⟩
  refine BoolOp_or (thn (ha.run pins s σ H g env st _ R I bo rw hw) fun v s1 ⟨x, H1, I1, rx, d1, st1, g1, l1, b1, r1, h1⟩ => ?_)
  cases d1 with
  | bl k =>
    have e := r1.blV
    subst e
    cases rx
    refine wpAny_truthy_bool ?_
    cases k with
    | false => exact thn (hb.run pins s1 σ H1 g1 env st1 Q R I1 b1 rw h1) fun _ _ z => EP.le l1 z
    | true => exact ⟨.bl true, H1, I1, rfl, .bl true, st1, g1, l1, b1, rep_bl, h1⟩
  | _ => exact h1.elim
def wIf (t : WT) (wa wb : WE) : WE := fun env st Q R => t env st (fun b st1 => if b = true then wa env st1 Q R else wb env st1 Q R) R
theorem g_if {t : WT} (hc : PTg B X W c t) (ha : PEg B X W a wa) (hb : PEg B X W b wb) : PEg B X W (.IfExp c a b pos) (wIf t wa wb) := by
  refine ⟨fun pins s σ H g env st Q R I bo rw hw => ?_⟩
  refine wpAny_IfExp (thn (hc.run pins s σ H g env st _ R I bo rw hw) fun d s1 ⟨H1, I1, st1, g1, l1, b1, q1⟩ => ?_)
  cases d with
  | true => exact thn (ha.run pins s1 σ H1 g1 env st1 Q R I1 b1 rw q1) fun _ _ z => EP.le l1 z
  | false => exact thn (hb.run pins s1 σ H1 g1 env st1 Q R I1 b1 rw q1) fun _ _ z => EP.le l1 z
theorem op_own (j : J B X W) (m : MOk B X M) {op : Operator} {mn : Mn} (hop : ∀ C, mn.str C = PySem.dunder op.info.2) {gb g : Gh} {Hb : Hp} {env : Envr} {st : Store} {σ : L2.St} {H : Hp} {cc : Nat} {fs fs' : List (Nat × D)} {x y : V} {v u : Value} {pins : List (Addr × Obj)} {s : Shared} {Q : QE} {R : XQ}
    (l : Nx gb Hb g H) (I : Inv X pins σ H s) (bo : BOk B g env st σ H) (rw' : RW B W env σ R) (r1 : RepB B g env σ (.ob cc fs) x) (r2 : RepB B g env σ (.ob cc fs') y) (rx : RelV x v) (ry : RelV y u)
    (q : callM M cc mn [.ob cc fs, .ob cc fs'] st Q R) : wpAny (model X.prog X.w) X.A (binaryOp op v u) (EP X pins σ (QV B gb Hb env σ Q)) X.xe s := by
  unfold callM at q
  split at q
  · rename_i φ hm
    obtain ⟨a, dx, fv, ex, ha, _, f1⟩ := rep_ob bo r1
    obtain ⟨b, dy, gv, ey, hb, _, f2⟩ := rep_ob bo r2
    obtain ⟨f, hme, hc, hs, hw⟩ := met_call j m l bo rw' I (reps2 f1 f2) (.cons rx (.cons ry .nil)) hm q
    subst ex
    subst ey
    cases rx
    cases ry
    obtain ⟨od, mA, i1, _⟩ := inst_at I ha
    obtain ⟨od', mA', i2, _⟩ := inst_at I hb
    obtain ⟨mm, F⟩ := I.fr
    exact PySem.W.binop_K F I.mod.kin i1 i2.type hs (by rw [← hop B.C]; exact hme.at_) hme.fn (thn hw fun _ _ z => cmpBack z)
  · exact q.elim
theorem og_add (j : J B X W) (m : MOk B X M) : OpG B X W (binaryOp .Add) (oAdd M) := by
  intro gb g Hb env st σ H d1 d2 x y v u pins s Q R l I bo rw r1 r2 rx ry q
  unfold oAdd at q
  split at q
  · have e1 := r1.intV; have e2 := r2.intV
    subst e1; subst e2
    exact op_add pins s σ H _ _ v u _ I rx ry ⟨_, _, rfl, rfl, QV.same l bo rep_int q⟩
  · have e1 := r1.strV; have e2 := r2.strV
    subst e1; subst e2
    exact op_add_str pins s σ H _ _ v u _ I rx ry ⟨_, _, rfl, rfl, q.1, QV.same l bo rep_str q.2⟩
  · obtain ⟨a, xs, e1, h1, p1⟩ := r1.lstV bo
    obtain ⟨b, ys, e2, h2, p2⟩ := r2.lstV bo
    subst e1; subst e2
    refine op_cat pins s σ H _ _ v u _ I rx ry ⟨_, _, _, _, rfl, rfl, h1, h2, by rw [← p1.length, ← p2.length]; exact q.1, fun p hp => ?_⟩
    exact QV.lst j.ck l bo (p1.append p2) q.2 hp
  · obtain ⟨rfl, q⟩ := q
    exact op_own j m (op := .Add) (mn := .add) (fun _ => rfl) l I bo rw r1 r2 rx ry q
  · exact q.elim
theorem og_sub (j : J B X W) (m : MOk B X M) : OpG B X W (binaryOp .Sub) (oSub M) := by
  intro gb g Hb env st σ H d1 d2 x y v u pins s Q R l I bo rw r1 r2 rx ry q
  unfold oSub at q
  split at q
  · have e1 := r1.intV; have e2 := r2.intV
    subst e1; subst e2
    exact op_sub pins s σ H _ _ v u _ I rx ry ⟨_, _, rfl, rfl, QV.same l bo rep_int q⟩
  · obtain ⟨rfl, q⟩ := q
    exact op_own j m (op := .Sub) (mn := .sub) (fun _ => rfl) l I bo rw r1 r2 rx ry q
  · exact q.elim
theorem og_mul (j : J B X W) (m : MOk B X M) : OpG B X W (binaryOp .Mult) (oMul M) := by
  intro gb g Hb env st σ H d1 d2 x y v u pins s Q R l I bo rw r1 r2 rx ry q
  unfold oMul at q
  split at q
  · have e1 := r1.intV; have e2 := r2.intV
    subst e1; subst e2
    exact op_mulW pins s σ H _ _ v u _ I rx ry ⟨_, _, rfl, rfl, q.1, QV.same l bo rep_int q.2⟩
  · rename_i xs k
    obtain ⟨a, vs, e1, h1, p1⟩ := r1.lstV bo
    have e2 := r2.intV
    subst e1; subst e2
    obtain ⟨⟨q1, q2, q3⟩, q4⟩ := q
    refine op_rep pins s σ H _ _ v u _ I rx ry ⟨_, _, _, rfl, rfl, h1, by omega, by omega, by rw [← p1.length]; exact q3, fun p hp => ?_⟩
    refine QV.lst j.ck l bo ?_ q4 hp
    induction k.toNat with
    | zero => exact Reps.nil
    | succ n ih => rw [List.replicate_succ, List.replicate_succ, List.flatten_cons, List.flatten_cons]; exact p1.append ih
  · obtain ⟨rfl, q⟩ := q
    exact op_own j m (op := .Mult) (mn := .mul) (fun _ => rfl) l I bo rw r1 r2 rx ry q
  · exact q.elim
theorem og_fdiv : OpG B X W (binaryOp .FloorDiv) oFdiv := by
  intro gb g Hb env st σ H d1 d2 x y v u pins s Q R l I bo rw r1 r2 rx ry q
  unfold oFdiv at q
  split at q
  · rename_i i j
    have e1 := r1.intV; have e2 := r2.intV
    subst e1; subst e2
    obtain ⟨⟨q0, q1⟩, q⟩ := q
    rcases q1 with q1 | q1
    · exact op_fdivN pins s σ H _ _ v u _ I rx ry ⟨_, _, rfl, rfl, ⟨q0, q1⟩, QV.same l bo rep_int q⟩
    · refine op_fdivW pins s σ H _ _ v u _ I rx ry ⟨_, _, rfl, rfl, q1, QV.same l bo rep_int ?_⟩
      rw [← Int.fdiv_eq_ediv_of_nonneg i (Int.le_of_lt q1.1)]; exact q
  · exact q.elim
theorem og_mod : OpG B X W (binaryOp .Mod) oMod := by
  intro gb g Hb env st σ H d1 d2 x y v u pins s Q R l I bo rw r1 r2 rx ry q
  unfold oMod at q
  split at q
  · have e1 := r1.intV; have e2 := r2.intV
    subst e1; subst e2
    exact op_modN pins s σ H _ _ v u _ I rx ry ⟨_, _, rfl, rfl, q.1, QV.same l bo rep_int q.2⟩
  · exact q.elim
theorem og_pow : OpG B X W (binaryOp .Pow) oPow := by
  intro gb g Hb env st σ H d1 d2 x y v u pins s Q R l I bo rw r1 r2 rx ry q
  unfold oPow at q
  split at q
  · have e1 := r1.intV; have e2 := r2.intV
    subst e1; subst e2
    exact op_pow pins s σ H _ _ v u _ I rx ry ⟨_, _, rfl, rfl, q.1, QV.same l bo rep_int q.2⟩
  · exact q.elim
end
end G
namespace G
open PySem PySem.Spec PyProof.Rows L2
mutual
def D.py : D → PyData
  | .non => .none | .bl b => .bool b | .int i => .int i | .str x => .str x
  | .tup xs => .tuple (D.pys xs) | .lst xs => .list (D.pys xs)
  | .ob _ _ => .dict [] | .cel _ => .dict [] | .cls _ => .dict [] | .ty _ => .dict [] | .scr _ => .dict [] | .dct _ => .dict [] | .dtt _ => .dict [] | .raw _ => .dict [] | .wtp _ => .dict []
def D.pys : List D → List PyData
  | [] => []
  | d :: ds => D.py d :: D.pys ds
end
mutual
/-- data: no objects, signs of Unicode -/
def D.dat : D → Bool
  | .non => true | .bl _ => true | .int _ => true | .str x => PyData.strOk x
  | .tup xs => D.dats xs | .lst xs => D.dats xs
  | .ob _ _ => false | .cel _ => false | .cls _ => false | .ty _ => false | .scr _ => false | .dct _ => false | .dtt _ => false | .raw _ => false | .wtp _ => false
def D.dats : List D → Bool
  | [] => true
  | d :: ds => D.dat d && D.dats ds
end
mutual
def D.dep : D → Nat
  | .tup xs => D.deps xs + 1 | .lst xs => D.deps xs + 1
  | _ => 0
def D.deps : List D → Nat
  | [] => 0
  | d :: ds => max (D.dep d) (D.deps ds)
end
mutual
def eqD : D → D → Bool
  | .non, e => (match e with | .non => true | _ => false)
  | .bl a, e => (match e with | .bl b => a == b | .int j => (if a then 1 else 0) == j | _ => false)
  | .int i, e => (match e with | .int j => decide (i = j) | .bl b => i == (if b then 1 else 0) | _ => false)
  | .str x, e => (match e with | .str y => decide (x = y) | _ => false)
  | .tup xs, e => (match e with | .tup ys => eqDs xs ys | _ => false)
  | .lst xs, e => (match e with | .lst ys => eqDs xs ys | _ => false)
  | _, _ => false
def eqDs : List D → List D → Bool
  | [], e => (match e with | [] => true | _ => false)
  | x :: xs, e => (match e with | y :: ys => eqD x y && eqDs xs ys | _ => false)
end
mutual
theorem py_lay : ∀ d : D, d.dat = true → d.py.canLay0 = true
  | .non, _ => by simp only [D.py, PyData.canLay0]
  | .bl _, _ => by simp only [D.py, PyData.canLay0]
  | .int _, _ => by simp only [D.py, PyData.canLay0]
  | .str x, h => by simp only [D.py, PyData.canLay0]; simpa [D.dat] using h
  | .tup xs, h => by simp only [D.py, PyData.canLay0]; exact pys_lay xs (by simpa [D.dat] using h)
  | .lst xs, h => by simp only [D.py, PyData.canLay0]; exact pys_lay xs (by simpa [D.dat] using h)
  | .ob _ _, h => by simp [D.dat] at h
  | .cel _, h => by simp [D.dat] at h
  | .cls _, h => by simp [D.dat] at h
  | .ty _, h => by simp [D.dat] at h
  | .scr _, h => by simp [D.dat] at h
  | .dct _, h => by simp [D.dat] at h
  | .dtt _, h => by simp [D.dat] at h
  | .raw _, h => by simp [D.dat] at h
  | .wtp _, h => by simp [D.dat] at h
theorem pys_lay : ∀ ds : List D, D.dats ds = true → PyData.canLayAll0 (D.pys ds) = true
  | [], _ => by simp only [D.pys, PyData.canLayAll0]
  | d :: ds, h => by
    have h' : d.dat = true ∧ D.dats ds = true := by simpa [D.dats] using h
    simp only [D.pys, PyData.canLayAll0, py_lay d h'.1, pys_lay ds h'.2, Bool.and_self]
end
mutual
theorem py_dep : ∀ d : D, d.dat = true → d.py.depth = d.dep
  | .non, _ => by simp only [D.py, PyData.depth, D.dep]
  | .bl _, _ => by simp only [D.py, PyData.depth, D.dep]
  | .int _, _ => by simp only [D.py, PyData.depth, D.dep]
  | .str x, h => by simp only [D.py, PyData.depth, D.dep]
  | .tup xs, h => by simp only [D.py, PyData.depth, D.dep, pys_dep xs (by simpa [D.dat] using h)]
  | .lst xs, h => by simp only [D.py, PyData.depth, D.dep, pys_dep xs (by simpa [D.dat] using h)]
  | .ob _ _, h => by simp [D.dat] at h
  | .cel _, h => by simp [D.dat] at h
  | .cls _, h => by simp [D.dat] at h
  | .ty _, h => by simp [D.dat] at h
  | .scr _, h => by simp [D.dat] at h
  | .dct _, h => by simp [D.dat] at h
  | .dtt _, h => by simp [D.dat] at h
  | .raw _, h => by simp [D.dat] at h
  | .wtp _, h => by simp [D.dat] at h
theorem pys_dep : ∀ ds : List D, D.dats ds = true → PyData.depthAll (D.pys ds) = D.deps ds
  | [], _ => by simp only [D.pys, PyData.depthAll, D.deps]
  | d :: ds, h => by
    have h' : d.dat = true ∧ D.dats ds = true := by simpa [D.dats] using h
    simp only [D.pys, PyData.depthAll, D.deps, py_dep d h'.1, pys_dep ds h'.2]
end
theorem beq_dec {α : Type} [DecidableEq α] (a b : α) : (a == b) = decide (a = b) := by
  by_cases h : a = b <;> simp [h]
mutual
theorem py_eqv : ∀ d e : D, d.dat = true → e.dat = true → PyData.eqv d.py e.py = eqD d e
  | .non, e, _, h2 => by cases e <;> first | (simp [D.dat] at h2; done) | simp [D.py, PyData.eqv, eqD]
  | .bl a, e, _, h2 => by cases e <;> first | (simp [D.dat] at h2; done) | simp [D.py, PyData.eqv, eqD]
  | .int i, e, _, h2 => by cases e <;> first | (simp [D.dat] at h2; done) | simp [D.py, PyData.eqv, eqD, beq_dec]
  | .str x, e, _, h2 => by cases e <;> first | (simp [D.dat] at h2; done) | simp [D.py, PyData.eqv, eqD, beq_dec]
  | .tup xs, e, h1, h2 => by
    cases e <;> first | (simp [D.dat] at h2; done) | (simp [D.py, PyData.eqv, eqD]; done) | skip
    rename_i ys
    simp only [D.py, PyData.eqv, eqD]
    exact pys_eqv xs ys (by simpa [D.dat] using h1) (by simpa [D.dat] using h2)
  | .lst xs, e, h1, h2 => by
    cases e <;> first | (simp [D.dat] at h2; done) | (simp [D.py, PyData.eqv, eqD]; done) | skip
    rename_i ys
    simp only [D.py, PyData.eqv, eqD]
    exact pys_eqv xs ys (by simpa [D.dat] using h1) (by simpa [D.dat] using h2)
  | .ob _ _, _, h, _ => by simp [D.dat] at h
  | .cel _, _, h, _ => by simp [D.dat] at h
  | .cls _, _, h, _ => by simp [D.dat] at h
  | .ty _, _, h, _ => by simp [D.dat] at h
  | .scr _, _, h, _ => by simp [D.dat] at h
  | .dct _, _, h, _ => by simp [D.dat] at h
  | .dtt _, _, h, _ => by simp [D.dat] at h
  | .raw _, _, h, _ => by simp [D.dat] at h
  | .wtp _, _, h, _ => by simp [D.dat] at h
theorem pys_eqv : ∀ ds es : List D, D.dats ds = true → D.dats es = true → PyData.eqvAll (D.pys ds) (D.pys es) = eqDs ds es
  | [], es, _, _ => by cases es <;> simp [D.pys, PyData.eqvAll, eqDs]
  | d :: ds, es, h1, h2 => by
    cases es with
    | nil => simp [D.pys, PyData.eqvAll, eqDs]
    | cons e es =>
      have h1' : d.dat = true ∧ D.dats ds = true := by simpa [D.dats] using h1
      have h2' : e.dat = true ∧ D.dats es = true := by simpa [D.dats] using h2
      simp only [D.pys, PyData.eqvAll, eqDs, py_eqv d e h1'.1 h2'.1, pys_eqv ds es h1'.2 h2'.2]
end
mutual
theorem rep_dp {C : Con} {g : Gh} {H : Hp} (hp : ∀ a o, g.P a = some o → H a = some o) : ∀ (d : D) (v : V), d.dat = true → Rep C g d v → Dp C.K H v d.py
  | .non, v, _, h => by unfold Rep at h; subst h; simp only [D.py]; exact .non
  | .bl b, v, _, h => by unfold Rep at h; subst h; simp only [D.py]; exact .bl b
  | .int i, v, _, h => by unfold Rep at h; subst h; simp only [D.py]; exact .int i
  | .str x, v, _, h => by unfold Rep at h; subst h; simp only [D.py]; exact .str x
  | .tup ds, v, hd, h => by
    unfold Rep at h
    obtain ⟨a, xs, rfl, s, r⟩ := h
    simp only [D.py]
    exact .tup (SqU.t (K := C.K) (.inl (hp _ _ s))) (reps_dp hp ds xs (by simpa [D.dat] using hd) r)
  | .lst ds, v, hd, h => by
    unfold Rep at h
    obtain ⟨a, xs, rfl, s, r⟩ := h
    simp only [D.py]
    exact .lst (SqL.of (hp _ _ s)) (reps_dp hp ds xs (by simpa [D.dat] using hd) r)
  | .ob _ _, _, h, _ => by simp [D.dat] at h
  | .cel _, _, h, _ => by simp [D.dat] at h
  | .cls _, _, h, _ => by simp [D.dat] at h
  | .ty _, _, h, _ => by simp [D.dat] at h
  | .scr _, _, h, _ => by simp [D.dat] at h
  | .dct _, _, h, _ => by simp [D.dat] at h
  | .dtt _, _, h, _ => by simp [D.dat] at h
  | .raw _, _, h, _ => by simp [D.dat] at h
  | .wtp _, _, h, _ => by simp [D.dat] at h
theorem reps_dp {C : Con} {g : Gh} {H : Hp} (hp : ∀ a o, g.P a = some o → H a = some o) : ∀ (ds : List D) (vs : List V), D.dats ds = true → Reps C g ds vs → DpAll C.K H vs (D.pys ds)
  | [], vs, _, h => by unfold Reps at h; subst h; simp only [D.pys]; exact .nil
  | d :: ds, vs, hd, h => by
    have hd' : d.dat = true ∧ D.dats ds = true := by simpa [D.dats] using hd
    unfold Reps at h
    obtain ⟨v, r, rfl, a, b⟩ := h
    simp only [D.pys]
    exact .cons (rep_dp hp d v hd'.1 a) (reps_dp hp ds r hd'.2 b)
end
section
variable {B : Bd} {X : Cx} {W : WX} {a b c e : Expr} {es : List Expr} {wa wb wc : WE} {ta : WA} {pos : Pos} {M : MT}
theorem repB_dp {g : Gh} {env : Envr} {st : Store} {σ : L2.St} {H : Hp} (bo : BOk B g env st σ H) {d : D} {v : V} (hd : d.dat = true) (h : RepB B g env σ d v) : Dp B.C.K H v d.py := by
  rcases h with h | ⟨i, ds, e1, rfl, e3⟩
  · exact rep_dp bo.ok.p d v hd h
  · obtain ⟨a, xs, h1, h2, h3, _⟩ := bo.en.own i ds e1
    rw [e3] at h1
    cases h1
    simp only [D.py]
    exact .lst (SqL.of h2) (reps_dp bo.ok.p ds xs (by simpa [D.dat] using hd) h3)
/-- two things that == takes as data -/
def DatOk (d1 d2 : D) : Prop := d1.dat = true ∧ d2.dat = true ∧ d1.dep ≤ 64 ∧ d2.dep ≤ 64
theorem shaped_of {d : D} (h : d.dat = true) (hd : d.dep ≤ 64) : SeqAt.shaped d.py = true := by
  unfold SeqAt.shaped
  rw [py_lay d h, py_dep d h]
  simpa using hd
def oEqD : O2 := fun d1 d2 st Q R => DatOk d1 d2 ∧ Q (.bl (eqD d1 d2)) st
def oNeD : O2 := fun d1 d2 st Q R => DatOk d1 d2 ∧ Q (.bl (!eqD d1 d2)) st
theorem opv_eqD (hK : X.K = B.C.K) : OpV B W (rEqD X.K) (fun d1 d2 st Q R => DatOk d1 d2 ∧ Q (.bl (eqD d1 d2)) st) := fun gb g Hb env st σ H d1 d2 x y Q R l bo rw r1 r2 q => by
  obtain ⟨⟨h1, h2, h3, h4⟩, q⟩ := q
  rw [hK]
  refine ⟨d1.py, d2.py, repB_dp bo h1 r1, repB_dp bo h2 r2, shaped_of h1 h3, shaped_of h2 h4, ?_⟩
  rw [py_eqv d1 d2 h1 h2]
  exact QV.same l bo rep_bl q
theorem og_neD (j : J B X W) : OpG B X W (compareOp .NotEq) oNeD := OpG.of (op_neD j.hu) fun gb g Hb env st σ H d1 d2 x y Q R l bo rw r1 r2 q => by
  obtain ⟨⟨h1, h2, h3, h4⟩, q⟩ := q
  rw [j.hK]
  refine ⟨d1.py, d2.py, repB_dp bo h1 r1, repB_dp bo h2 r2, shaped_of h1 h3, shaped_of h2 h4, ?_⟩
  rw [py_eqv d1 d2 h1 h2]
  exact QV.same l bo rep_bl q
theorem og_eqD (j : J B X W) : OpG B X W (compareOp .Eq) oEqD := OpG.of (op_eqD j.hu) (opv_eqD j.hK)
def oLt : O2 := fun d1 d2 st Q R => match d1, d2 with
  | .int i, .int j => Q (.bl (decide (i < j))) st
  | _, _ => False
def oLe : O2 := fun d1 d2 st Q R => match d1, d2 with
  | .int i, .int j => Q (.bl (decide (i ≤ j))) st
  | _, _ => False
def oGt : O2 := fun d1 d2 st Q R => match d1, d2 with
  | .int i, .int j => Q (.bl (decide (j < i))) st
  | _, _ => False
def oGe : O2 := fun d1 d2 st Q R => match d1, d2 with
  | .int i, .int j => Q (.bl (decide (j ≤ i))) st
  | _, _ => False
theorem og_ge : OpG B X W (compareOp .GtE) oGe := OpG.of op_ge fun gb g Hb env st σ H d1 d2 x y Q R l bo rw r1 r2 q => by
  unfold oGe at q
  split at q
  · have e1 := r1.intV; have e2 := r2.intV
    subst e1; subst e2
    exact ⟨_, _, rfl, rfl, QV.same l bo rep_bl q⟩
  · exact q.elim
def D.isNon : D → Bool
  | .non => true | _ => false
theorem isNon_of {g : Gh} {env : Envr} {st : Store} {σ : L2.St} {H : Hp} (bo : BOk B g env st σ H) {d : D} {v : V} (h : RepB B g env σ d v) : decide (v = V.non) = d.isNon := by
  cases d with
  | non => have e := h.nonV; subst e; simp [D.isNon]
  | bl b => have e := h.blV; subst e; simp [D.isNon]
  | int b => have e := h.intV; subst e; simp [D.isNon]
  | str b => have e := h.strV; subst e; simp [D.isNon]
  | tup ds =>
    obtain ⟨a, xs, rfl, _⟩ := (h.full fun ds z => by cases z).tupV
    simp [D.isNon]
  | lst ds =>
    obtain ⟨a, xs, rfl, _⟩ := h.lstV bo
    simp [D.isNon]
  | ob c fs =>
    obtain ⟨a, dx, fv, rfl, _⟩ := (h.full fun ds z => by cases z).obV
    simp [D.isNon]
  | cel n =>
    obtain ⟨a, _, rfl⟩ := (h.full fun ds z => by cases z).celV
    simp [D.isNon]
  | scr n =>
    obtain ⟨a, xs, rfl, _⟩ := (h.full fun ds z => by cases z).scrV
    simp [D.isNon]
  | cls n =>
    have h' := h.full fun ds z => by cases z
    unfold Rep at h'
    subst h'
    simp [D.isNon]
  | ty n =>
    have h' := h.full fun ds z => by cases z
    unfold Rep at h'
    subst h'
    simp [D.isNon]
  | raw n =>
    have h' := h.full fun ds z => by cases z
    unfold Rep at h'
    subst h'
    simp [D.isNon]
  | wtp n =>
    have h' := h.full fun ds z => by cases z
    unfold Rep at h'
    obtain ⟨a, xs, rfl, _⟩ := h'
    simp [D.isNon]
  | dct n =>
    have h' := h.full fun ds z => by cases z
    unfold Rep at h'
    obtain ⟨a, xs, rfl, _⟩ := h'
    simp [D.isNon]
  | dtt n =>
    have h' := h.full fun ds z => by cases z
    unfold Rep at h'
    obtain ⟨a, xs, rfl, _⟩ := h'
    simp [D.isNon]
def wIsN (w : WE) : WE := fun env st Q R => w env st (fun d st1 => Q (.bl d.isNon) st1) R
def wNotN (w : WE) : WE := fun env st Q R => w env st (fun d st1 => Q (.bl (!d.isNon)) st1) R
theorem gt_isN {j p} (h : PBg B X W a wa) : PTg B X W (.Compare a [.Is] [.Constant .none j p] pos) (wBool (wIsN wa)) := by
  refine PTg.of (pt_cmp (pc_isN h.pe) (by rfl)) fun σ H g env st Q R bo rw hw => ?_
  refine ⟨g, env, st, _, R, bo, rw, hw, fun x H1 ⟨d, st1, g1, l1, b1, r1, h1⟩ => ⟨_, rfl, ?_⟩⟩
  rw [isNon_of b1 r1]
  exact ⟨st1, g1, l1, b1, h1⟩
theorem gt_notN {j p} (h : PBg B X W a wa) : PTg B X W (.Compare a [.IsNot] [.Constant .none j p] pos) (wBool (wNotN wa)) := by
  refine PTg.of (pt_cmp (pc_notN h.pe) (by rfl)) fun σ H g env st Q R bo rw hw => ?_
  refine ⟨g, env, st, _, R, bo, rw, hw, fun x H1 ⟨d, st1, g1, l1, b1, r1, h1⟩ => ⟨_, rfl, ?_⟩⟩
  rw [isNon_of b1 r1]
  exact ⟨st1, g1, l1, b1, h1⟩
/-- a < b < c -/
def wChain (o o' : O2) (wa wb wc : WE) : WE := fun env st Q R => wa env st (fun d1 st1 => wb env st1 (fun d2 st2 => o d1 d2 st2 (fun z st3 => match z with
  | .bl true => wc env st3 (fun d3 st4 => o' d2 d3 st4 Q R) R
  | .bl false => Q (.bl false) st3
  | _ => False) R) R) R
def oNeg (M : MT) : O1 := fun d st Q R => match d with
  | .int i => Q (.int (-i)) st
  | .ob c fs => callM M c .neg [.ob c fs] st Q R
  | _ => False
def UnG (B : Bd) (X : Cx) (W : WX) (f : Value → Sem Value) (o : O1) : Prop := ∀ (gb g : Gh) (Hb : Hp) (env : Envr) (st : Store) (σ : L2.St) (H : Hp) (d1 : D) (x : V) (v : Value) (pins : List (Addr × Obj)) (s : Shared) (Q : QE) (R : XQ), Nx gb Hb g H → Inv X pins σ H s → BOk B g env st σ H → RW B W env σ R →
  RepB B g env σ d1 x → RelV x v → o d1 st Q R → wpAny (model X.prog X.w) X.A (f v) (EP X pins σ (QV B gb Hb env σ Q)) X.xe s
theorem g_unop {op : UnaryOp} {o : O1} (h : UnG B X W (unaryOp op) o) (ha : PBg B X W a wa) : PEg B X W (.UnaryOp op a pos) (wUn o wa) := by
  refine ⟨fun pins s σ H g env st Q R I bo rw hw => ?_⟩
  refine UnaryOp_ (thn (ha.run pins s σ H g env st _ R I bo rw hw) fun v s1 ⟨x, H1, I1, rx, d1, st1, g1, l1, b1, r1, h1⟩ => ?_)
  exact h g g1 H env st1 σ H1 d1 x v pins s1 Q R l1 I1 b1 rw r1 rx h1
theorem og_neg (j : J B X W) (m : MOk B X M) : UnG B X W (unaryOp .USub) (oNeg M) := by
  intro gb g Hb env st σ H d1 x v pins s Q R l I bo rw r1 rx q
  unfold oNeg at q
  split at q
  · have e1 := r1.intV
    subst e1
    exact un_neg pins s σ H _ v _ I rx ⟨_, rfl, QV.same l bo rep_int q⟩
  · unfold callM at q
    split at q
    · rename_i φ hm
      obtain ⟨a, dx, fv, ex, ha, _, f1⟩ := rep_ob bo r1
      obtain ⟨f, hme, hc, hs, hw⟩ := met_call j m l bo rw I (Reps.cons f1 Reps.nil) (.cons rx .nil) hm q
      subst ex
      cases rx
      obtain ⟨od, mA, i1, _⟩ := inst_at I ha
      obtain ⟨mm, F⟩ := I.fr
      exact PySem.W.ksp_neg F I.mod.kin i1 hme.at_ hme.fn hw
    · exact q.elim
  · exact q.elim
/-- a value as a test -/
def oTru (M : MT) : D → Store → (Bool → Store → Prop) → XQ → Prop := fun d st Q R => match d with
  | .non => Q false st
  | .bl b => Q b st
  | .int i => Q (i != 0) st
  | .str y => y.length ≤ sizeLine ∧ Q ((y.length : Int) != 0) st
  | .lst xs => Q (!xs.isEmpty) st
  | .tup xs => Q (!xs.isEmpty) st
  | .ob c fs => callM M c .bool [.ob c fs] st (fun r st1 => match r with | .bl b => Q b st1 | _ => False) R
  | _ => False
def wTru (M : MT) (w : WE) : WT := fun env st Q R => w env st (fun d st1 => oTru M d st1 Q R) R
theorem reps_emp {C : Con} {g : Gh} {ds : List D} {vs : List V} (r : Reps C g ds vs) : (!vs.isEmpty) = !ds.isEmpty := by
  cases ds with
  | nil => unfold Reps at r; subst r; rfl
  | cons d ds => unfold Reps at r; obtain ⟨v, q, rfl, _⟩ := r; rfl
theorem gt_truth (j : J B X W) (m : MOk B X M) (h : PBg B X W e wa) (he : ∀ whole, isTrue e X.env whole = (do let v ← whole; standAt e.pos; holding [v] (truthy v)) := by intro _; rfl) : PTg B X W e (wTru M wa) := by
  refine ⟨fun pins s σ H g env st Q R I bo rw hw => ?_⟩
  refine isTrue_plain (thn (h.run pins s σ H g env st _ R I bo rw hw) fun v s1 ⟨x, H1, I1, rx, d1, st1, g1, l1, b1, r1, h1⟩ => ?_) (he _)
  have fin : ∀ {k : Bool}, TruV X.K x H1 k → Q k st1 → wpAny (model X.prog X.w) X.A (truthy v) (TP X pins σ (QB B g H env σ Q)) X.xe s1 := fun {k} t q => tru_ok pins s1 σ H1 x v _ I1 rx ⟨k, t, st1, g1, l1, b1, q⟩
  cases d1 with
  | non => have e := r1.nonV; subst e; exact fin (k := false) rfl h1
  | bl b => have e := r1.blV; subst e; exact fin (k := b) rfl h1
  | int i => have e := r1.intV; subst e; exact fin (k := (i != 0)) rfl h1
  | str y => have e := r1.strV; subst e; exact fin (k := _) ⟨h1.1, rfl⟩ h1.2
  | lst ds =>
    obtain ⟨a, xs, e, hx, r⟩ := r1.lstV b1
    subst e
    exact fin (k := !ds.isEmpty) (.inl ⟨xs, SqL.of hx, (reps_emp r).symm⟩) h1
  | tup ds =>
    obtain ⟨a, xs, e, hx, r⟩ := r1.tupV b1
    subst e
    exact fin (k := !ds.isEmpty) (.inr (.inl ⟨xs, by rw [j.hK]; exact hx.t, (reps_emp r).symm⟩)) h1
  | ob c fs =>
    have q : callM M c .bool [.ob c fs] st1 _ R := h1
    unfold callM at q
    split at q
    · rename_i φ hm
      obtain ⟨a, dx, fv, ex, ha, _, f1⟩ := rep_ob b1 r1
      obtain ⟨f, hme, hc, hs, hw⟩ := met_call j m l1 b1 rw I1 (Reps.cons f1 Reps.nil) (.cons rx .nil) hm q
      subst ex
      cases rx
      obtain ⟨od, mA, i1, _⟩ := inst_at I1 ha
      obtain ⟨mm, F⟩ := I1.fr
      refine PySem.W.truthy_K F I1.mod.kin i1 hme.at_ hme.fn (thn hw fun r s2 ⟨z, H2, I2, rz, d2, st2, g2, l2, b2, r2, h2⟩ => ?_)
      cases d2 with
      | bl k =>
        have e := r2.blV
        subst e
        cases rz
        exact ⟨H2, I2, st2, g2, l2, b2, h2⟩
      | _ => exact h2.elim
    · exact q.elim
  | _ => exact h1.elim
end
end G
namespace G
open PySem PySem.Spec PyProof.Rows L2
section
variable {B : Bd} {X : Cx} {W : WX} {a b c e : Expr} {es : List Expr} {wa wb wc : WE} {ta : WA} {pos : Pos} {M : MT}
def oIx : O2 := fun d1 d2 st Q R => match d1, d2 with
  | .lst xs, .int i => (match atI xs i with | some d => Q d st | none => False)
  | .tup xs, .int i => (match atI xs i with | some d => Q d st | none => False)
  | .str z, .int i => z.length ≤ sizeLine ∧ (match atI z.cps.toList i with | some c => Q (.str ⟨#[c]⟩) st | none => False)
  | .cel n, .int i => (match st[n]? with | some (.lst xs) => (match atI xs i with | some d => Q d st | none => False) | _ => False)
  | _, _ => False
theorem atI_rep {C : Con} {g : Gh} {ds : List D} {vs : List V} {i : Int} {d : D} (r : Reps C g ds vs) (h : atI ds i = some d) : ∃ v, atI vs i = some v ∧ Rep C g d v := by
  unfold atI at h ⊢
  rw [← r.length]
  cases e : ixN ds.length i with
  | none => rw [e] at h; cases h
  | some j =>
    rw [e] at h
    exact r.get h
theorem g_ix (j : J B X W) (ha : PBg B X W a wa) (hb : PBg B X W b wb) (hs : PlainIx b := by first | (intro _ _; rfl) | (exact fun _ _ => rfl)) : PEg B X W (.Subscript a b pos) (wBin oIx wa wb) := by
  refine g_two (r := rIx X.K) (fun _ _ h1 h2 => pe_ix ix_seq h1 h2 hs) ?_ ha hb
  intro gb g Hb env st σ H d1 d2 x y Q R l bo rw r1 r2 q
  unfold oIx at q
  split at q
  · rename_i ds i
    have e2 := r2.intV
    subst e2
    split at q
    · rename_i d hd
      obtain ⟨p, xs, e, hx, r⟩ := r1.lstV bo
      obtain ⟨v, h1, h2⟩ := atI_rep r hd
      exact .inl ⟨p, xs, i, v, e, rfl, SqL.of hx, h1, QV.same l bo h2 q⟩
    · exact q.elim
  · rename_i ds i
    have e2 := r2.intV
    subst e2
    split at q
    · rename_i d hd
      obtain ⟨p, xs, e, hx, r⟩ := r1.tupV bo
      obtain ⟨v, h1, h2⟩ := atI_rep r hd
      exact .inr (.inl ⟨p, xs, i, v, e, rfl, by rw [j.hK]; exact hx.t, h1, QV.same l bo h2 q⟩)
    · exact q.elim
  · rename_i z i
    have e1 := r1.strV
    have e2 := r2.intV
    subst e1; subst e2
    obtain ⟨q1, q⟩ := q
    split at q
    · rename_i c hc
      exact .inr (.inr ⟨z, i, c, rfl, rfl, q1, hc, QV.same l bo rep_str q⟩)
    · exact q.elim
  · rename_i n i
    have e2 := r2.intV
    subst e2
    split at q
    · rename_i ds hn
      split at q
      · rename_i d hd
        obtain ⟨p, e, ha, hc⟩ := r1.celV bo
        obtain ⟨xs, hx, r⟩ := hc _ hn
        obtain ⟨v, h1, h2⟩ := atI_rep r hd
        exact .inl ⟨p, xs, i, v, e, rfl, SqL.of hx, h1, QV.same l bo h2 q⟩
      · exact q.elim
    · exact q.elim
  · exact q.elim
def cutD (xs : List D) (lo hi : Option Int) : List D := (xs.drop (HT.sIx xs.length 0 lo)).take (HT.sIx xs.length xs.length hi - HT.sIx xs.length 0 lo)
theorem cut_rep {C : Con} {g : Gh} {ds : List D} {vs : List V} {lo hi : Option Int} (r : Reps C g ds vs) : Reps C g (cutD ds lo hi) (cutV vs lo hi) := by
  unfold cutD cutV
  rw [← r.length]
  exact (r.drop _).take _
abbrev WO := Envr → Store → (Option Int → Store → Prop) → XQ → Prop
structure POg (B : Bd) (X : Cx) (W : WX) (e : Option Expr) (w : WO) : Prop where
  po : PO X e (fun σ H Q => ∃ g env st Qg R, BOk B g env st σ H ∧ RW B W env σ R ∧ w env st Qg R ∧ ∀ o H', (∃ st' g', Nx g H g' H' ∧ BOk B g' env st' σ H' ∧ Qg o st') → Q o H')
def woNone : WO := fun _ st Q _ => Q none st
def woSome (w : WE) : WO := fun env st Q R => w env st (fun d st1 => match d with | .int i => Q (some i) st1 | _ => False) R
theorem go_none : POg B X W none woNone := ⟨⟨fun pins s σ H Q I ⟨g, env, st, Qg, R, bo, rw, hw, k⟩ => (po_none (X := X)).run pins s σ H Q I (k none H ⟨st, g, .refl g _, bo, hw⟩)⟩⟩
theorem go_some (h : PEg B X W e wa) : POg B X W (some e) (woSome wa) := ⟨⟨fun pins s σ H Q I ⟨g, env, st, Qg, R, bo, rw, hw, k⟩ => (po_some h.pe).run pins s σ H Q I ⟨g, env, st, _, R, bo, rw, hw, fun x H1 ⟨d, st1, g1, l1, b1, r1, h1⟩ => by
  cases d with
  | int i =>
    have e := r1.intV
    subst e
    exact ⟨i, rfl, k _ _ ⟨st1, g1, l1, b1, h1⟩⟩
  | _ => exact h1.elim⟩⟩⟩
def oSl : D → Option Int → Option Int → Store → QE → XQ → Prop := fun d lo hi st Q R => match d with
  | .lst xs => Q (.lst (cutD xs lo hi)) st
  | .scr xs => Q (.lst (cutD xs lo hi)) st
  | .tup xs => ¬ (HT.sIx xs.length 0 lo = 0 ∧ HT.sIx xs.length xs.length hi = xs.length) ∧ Q (.tup (cutD xs lo hi)) st
  | _ => False
def wSl (wa : WE) (wl wh : WO) : WE := fun env st Q R => wa env st (fun d st1 => wl env st1 (fun l st2 => wh env st2 (fun h st3 => oSl d l h st3 Q R) R) R) R
theorem g_sl (j : J B X W) {lo hi : Option Expr} {wl wh : WO} {p2 : Pos} (ha : PBg B X W a wa) (hl : POg B X W lo wl) (hh : POg B X W hi wh) : PEg B X W (.Subscript a (.Slice lo hi none p2) pos) (wSl wa wl wh) := by
  refine PEg.of (pe_slice (sl_list.or sl_tup) ha.pe hl.po hh.po) fun σ H g env st Q R bo rw hw => ?_
  refine ⟨g, env, st, _, R, bo, rw, hw, fun x H1 ⟨d, st1, g1, l1, b1, r1, h1⟩ => ?_⟩
  refine ⟨g1, env, st1, _, R, b1, rw, h1, fun lo' H2 ⟨st2, g2, l2, b2, h2⟩ => ?_⟩
  refine ⟨g2, env, st2, _, R, b2, rw, h2, fun hi' H3 ⟨st3, g3, l3, b3, h3⟩ => ?_⟩
  have r3 := r1.mono (l2.trans l3).le
  have l := l1.trans (l2.trans l3)
  unfold oSl at h3
  split at h3
  · rename_i ds
    obtain ⟨p, xs, e, hx, r⟩ := r3.lstV b3
    exact .inl ⟨p, xs, e, SqL.of hx, fun p' hp => QV.lst j.ck l b3 (cut_rep r) h3 hp⟩
  · rename_i ds
    obtain ⟨p, xs, e, hx, r⟩ := (r3.full fun ds z => by cases z).scrV
    exact .inl ⟨p, xs, e, by rw [j.hK]; exact Same.sqL b3.ok.p hx, fun p' hp => QV.lst j.ck l b3 (cut_rep r) h3 hp⟩
  · rename_i ds
    obtain ⟨p, xs, e, hx, r⟩ := r3.tupV b3
    refine .inr ⟨p, xs, e, by rw [j.hK]; exact hx.t, by rw [← r.length]; exact h3.1, fun p' hp => QV.tup j.ck l b3 (cut_rep r) h3.2 hp⟩
  · exact h3.elim
theorem repsB1 {g : Gh} {env : Envr} {σ : L2.St} {d : D} {xs : List V} (h : RepsB B g env σ [d] xs) : ∃ x, xs = [x] ∧ RepB B g env σ d x := by
  obtain ⟨v, r, e, a, b⟩ := h
  have b' : r = [] := b
  subst b'
  exact ⟨v, e, a⟩
theorem g_blt {x : Str} {p : Pos} {id : String} {r : List V → Hp → VK → Prop} {o : ON} (hc : CallR X (.builtin id) r) (ov : NV B W r o) (hg : Gl X x) (hm : X.mg x = none) (hv : bootBuiltins x = some (.builtin id)) (ha : PAb B X W (e :: es) ta) (hn : x ≠ "__name__" := by decide +kernel) (hdb : (x == ("__debug__" : Str)) = false := by decide +kernel)
    (he : starEach (e :: es) X.env = (false, eval e X.env) :: starEach es X.env := by rfl) (hpl : (backTo pos (starEach es X.env)).any (·.1) = false := by rfl) : PEg B X W (.Call (.Name x p) (e :: es) [] pos) (wArgs o ta) :=
  g_many (fun t h => pe_callB hc hg hm hv h hn hdb he hpl) ov ha
theorem g_bty {x : Str} {p : Pos} {T : String} {r : List V → Hp → VK → Prop} {o : ON} (hc : CallR X (.type T) r) (ov : NV B W r o) (hg : Gl X x) (hm : X.mg x = none) (hv : bootBuiltins x = some (.type T)) (ha : PAb B X W (e :: es) ta) (hn : x ≠ "__name__" := by decide +kernel) (hdb : (x == ("__debug__" : Str)) = false := by decide +kernel)
    (he : starEach (e :: es) X.env = (false, eval e X.env) :: starEach es X.env := by rfl) (hpl : (backTo pos (starEach es X.env)).any (·.1) = false := by rfl) : PEg B X W (.Call (.Name x p) (e :: es) [] pos) (wArgs o ta) :=
  g_many (fun t h => pe_callTy hc hg hm hv h hn hdb he hpl) ov ha
def oLen : ON := fun ds st Q R => match ds with
  | [.lst xs] => Q (.int xs.length) st
  | [.tup xs] => Q (.int xs.length) st
  | [.str y] => y.length ≤ sizeLine ∧ Q (.int y.length) st
  | _ => False
theorem ov_len (hK : X.K = B.C.K) : NV B W (fun xs H Q => ∃ x n, xs = [x] ∧ LenV X.K x H n ∧ Q (.int n) H) oLen := by
  intro gb g Hb env st σ H ds xs Q R l bo rw r q
  unfold oLen at q
  split at q
  · obtain ⟨x, rfl, r1⟩ := repsB1 r
    obtain ⟨p, vs, rfl, hx, r2⟩ := r1.lstV bo
    exact ⟨_, vs.length, rfl, .inl ⟨vs, SqL.of hx, rfl⟩, by rw [← r2.length]; exact QV.same l bo rep_int q⟩
  · obtain ⟨x, rfl, r1⟩ := repsB1 r
    obtain ⟨p, vs, rfl, hx, r2⟩ := r1.tupV bo
    exact ⟨_, vs.length, rfl, .inr ⟨vs, by rw [hK]; exact hx.t, rfl⟩, by rw [← r2.length]; exact QV.same l bo rep_int q⟩
  · obtain ⟨x, rfl, r1⟩ := repsB1 r
    have e := r1.strV
    subst e
    exact ⟨_, _, rfl, ⟨q.1, rfl⟩, QV.same l bo rep_int q.2⟩
  · exact q.elim
def oAbs : ON := fun ds st Q R => match ds with
  | [.int i] => Q (.int (if i < 0 then -i else i)) st
  | _ => False
theorem ov_abs : NV B W (fun xs H Q => ∃ i, xs = [.int i] ∧ Q (.int (if i < 0 then -i else i)) H) oAbs := by
  intro gb g Hb env st σ H ds xs Q R l bo rw r q
  unfold oAbs at q
  split at q
  · obtain ⟨x, rfl, r1⟩ := repsB1 r
    have e := r1.intV
    subst e
    exact ⟨_, rfl, QV.same l bo rep_int q⟩
  · exact q.elim
def oInt : ON := fun ds st Q R => match ds with
  | [.int i] => Q (.int i) st
  | [.bl k] => Q (.int (if k then 1 else 0)) st
  | _ => False
theorem ov_int : NV B W (fun xs H Q => (∃ i, xs = [.int i] ∧ Q (.int i) H) ∨ ∃ k, xs = [.bl k] ∧ Q (.int (if k then 1 else 0)) H) oInt := by
  intro gb g Hb env st σ H ds xs Q R l bo rw r q
  unfold oInt at q
  split at q
  · obtain ⟨x, rfl, r1⟩ := repsB1 r
    have e := r1.intV
    subst e
    exact .inl ⟨_, rfl, QV.same l bo rep_int q⟩
  · obtain ⟨x, rfl, r1⟩ := repsB1 r
    have e := r1.blV
    subst e
    exact .inr ⟨_, rfl, QV.same l bo rep_int q⟩
  · exact q.elim
def oList : ON := fun ds st Q R => match ds with
  | [.lst xs] => Q (.lst xs) st
  | [.tup xs] => Q (.lst xs) st
  | _ => False
theorem ov_list (j : J B X W) : NV B W (fun xs H Q => ∃ p ys, xs = [.ref p] ∧ (SqL X.K H p ys ∨ SqT X.K H p ys) ∧ ∀ l, H l = none → Q (.ref l) (upd H l (.lst ys))) oList := by
  intro gb g Hb env st σ H ds xs Q R l bo rw r q
  unfold oList at q
  split at q
  · obtain ⟨x, rfl, r1⟩ := repsB1 r
    obtain ⟨p, vs, rfl, hx, r2⟩ := r1.lstV bo
    exact ⟨p, vs, rfl, .inl (SqL.of hx), fun p' hp => QV.lst j.ck l bo r2 q hp⟩
  · obtain ⟨x, rfl, r1⟩ := repsB1 r
    obtain ⟨p, vs, rfl, hx, r2⟩ := r1.tupV bo
    exact ⟨p, vs, rfl, .inr (by rw [j.hK]; exact hx.t), fun p' hp => QV.lst j.ck l bo r2 q hp⟩
  · exact q.elim
def oTuple : ON := fun ds st Q R => match ds with
  | [.lst xs] => Q (.tup xs) st
  | [.tup xs] => Q (.tup xs) st
  | _ => False
theorem ov_tuple (j : J B X W) : NV B W (fun xs H Q => ∃ p ys, xs = [.ref p] ∧ ((SqL X.K H p ys ∧ ∀ l, H l = none → Q (.ref l) (upd H l (.tup ys))) ∨ (SqT X.K H p ys ∧ Q (.ref p) H))) oTuple := by
  intro gb g Hb env st σ H ds xs Q R l bo rw r q
  unfold oTuple at q
  split at q
  · obtain ⟨x, rfl, r1⟩ := repsB1 r
    obtain ⟨p, vs, rfl, hx, r2⟩ := r1.lstV bo
    exact ⟨p, vs, rfl, .inl ⟨SqL.of hx, fun p' hp => QV.tup j.ck l bo r2 q hp⟩⟩
  · rename_i ds
    obtain ⟨x, rfl, r1⟩ := repsB1 r
    have rf := r1.full fun ds z => by cases z
    obtain ⟨p, vs, rfl, hx, r2⟩ := r1.tupV bo
    exact ⟨p, vs, rfl, .inr ⟨by rw [j.hK]; exact hx.t, QV.same l bo rf q⟩⟩
  · exact q.elim
def D.bls : List D → Option (List Bool)
  | [] => some []
  | .bl b :: ds => (D.bls ds).map (b :: ·)
  | _ => none
def D.ints : List D → Option (List Int)
  | [] => some []
  | .int b :: ds => (D.ints ds).map (b :: ·)
  | _ => none
theorem ints_rep {C : Con} {g : Gh} : ∀ {ds : List D} {vs : List V} {bs : List Int}, Reps C g ds vs → D.ints ds = some bs → vs = bs.map V.int
  | [], vs, bs, r, h => by unfold Reps at r; subst r; simp [D.ints] at h; subst h; rfl
  | d :: ds, vs, bs, r, h => by
    unfold Reps at r
    obtain ⟨v, q, rfl, a, b⟩ := r
    cases d with
    | int k =>
      simp only [D.ints, Option.map_eq_some_iff] at h
      obtain ⟨cs, h1, rfl⟩ := h
      rw [a.intV, ints_rep b h1]
      rfl
    | _ => simp [D.ints] at h
theorem rep_ints {C : Con} {g : Gh} : ∀ ns : List Int, Reps C g (ns.map D.int) (ns.map V.int)
  | [] => Reps.nil
  | n :: ns => Reps.cons rep_int (rep_ints ns)
def oAll : ON := fun ds st Q R => match ds with
  | [.lst xs] => (match D.bls xs with | some bs => Q (.bl (bs.all id)) st | none => False)
  | _ => False
def oAny : ON := fun ds st Q R => match ds with
  | [.lst xs] => (match D.bls xs with | some bs => Q (.bl (bs.any id)) st | none => False)
  | _ => False
def oSum : ON := fun ds st Q R => match ds with
  | [.lst xs] => (match D.ints xs with | some ns => Q (.int ns.sum) st | none => False)
  | _ => False
end
end G
namespace G
open PySem PySem.Spec PyProof.Rows L2
section
variable {B : Bd} {X : Cx} {W : WX} {a b c e : Expr} {es : List Expr} {wa wb wc : WE} {ta : WA} {pos : Pos} {M : MT}
theorem BOk.setVal {g : Gh} {env : Envr} {st : Store} {σ : L2.St} {H : Hp} (bo : BOk B g env st σ H) {d : D} {v : V} (r : Rep B.C g d v) (i : Nat) : BOk B g (env.set i (.val d)) st (σ.set i (some v)) H := by
  refine ⟨bo.ok, bo.nx, ⟨by rw [List.length_set, List.length_set]; exact bo.en.len, fun k d' h => ?_, fun k ds h => ?_, fun k m ds es a hkm h1 h2 h3 => ?_⟩⟩
  · by_cases hk : i = k
    · subst hk
      by_cases hi : i < env.length
      · rw [List.getElem?_set_self hi] at h
        cases h
        exact ⟨v, List.getElem?_set_self (by rw [← bo.en.len]; exact hi), r⟩
      · rw [List.set_eq_of_length_le (by omega)] at h
        rw [List.set_eq_of_length_le (by rw [← bo.en.len]; omega)]
        exact bo.en.val i d' h
    · rw [List.getElem?_set_ne hk] at h ⊢
      exact bo.en.val k d' h
  · by_cases hk : i = k
    · subst hk
      by_cases hi : i < env.length
      · rw [List.getElem?_set_self hi] at h
        cases h
      · rw [List.set_eq_of_length_le (by omega)] at h
        rw [List.set_eq_of_length_le (by rw [← bo.en.len]; omega)]
        exact bo.en.own i ds h
    · rw [List.getElem?_set_ne hk] at h ⊢
      exact bo.en.own k ds h
  · have nk : ∀ m' es', (env.set i (Slot.val d))[m']? = some (Slot.own es') → env[m']? = some (Slot.own es') ∧ (σ.set i (some v))[m']? = σ[m']? := fun m' es' h => by
      by_cases hk : i = m'
      · subst hk
        by_cases hi : i < env.length
        · rw [List.getElem?_set_self hi] at h
          cases h
        · rw [List.set_eq_of_length_le (by omega)] at h
          rw [List.set_eq_of_length_le (by rw [← bo.en.len]; omega)]
          exact ⟨h, rfl⟩
      · rw [List.getElem?_set_ne hk] at h ⊢
        exact ⟨h, rfl⟩
    obtain ⟨p1, p2⟩ := nk k ds h1
    obtain ⟨q1, q2⟩ := nk m es h2
    rw [p2] at h3
    rw [q2]
    exact bo.en.dis k m ds es a hkm p1 q1 h3
/-- a new list of the frame's own -/
theorem BOk.setOwn (ck : ConOk B.C) {g : Gh} {env : Envr} {st : Store} {σ : L2.St} {H : Hp} (bo : BOk B g env st σ H) {ds : List D} {xs : List V} (r : Reps B.C g ds xs) {p : Addr} (hp : H p = none) (i : Nat) :
    BOk B g (env.set i (.own ds)) st (σ.set i (some (.ref p))) (upd H p (.lst xs)) := by
  have e : ∀ a u, H a = some u → upd H p (.lst xs) a = some u := fun a u q => by rw [upd_ne (ne_of_none q hp)]; exact q
  have b1 := bo.grow ck e
  have hPp : g.P p = none := bo.ok.free hp
  have hcp := bo.cellNe hp
  have hH0 : B.H0 p = none := bo.nx.dm p hp
  have nk : ∀ m' es', m' ≠ i → (env.set i (Slot.own ds))[m']? = some (Slot.own es') → env[m']? = some (Slot.own es') ∧ (σ.set i (some (V.ref p)))[m']? = σ[m']? := fun m' es' hk h => by
    rw [List.getElem?_set_ne (Ne.symm hk)] at h ⊢
    exact ⟨h, rfl⟩
  have old : ∀ m' es' a, env[m']? = some (Slot.own es') → σ[m']? = some (some (V.ref a)) → a ≠ p := fun m' es' a h1 h2 => by
    obtain ⟨a', ys, q1, q2, _⟩ := bo.en.own m' es' h1
    rw [h2] at q1
    cases q1
    exact ne_of_none q2 hp
  refine ⟨b1.ok, b1.nx, ⟨by rw [List.length_set, List.length_set]; exact bo.en.len, fun k d' h => ?_, fun k es h => ?_, fun k m ds' es' a hkm h1 h2 h3 => ?_⟩⟩
  · by_cases hk : i = k
    · subst hk
      by_cases hi : i < env.length
      · rw [List.getElem?_set_self hi] at h
        cases h
      · rw [List.set_eq_of_length_le (by omega)] at h
        rw [List.set_eq_of_length_le (by rw [← bo.en.len]; omega)]
        exact bo.en.val i d' h
    · rw [List.getElem?_set_ne hk] at h ⊢
      exact bo.en.val k d' h
  · by_cases hk : i = k
    · subst hk
      by_cases hi : i < env.length
      · rw [List.getElem?_set_self hi] at h
        cases h
        exact ⟨p, xs, List.getElem?_set_self (by rw [← bo.en.len]; exact hi), upd_same, r, hPp, hcp, hH0⟩
      · rw [List.set_eq_of_length_le (by omega)] at h
        rw [List.set_eq_of_length_le (by rw [← bo.en.len]; omega)]
        exact b1.en.own i es h
    · rw [List.getElem?_set_ne hk] at h ⊢
      exact b1.en.own k es h
  · by_cases hk : k = i
    · subst hk
      have hm : m ≠ k := fun z => hkm z.symm
      obtain ⟨q1, q2⟩ := nk m es' hm h2
      rw [q2]
      by_cases hi : k < env.length
      · rw [List.getElem?_set_self (by rw [← bo.en.len]; exact hi)] at h3
        cases h3
        exact fun z => old m es' p q1 z rfl
      · rw [List.set_eq_of_length_le (by omega)] at h1
        rw [List.set_eq_of_length_le (by rw [← bo.en.len]; omega)] at h3
        exact bo.en.dis k m ds' es' a hkm h1 q1 h3
    · obtain ⟨p1, p2⟩ := nk k ds' hk h1
      rw [p2] at h3
      by_cases hm : m = i
      · subst hm
        by_cases hi : m < env.length
        · rw [List.getElem?_set_self (by rw [← bo.en.len]; exact hi)]
          exact fun z => by
            cases z
            exact old k ds' p p1 h3 rfl
        · rw [List.set_eq_of_length_le (by omega)] at h2
          rw [List.set_eq_of_length_le (by rw [← bo.en.len]; omega)]
          exact bo.en.dis k m ds' es' a hkm p1 h2 h3
      · obtain ⟨q1, q2⟩ := nk m es' hm h2
        rw [q2]
        exact bo.en.dis k m ds' es' a hkm p1 q1 h3
/-- a list of the frame's own changes -/
theorem BOk.chOwn {g : Gh} {env : Envr} {st : Store} {σ : L2.St} {H : Hp} (ck : ConOk B.C) (bo : BOk B g env st σ H) {i : Nat} {ds ds' : List D} {xs' : List V} {a : Addr} (h : env[i]? = some (Slot.own ds)) (hs : σ[i]? = some (some (V.ref a))) (r : Reps B.C g ds' xs') : BOk B g (env.set i (.own ds')) st σ (upd H a (.lst xs')) := by
  obtain ⟨a', xs, h1, h2, h3, h4, h5, h6⟩ := bo.en.own i ds h
  rw [hs] at h1
  cases h1
  have hi : i < env.length := (List.getElem?_eq_some_iff.mp h).1
  have tt : B.C.TT (upd H a (.lst xs')) := ck.tt H _ bo.ok.tab fun b o q t => by
    rw [upd_ne (fun z => by rw [z, h2] at q; cases q; exact t)]; exact q
  have ne : ∀ b, g.P b ≠ none → b ≠ a := fun b q z => q (by rw [z]; exact h4)
  have nc : ∀ n b, g.ad n = some b → b ≠ a := fun n b q z => h5 n (by rw [← z]; exact q)
  refine ⟨⟨fun b o q => ?_, bo.ok.nt, bo.ok.np, bo.ok.inj, fun n c q => ?_, bo.ok.dom, tt⟩, ⟨bo.nx.le, fun b o q t c => ?_, fun b q => ?_, bo.nx.nc, bo.nx.np⟩, ⟨by rw [List.length_set]; exact bo.en.len, fun k d q => ?_, fun k es q => ?_, fun k m ds1 es1 b hkm q1 q2 q3 => ?_⟩⟩
  · rw [upd_ne (ne b (by rw [q]; simp))]; exact bo.ok.p b o q
  · obtain ⟨b, q1, q2⟩ := bo.ok.cell n c q
    exact ⟨b, q1, q2.mono (.refl g) (upd_ne (nc n b q1))⟩
  · have hb : b ≠ a := fun z => by rw [z, h6] at q; cases q
    rw [upd_ne hb]
    exact bo.nx.kp b o q t c
  · by_cases hb : b = a
    · rw [hb]; exact h6
    · rw [upd_ne hb] at q; exact bo.nx.dm b q
  · by_cases hk : i = k
    · subst hk
      rw [List.getElem?_set_self hi] at q
      cases q
    · rw [List.getElem?_set_ne hk] at q
      exact bo.en.val k d q
  · by_cases hk : i = k
    · subst hk
      rw [List.getElem?_set_self hi] at q
      cases q
      exact ⟨a, xs', hs, upd_same, r, h4, h5, h6⟩
    · rw [List.getElem?_set_ne hk] at q
      obtain ⟨b, ys, q1, q2, q3⟩ := bo.en.own k es q
      have hb : b ≠ a := fun z => by
        rw [z] at q1
        exact bo.en.dis i k ds es a hk h q hs q1
      exact ⟨b, ys, q1, by rw [upd_ne hb]; exact q2, q3⟩
  · have nk : ∀ m' es', (env.set i (Slot.own ds'))[m']? = some (Slot.own es') → ∃ es2, env[m']? = some (Slot.own es2) := fun m' es' q => by
      by_cases hk : i = m'
      · subst hk; exact ⟨ds, h⟩
      · rw [List.getElem?_set_ne hk] at q; exact ⟨es', q⟩
    obtain ⟨e1, p1⟩ := nk k ds1 q1
    obtain ⟨e2, p2⟩ := nk m es1 q2
    exact bo.en.dis k m e1 e2 b hkm p1 p2 q3
theorem BOk.ownAt {g : Gh} {env : Envr} {st : Store} {σ : L2.St} {H : Hp} (bo : BOk B g env st σ H) {i : Nat} {ds : List D} (h : env[i]? = some (Slot.own ds)) : ∃ (a : Addr) (xs : List V), σ[i]? = some (some (V.ref a)) ∧ H a = some (.lst xs) ∧ Reps B.C g ds xs := by
  obtain ⟨a, xs, h1, h2, h3, _⟩ := bo.en.own i ds h
  exact ⟨a, xs, h1, h2, h3⟩
/-- a list of the frame's own is not changed any more -/
def frz1 (env : Envr) (i : Nat) : Envr := match env[i]? with
  | some (Slot.own ds) => env.set i (.val (.lst ds))
  | _ => env
theorem BOk.frz1 {g : Gh} {env : Envr} {st : Store} {σ : L2.St} {H : Hp} (bo : BOk B g env st σ H) (i : Nat) : ∃ g', g.le g' ∧ BOk B g' (G.frz1 env i) st σ H := by
  unfold G.frz1
  split
  · rename_i ds h
    obtain ⟨a, xs, h1, h2, h3, h4, h5, h6⟩ := bo.en.own i ds h
    have l : g.le (g.add a (.lst xs)) := Gh.le_add h4
    have at_ : ∀ b, b ≠ a → (g.add a (.lst xs)).P b = g.P b := fun b hb => upd_ne hb
    have ata : (g.add a (.lst xs)).P a = some (.lst xs) := upd_same
    have b1 : BOk B (g.add a (.lst xs)) env st σ H ∨ True := .inr trivial
    have hi : i < env.length := (List.getElem?_eq_some_iff.mp h).1
    refine ⟨_, l, ⟨fun b o q => ?_, fun b ps q => ?_, fun n b q => ?_, bo.ok.inj, fun n c q => ?_, bo.ok.dom, bo.ok.tab⟩, ⟨bo.nx.le.trans l, bo.nx.kp, bo.nx.dm, bo.nx.nc, fun b o q => ?_⟩, ⟨by rw [List.length_set]; exact bo.en.len, fun k d q => ?_, fun k es q => ?_, fun k m ds1 es1 b hkm q1 q2 q3 => ?_⟩⟩
    · by_cases hb : b = a
      · subst hb; rw [ata] at q; cases q; exact h2
      · rw [at_ b hb] at q; exact bo.ok.p b o q
    · by_cases hb : b = a
      · subst hb; rw [ata] at q; cases q
      · rw [at_ b hb] at q; exact bo.ok.nt b ps q
    · rw [at_ b (fun z => h5 n (by rw [← z]; exact q))]; exact bo.ok.np n b q
    · obtain ⟨b, q1, q2⟩ := bo.ok.cell n c q
      exact ⟨b, q1, q2.mono l rfl⟩
    · by_cases hb : b = a
      · subst hb; exact .inr h6
      · rw [at_ b hb] at q; exact bo.nx.np b o q
    · by_cases hk : i = k
      · subst hk
        rw [List.getElem?_set_self hi] at q
        cases q
        refine ⟨_, h1, ?_⟩
        unfold Rep
        exact ⟨a, xs, rfl, ata, h3.mono l⟩
      · rw [List.getElem?_set_ne hk] at q
        obtain ⟨v, q1, q2⟩ := bo.en.val k d q
        exact ⟨v, q1, q2.mono l⟩
    · by_cases hk : i = k
      · subst hk
        rw [List.getElem?_set_self hi] at q
        cases q
      · rw [List.getElem?_set_ne hk] at q
        obtain ⟨b, ys, q1, q2, q3, q4, q5⟩ := bo.en.own k es q
        have hb : b ≠ a := fun z => by
          rw [z] at q1
          exact bo.en.dis i k ds es a hk h q h1 q1
        exact ⟨b, ys, q1, q2, q3.mono l, by rw [at_ b hb]; exact q4, q5⟩
    · have nk : ∀ m' es', (env.set i (Slot.val (.lst ds)))[m']? = some (Slot.own es') → env[m']? = some (Slot.own es') := fun m' es' q => by
        by_cases hk : i = m'
        · subst hk; rw [List.getElem?_set_self hi] at q; cases q
        · rw [List.getElem?_set_ne hk] at q; exact q
      exact bo.en.dis k m ds1 es1 b hkm (nk _ _ q1) (nk _ _ q2) q3
  · exact ⟨g, .refl g, bo⟩
def frz (is : List Nat) (env : Envr) : Envr := is.foldl G.frz1 env
theorem BOk.frz {st : Store} {σ : L2.St} {H : Hp} : ∀ (is : List Nat) {g : Gh} {env : Envr}, BOk B g env st σ H → ∃ g', g.le g' ∧ BOk B g' (G.frz is env) st σ H
  | [], g, env, bo => ⟨g, .refl g, bo⟩
  | i :: is, g, env, bo => by
    obtain ⟨g1, l1, b1⟩ := bo.frz1 i
    obtain ⟨g2, l2, b2⟩ := BOk.frz is b1
    exact ⟨g2, l1.trans l2, b2⟩
end
end G
namespace G
open PySem PySem.Spec PyProof.Rows L2
section
variable {B : Bd} {X : Cx} {W : WX} {a b c e : Expr} {es : List Expr} {wa wb wc : WE} {ta : WA} {pos : Pos} {M : MT} {stm : Stmt} {rest : List Stmt} {w u : WS}
def xe (D : EW) (env : Envr) : XQ := fun x st => D.ex x env st
theorem SP.le {pins : List (Addr × Obj)} {g g1 : Gh} {D : EW} {f : Flow} {s : Shared} (l : g.le g1) (h : SP X pins (EndsOf B g1 D) f s) : SP X pins (EndsOf B g D) f s :=
  SP.imp h (fun _ _ z => QN.le l z) (fun _ _ z => QR.le l z) (fun _ _ z => QN.le l z) (fun _ _ z => QN.le l z)
def wNext : WS := fun env st D => D.nx env st
def wSeq (w u : WS) : WS := fun env st D => w env st { D with nx := fun env' st' => u env' st' D }
theorem gss_nil : PSsg B X W [] wNext := ⟨fun pins s σ H g env st D I bo rw hw => wpAny_execs_nil ⟨σ, H, I, env, st, g, .refl g, bo, hw⟩⟩
theorem gss_cons (h1 : PSg B X W stm w) (h2 : PSsg B X W rest u) : PSsg B X W (stm :: rest) (wSeq w u) := by
  refine ⟨fun pins s σ H g env st D I bo rw hw => ?_⟩
  refine wpAny_execs_cons (thn (h1.run pins s σ H g env st { D with nx := fun env' st' => u env' st' D } I bo rw hw) fun f s1 q => ?_)
  cases f with
  | next =>
    obtain ⟨σ', H', I', env', st', g', l', b', q⟩ := q
    exact thn (h2.run pins s1 σ' H' g' env' st' D I' b' rw q) fun _ _ z => SP.le l' z
  | ret v => exact q
  | brk => exact q
  | cont => exact q
theorem gss_one (h1 : PSg B X W stm w) : PSsg B X W [stm] w := by
  refine ⟨fun pins s σ H g env st D I bo rw hw => ?_⟩
  refine wpAny_execs_cons (thn (h1.run pins s σ H g env st D I bo rw hw) fun f s1 q => ?_)
  cases f with
  | next => exact wpAny_execs_nil q
  | ret v => exact q
  | brk => exact q
  | cont => exact q
/-- ahead of the statement some lists of the frame's own are frozen -/
def wFrz (is : List Nat) (w : WS) : WS := fun env st D => w (frz is env) st D
theorem gs_frz (is : List Nat) (h : PSg B X W stm w) : PSg B X W stm (wFrz is w) := ⟨fun pins s σ H g env st D I bo rw hw => by
  obtain ⟨g', l, b⟩ := bo.frz is
  exact thn (h.run pins s σ H g' (frz is env) st D I b rw hw) fun _ _ z => SP.le l z⟩
def wBrk : WS := fun env st D => D.bk env st
def wCnt : WS := fun env st D => D.ct env st
def wNever : WS := fun _ _ _ => False
theorem gs_never : PSg B X W stm wNever := ⟨fun pins s σ H g env st D I bo rw hw => hw.elim⟩
def wExpr (wa : WE) : WS := fun env st D => wa env st (fun _ st1 => D.nx env st1) (xe D env)
def wRet (wa : WE) : WS := fun env st D => wa env st D.rt (xe D env)
theorem gs_ret (h : PEg B X W e wa) : PSg B X W (.Return (some e) pos) (wRet wa) :=
  PSg.of (ps_ret h.pe) fun σ H g env st D bo rw hw => ⟨g, env, st, _, _, bo, rw.at env σ, hw, fun x H1 ⟨d, st1, g1, l1, b1, r1, h1⟩ => ⟨d, st1, g1, l1.le, b1.ok, b1.nx, r1, h1⟩⟩
def wRetN : WS := fun env st D => D.rt .non st
def wIfS (t : WT) (w u : WS) : WS := fun env st D => t env st (fun b st1 => if b = true then w env st1 D else u env st1 D) (xe D env)
theorem gs_if {t : WT} {sa sb : List Stmt} (hc : PTg B X W c t) (ha : PSsg B X W sa w) (hb : PSsg B X W sb u) : PSg B X W (.If c sa sb pos) (wIfS t w u) := by
  refine ⟨fun pins s σ H g env st D I bo rw hw => ?_⟩
  refine wpAny_If (thn (hc.run pins s σ H g env st _ _ I bo (rw.at env σ) hw) fun d s1 ⟨H1, I1, st1, g1, l1, b1, q1⟩ => ?_)
  cases d with
  | true => exact thn (ha.run pins s1 σ H1 g1 env st1 D I1 b1 rw q1) fun _ _ z => SP.le l1.le z
  | false => exact thn (hb.run pins s1 σ H1 g1 env st1 D I1 b1 rw q1) fun _ _ z => SP.le l1.le z
abbrev WG := D → Envr → Store → (Envr → Store → Prop) → Prop
abbrev WGs := List D → Envr → Store → (Envr → Store → Prop) → Prop
def QNx (B : Bd) (g : Gh) (H : Hp) (Q : Envr → Store → Prop) : L2.St → Hp → Prop := fun σ' H' => ∃ env' st' g', Nx g H g' H' ∧ BOk B g' env' st' σ' H' ∧ Q env' st'
theorem QNx.qn {g : Gh} {H : Hp} {Q : Envr → Store → Prop} {σ' : L2.St} {H' : Hp} (h : QNx B g H Q σ' H') : QN B g Q σ' H' := by
  obtain ⟨env', st', g', nx, b, q⟩ := h
  exact ⟨env', st', g', nx.le, b, q⟩
theorem QNx.trans {g g1 : Gh} {H H1 : Hp} {Q : Envr → Store → Prop} {σ' : L2.St} {H' : Hp} (l : Nx g H g1 H1) (h : QNx B g1 H1 Q σ' H') : QNx B g H Q σ' H' := by
  obtain ⟨env', st', g', nx, b, q⟩ := h
  exact ⟨env', st', g', l.trans nx, b, q⟩
/-- nothing but these slots has changed -/
def Agr (sl : List Nat) (σ σ' : L2.St) : Prop := σ'.length = σ.length ∧ ∀ k, k ∉ sl → σ'[k]? = σ[k]?
theorem Agr.refl (sl : List Nat) (σ : L2.St) : Agr sl σ σ := ⟨rfl, fun _ _ => rfl⟩
theorem Agr.set {sl : List Nat} {σ : L2.St} {i : Nat} {v : Option V} (h : i ∈ sl) : Agr sl σ (σ.set i v) := ⟨by simp, fun k hk => List.getElem?_set_ne (show i ≠ k from fun z => hk (by rw [← z]; exact h))⟩
theorem Agr.trans {s1 s2 : List Nat} {σ σ1 σ2 : L2.St} (x : Agr s1 σ σ1) (y : Agr s2 σ1 σ2) : Agr (s1 ++ s2) σ σ2 := ⟨y.1.trans x.1, fun k hk => (y.2 k fun z => hk (List.mem_append_right _ z)).trans (x.2 k fun z => hk (List.mem_append_left _ z))⟩
structure PGg (B : Bd) (X : Cx) (tg : Expr) (sl : List Nat) (w : WG) : Prop where
  run : ∀ (pins : List (Addr × Obj)) (s : Shared) (σ : L2.St) (H : Hp) (g : Gh) (env : Envr) (st : Store) (d : D) (v : V) (u : Value) (Q : Envr → Store → Prop), Inv X pins σ H s → BOk B g env st σ H → Rep B.C g d v → RelV v u → w d env st Q →
    wpAny (model X.prog X.w) X.A (assign tg X.env u) (fun _ s' => ∃ σ' H', Inv X pins σ' H' s' ∧ Agr sl σ σ' ∧ QNx B g H Q σ' H') X.xe s
structure PGsg (B : Bd) (X : Cx) (ts : List Expr) (sl : List Nat) (w : WGs) : Prop where
  run : ∀ (pins : List (Addr × Obj)) (s : Shared) (σ : L2.St) (H : Hp) (g : Gh) (env : Envr) (st : Store) (ds : List D) (vs : List V) (us : List Value) (Q : Envr → Store → Prop), Inv X pins σ H s → BOk B g env st σ H → Reps B.C g ds vs → Vals vs us → w ds env st Q →
    wpAny (model X.prog X.w) X.A (assignInOrder ((assignEach ts X.env).map (·.2)) us) (fun _ s' => ∃ σ' H', Inv X pins σ' H' s' ∧ Agr sl σ σ' ∧ QNx B g H Q σ' H') X.xe s
def wgName (i : Nat) : WG := fun d env st Q => Q (env.set i (.val d)) st
theorem gg_name (j : J B X W) (i : Nat) {x : Str} (hi : X.N[i]? = some x := by rfl) (hx : Loc X.env.scope x := by first | exact Or.inl rfl | exact Or.inr rfl) (hf : X.fn x = true ∨ X.env.scope.names.lookup x = some .local := by first | exact .inl rfl | exact .inr rfl | assumption) : PGg B X (.Name x pos) [i] (wgName i) :=
  ⟨fun pins s σ H g env st d v u Q I bo r rv hw => thn ((pg_name j.nd hi hx hf).run pins s σ H v u (fun σ' H' => σ' = σ.set i (some v) ∧ H' = H) I rv ⟨rfl, rfl⟩) fun _ s' ⟨σ', H', I', e1, e2⟩ => ⟨σ', H', I', by rw [e1]; exact Agr.set (by simp), by rw [e1, e2]; exact ⟨_, st, g, .refl g _, bo.setVal r i, hw⟩⟩⟩
def wgsNil : WGs := fun ds env st Q => match ds with | [] => Q env st | _ => False
def wgsCons (t : WG) (u : WGs) : WGs := fun ds env st Q => match ds with | d :: r => t d env st (fun env' st' => u r env' st' Q) | [] => False
theorem ggs_nil : PGsg B X [] [] wgsNil := ⟨fun pins s σ H g env st ds vs us Q I bo r rv hw => by
  cases ds with
  | nil =>
    unfold Reps at r
    subst r
    cases rv
    exact assignInOrder_nil ⟨σ, H, I, .refl _ _, env, st, g, .refl g _, bo, hw⟩
  | cons d ds => exact hw.elim⟩
theorem Reps.cons_inv {C : Con} {g : Gh} {d : D} {ds : List D} {vs : List V} (h : Reps C g (d :: ds) vs) : ∃ v r, vs = v :: r ∧ Rep C g d v ∧ Reps C g ds r := by unfold Reps at h; exact h
theorem ggs_cons {t : WG} {ts : WGs} {s1 s2 : List Nat} (h1 : PGg B X e s1 t) (h2 : PGsg B X es s2 ts) (hs : (assignEach (e :: es) X.env).map (·.2) = assign e X.env :: (assignEach es X.env).map (·.2) := by rfl) : PGsg B X (e :: es) (s1 ++ s2) (wgsCons t ts) := ⟨fun pins s σ H g env st ds vs us Q I bo r rv hw => by
  cases ds with
  | nil => exact hw.elim
  | cons d ds =>
    obtain ⟨v, q, rfl, a, b⟩ := r.cons_inv
    cases rv with
    | cons r1 r2 =>
      rw [hs]
      refine assignInOrder_cons (thn (h1.run pins s σ H g env st d v _ _ I bo a r1 hw) fun _ s1 ⟨σ1, H1, I1, ag, env1, st1, g1, l1, b1, q1⟩ => ?_)
      exact thn (h2.run pins s1 σ1 H1 g1 env1 st1 ds q _ Q I1 b1 (b.mono l1.le) r2 q1) fun _ _ ⟨σ2, H2, I2, ag2, z⟩ => ⟨σ2, H2, I2, ag.trans ag2, z.trans l1⟩⟩
def wgTup (n : Nat) (t : WGs) : WG := fun d env st Q => match d with
  | .tup ds => ds.length = n ∧ t ds env st Q
  | .lst ds => ds.length = n ∧ t ds env st Q
  | _ => False
theorem gg_tup (j : J B X W) {k} {n : Nat} {t : WGs} {sl : List Nat} (h : PGsg B X es sl t) (hn : (assignEach es X.env).length = n := by rfl) (hst : (assignEach es X.env).findIdx? (·.1) = none := by rfl) : PGg B X (.Tuple es k pos) sl (wgTup n t) := ⟨fun pins s σ H g env st d v u Q I bo r rv hw => by
  cases d with
  | tup ds =>
    obtain ⟨p, xs, rfl, hx, r2⟩ := r.tupV
    cases rv
    obtain ⟨hl, hw⟩ := hw
    obtain ⟨its, rv, ht, hz⟩ := I.tuple (by rw [j.hK]; exact (Same.sqU bo.ok.p hx).t)
    refine assign_Tuple_tuple j.hd ht (by simp [hn, ← hl, r2.length, rv.length]) hst fun h' hx' => ?_
    have I1 : Inv X pins σ H { s with heap := h' } := I.kept (t' := s.toks) fun b o e => hx' b o (Nat.ne_of_lt (Heap.lt_size e)) e
    exact h.run pins _ σ H g env st ds xs _ Q I1 bo r2 (by simpa using rv) hw
  | lst ds =>
    obtain ⟨p, xs, rfl, hx, r2⟩ := r.lstV
    cases rv
    obtain ⟨hl, hw⟩ := hw
    obtain ⟨its, rv, ⟨o, m, e1, e2, e3, e4⟩, hz⟩ := I.list (SqL.of (bo.ok.p _ _ hx))
    have isl : s.heap.IsList p its.toArray := ⟨o, e1, e2, m, e4⟩
    have num : (assignEach es X.env).length = its.toArray.size := by rw [hn, ← hl, r2.length, rv.length]; simp
    rw [PyProof.Rows.assign_Tuple]
    refine wpAny_bind (wpAny_standAt ?_)
    unfold unpack
    rw [num, hst]
    refine wpAny_bind (wpAny_holding (PySem.W.kun_itemsOf j.hd isl fun h' hx' => ?_))
    have I1 : Inv X pins σ H { s with heap := h' } := I.kept (t' := s.toks) fun b o e => hx' b o (Nat.ne_of_lt (Heap.lt_size e)) e
    exact h.run pins _ σ H g env st ds xs _ Q I1 bo r2 (by simpa using rv) hw
  | _ => exact hw.elim⟩
/-- target = value -/
def wAsg (wa : WE) (t : WG) : WS := fun env st D => wa env st (fun d st1 => t d env st1 D.nx) (xe D env)
/-- name = value -/
def wSet (i : Nat) (wa : WE) : WS := fun env st D => wa env st (fun d st1 => D.nx (env.set i (.val d)) st1) (xe D env)
theorem gs_set (j : J B X W) (i : Nat) {x : Str} {p : Pos} (he : PEg B X W e wa) (hi : X.N[i]? = some x := by rfl) (hx : Loc X.env.scope x := by first | exact Or.inl rfl | exact Or.inr rfl) (hs : swapsWith e (some (.Name x p)) pos.line X.env = pure false := by rfl)
    (hf : X.fn x = true ∨ X.env.scope.names.lookup x = some .local := by first | exact .inl rfl | exact .inr rfl | assumption) : PSg B X W (.Assign [.Name x p] e pos) (wSet i wa) :=
  PSg.of (ps_set j.nd hi hx he.pe hs hf) fun σ H g env st D bo rw hw => ⟨g, env, st, _, _, bo, rw.at env σ, hw, fun v H1 ⟨d, st1, g1, l1, b1, r1, h1⟩ => ⟨_, st1, g1, l1.le, b1.setVal r1 i, h1⟩⟩
/-- a, b = x, y -/
def wPar (i k : Nat) (ta : WA) : WS := fun env st D => ta env st (fun ds st1 => match ds with
  | [d1, d2] => D.nx ((env.set i (.val d1)).set k (.val d2)) st1
  | _ => False) (xe D env)
theorem gs_par (j : J B X W) (i k : Nat) {x y : Str} {px py pt : Pos} {kt k2 pt2} (ha : PAg B X W [a, b] ta) (hi : X.N[i]? = some x := by rfl) (hk : X.N[k]? = some y := by rfl) (hik : i ≠ k := by decide)
    (hx : X.env.scope.names.lookup x = some .local := by rfl) (hy : X.env.scope.names.lookup y = some .local := by rfl)
    (hw : swappedStores [.Tuple [.Name x px, .Name y py] kt pt] (.Tuple [a, b] k2 pt2) X.env = pure (some [x, y]) := by rfl)
    (hs : swapsWithSole [.Tuple [.Name x px, .Name y py] kt pt] (.Tuple [a, b] k2 pt2) pos.line X.env = pure false := by rfl) :
    PSg B X W (.Assign [.Tuple [.Name x px, .Name y py] kt pt] (.Tuple [a, b] k2 pt2) pos) (wPar i k ta) :=
  PSg.of (ps_par j.calm j.nd hi hk hik hx hy ha.pa hw hs) fun σ H g env st D bo rw hq => ⟨g, env, st, _, _, bo, rw.at env σ, hq, fun vs H1 ⟨ds, st1, g1, l1, b1, r1, h1⟩ => by
    match ds, h1 with
    | [d1, d2], h1 =>
      obtain ⟨v, q, rfl, ra, rb⟩ := r1.cons_inv
      obtain ⟨v2, q2, rfl, rc, rd⟩ := rb.cons_inv
      unfold Reps at rd
      subst rd
      exact ⟨v, v2, rfl, _, st1, g1, l1.le, (b1.setVal ra i).setVal rc k, h1⟩⟩
/-- name op= value, by an operator's rule -/
def wAug (i : Nat) (o : O2) (wa : WE) : WS := fun env st D => match env[i]? with
  | some (Slot.val d1) => wa env st (fun d2 st1 => o d1 d2 st1 (fun d st2 => D.nx (env.set i (.val d)) st2) (xe D env)) (xe D env)
  | _ => False
def oAddI : O2 := fun d1 d2 st Q R => match d1, d2 with
  | .int i, .int j => Q (.int (i + j)) st
  | .str x, .str y => x.length + y.length ≤ sizeLine ∧ Q (.str (x ++ y)) st
  | _, _ => False
def oMulI : O2 := fun d1 d2 st Q R => match d1, d2 with
  | .int i, .int j => ((-(2 ^ 64) < i ∧ i < 2 ^ 64) ∨ (-(2 ^ 64) < j ∧ j < 2 ^ 64)) ∧ Q (.int (i * j)) st
  | _, _ => False
def oSubI : O2 := fun d1 d2 st Q R => match d1, d2 with
  | .int i, .int j => Q (.int (i - j)) st
  | _, _ => False
def oFdivI : O2 := fun d1 d2 st Q R => match d1, d2 with
  | .int i, .int j => (0 < j ∧ j < 1073741824) ∧ Q (.int (i / j)) st
  | _, _ => False
/-- name = [..], a list that is changed later -/
def wOwn (i : Nat) (ta : WA) : WS := fun env st D => ta env st (fun ds st1 => ds.length ≤ sizeLine ∧ D.nx (env.set i (.own ds)) st1) (xe D env)
theorem gs_own (j : J B X W) (i : Nat) {x : Str} {p p2 : Pos} (he : PAg B X W es ta) (hi : X.N[i]? = some x := by rfl) (hx : Loc X.env.scope x := by first | exact Or.inl rfl | exact Or.inr rfl)
    (hf : X.fn x = true ∨ X.env.scope.names.lookup x = some .local := by first | exact .inl rfl | exact .inr rfl | assumption) : PSg B X W (.Assign [.Name x p] (.List es p2) pos) (wOwn i ta) :=
  PSg.of (ps_set j.nd hi hx (pe_lst he.pa) rfl hf) fun σ H g env st D bo rw hw => ⟨g, env, st, _, _, bo, rw.at env σ, hw, fun vs H1 ⟨ds, st1, g1, l1, b1, r1, hz, h1⟩ => ⟨r1.length ▸ hz, fun q hq => ⟨_, st1, g1, l1.le, b1.setOwn j.ck r1 hq i, h1⟩⟩⟩
/-- x.append(e) -/
def wApp (i : Nat) (wa : WE) : WS := fun env st D => match env[i]? with
  | some (Slot.own ds) => wa env st (fun d st1 => ds.length < sizeLine ∧ D.nx (env.set i (.own (ds ++ [d]))) st1) (xe D env)
  | _ => False
theorem gs_app (j : J B X W) (i : Nat) {x : Str} {p apos cpos : Pos} (he : PEg B X W e wa) (hi : X.N[i]? = some x := by rfl) (hv : Vis X.env.scope x := by first | exact Or.inl rfl | exact Or.inr (Or.inl rfl) | exact Or.inr (Or.inr rfl))
    (hd : (x == ("__debug__" : Str)) = false := by decide +kernel) (hcd : (x == ("__classdict__" : Str)) = false := by decide +kernel) (hbase : attributeBase (.Name x p) "append" X.env (eval (.Name x p) X.env) = eval (.Name x p) X.env := by rfl)
    (hfew : ((backTo cpos (starEach [e] X.env)).all (fun x => !x.1) && (backToKw cpos (keywordEach [] X.env)).all (fun x => x.1.isSome)
      && decide (([e] : List Expr).length + ([] : List Keyword).length + (if ([] : List Keyword).isEmpty then 0 else 1) < 30)) = true := by rfl)
    (hline : (apos.endLine == cpos.line) = true := by rfl) (hst : starEach [e] X.env = (false, eval e X.env) :: starEach [] X.env := by rfl)
    (hs : swapsWith (.Call (.Attribute (.Name x p) "append" apos) [e] [] cpos) none pos.line X.env = pure false := by rfl) :
    PSg B X W (.Expr (.Call (.Attribute (.Name x p) "append" apos) [e] [] cpos) pos) (wApp i wa) := by
  refine ⟨fun pins s σ H g env st D I bo rw hw => ?_⟩
  have hx := pe_var (X := X) (i := i) (pos := p) hi hv hd hcd
  unfold wApp at hw
  split at hw
  · rename_i ds0 ho
    obtain ⟨a0, xs0, hσ, hH, hr⟩ := bo.ownAt ho
    refine (ps_expr (pe_bm PySem.F.plainAttrs_list PySem.F.slot_list_append PySem.F.type_list_append mt_append hx (pa_cons he.pe pa_nil hst) hbase hfew hline hst (by rfl)) hs).run pins s σ H _ I ?_
    refine ⟨_, hσ, .inl ⟨rfl, _, SqL.of hH⟩, ?_⟩
    refine ⟨g, env, st, _, _, bo, rw.at env σ, hw, fun y H1 ⟨d, st1, g1, l1, b1, r1, h1⟩ => ?_⟩
    obtain ⟨a1, xs1, hσ1, hH1, hr1⟩ := b1.ownAt ho
    rw [hσ] at hσ1
    cases hσ1
    obtain ⟨hz, h1⟩ := h1
    exact ⟨a0, xs1, y, rfl, rfl, hH1, by rw [← hr1.length]; exact hz, _, st1, g1, l1.le, b1.chOwn j.ck ho hσ (hr1.append (Reps.cons r1 Reps.nil)), h1⟩
  · exact hw.elim
end
end G
namespace G
open PySem PySem.Spec PyProof.Rows L2
section
variable {B : Bd} {X : Cx} {W : WX} {a b c e : Expr} {es : List Expr} {wa wb wc : WE} {ta : WA} {pos : Pos} {M : MT} {stm : Stmt} {rest : List Stmt} {w u : WS}
abbrev WI := Envr → Store → (List D → Store → Prop) → XQ → Prop
def ItRep (B : Bd) (σ : L2.St) (J : It) (g : Gh) (ds : List D) : Prop := ∀ (g' : Gh) (env : Envr) (st : Store) (σ' : L2.St) (H : Hp), g.le g' → BOk B g' env st σ' H →
  (∀ i d, ds[i]? = some d → J.go i H ∧ ∀ x H', J.yld i H x H' → ∃ g'', Nx g' H g'' H' ∧ BOk B g'' env st σ' H' ∧ Rep B.C g'' d x) ∧ J.stop ds.length H
structure PIg (B : Bd) (X : Cx) (W : WX) (tg iter : Expr) (wi : WI) : Prop where
  ex : ∃ t : TI, PI X tg iter t ∧ ∀ (σ : L2.St) (H : Hp) (g : Gh) (env : Envr) (st : Store) (Q : List D → Store → Prop) (R : XQ) (Rr : It → Hp → Prop), BOk B g env st σ H → RW B W env σ R → wi env st Q R →
    (∀ J H1, (∃ ds st1 g1, Nx g H g1 H1 ∧ BOk B g1 env st1 σ H1 ∧ ItRep B σ J g1 ds ∧ Q ds st1) → Rr J H1) → t σ H Rr
theorem itrep_list (hK : X.K = B.C.K) {σ : L2.St} {g : Gh} {p : Addr} {xs : List V} {ds : List D} (hp : SqL B.C.K g.P p xs) (r : Reps B.C g ds xs) : ItRep B σ (Itl X.K p) g ds := by
  intro g' env st σ' H l bo
  have hs : SqL X.K H p xs := by rw [hK]; exact Same.sqL bo.ok.p (Same.sqL l.p hp)
  refine ⟨fun i d hd => ?_, ⟨xs, hs, by rw [r.length]; exact Nat.le_refl _⟩⟩
  obtain ⟨v, h1, h2⟩ := r.get hd
  refine ⟨⟨xs, v, hs, h1⟩, fun x H' ⟨e, y⟩ => ?_⟩
  subst e
  have hx := y xs hs
  rw [h1] at hx
  cases hx
  exact ⟨g', .refl g' _, bo, h2.mono l⟩
theorem itrep_tup (hK : X.K = B.C.K) {σ : L2.St} {g : Gh} {p : Addr} {xs : List V} {ds : List D} (hp : SqU B.C.K g.P p xs) (r : Reps B.C g ds xs) : ItRep B σ (Itt X.K p) g ds := by
  intro g' env st σ' H l bo
  have hs : SqT X.K H p xs := by rw [hK]; exact (Same.sqU bo.ok.p (Same.sqU l.p hp)).t
  refine ⟨fun i d hd => ?_, ⟨xs, hs, by rw [r.length]; exact Nat.le_refl _⟩⟩
  obtain ⟨v, h1, h2⟩ := r.get hd
  refine ⟨⟨xs, v, hs, h1⟩, fun x H' ⟨e, y⟩ => ?_⟩
  subst e
  have hx := y xs hs
  rw [h1] at hx
  cases hx
  exact ⟨g', .refl g' _, bo, h2.mono l⟩
def wiLst (wa : WE) : WI := fun env st Q R => wa env st (fun d st1 => match d with | .lst ds => Q ds st1 | _ => False) R
def wiTup (wa : WE) : WI := fun env st Q R => wa env st (fun d st1 => match d with | .tup ds => Q ds st1 | _ => False) R
def rngD (lo : Int) (n : Nat) : List D := (List.range n).map fun i => D.int (lo + (i : Nat))
theorem rngD_get {lo : Int} {n i : Nat} {d : D} (h : (rngD lo n)[i]? = some d) : i < n ∧ d = .int (lo + i) := by
  unfold rngD at h
  rw [List.getElem?_map] at h
  by_cases hi : i < n
  · rw [List.getElem?_range hi] at h
    cases h
    exact ⟨hi, rfl⟩
  · rw [List.getElem?_eq_none (by simpa using hi)] at h
    cases h
theorem itrep_rng {σ : L2.St} {g : Gh} {lo : Int} {n : Nat} : ItRep B σ (Itr lo n) g (rngD lo n) := by
  intro g' env st σ' H l bo
  refine ⟨fun i d hd => ?_, by show n ≤ _; simp [rngD]⟩
  obtain ⟨h1, h2⟩ := rngD_get hd
  refine ⟨h1, fun x H' ⟨e, y⟩ => ?_⟩
  subst e y h2
  exact ⟨g', .refl g' _, bo, rep_int⟩
def wiR1 (ta : WA) : WI := fun env st Q R => ta env st (fun ds st1 => match ds with
  | [.int k] => (-(2 ^ 62) ≤ k ∧ k < 2 ^ 62) ∧ Q (rngD 0 k.toNat) st1
  | _ => False) R
def wiR2 (ta : WA) : WI := fun env st Q R => ta env st (fun ds st1 => match ds with
  | [.int i, .int k] => (-(2 ^ 62) ≤ i ∧ i < 2 ^ 62 ∧ -(2 ^ 62) ≤ k ∧ k < 2 ^ 62) ∧ Q (rngD i (k - i).toNat) st1
  | _ => False) R
theorem gi_r1 {tg : Expr} {p : Pos} (hg : Gl X "range") (hm : X.mg "range" = none) (h : PAg B X W [a] ta) (hs : starEach [a] X.env = [(false, eval a X.env)] := by rfl) : PIg B X W tg (.Call (.Name "range" p) [a] [] pos) (wiR1 ta) :=
  ⟨⟨_, pi_range1 hg hm h.pa hs, fun σ H g env st Q R Rr bo rw hw k => ⟨g, env, st, _, R, bo, rw, hw, fun xs H1 ⟨ds, st1, g1, l1, b1, r1, h1⟩ => by
    dsimp only at h1 ⊢
    split at h1
    · obtain ⟨v, q, rfl, ra, rb⟩ := r1.cons_inv
      unfold Reps at rb
      subst rb
      exact ⟨_, by rw [ra.intV], h1.1.1, h1.1.2, k _ _ ⟨_, st1, g1, l1, b1, itrep_rng, h1.2⟩⟩
    · exact h1.elim⟩⟩⟩
theorem gi_r2 {tg : Expr} {p : Pos} (hg : Gl X "range") (hm : X.mg "range" = none) (h : PAg B X W [a, b] ta) (hs : starEach [a, b] X.env = [(false, eval a X.env), (false, eval b X.env)] := by rfl) (hs2 : starEach [b] X.env = [(false, eval b X.env)] := by rfl) : PIg B X W tg (.Call (.Name "range" p) [a, b] [] pos) (wiR2 ta) :=
  ⟨⟨_, pi_range2 hg hm h.pa hs hs2, fun σ H g env st Q R Rr bo rw hw k => ⟨g, env, st, _, R, bo, rw, hw, fun xs H1 ⟨ds, st1, g1, l1, b1, r1, h1⟩ => by
    dsimp only at h1 ⊢
    split at h1
    · obtain ⟨v, q, rfl, ra, rb⟩ := r1.cons_inv
      obtain ⟨v2, q2, rfl, rc, rd⟩ := rb.cons_inv
      unfold Reps at rd
      subst rd
      exact ⟨_, _, by rw [ra.intV, rc.intV], h1.1, k _ _ ⟨_, st1, g1, l1, b1, itrep_rng, h1.2⟩⟩
    · exact h1.elim⟩⟩⟩
/-- zip of two lists, of two tuples -/
def zipD (xs ys : List D) : List D := List.zipWith (fun x y => D.tup [x, y]) xs ys
def wiZip (ta : WA) : WI := fun env st Q R => ta env st (fun ds st1 => match ds with
  | [.lst xs, .lst ys] => Q (zipD xs ys) st1
  | [.tup xs, .tup ys] => Q (zipD xs ys) st1
  | _ => False) R
theorem zipD_get {xs ys : List D} {i : Nat} {d : D} (h : (zipD xs ys)[i]? = some d) : ∃ x y, xs[i]? = some x ∧ ys[i]? = some y ∧ d = .tup [x, y] := by
  unfold zipD at h
  rw [List.getElem?_zipWith] at h
  cases hx : xs[i]? with
  | none => rw [hx] at h; cases h
  | some x =>
    cases hy : ys[i]? with
    | none => rw [hx, hy] at h; cases h
    | some y => rw [hx, hy] at h; cases h; exact ⟨x, y, rfl, rfl, rfl⟩
theorem itrep_zipL (ck : ConOk B.C) (hK : X.K = B.C.K) {σ : L2.St} {g : Gh} {p q : Addr} {xs ys : List V} {ds es : List D} (hp : SqL B.C.K g.P p xs) (r : Reps B.C g ds xs) (hq : SqL B.C.K g.P q ys) (r2 : Reps B.C g es ys) : ItRep B σ (Itz X.K p q) g (zipD ds es) := by
  intro g' env st σ' H l bo
  have hs : SqL X.K H p xs := by rw [hK]; exact Same.sqL bo.ok.p (Same.sqL l.p hp)
  have ht : SqL X.K H q ys := by rw [hK]; exact Same.sqL bo.ok.p (Same.sqL l.p hq)
  refine ⟨fun i d hd => ?_, ⟨xs, ys, hs, ht, by simp only [zipD, List.length_zipWith, r.length, r2.length]; omega⟩⟩
  obtain ⟨x, y, h1, h2, rfl⟩ := zipD_get hd
  obtain ⟨v, k1, k2⟩ := r.get h1
  obtain ⟨w, m1, m2⟩ := r2.get h2
  refine ⟨⟨xs, ys, v, w, hs, ht, k1, m1⟩, fun z H' ⟨T, x', y', e1, e2, e3, e4, e5⟩ => ?_⟩
  have hx := e4 xs hs
  have hy := e5 ys ht
  rw [k1] at hx; cases hx
  rw [m1] at hy; cases hy
  subst e1 e3
  have l2 := bo.ok.nx_new (o := .tup [v, w]) e2
  refine ⟨_, l2, bo.new ck e2 (fun ps z => by cases z) (bo.cellNe e2), ?_⟩
  unfold Rep
  exact ⟨T, _, rfl, upd_same, reps2 ((k2.mono l).mono l2.le) ((m2.mono l).mono l2.le)⟩
theorem itrep_zipT (ck : ConOk B.C) (hK : X.K = B.C.K) {σ : L2.St} {g : Gh} {p q : Addr} {xs ys : List V} {ds es : List D} (hp : SqU B.C.K g.P p xs) (r : Reps B.C g ds xs) (hq : SqU B.C.K g.P q ys) (r2 : Reps B.C g es ys) : ItRep B σ (RZ.ItzT X.K p q) g (zipD ds es) := by
  intro g' env st σ' H l bo
  have hs : SqT X.K H p xs := by rw [hK]; exact (Same.sqU bo.ok.p (Same.sqU l.p hp)).t
  have ht : SqT X.K H q ys := by rw [hK]; exact (Same.sqU bo.ok.p (Same.sqU l.p hq)).t
  refine ⟨fun i d hd => ?_, ⟨xs, ys, hs, ht, by simp only [zipD, List.length_zipWith, r.length, r2.length]; omega⟩⟩
  obtain ⟨x, y, h1, h2, rfl⟩ := zipD_get hd
  obtain ⟨v, k1, k2⟩ := r.get h1
  obtain ⟨w, m1, m2⟩ := r2.get h2
  refine ⟨⟨xs, ys, v, w, hs, ht, k1, m1⟩, fun z H' ⟨T, x', y', e1, e2, e3, e4, e5⟩ => ?_⟩
  have hx := e4 xs hs
  have hy := e5 ys ht
  rw [k1] at hx; cases hx
  rw [m1] at hy; cases hy
  subst e1 e3
  have l2 := bo.ok.nx_new (o := .tup [v, w]) e2
  refine ⟨_, l2, bo.new ck e2 (fun ps z => by cases z) (bo.cellNe e2), ?_⟩
  unfold Rep
  exact ⟨T, _, rfl, upd_same, reps2 ((k2.mono l).mono l2.le) ((m2.mono l).mono l2.le)⟩
def wForL (t : WG) (w : WS) (D0 : EW) : List D → Envr → Store → Prop
  | [], env, st => D0.nx env st
  | d :: ds, env, st => t d env st (fun env1 st1 => w env1 st1 { D0 with nx := wForL t w D0 ds, ct := wForL t w D0 ds, bk := D0.nx })
def wFor (wi : WI) (t : WG) (w : WS) : WS := fun env st D => wi env st (fun ds st1 => wForL t w D ds env st1) (xe D env)
def tgg (B : Bd) (t : WG) : TG := fun v σ H Q => ∃ g env st d Qg, BOk B g env st σ H ∧ Rep B.C g d v ∧ t d env st Qg ∧ ∀ σ' H', QN B g Qg σ' H' → Q σ' H'
theorem PGg.pg {tg : Expr} {sl : List Nat} {t : WG} (h : PGg B X tg sl t) : PG X tg (tgg B t) := ⟨fun pins s σ H v u Q I r ⟨g, env, st, d, Qg, bo, rd, hw, k⟩ =>
  thn (h.run pins s σ H g env st d v u Qg I bo rd r hw) fun _ s' ⟨σ', H', I', _, z⟩ => ⟨σ', H', I', k _ _ z.qn⟩⟩
def tgga (B : Bd) (sl : List Nat) (t : WG) : TG := fun v σ H Q => ∃ g env st d Qg, BOk B g env st σ H ∧ Rep B.C g d v ∧ t d env st Qg ∧ ∀ σ' H', Agr sl σ σ' → QNx B g H Qg σ' H' → Q σ' H'
theorem PGg.pga {tg : Expr} {sl : List Nat} {t : WG} (h : PGg B X tg sl t) : PG X tg (tgga B sl t) := ⟨fun pins s σ H v u Q I r ⟨g, env, st, d, Qg, bo, rd, hw, k⟩ =>
  thn (h.run pins s σ H g env st d v u Qg I bo rd r hw) fun _ s' ⟨σ', H', I', ag, z⟩ => ⟨σ', H', I', k _ _ ag z⟩⟩
theorem gs_for (j : J B X W) {tg iter : Expr} {body : List Stmt} {wi : WI} {t : WG} {sl : List Nat} (hi : PIg B X W tg iter wi) (hg : PGg B X tg sl t) (hb : PSsg B X W body w) (hs : ∀ x, foldedSetIterable iter X.env x = pure x := by intro _; rfl) : PSg B X W (.For tg iter body [] pos) (wFor wi t w) := by
  obtain ⟨ti, hpi, hk⟩ := hi.ex
  refine PSg.of (ps_for j.po j.calm hpi hg.pg hb.ps hs) fun σ H g env st D bo rw hw => ?_
  refine hk σ H g env st _ _ _ bo (rw.at env σ) hw fun J H1 ⟨ds, st1, g1, l1, b1, ir, hq⟩ => ?_
  refine ⟨fun i m σ' H' => m = ds.length - i ∧ i ≤ ds.length ∧ ∃ g' env' st', g1.le g' ∧ BOk B g' env' st' σ' H' ∧ wForL t w D (ds.drop i) env' st', ⟨ds.length, by simp, Nat.zero_le _, g1, env, st1, .refl g1, b1, by simpa using hq⟩, ?_⟩
  rintro i m σ' H' ⟨rfl, hi, g', env', st', l', b', hf⟩
  by_cases hlt : i < ds.length
  · right
    obtain ⟨d, hd⟩ : ∃ d, ds[i]? = some d := ⟨ds[i], by simp [hlt]⟩
    obtain ⟨hgo, hy⟩ := (ir g' env' st' σ' H' l' b').1 i d hd
    have hdrop : ds.drop i = d :: ds.drop (i + 1) := by
      rw [List.drop_eq_getElem_cons hlt]
      rw [List.getElem?_eq_getElem hlt] at hd
      cases hd
      rfl
    rw [hdrop] at hf
    refine ⟨hgo, QN B g1 (fun env'' st'' => wForL t w D (ds.drop (i + 1)) env'' st''), fun σ2 H2 ⟨env2, st2, g2, l2, b2, q2⟩ => ⟨ds.length - (i + 1), by omega, rfl, hlt, g2, env2, st2, l2, b2, q2⟩, fun x H2 hyl => ?_⟩
    obtain ⟨g2, l2, b2, rx⟩ := hy x H2 hyl
    refine ⟨g2, env', st', d, _, b2, rx, hf, fun σ3 H3 ⟨env3, st3, g3, l3, b3, q3⟩ => ?_⟩
    refine ⟨g3, env3, st3, { D with nx := wForL t w D (ds.drop (i + 1)), ct := wForL t w D (ds.drop (i + 1)), bk := D.nx }, b3, rw, q3, fun σ4 H4 z => QN.le ((l'.trans l2.le).trans l3) z, fun v H4 z => QR.le (((l1.le.trans l').trans l2.le).trans l3) z, fun σ4 H4 z => QN.le (((l1.le.trans l').trans l2.le).trans l3) z, fun σ4 H4 z => QN.le ((l'.trans l2.le).trans l3) z⟩
  · left
    have e : i = ds.length := by omega
    subst e
    refine ⟨(ir g' env' st' σ' H' l' b').2, ?_⟩
    rw [List.drop_length] at hf
    exact ⟨env', st', g', l1.le.trans l', b', hf⟩
/-- while, by an invariant and a measure -/
def wWhile (t : WT) (w : WS) : WS := fun env st D => ∃ I : Nat → Envr → Store → Prop, (∃ m, I m env st) ∧ ∀ m env st, I m env st →
  t env st (fun b st1 => if b = true then w env st1 { D with nx := fun env2 st2 => ∃ m', m' < m ∧ I m' env2 st2, ct := fun env2 st2 => ∃ m', m' < m ∧ I m' env2 st2, bk := D.nx } else D.nx env st1) (xe D env)
end
end G
namespace G
open PySem PySem.Spec PyProof.Rows L2
section
variable {B : Bd} {X : Cx} {W : WX} {a b c e : Expr} {es : List Expr} {wa wb wc : WE} {ta : WA} {pos : Pos} {M : MT} {stm : Stmt} {rest : List Stmt} {w u : WS}
def wipeE (env : Envr) : List Nat → Envr
  | [] => env
  | v :: vs => (wipeE env vs).set v Slot.no
theorem BOk.wipe1 {g : Gh} {env : Envr} {st : Store} {σ : L2.St} {H : Hp} (bo : BOk B g env st σ H) (i : Nat) : BOk B g (env.set i Slot.no) st (σ.set i none) H := by
  have nk : ∀ (m : Nat) (z : Slot), z ≠ Slot.no → (env.set i Slot.no)[m]? = some z → env[m]? = some z ∧ (σ.set i none)[m]? = σ[m]? := fun m z hz h => by
    by_cases hk : i = m
    · subst hk
      by_cases hi : i < env.length
      · rw [List.getElem?_set_self hi] at h
        cases h
        exact absurd rfl hz
      · rw [List.set_eq_of_length_le (by omega)] at h
        rw [List.set_eq_of_length_le (by rw [← bo.en.len]; omega)]
        exact ⟨h, rfl⟩
    · rw [List.getElem?_set_ne hk] at h ⊢
      exact ⟨h, rfl⟩
  refine ⟨bo.ok, bo.nx, ⟨by rw [List.length_set, List.length_set]; exact bo.en.len, fun k d h => ?_, fun k ds h => ?_, fun k m ds es a hkm h1 h2 h3 => ?_⟩⟩
  · obtain ⟨p1, p2⟩ := nk k _ (fun z => by cases z) h
    rw [p2]
    exact bo.en.val k d p1
  · obtain ⟨p1, p2⟩ := nk k _ (fun z => by cases z) h
    rw [p2]
    exact bo.en.own k ds p1
  · obtain ⟨p1, p2⟩ := nk k _ (fun z => by cases z) h1
    obtain ⟨q1, q2⟩ := nk m _ (fun z => by cases z) h2
    rw [p2] at h3
    rw [q2]
    exact bo.en.dis k m ds es a hkm p1 q1 h3
theorem BOk.wipe {g : Gh} {env : Envr} {st : Store} {σ : L2.St} {H : Hp} (bo : BOk B g env st σ H) : ∀ vs : List Nat, BOk B g (wipeE env vs) st (L2.wipe σ vs) H
  | [] => bo
  | v :: vs => (BOk.wipe bo vs).wipe1 v
theorem wipe_get {σ : L2.St} {k : Nat} : ∀ {vs : List Nat}, k ∈ vs → k < σ.length → (L2.wipe σ vs)[k]? = some none
  | v :: vs, h, hk => by
    unfold L2.wipe
    by_cases hv : v = k
    · subst hv
      rw [List.getElem?_set_self (by rw [wipe_length]; exact hk)]
    · rw [List.getElem?_set_ne hv]
      exact wipe_get (by rcases List.mem_cons.mp h with e | e; exact absurd e.symm hv; exact e) hk
theorem wipe_out' {σ : L2.St} {i : Nat} : ∀ {vs : List Nat}, i ∉ vs → (L2.wipe σ vs)[i]? = σ[i]?
  | [], _ => rfl
  | v :: vs, h => by
    unfold L2.wipe
    rw [List.getElem?_set_ne (fun e => h (by rw [e]; exact List.mem_cons_self))]
    exact wipe_out' fun z => h (List.mem_cons_of_mem _ z)
theorem wipe_agr {σ σ2 : L2.St} {sl vs : List Nat} (ag : Agr sl (L2.wipe σ vs) σ2) (hs : ∀ k ∈ sl, k ∈ vs) : L2.wipe σ2 vs = L2.wipe σ vs := by
  have hl : σ2.length = σ.length := ag.1.trans (wipe_length σ vs)
  apply List.ext_getElem?
  intro k
  by_cases hk : k ∈ vs
  · by_cases hi : k < σ.length
    · rw [wipe_get hk hi, wipe_get hk (by rw [hl]; exact hi)]
    · rw [List.getElem?_eq_none (by rw [wipe_length]; omega), List.getElem?_eq_none (by rw [wipe_length]; omega)]
  · rw [wipe_out' hk]
    exact ag.2 k fun z => hk (hs k z)
/-- an object that only we know: it may change -/
structure Anon (B : Bd) (g : Gh) (env : Envr) (σ : L2.St) (p : Addr) : Prop where
  np : g.P p = none
  nc : ∀ n, g.ad n ≠ some p
  h0 : B.H0 p = none
  no : ∀ (k : Nat) (es : List D), env[k]? = some (Slot.own es) → σ[k]? ≠ some (some (V.ref p))
theorem Anon.new {g : Gh} {env : Envr} {st : Store} {σ : L2.St} {H : Hp} (bo : BOk B g env st σ H) {p : Addr} (h : H p = none) : Anon B g env σ p :=
  ⟨bo.ok.free h, bo.cellNe h, bo.nx.dm p h, fun k es h1 h2 => by
    obtain ⟨a, xs, q1, q2, _⟩ := bo.en.own k es h1
    rw [h2] at q1; cases q1
    rw [h] at q2; cases q2⟩
theorem Anon.next {g g' : Gh} {env : Envr} {σ : L2.St} {H H' : Hp} {p : Addr} {o : HO} (x : Anon B g env σ p) (h : H p = some o) (nx : Nx g H g' H') : Anon B g' env σ p := by
  refine ⟨?_, fun n z => ?_, x.h0, x.no⟩
  · cases e : g'.P p with
    | none => rfl
    | some u =>
      rcases nx.np p u e with z | z
      · rw [x.np] at z; cases z
      · rw [h] at z; cases z
  · rcases nx.nc n p z with z | z
    · exact x.nc n z
    · rw [h] at z; cases z
/-- it changes -/
theorem BOk.chAnon (ck : ConOk B.C) {g : Gh} {env : Envr} {st : Store} {σ : L2.St} {H : Hp} (bo : BOk B g env st σ H) {p : Addr} (x : Anon B g env σ p) {xs ys : List V} (h : H p = some (.lst xs)) : BOk B g env st σ (upd H p (.lst ys)) := by
  have ne : ∀ b, g.P b ≠ none → b ≠ p := fun b q z => q (by rw [z]; exact x.np)
  have nc : ∀ n b, g.ad n = some b → b ≠ p := fun n b q z => x.nc n (by rw [← z]; exact q)
  have tt : B.C.TT (upd H p (.lst ys)) := ck.tt H _ bo.ok.tab fun b o q t => by
    rw [upd_ne (fun z => by rw [z, h] at q; cases q; exact t)]; exact q
  refine ⟨⟨fun b o q => ?_, bo.ok.nt, bo.ok.np, bo.ok.inj, fun n c q => ?_, bo.ok.dom, tt⟩, ⟨bo.nx.le, fun b o q t c => ?_, fun b q => ?_, bo.nx.nc, bo.nx.np⟩, ⟨bo.en.len, bo.en.val, fun k es q => ?_, bo.en.dis⟩⟩
  · rw [upd_ne (ne b (by rw [q]; simp))]; exact bo.ok.p b o q
  · obtain ⟨b, q1, q2⟩ := bo.ok.cell n c q
    exact ⟨b, q1, q2.mono (.refl g) (upd_ne (nc n b q1))⟩
  · have hb : b ≠ p := fun z => by rw [z, x.h0] at q; cases q
    rw [upd_ne hb]
    exact bo.nx.kp b o q t c
  · by_cases hb : b = p
    · rw [hb]; exact x.h0
    · rw [upd_ne hb] at q; exact bo.nx.dm b q
  · obtain ⟨b, zs, q1, q2, q3⟩ := bo.en.own k es q
    have hb : b ≠ p := fun z => x.no k es q (by rw [← z]; exact q1)
    exact ⟨b, zs, q1, by rw [upd_ne hb]; exact q2, q3⟩
/-- it changes no more -/
theorem BOk.adopt {g : Gh} {env : Envr} {st : Store} {σ : L2.St} {H : Hp} (bo : BOk B g env st σ H) {p : Addr} (x : Anon B g env σ p) {xs : List V} (h : H p = some (.lst xs)) : BOk B (g.add p (.lst xs)) env st σ H := by
  have l : g.le (g.add p (.lst xs)) := Gh.le_add x.np
  have at_ : ∀ b, b ≠ p → (g.add p (.lst xs)).P b = g.P b := fun b hb => upd_ne hb
  have ata : (g.add p (.lst xs)).P p = some (.lst xs) := upd_same
  refine ⟨⟨fun b o q => ?_, fun b ps q => ?_, fun n b q => ?_, bo.ok.inj, fun n c q => ?_, bo.ok.dom, bo.ok.tab⟩, ⟨bo.nx.le.trans l, bo.nx.kp, bo.nx.dm, bo.nx.nc, fun b o q => ?_⟩, ⟨bo.en.len, fun k d q => ?_, fun k es q => ?_, bo.en.dis⟩⟩
  · by_cases hb : b = p
    · subst hb; rw [ata] at q; cases q; exact h
    · rw [at_ b hb] at q; exact bo.ok.p b o q
  · by_cases hb : b = p
    · subst hb; rw [ata] at q; cases q
    · rw [at_ b hb] at q; exact bo.ok.nt b ps q
  · rw [at_ b (fun z => x.nc n (by rw [← z]; exact q))]; exact bo.ok.np n b q
  · obtain ⟨b, q1, q2⟩ := bo.ok.cell n c q
    exact ⟨b, q1, q2.mono l rfl⟩
  · by_cases hb : b = p
    · subst hb; exact .inr x.h0
    · rw [at_ b hb] at q; exact bo.nx.np b o q
  · obtain ⟨v, q1, q2⟩ := bo.en.val k d q
    exact ⟨v, q1, q2.mono l⟩
  · obtain ⟨b, zs, q1, q2, q3, q4, q5⟩ := bo.en.own k es q
    have hb : b ≠ p := fun z => x.no k es q (by rw [← z]; exact q1)
    exact ⟨b, zs, q1, q2, q3.mono l, by rw [at_ b hb]; exact q4, q5⟩
/-- behind the block: the frame's slots stand as they stood -/
theorem BOk.unwipe {g g' : Gh} {env : Envr} {st st' : Store} {σ : L2.St} {H H' : Hp} (bo : BOk B g env st σ H) (nx : Nx g H g' H') (ok : GOk B.C g' H' st') : BOk B g' env st' σ H' := bo.of_sp nx.le ok nx
def noX : XQ := fun _ _ => False
def wLcL (vs : List Nat) (t : WG) (tt : WT) (we : WE) (env : Envr) (Q : List D → Store → Prop) : List D → List D → Store → Prop
  | [], acc, st => Q acc st
  | d :: ds, acc, st => t d (wipeE env vs) st (fun env1 st1 => tt env1 st1 (fun b st2 => if b = true then we env1 st2 (fun y st3 => acc.length < sizeLine ∧ wLcL vs t tt we env Q ds (acc ++ [y]) st3) noX else wLcL vs t tt we env Q ds acc st2) noX)
def wLc (wi : WI) (vs : List Nat) (t : WG) (tt : WT) (we : WE) : WE := fun env st Q R => wi env st (fun ds st1 => wLcL vs t tt we env (fun acc st2 => Q (.lst acc) st2) ds [] st1) R
/-- the tests of a comprehension -/
structure PTsg (B : Bd) (X : Cx) (W : WX) (ifs : List Expr) (w : WT) : Prop where
  pts : PTs X ifs (tgt B W w)
def wYes : WT := fun _ st Q _ => Q true st
theorem gts_nil : PTsg B X W [] wYes := ⟨⟨fun pins s σ H Q I ⟨g, env, st, Qg, R, bo, rw, hw, k⟩ => (pts_nil (X := X)).run pins s σ H Q I (k true H ⟨st, g, .refl g _, bo, hw⟩)⟩⟩
/-- within the block nothing is raised -/
abbrev W0 : WX := fun _ _ _ _ => False
theorem takesF {X : Cx} (W : WX) (h : ∀ c d σ H, W c d σ H → False) : Takes X W := fun _ _ ⟨_, _, _, _, _, _, _, _, _, _, _, _, _, _, _, _, w⟩ => (h _ _ _ _ w).elim
theorem J.blk (j : J B X W) (s : Shared) (H : Hp) (scope : Scope) (cenv : Env) (fp : List Addr) : J B (X.blk s H scope cenv fp) W0 :=
  { ck := j.ck, hK := j.hK, tk := takesF W0 fun _ _ _ _ z => z, po := PassesOwn.never, calm := j.calm, nd := j.nd, hd := j.hd, hu := j.hu, hu2 := j.hu2 }
theorem rw0 {env : Envr} {σ : L2.St} : RW B W0 env σ noX := fun _ _ _ _ _ _ _ _ z => z.elim
theorem lc_t (j : J B X W) {wi : WI} {ti : TI} {t : WG} {tt : WT} {we : WE} {sl : List Nat} {vs : List Nat}
    (hk : ∀ (σ : L2.St) (H : Hp) (g : Gh) (env : Envr) (st : Store) (Q : List D → Store → Prop) (R : XQ) (Rr : It → Hp → Prop), BOk B g env st σ H → RW B W env σ R → wi env st Q R → (∀ J H1, (∃ ds st1 g1, Nx g H g1 H1 ∧ BOk B g1 env st1 σ H1 ∧ ItRep B σ J g1 ds ∧ Q ds st1) → Rr J H1) → ti σ H Rr)
    (hsl : ∀ k ∈ sl, k ∈ vs) {σ : L2.St} {H : Hp} {g : Gh} {env : Envr} {st : Store} {Q : QE} {R : XQ} {Q' : VK} (bo : BOk B g env st σ H) (rw : RW B W env σ R) (hw : wLc wi vs t tt we env st Q R) (hQ : ∀ v H', QV B g H env σ Q v H' → Q' v H') :
    tLc ti (tgga B sl t) (tgt B W0 tt) (G.tg B W0 we) vs σ H Q' := by
  refine hk σ H g env st _ _ _ bo rw hw fun J H1 ⟨ds, st1, g1, l1, b1, ir, hq⟩ => ?_
  intro D hD
  have bD := b1.grow j.ck (H' := upd H1 D (.lst [])) fun a o q => by rw [upd_ne (ne_of_none q hD)]; exact q
  have nD : Nx g1 H1 g1 (upd H1 D (.lst [])) := ⟨.refl g1, fun a o q _ _ => by rw [upd_ne (ne_of_none q hD)]; exact q, dm_of fun a o q => by rw [upd_ne (ne_of_none q hD)]; exact q, fun _ _ h => .inl h, fun _ _ h => .inl h⟩
  refine ⟨fun i m H' => m = ds.length - i ∧ i ≤ ds.length ∧ ∃ g' st' acc xs, Nx g1 H1 g' H' ∧ BOk B g' env st' σ H' ∧ Anon B g' env σ D ∧ H' D = some (.lst xs) ∧ Reps B.C g' acc xs ∧ wLcL (vs) t tt we env (fun acc st2 => Q (.lst acc) st2) (ds.drop i) acc st', ⟨ds.length, by simp, Nat.zero_le _, g1, st1, [], [], nD, bD, Anon.new b1 hD, upd_same, Reps.nil, by simpa using hq⟩, ?_⟩
  rintro i m H' ⟨rfl, hi, g', st', acc, xs, nx', b', an', hH', r', hf⟩
  by_cases hlt : i < ds.length
  · right
    obtain ⟨d, hd⟩ : ∃ d, ds[i]? = some d := ⟨ds[i], by simp [hlt]⟩
    obtain ⟨hgo, hy⟩ := (ir g' env st' σ H' nx'.le b').1 i d hd
    have hdrop : ds.drop i = d :: ds.drop (i + 1) := by
      rw [List.drop_eq_getElem_cons hlt]
      rw [List.getElem?_eq_getElem hlt] at hd
      cases hd
      rfl
    rw [hdrop] at hf
    unfold wLcL at hf
    refine ⟨hgo, fun H' => ∃ g' st' acc xs, Nx g1 H1 g' H' ∧ BOk B g' env st' σ H' ∧ Anon B g' env σ D ∧ H' D = some (.lst xs) ∧ Reps B.C g' acc xs ∧ wLcL (vs) t tt we env (fun acc st2 => Q (.lst acc) st2) (ds.drop (i + 1)) acc st', fun H2 z => ⟨ds.length - (i + 1), by omega, rfl, hlt, z⟩, fun x H2 hyl => ?_⟩
    obtain ⟨g2, l2, b2, rx⟩ := hy x H2 hyl
    refine ⟨g2, wipeE env (vs), st', d, _, b2.wipe _, rx, hf, fun σ3 H3 ag ⟨env3, st3, g3, l3, b3, q3⟩ => ?_⟩
    refine ⟨wipe_agr ag hsl, ?_⟩
    refine ⟨g3, env3, st3, _, _, b3, rw0, q3, fun b H4 ⟨st4, g4, l4, b4, q4⟩ => ?_⟩
    have n4 : Nx g' H' g4 H4 := (l2.trans l3).trans l4
    have an4 : Anon B g4 env σ D := an'.next hH' n4
    have keepD : ∀ {ga : Gh} {Ha : Hp}, Nx g' H' ga Ha → Ha D = some (.lst xs) := fun n => n.kp D _ hH' (fun ps z => by cases z) an'.nc
    cases b with
    | true =>
      dsimp only at q4 ⊢
      rw [if_pos rfl]
      rw [if_pos rfl] at q4
      refine ⟨g4, env3, st4, _, _, b4, rw0, q4, fun y H5 ⟨d5, st5, g5, l5, b5, r5, hz, q5⟩ => ?_⟩
      have n5 : Nx g' H' g5 H5 := n4.trans l5
      have an5 : Anon B g5 env σ D := an'.next hH' n5
      have h5 : H5 D = some (.lst xs) := keepD n5
      have bo5 : BOk B g5 env st5 σ H5 := b'.unwipe n5 b5.ok
      have c5 := bo5.chAnon j.ck an5 (ys := xs ++ [y]) h5
      refine ⟨xs, h5, by rw [← r'.length]; exact hz, g5, st5, acc ++ [d5], xs ++ [y], ?_, c5, ⟨an5.np, an5.nc, an5.h0, an5.no⟩, upd_same, (r'.mono n5.le).append (Reps.cons r5 Reps.nil), q5⟩
      refine ⟨(nx'.trans n5).le, fun a o q tq cq => ?_, fun a q => ?_, (nx'.trans n5).nc, (nx'.trans n5).np⟩
      · rw [upd_ne (ne_of_none q hD)]
        exact (nx'.trans n5).kp a o q tq cq
      · by_cases ha : a = D
        · rw [ha]; exact hD
        · rw [upd_ne ha] at q; exact (nx'.trans n5).dm a q
    | false =>
      dsimp only at q4 ⊢
      rw [if_neg Bool.false_ne_true]
      rw [if_neg Bool.false_ne_true] at q4
      exact ⟨g4, st4, acc, xs, nx'.trans n4, b'.unwipe n4 b4.ok, an4, keepD n4, r'.mono n4.le, q4⟩
  · left
    have e : i = ds.length := by omega
    subst e
    refine ⟨(ir g' env st' σ H' nx'.le b').2, ?_⟩
    rw [List.drop_length] at hf
    unfold wLcL at hf
    have ba := b'.adopt an' hH'
    have l5 : g'.le (g'.add D (.lst xs)) := Gh.le_add an'.np
    refine hQ _ _ ⟨.lst acc, st', g'.add D (.lst xs), ?_, ba, ?_, hf⟩
    · refine l1.trans ⟨nx'.le.trans l5, nx'.kp, nx'.dm, nx'.nc, fun a o q => ?_⟩
      by_cases ha : a = D
      · rw [ha]; exact .inr hD
      · have q' : upd g'.P D (.lst xs) a = some o := q
        rw [upd_ne ha] at q'
        exact nx'.np a o q'
    · unfold Rep
      exact ⟨D, xs, rfl, upd_same, r'.mono l5⟩
theorem g_lc (j : J B X W) {elt tg iter : Expr} {ifs : List Expr} {scope : Scope} {wi : WI} {t : WG} {tt : WT} {we : WE} {sl : List Nat} (own : List (Str × Nat)) (hi : PIg B X W tg iter wi) (ok : BlkOk X.N X.env.scope scope own)
    (hg : ∀ (s : Shared) (H : Hp) (C : Addr) (cl : List (Str × Addr)) (fp : List Addr), PGg B (X.blk s H scope (compEnvC scope cl C X.env) fp) tg sl t)
    (ht : ∀ (s : Shared) (H : Hp) (C : Addr) (cl : List (Str × Addr)) (fp : List Addr), PTsg B (X.blk s H scope (compEnvC scope cl C X.env) fp) W0 ifs tt)
    (he : ∀ (s : Shared) (H : Hp) (C : Addr) (cl : List (Str × Addr)) (fp : List Addr), PEg B (X.blk s H scope (compEnvC scope cl C X.env) fp) W0 elt we)
    (hsl : ∀ k ∈ sl, k ∈ own.map (·.2)) (hs : ∀ x, foldedSetIterable iter X.env x = pure x := by intro _; rfl) :
    PEg B X W (.ListComp elt [⟨tg, iter, ifs, 0⟩] scope pos) (wLc wi (own.map (·.2)) t tt we) := by
  obtain ⟨ti, hpi, hk⟩ := hi.ex
  refine PEg.of (pe_lc j.calm j.nd hpi ok (fun s H C cl fp => (hg s H C cl fp).pga) (fun s H C cl fp => (ht s H C cl fp).pts) (fun s H C cl fp => (he s H C cl fp).pe) hs) fun σ H g env st Q R bo rw hw => ?_
  exact lc_t j hk hsl bo rw hw fun _ _ z => z
end
end G
namespace G
open PySem PySem.Spec PyProof.Rows L2
section
variable {B : Bd} {X : Cx} {W : WX} {a b c e : Expr} {es : List Expr} {wa wb wc : WE} {ta : WA} {pos : Pos} {M : MT} {stm : Stmt} {rest : List Stmt} {w u : WS}
def Gh.cell (g : Gh) (n : Nat) (p : Addr) : Gh := ⟨g.P, fun m => if m = n then some p else g.ad m⟩
theorem BOk.newCell (ck : ConOk B.C) {g : Gh} {env : Envr} {st : Store} {σ : L2.St} {H : Hp} (bo : BOk B g env st σ H) {ds : List D} {xs : List V} (r : Reps B.C g ds xs) {p : Addr} (hp : H p = none) :
    Nx g H (g.cell st.length p) (upd H p (.lst xs)) ∧ BOk B (g.cell st.length p) env (st ++ [.lst ds]) σ (upd H p (.lst xs)) := by
  have e : ∀ a o, H a = some o → upd H p (.lst xs) a = some o := fun a o q => by rw [upd_ne (ne_of_none q hp)]; exact q
  have hn : g.ad st.length = none := by
    cases q : g.ad st.length with
    | none => rfl
    | some a => exact absurd (bo.ok.dom _ _ q) (Nat.lt_irrefl _)
  have ne : ∀ n a, g.ad n = some a → n ≠ st.length := fun n a q z => by rw [z, hn] at q; cases q
  have l : g.le (g.cell st.length p) := ⟨fun _ _ h => h, fun n a q => by
    show (if n = st.length then some p else g.ad n) = some a
    rw [if_neg (ne n a q)]; exact q⟩
  have at_ : ∀ n a, (g.cell st.length p).ad n = some a → (n = st.length ∧ a = p) ∨ g.ad n = some a := fun n a q => by
    have q' : (if n = st.length then some p else g.ad n) = some a := q
    by_cases h : n = st.length
    · rw [if_pos h] at q'; cases q'; exact .inl ⟨h, rfl⟩
    · rw [if_neg h] at q'; exact .inr q'
  have nx : Nx g H (g.cell st.length p) (upd H p (.lst xs)) := ⟨l, fun a o q _ _ => e a o q, dm_of e, fun n a q => by
    rcases at_ n a q with ⟨_, rfl⟩ | z
    · exact .inr hp
    · exact .inl z, fun a o q => .inl q⟩
  have b1 := bo.grow ck e
  refine ⟨nx, bo.of_sp l ⟨fun a o q => e a o (bo.ok.p a o q), bo.ok.nt, fun n a q => ?_, fun n m a q1 q2 => ?_, fun n c q => ?_, fun n a q => ?_, b1.ok.tab⟩ nx⟩
  · rcases at_ n a q with ⟨_, rfl⟩ | z
    · exact bo.ok.free hp
    · exact bo.ok.np n a z
  · rcases at_ n a q1 with ⟨h1, rfl⟩ | z1
    · rcases at_ m _ q2 with ⟨h2, _⟩ | z2
      · rw [h1, h2]
      · exact absurd z2 (bo.cellNe hp m)
    · rcases at_ m a q2 with ⟨h2, rfl⟩ | z2
      · exact absurd z1 (bo.cellNe hp n)
      · exact bo.ok.inj n m a z1 z2
  · by_cases hlt : n < st.length
    · rw [List.getElem?_append_left hlt] at q
      obtain ⟨a, h1, h2⟩ := bo.ok.cell n c q
      exact ⟨a, l.a n a h1, h2.mono l (upd_ne fun z => bo.cellNe hp n (by rw [← z]; exact h1))⟩
    · have hc : n = st.length ∧ c = .lst ds := by
        rw [List.getElem?_append_right (by omega)] at q
        by_cases hz : n - st.length = 0
        · rw [hz] at q
          simp at q
          exact ⟨by omega, q.symm⟩
        · rw [List.getElem?_eq_none (by simp; omega)] at q; cases q
      obtain ⟨rfl, rfl⟩ := hc
      refine ⟨p, by show (if st.length = st.length then some p else _) = _; rw [if_pos rfl], xs, upd_same, r.mono l⟩
  · rcases at_ n a q with ⟨rfl, _⟩ | z
    · simp
    · have := bo.ok.dom n a z
      simp; omega
/-- [..], a list that is changed by others too -/
def wCell (ta : WA) : WE := fun env st Q R => ta env st (fun ds st1 => ds.length ≤ sizeLine ∧ Q (.cel st1.length) (st1 ++ [.lst ds])) R
theorem g_cell (j : J B X W) (h : PAg B X W es ta) : PEg B X W (.List es pos) (wCell ta) := by
  refine PEg.of (pe_lst h.pa) fun σ H g env st Q R bo rw hw => ?_
  refine ⟨g, env, st, _, R, bo, rw, hw, fun xs H1 ⟨ds, st1, g1, l1, b1, r1, hz, h1⟩ => ⟨r1.length ▸ hz, fun p hp => ?_⟩⟩
  obtain ⟨nx, b2⟩ := b1.newCell j.ck r1 hp
  refine ⟨.cel st1.length, _, _, l1.trans nx, b2, ?_, h1⟩
  unfold Rep
  exact ⟨p, by show (if st1.length = st1.length then some p else _) = _; rw [if_pos rfl], rfl⟩
theorem BOk.chCell (ck : ConOk B.C) {g : Gh} {env : Envr} {st : Store} {σ : L2.St} {H : Hp} (bo : BOk B g env st σ H) {n : Nat} {p : Addr} {c : Cell} {o : HO} (hn : n < st.length) (hp : g.ad n = some p) (ho : ∃ o, H p = some o ∧ ¬ tabO o) (r : CellRep B.C g (upd H p o) p c) :
    BOk B g env (st.set n c) σ (upd H p o) := by
  obtain ⟨o0, ho, hto⟩ := ho
  have nP : ∀ b, g.P b ≠ none → b ≠ p := fun b q z => q (by rw [z]; exact bo.ok.np n p hp)
  have tt : B.C.TT (upd H p o) := ck.tt H _ bo.ok.tab fun b u q t => by
    rw [upd_ne (fun z => by rw [z, ho] at q; cases q; exact hto t)]; exact q
  have nx : Nx g H g (upd H p o) := ⟨.refl g, fun a u q t c => by rw [upd_ne (fun z => c n (by rw [z]; exact hp))]; exact q, fun a q => by
    by_cases h : a = p
    · rw [h, upd_same] at q; cases q
    · rw [upd_ne h] at q; exact q, fun _ _ h => .inl h, fun _ _ h => .inl h⟩
  refine bo.of_sp (.refl g) ⟨fun a u q => ?_, bo.ok.nt, bo.ok.np, bo.ok.inj, fun m c' q => ?_, fun m a q => by rw [List.length_set]; exact bo.ok.dom m a q, tt⟩ nx
  · rw [upd_ne (nP a (by rw [q]; simp))]; exact bo.ok.p a u q
  · by_cases hm : n = m
    · subst hm
      rw [List.getElem?_set_self hn] at q
      cases q
      exact ⟨p, hp, r⟩
    · rw [List.getElem?_set_ne hm] at q
      obtain ⟨b, q1, q2⟩ := bo.ok.cell m c' q
      exact ⟨b, q1, q2.mono (.refl g) (upd_ne fun z => hm (bo.ok.inj n m p hp (by rw [← z]; exact q1)))⟩
/-- x[k] = e: x a list of the frame's own, or a cell -/
def wPut (i : Nat) (wk wa : WE) : WS := fun env st D => match env[i]? with
  | some (Slot.own ds) => wa env st (fun d st1 => wk env st1 (fun k st2 => match k with
    | .int k => (match ixN ds.length k with | some m => D.nx (env.set i (.own (ds.set m d))) st2 | none => False)
    | _ => False) (xe D env)) (xe D env)
  | some (Slot.val (.cel n)) => wa env st (fun d st1 => wk env st1 (fun k st2 => match k with
    | .int k => (match st2[n]? with
      | some (.lst ds) => (match ixN ds.length k with | some m => D.nx env (st2.set n (.lst (ds.set m d))) | none => False)
      | _ => False)
    | _ => False) (xe D env)) (xe D env)
  | _ => False
theorem gs_put (j : J B X W) (i : Nat) {x : Str} {p p2 : Pos} (hk : PBg B X W b wb) (he : PEg B X W e wa) (hi : X.N[i]? = some x := by rfl) (hv : Vis X.env.scope x := by first | exact Or.inl rfl | exact Or.inr (Or.inl rfl) | exact Or.inr (Or.inr rfl))
    (hd : (x == ("__debug__" : Str)) = false := by decide +kernel) (hcd : (x == ("__classdict__" : Str)) = false := by decide +kernel)
    (ha : ∀ v, assign (.Subscript (.Name x p) b p2) X.env v = (do
      let ov ← holding [v] (eval (.Name x p) X.env)
      let iv ← holding [v, ov] (eval b X.env)
      standAt p2
      holding [v, ov, iv] (setItem ov iv v)
      release [v, ov, iv] []) := by intro _; rfl)
    (hs : swapsWithSole [.Subscript (.Name x p) b p2] e pos.line X.env = pure false := by rfl) (hw : swappedStores [.Subscript (.Name x p) b p2] e X.env = pure none := by rfl)
    (h1 : (assignEach [.Subscript (.Name x p) b p2] X.env).map (·.2) = [assign (.Subscript (.Name x p) b p2) X.env] := by rfl) :
    PSg B X W (.Assign [.Subscript (.Name x p) b p2] e pos) (wPut i wb wa) := by
  refine ⟨fun pins s σ H g env st D I bo rw hw' => ?_⟩
  have hx := pe_var (X := X) (i := i) (pos := p) hi hv hd hcd
  refine (ps_asg he.pe (pg_sub hx hk.pe set_list ha) hs hw h1).run pins s σ H _ I ?_
  unfold wPut at hw'
  split at hw'
  · rename_i ds0 ho
    refine ⟨g, env, st, _, _, bo, rw.at env σ, hw', fun y H1 ⟨d, st1, g1, l1, b1, r1, h1⟩ => ?_⟩
    obtain ⟨a1, xs1, hσ1, hH1, hr1⟩ := b1.ownAt ho
    refine ⟨_, hσ1, ?_⟩
    refine ⟨g1, env, st1, _, _, b1, rw.at env σ, h1, fun kv H2 ⟨k, st2, g2, l2, b2, r2, h2⟩ => ?_⟩
    obtain ⟨a2, xs2, hσ2, hH2, hr2⟩ := b2.ownAt ho
    rw [hσ1] at hσ2
    cases hσ2
    cases k with
    | int k =>
      dsimp only at h2
      split at h2
      · rename_i m hm
        refine ⟨a1, xs2, k, m, rfl, r2.intV, hH2, by rw [← hr2.length]; exact hm, _, st2, g2, (l1.trans l2).le, b2.chOwn j.ck ho hσ1 (hr2.set (r1.mono l2.le) m), h2⟩
      · exact h2.elim
    | _ => exact h2.elim
  · rename_i n ho
    refine ⟨g, env, st, _, _, bo, rw.at env σ, hw', fun y H1 ⟨d, st1, g1, l1, b1, r1, h1⟩ => ?_⟩
    obtain ⟨v, hσ, rv⟩ := b1.en.val i _ ho
    obtain ⟨a1, had, rfl⟩ := rv.celV
    refine ⟨_, hσ, ?_⟩
    refine ⟨g1, env, st1, _, _, b1, rw.at env σ, h1, fun kv H2 ⟨k, st2, g2, l2, b2, r2, h2⟩ => ?_⟩
    have had2 := l2.le.a n a1 had
    cases k with
    | int k =>
      dsimp only at h2
      split at h2
      · rename_i ds hds
        split at h2
        · rename_i m hm
          obtain ⟨a2, q1, xs2, q2, q3⟩ := b2.ok.cell n _ hds
          rw [had2] at q1
          cases q1
          refine ⟨a1, xs2, k, m, rfl, r2.intV, q2, by rw [← q3.length]; exact hm, _, _, g2, (l1.trans l2).le, b2.chCell j.ck (c := .lst (ds.set m d)) (List.getElem?_eq_some_iff.mp hds).1 had2 ⟨_, q2, fun z => z⟩ ⟨_, upd_same, q3.set (r1.mono l2.le) m⟩, h2⟩
        · exact h2.elim
      · exact h2.elim
    | _ => exact h2.elim
  · exact hw'.elim
def tyN : D → Option String
  | .non => some "NoneType" | .bl _ => some "bool" | .int _ => some "int" | .str _ => some "str" | .tup _ => some "tuple" | .lst _ => some "list"
  | _ => none
/-- a class among these is asked for -/
def isiB (a b : String) : Option Bool :=
  if b = "bool" then some (a = "bool") else if b = "int" then some (a = "int" || a = "bool") else if b = "str" then some (a = "str") else if b = "tuple" then some (a = "tuple") else if b = "list" then some (a = "list") else none
/-- the classes of one's own: which is below which -/
abbrev IS := Nat → Nat → Option Bool
structure IsOk (B : Bd) (X : Cx) (I : IS) : Prop where
  oo : ∀ c c' r, I c c' = some r → PySem.W.kitOne X.K (.ref (B.C.ca c)) (.ref (B.C.ca c')) = some r
  cl : ∀ c, I c c = some true → Cls X.K (B.C.ca c) ∧ PySem.W.findIn X.K (.ref (B.C.ca c)) "__class__" = some (some (.builtin "object.__class__")) ∧
    PySem.W.specialIn X.K (.builtin "object.__class__") "__get__" = some (some (.builtin "getset_descriptor.__get__")) ∧ PySem.W.takesIn X.K (.builtin "object.__class__") = some true ∧ PySem.W.mroIn X.K (B.C.ca c) (.type "object") = some true
  ob : ∀ c s, I c c = some true → isiB "int" s ≠ none → PySem.W.kitOne X.K (.ref (B.C.ca c)) (.type s) = some false
  bo : ∀ c d t, I c c = some true → tyN d = some t → PySem.W.kitOne X.K (.type t) (.ref (B.C.ca c)) = some false
def isiD (I : IS) (d c : D) : Option Bool := match c with
  | .cls c' => (match d with
    | .ob c _ => if I c c = some true then I c c' else none
    | d => if I c' c' = some true ∧ tyN d ≠ none then some false else none)
  | .ty s => (match d with
    | .ob c _ => if I c c = some true ∧ isiB "int" s ≠ none then some false else none
    | d => (match tyN d with | some t => isiB t s | none => none))
  | _ => none
def isiDs (I : IS) (d : D) : List D → Option Bool
  | [] => some false
  | c :: cs => (match isiD I d c with
    | some true => (match isiDs I d cs with | some _ => some true | none => none)
    | some false => isiDs I d cs
    | none => none)
def oIsi (I : IS) : ON := fun ds st Q R => match ds with
  | [d, .tup cs] => (match isiDs I d cs with | some r => cs ≠ [] ∧ Q (.bl r) st | none => False)
  | [d, c] => (match isiD I d c with | some r => Q (.bl r) st | none => False)
  | _ => False
end
end G
namespace G
open PySem PySem.Spec PyProof.Rows L2
/-- a def of the text, where it stands -/
structure DefAt (C : Con) (mg : Str → Option Value) (x : Str) (params : Arguments) (body : List Stmt) (scope : Scope) (ps : List Str) : Prop where
  ex : ∃ f fd, FunD C.K x x params body scope [] [] f fd ∧ mg x = some (.ref f) ∧ L2.Binds C.K fd ps []
/-- a def whose promise is kept -/
structure Fnp (P : Program) (w : World) (C : Con) (mg : Str → Option Value) (base : Heap) (x : Str) (n k : Nat) (φ : WF) : Prop where
  len : ∀ ds st Q R, φ ds st Q R → ds.length = n
  ex : ∃ f fd ps, FnOk P w C.K mg base (L2.CX P w) k f fd ps (spOf C φ n) ∧ ps.length = n ∧ mg x = some (.ref f) ∧ PySem.W.keepIn C.K (.ref f) = true ∧ L2.Binds C.K fd ps []
theorem Fnp.at {B : Bd} {X : Cx} {x : Str} {n k m : Nat} {φ : WF} (h : Fnp X.prog X.w B.C X.mg X.base x n k φ) (hK : X.K = B.C.K) (hr : Room m X.A) (hk : k ≤ m := by decide) : FunG B X x n φ := by
  obtain ⟨f, fd, ps, ok, hn, hm, hk', hb⟩ := h.ex
  exact ⟨h.len, k, f, fd, ps, hr.mono hk, by rw [hK]; exact ok, hn, hm, by rw [hK]; exact hk', by rw [hK]; exact hb⟩
/-- a def keeps its promise, by its body -/
theorem Fnp.of {P : Program} {w : World} {C : Con} {mg : Str → Option Value} {base : Heap} {x : Str} {params : Arguments} {body : List Stmt} {scope : Scope} {N ps : List Str} {k : Nat} {wb : WS}
    (ck : ConOk C) (D : DefAt C mg x params body scope ps) (S : FnScope N ps scope)
    (h : ∀ (f : Addr) (cdv : Value) (A : Around) (outer : List Env) (s : Shared) (H : Hp) (E : XK) (g : Gh) (W : WX), Room k (A.deeper (envOfC x scope s.heap.objs.size f cdv)) → J ⟨C, g, H⟩ (cxOf (L2.CX P w) P w C.K mg base N x scope f cdv A outer s H E) W →
      PSsg ⟨C, g, H⟩ (cxOf (L2.CX P w) P w C.K mg base N x scope f cdv A outer s H E) W body wb) : Fnp P w C mg base x ps.length (k + 1) (wfn N.length ps.length wb) := by
  obtain ⟨f, fd, F, hm, hb⟩ := D.ex
  exact ⟨wfn_len, f, fd, ps, fn_ok ck F S (h f), rfl, hm, F.kp, hb⟩
/-- at depth nought nothing is promised -/
theorem Fnp.never {P : Program} {w : World} {C : Con} {mg : Str → Option Value} {base : Heap} {x : Str} {params : Arguments} {body : List Stmt} {scope : Scope} {N ps : List Str} {k : Nat}
    (D : DefAt C mg x params body scope ps) (S : FnScope N ps scope) : Fnp P w C mg base x ps.length (k + 1) (fun _ _ _ _ => False) := by
  obtain ⟨f, fd, F, hm, hb⟩ := D.ex
  refine ⟨fun _ _ _ _ h => h.elim, f, fd, ps, ?_, rfl, hm, F.kp, hb⟩
  refine F.ok (CX := L2.CX P w) S (fun vs H Q E h => h.1) fun cdv A outer s H vs Q E hr ⟨hn, g, ds, st, Qg, R, ok, r, hw, hQ, hE⟩ => hw.elim
/-- no methods -/
def M0 : MT := fun _ _ => none
theorem m0 {B : Bd} {X : Cx} : MOk B X M0 := ⟨fun c m φ h => by cases h⟩
def I0 : IS := fun _ _ => none
theorem i0 {B : Bd} {X : Cx} : IsOk B X I0 := ⟨fun _ _ _ h => (by cases h), fun _ h => (by cases h), fun _ _ h => (by cases h), fun _ _ _ h => (by cases h)⟩
end G
namespace G
open PySem PySem.Spec PyProof.Rows L2
def putD (i : Nat) (d : D) : List (Nat × D) → List (Nat × D)
  | [] => [(i, d)]
  | (k, x) :: r => if k = i then (k, d) :: r else (k, x) :: putD i d r
def getD' (i : Nat) : List (Nat × D) → Option D
  | [] => none
  | (k, x) :: r => if k = i then some x else getD' i r
/-- which names are plain attributes of which class; names differ -/
structure FOk (B : Bd) (X : Cx) (F : Nat → Nat → Bool) : Prop where
  at_ : ∀ c i, F c i = true → Cls X.K (B.C.ca c) ∧ NoAttr X.K (B.C.ca c) (B.C.fn i)
  inj : ∀ i j, B.C.fn i = B.C.fn j → i = j
/-- properties -/
structure PrOk (B : Bd) (X : Cx) (T : Nat → Nat → Option WF) : Prop where
  pr : ∀ c i φ, T c i = some φ → ∃ k p g fd ps n, Room (k + 1) X.A ∧ L2.FnOk X.prog X.w X.K X.mg X.base (L2.CX X.prog X.w) k g fd ps (spOf B.C φ n) ∧ Cls X.K (B.C.ca c) ∧ PropOf X.K (B.C.ca c) (B.C.fn i) p g ∧ L2.Binds X.K fd ps [] ∧ ∀ ds st Q R, φ ds st Q R → ds.length = n
section
variable {C : Con} {g : Gh}
theorem RepF.some (hi : ∀ i j, C.fn i = C.fn j → i = j) {i : Nat} {d : D} : ∀ {fs : List (Nat × D)} {fv : List (Str × V)}, RepF C g fs fv → getD' i fs = some d → ∃ v, fv.lookup (C.fn i) = some v ∧ Rep C g d v
  | [], _, h, e => by cases e
  | (k, x) :: r, fv, h, e => by
    unfold RepF at h
    obtain ⟨v, q, rfl, a, b⟩ := h
    unfold getD' at e
    by_cases hk : k = i
    · rw [if_pos hk] at e
      cases e
      subst hk
      exact ⟨v, by rw [List.lookup_cons, beq_self_eq_true], a⟩
    · rw [if_neg hk] at e
      obtain ⟨u, h1, h2⟩ := RepF.some hi b e
      refine ⟨u, ?_, h2⟩
      rw [List.lookup_cons]
      have : (C.fn i == C.fn k) = false := by
        cases z : (C.fn i == C.fn k) with
        | false => rfl
        | true => exact absurd (hi _ _ (eq_of_beq z)).symm hk
      rw [this]; exact h1
theorem RepF.none (hi : ∀ i j, C.fn i = C.fn j → i = j) {i : Nat} : ∀ {fs : List (Nat × D)} {fv : List (Str × V)}, RepF C g fs fv → getD' i fs = .none → fv.lookup (C.fn i) = .none
  | [], _, h, e => by unfold RepF at h; subst h; rfl
  | (k, x) :: r, fv, h, e => by
    unfold RepF at h
    obtain ⟨v, q, rfl, a, b⟩ := h
    unfold getD' at e
    by_cases hk : k = i
    · rw [if_pos hk] at e; cases e
    · rw [if_neg hk] at e
      rw [List.lookup_cons]
      have : (C.fn i == C.fn k) = false := by
        cases z : (C.fn i == C.fn k) with
        | false => rfl
        | true => exact absurd (hi _ _ (eq_of_beq z)).symm hk
      rw [this]; exact RepF.none hi b e
theorem RepF.put (hi : ∀ i j, C.fn i = C.fn j → i = j) {i : Nat} {d : D} {v : V} (rd : Rep C g d v) : ∀ {fs : List (Nat × D)} {fv : List (Str × V)}, RepF C g fs fv → RepF C g (putD i d fs) (putF (C.fn i) v fv)
  | [], _, h => by
    unfold RepF at h; subst h
    unfold putD putF RepF
    exact ⟨v, [], rfl, rd, by unfold RepF; rfl⟩
  | (k, x) :: r, fv, h => by
    unfold RepF at h
    obtain ⟨u, q, rfl, a, b⟩ := h
    unfold putD putF
    by_cases hk : k = i
    · subst hk
      rw [if_pos rfl, if_pos rfl]
      unfold RepF
      exact ⟨v, q, rfl, rd, b⟩
    · rw [if_neg hk, if_neg fun z => hk (hi _ _ z)]
      unfold RepF
      exact ⟨u, _, rfl, a, RepF.put hi rd b⟩
theorem RepF.length : ∀ {fs : List (Nat × D)} {fv : List (Str × V)}, RepF C g fs fv → fs.length = fv.length
  | [], _, h => by unfold RepF at h; subst h; rfl
  | (k, x) :: r, fv, h => by
    unfold RepF at h
    obtain ⟨u, q, rfl, a, b⟩ := h
    simp [RepF.length b]
end
section
variable {B : Bd} {X : Cx} {W : WX} {a b c e o value : Expr} {es : List Expr} {wa wb wc : WE} {ta : WA} {pos apos : Pos} {M : MT}
/-- e.f read: a property, else a plain attribute -/
def attOb (F : Nat → Nat → Bool) (T : Nat → Nat → Option WF) (i : Nat) (d : D) (c : Nat) (fs : List (Nat × D)) (st : Store) (Q : QE) : Prop := match T c i with
  | some φ => φ [d] st Q noX
  | none => F c i = true ∧ (match getD' i fs with | some v => Q v st | none => False)
def oAtt (F : Nat → Nat → Bool) (T : Nat → Nat → Option WF) (i : Nat) : O1 := fun d st Q R => match d with
  | .ob c fs => attOb F T i d c fs st Q
  | .cel n => (match st[n]? with | some (.ins c fs) => attOb F T i d c fs st Q | _ => False)
  | _ => False
theorem no_out {P : Program} {w : World} {outer : List Env} {H : Hp} {s s' : Shared} {u : Value} (h : L2.CX P w outer H s (fun _ _ _ => False) u s') : False := by
  obtain ⟨_, _, _, _, _, _, _, _, _, _, _, _, q⟩ := h
  exact q
theorem att_run {F : Nat → Nat → Bool} {T : Nat → Nat → Option WF} (j : J B X W) (fo : FOk B X F) (po : PrOk B X T) {i cc : Nat} {d : D} {p dx : Addr} {fs : List (Nat × D)} {fv : List (Str × V)} {gb g : Gh} {Hb : Hp} {env : Envr} {st : Store} {σ : L2.St} {H : Hp} {pins : List (Addr × Obj)} {s : Shared} {Q : QE} {bb : Bool}
    (l : Nx gb Hb g H) (bo : BOk B g env st σ H) (I : Inv X pins σ H s) (hp : H p = some (.ins (B.C.ca cc) dx fv)) (rf : RepF B.C g fs fv) (rd : Rep B.C g d (.ref p)) (h : attOb F T i d cc fs st Q) :
    wpAny (model X.prog X.w) X.A (getAttr (.ref p) (B.C.fn i) bb) (EP X pins σ (QV B gb Hb env σ Q)) X.xe s := by
  unfold attOb at h
  split at h
  · rename_i φ hT
    obtain ⟨k, q, gg, fd, ps, n, hr, ok, hc, hpr, hb, hl⟩ := po.pr cc i φ hT
    refine getprop_ok (E := fun _ _ _ => False) I hp hc hpr ok hr hb .nil (fun _ _ _ _ _ _ _ z => (no_out z).elim) ?_
    refine ⟨(hl _ _ _ _ h), g, [d], st, Q, noX, bo.ok, Reps.cons rd Reps.nil, h, fun v H' ⟨d', st', g', l', ok', nx, rv, q⟩ => ?_, fun cls dd H' ⟨x, st', g', _, _, _, _, z⟩ => z⟩
    exact ⟨d', st', g', l.trans nx, bo.of_sp l' ok' nx, rv, q⟩
  · obtain ⟨hF, h⟩ := h
    obtain ⟨hc, hn⟩ := fo.at_ cc i hF
    split at h
    · rename_i v hv
      obtain ⟨u, h1, h2⟩ := rf.some fo.inj hv
      exact getattr_ok I hp hc hn h1 fun u' s' I' ru => ⟨u, H, I', ru, QV.same l bo h2 h⟩
    · exact h.elim
theorem g_att {F : Nat → Nat → Bool} {T : Nat → Nat → Option WF} (j : J B X W) (fo : FOk B X F) (po : PrOk B X T) (i : Nat) {f : Str} (hf : B.C.fn i = f) (he : PBg B X W e wa) (hab : attributeBase e f X.env (eval e X.env) = eval e X.env := by rfl) : PEg B X W (.Attribute e f pos) (wUn (oAtt F T i) wa) := by
  subst hf
  refine ⟨fun pins s σ H g env st Q R I bo rw hw => ?_⟩
  refine attr_of hab (thn (he.run pins s σ H g env st _ R I bo rw hw) fun u s1 ⟨x, H1, I1, rx, d, st1, g1, l1, b1, rd, q⟩ => ?_)
  unfold oAtt at q
  dsimp only at q
  split at q
  · rename_i cc fs
    obtain ⟨p, dx, fv, rfl, hp, rf, rd'⟩ := rep_ob b1 rd
    cases rx
    exact att_run j fo po l1 b1 I1 hp rf rd' q
  · rename_i n
    have rd' := rd.full (fun ds z => by cases z)
    split at q
    · rename_i cc fs hst
      obtain ⟨p, e1, hcell⟩ := rd'.celV
      subst hcell
      cases rx
      obtain ⟨p2, q1, dx, fv, q2, q3⟩ := b1.ok.cell n _ hst
      rw [e1] at q1
      cases q1
      exact att_run j fo po l1 b1 I1 q2 q3 rd' q
    · exact q.elim
  · exact q.elim
def clsOf (d : D) (st : Store) : Option (Nat × List (Nat × D)) := match d with
  | .ob c fs => some (c, fs)
  | .cel n => (match st[n]? with | some (.ins c fs) => some (c, fs) | _ => none)
  | _ => none
/-- o.m(e, ..) -/
def wMeth (M : MT) (i : Nat) (wa : WE) (ta : WA) : WE := fun env st Q R => wa env st (fun d st1 => match clsOf d st1 with
  | some (c, fs) => getD' i fs = none ∧ (match M c (.nm i) with
    | some φ => ta env st1 (fun ds st2 => φ (d :: ds) st2 Q R) R
    | none => False)
  | none => False) R
theorem cls_at {g : Gh} {env : Envr} {st : Store} {σ : L2.St} {H : Hp} (bo : BOk B g env st σ H) {d : D} {v : V} {cc : Nat} {fs : List (Nat × D)} (rd : Rep B.C g d v) (h : clsOf d st = some (cc, fs)) : ∃ p dx fv, v = .ref p ∧ H p = some (.ins (B.C.ca cc) dx fv) ∧ RepF B.C g fs fv := by
  unfold clsOf at h
  split at h
  · cases h
    obtain ⟨p, dx, fv, rfl, hp, rf⟩ := rd.obV
    exact ⟨p, dx, fv, rfl, bo.ok.p _ _ hp, rf⟩
  · rename_i n
    split at h
    · rename_i cc fs hst
      cases h
      obtain ⟨p, e1, rfl⟩ := rd.celV
      obtain ⟨p2, q1, dx, fv, q2, q3⟩ := bo.ok.cell n _ hst
      rw [e1] at q1
      cases q1
      exact ⟨p, dx, fv, rfl, q2, q3⟩
    · cases h
  · cases h
theorem g_meth0 (j : J B X W) (m : MOk B X M) (hij : ∀ i j, B.C.fn i = B.C.fn j → i = j) (hmn : B.C.mn = B.C.fn) {pl : Sem Bool} (i : Nat) {f : Str} (hf : B.C.fn i = f) (ho : PEg B X W o wa)
    (ht : eval (.Call (.Attribute o f apos) [] [] pos) X.env = (do
      let ov ← eval o X.env
      standAt apos.atName
      let (f, first) ← holding [ov] (getMethod ov f pl)
      callWith pos f first (backTo pos (starEach [] X.env)) (backToKw pos (keywordEach [] X.env))) := by rfl) :
    PEg B X W (.Call (.Attribute o f apos) [] [] pos) (wMeth M i wa waNil) := by
  subst hf
  refine ⟨fun pins s σ H g env st Q R I bo rw hw => ?_⟩
  refine PySem.W.methodCall_KW (pl := pl) (thn (ho.run pins s σ H g env st _ R I bo rw hw) fun u s1 ⟨x, H1, I1, rx, d, st1, g1, l1, b1, rd, q⟩ => ?_) ht
  dsimp only at q
  split at q
  · rename_i cc fs hcl
    obtain ⟨hnf, q⟩ := q
    split at q
    · rename_i φ hM
      obtain ⟨p, dx, fv, rfl, hp, rf⟩ := cls_at b1 rd hcl
      cases rx
      obtain ⟨k, hr, ⟨fa, ok, hme⟩, hc, hs⟩ := m.met cc (.nm i) φ hM
      have hme' : Meth X.K (B.C.ca cc) (B.C.fn i) fa := by rw [← hmn]; exact hme
      refine getmeth_ok I1 hp hc hme' (rf.none hij hnf) ?_
      exact PySem.W.callWith_K0 (first := [.ref p]) I1.kIn hme'.kp (run_A j ok hr l1 b1 rw I1 (Reps.cons rd Reps.nil) (.cons rfl .nil) q)
    · exact q.elim
  · exact q.elim
def wFld (F : Nat → Nat → Bool) (i : Nat) (wo wv : WE) : WS := fun env st D => wv env st (fun y st1 => wo env st1 (fun x st2 => match x with
  | .cel n => (match st2[n]? with
    | some (.ins c fs) => F c i = true ∧ fs.length < 1000 ∧ D.nx env (st2.set n (.ins c (putD i y fs)))
    | _ => False)
  | _ => False) (xe D env)) (xe D env)
theorem gs_fld {F : Nat → Nat → Bool} (j : J B X W) (fo : FOk B X F) (i : Nat) {f : Str} {pos' : Pos} (hf : B.C.fn i = f) (ho : PEg B X W o wa) (hv : PEg B X W value wb) (hs : swapsWith value (some (.Attribute o f pos')) pos.line X.env = pure false := by rfl) : PSg B X W (.Assign [.Attribute o f pos'] value pos) (wFld F i wa wb) := by
  subst hf
  refine ⟨fun pins s σ H g env st D I bo rw hw => ?_⟩
  refine plainObj_wpAny_Assign_Attribute (thn (hv.run pins s σ H g env st _ _ I bo (rw.at env σ) hw) fun u s1 ⟨y, H1, I1, ry, d, st1, g1, l1, b1, rd, q⟩ => thn (ho.run pins s1 σ H1 g1 env st1 _ _ I1 b1 (rw.at env σ) q) fun ov s2 ⟨x, H2, I2, rx, d2, st2, g2, l2, b2, rd2, q2⟩ => ?_) hs
  cases d2 with
  | cel n =>
    dsimp only at q2
    split at q2
    · rename_i cc fs hst
      obtain ⟨hF, hl, q2⟩ := q2
      obtain ⟨hc, hn⟩ := fo.at_ cc i hF
      obtain ⟨p, e1, rfl⟩ := rd2.celV
      obtain ⟨p2, q1, dx, fv, q3, q4⟩ := b2.ok.cell n _ hst
      rw [e1] at q1
      cases q1
      cases rx
      refine setattr_ok I2 q3 hc hn (by rw [← q4.length]; exact hl) ry fun s3 I3 => ⟨σ, _, I3, ?_⟩
      exact ⟨env, _, g2, (l1.trans l2).le, b2.chCell j.ck (c := .ins cc (putD i d fs)) (List.getElem?_eq_some_iff.mp hst).1 e1 ⟨_, q3, fun z => z⟩ ⟨dx, _, upd_same, q4.put fo.inj (rd.mono l2.le)⟩, q2⟩
    · exact q2.elim
  | _ => exact q2.elim
end
end G
namespace G
open PySem PySem.Spec PyProof.Rows L2
mutual
def D.noc (n : Nat) : D → Prop
  | .tup xs => D.nocs n xs
  | .lst xs => D.nocs n xs
  | .scr xs => D.nocs n xs
  | .wtp xs => D.nocs n xs
  | .ob _ fs => D.nocF n fs
  | .cel m => m ≠ n
  | .dct kvs => D.nocK n kvs
  | .dtt kvs => D.nocK n kvs
  | _ => True
def D.nocs (n : Nat) : List D → Prop
  | [] => True
  | d :: ds => D.noc n d ∧ D.nocs n ds
def D.nocF (n : Nat) : List (Nat × D) → Prop
  | [] => True
  | (_, d) :: ds => D.noc n d ∧ D.nocF n ds
def D.nocK (n : Nat) : List (D × D) → Prop
  | [] => True
  | (_, d) :: ds => D.noc n d ∧ D.nocK n ds
end
def Cell.noc (n : Nat) : Cell → Prop
  | .lst xs => D.nocs n xs
  | .ins _ fs => D.nocF n fs
  | .dct kvs => D.nocK n kvs
mutual
theorem Rep.nocOf {C : Con} {g : Gh} {n : Nat} (h : g.ad n = none) : ∀ {d : D} {v : V}, Rep C g d v → d.noc n
  | .non, v, _ => trivial
  | .bl _, v, _ => trivial
  | .int _, v, _ => trivial
  | .str _, v, _ => trivial
  | .tup ds, v, k => by unfold Rep at k; obtain ⟨a, xs, e, s, r⟩ := k; exact Reps.nocOf h r
  | .lst ds, v, k => by unfold Rep at k; obtain ⟨a, xs, e, s, r⟩ := k; exact Reps.nocOf h r
  | .scr ds, v, k => by unfold Rep at k; obtain ⟨a, xs, e, s, r⟩ := k; exact Reps.nocOf h r
  | .ob c fs, v, k => by unfold Rep at k; obtain ⟨a, dx, fv, e, s, r⟩ := k; exact RepF.nocOf h r
  | .cel m, v, k => by
    unfold Rep at k
    obtain ⟨a, e, s⟩ := k
    exact fun z => by rw [z, h] at e; cases e
  | .cls _, v, _ => trivial
  | .ty _, v, _ => trivial
  | .dct kvs, v, k => by unfold Rep at k; obtain ⟨a, xs, e, s, r⟩ := k; exact RepK.nocOf h r
  | .dtt kvs, v, k => by unfold Rep at k; obtain ⟨a, xs, e, s, r⟩ := k; exact RepT.nocOf h r
  | .raw _, v, _ => trivial
  | .wtp ds, v, k => by unfold Rep at k; obtain ⟨a, xs, e, s, r⟩ := k; exact Reps.nocOf h r
theorem Reps.nocOf {C : Con} {g : Gh} {n : Nat} (h : g.ad n = none) : ∀ {ds : List D} {vs : List V}, Reps C g ds vs → D.nocs n ds
  | [], vs, _ => trivial
  | d :: ds, vs, k => by unfold Reps at k; obtain ⟨v, r, e, a, b⟩ := k; exact ⟨Rep.nocOf h a, Reps.nocOf h b⟩
theorem RepF.nocOf {C : Con} {g : Gh} {n : Nat} (h : g.ad n = none) : ∀ {fs : List (Nat × D)} {vs : List (Str × V)}, RepF C g fs vs → D.nocF n fs
  | [], vs, _ => trivial
  | (i, d) :: ds, vs, k => by unfold RepF at k; obtain ⟨v, r, e, a, b⟩ := k; exact ⟨Rep.nocOf h a, RepF.nocOf h b⟩
theorem RepK.nocOf {C : Con} {g : Gh} {n : Nat} (h : g.ad n = none) : ∀ {fs : List (D × D)} {vs : List (L2.Key × V)}, RepK C g fs vs → D.nocK n fs
  | [], vs, _ => trivial
  | (i, d) :: ds, vs, k => by unfold RepK at k; obtain ⟨_, v, r, e, _, a, b⟩ := k; exact ⟨Rep.nocOf h a, RepK.nocOf h b⟩
theorem RepT.nocOf {C : Con} {g : Gh} {n : Nat} (h : g.ad n = none) : ∀ {fs : List (D × D)} {vs : List (List L2.Key × V)}, RepT C g fs vs → D.nocK n fs
  | [], vs, _ => trivial
  | (i, d) :: ds, vs, k => by unfold RepT at k; obtain ⟨_, v, r, e, _, a, b⟩ := k; exact ⟨Rep.nocOf h a, RepT.nocOf h b⟩
end
theorem GOk.noc {C : Con} {g : Gh} {H : Hp} {st : Store} (k : GOk C g H st) (h : g.ad st.length = none) : ∀ cl ∈ st, cl.noc st.length := by
  intro cl hc
  obtain ⟨n, hn, rfl⟩ := List.mem_iff_getElem.mp hc
  obtain ⟨a, h1, h2⟩ := k.cell n st[n] (by simp [hn])
  cases e : st[n] with
  | lst ds => rw [e] at h2; obtain ⟨xs, _, r⟩ := h2; exact Reps.nocOf h r
  | ins c fs => rw [e] at h2; obtain ⟨dx, fv, _, r⟩ := h2; exact RepF.nocOf h r
  | dct kvs => rw [e] at h2; obtain ⟨xs, _, r⟩ := h2; exact RepK.nocOf h r
/-- cell n becomes a thing that does not change -/
def Gh.fix (g : Gh) (n : Nat) (p : Addr) (o : HO) : Gh := ⟨upd g.P p o, fun m => if m = n then none else g.ad m⟩
section
variable {C : Con} {g : Gh} {n : Nat} {p : Addr} {o : HO}
mutual
theorem Rep.fix (hp : g.P p = none) : ∀ {d : D} {v : V}, d.noc n → Rep C g d v → Rep C (g.fix n p o) d v
  | .non, v, _, h => h
  | .bl _, v, _, h => h
  | .int _, v, _, h => h
  | .str _, v, _, h => h
  | .tup ds, v, k, h => by
    unfold Rep at h ⊢
    obtain ⟨a, xs, e, s, r⟩ := h
    exact ⟨a, xs, e, by show upd g.P p o a = some _; rw [upd_ne (ne_of_none s hp)]; exact s, Reps.fix hp k r⟩
  | .lst ds, v, k, h => by
    unfold Rep at h ⊢
    obtain ⟨a, xs, e, s, r⟩ := h
    exact ⟨a, xs, e, by show upd g.P p o a = some _; rw [upd_ne (ne_of_none s hp)]; exact s, Reps.fix hp k r⟩
  | .scr ds, v, k, h => by
    unfold Rep at h ⊢
    obtain ⟨a, xs, e, s, r⟩ := h
    exact ⟨a, xs, e, Same.sqL (fun b u q => by show upd g.P p o b = some u; rw [upd_ne (ne_of_none q hp)]; exact q) s, Reps.fix hp k r⟩
  | .ob c fs, v, k, h => by
    unfold Rep at h ⊢
    obtain ⟨a, dx, fv, e, s, r⟩ := h
    exact ⟨a, dx, fv, e, by show upd g.P p o a = some _; rw [upd_ne (ne_of_none s hp)]; exact s, RepF.fix hp k r⟩
  | .cel m, v, k, h => by
    unfold Rep at h ⊢
    obtain ⟨a, e, s⟩ := h
    exact ⟨a, by show (if m = n then none else g.ad m) = some a; rw [if_neg k]; exact e, s⟩
  | .cls _, v, _, h => h
  | .ty _, v, _, h => h
  | .dct kvs, v, k, h => by
    unfold Rep at h ⊢
    obtain ⟨a, xs, e, s, r⟩ := h
    exact ⟨a, xs, e, by show upd g.P p o a = some _; rw [upd_ne (ne_of_none s hp)]; exact s, RepK.fix hp k r⟩
  | .dtt kvs, v, k, h => by
    unfold Rep at h ⊢
    obtain ⟨a, xs, e, s, r⟩ := h
    exact ⟨a, xs, e, by show upd g.P p o a = some _; rw [upd_ne (ne_of_none s hp)]; exact s, RepT.fix hp k r⟩
  | .raw _, v, _, h => h
  | .wtp ds, v, k, h => by
    unfold Rep at h ⊢
    obtain ⟨a, xs, e, s, r⟩ := h
    exact ⟨a, xs, e, s, Reps.fix hp k r⟩
theorem Reps.fix (hp : g.P p = none) : ∀ {ds : List D} {vs : List V}, D.nocs n ds → Reps C g ds vs → Reps C (g.fix n p o) ds vs
  | [], vs, _, h => h
  | d :: ds, vs, k, h => by
    unfold Reps at h ⊢
    obtain ⟨v, r, e, a, b⟩ := h
    exact ⟨v, r, e, Rep.fix hp k.1 a, Reps.fix hp k.2 b⟩
theorem RepF.fix (hp : g.P p = none) : ∀ {ds : List (Nat × D)} {vs : List (Str × V)}, D.nocF n ds → RepF C g ds vs → RepF C (g.fix n p o) ds vs
  | [], vs, _, h => h
  | (i, d) :: ds, vs, k, h => by
    unfold RepF at h ⊢
    obtain ⟨v, r, e, a, b⟩ := h
    exact ⟨v, r, e, Rep.fix hp k.1 a, RepF.fix hp k.2 b⟩
theorem RepK.fix (hp : g.P p = none) : ∀ {ds : List (D × D)} {vs : List (L2.Key × V)}, D.nocK n ds → RepK C g ds vs → RepK C (g.fix n p o) ds vs
  | [], vs, _, h => h
  | (i, d) :: ds, vs, k, h => by
    unfold RepK at h ⊢
    obtain ⟨key, v, r, e, ek, a, b⟩ := h
    exact ⟨key, v, r, e, ek, Rep.fix hp k.1 a, RepK.fix hp k.2 b⟩
theorem RepT.fix (hp : g.P p = none) : ∀ {ds : List (D × D)} {vs : List (List L2.Key × V)}, D.nocK n ds → RepT C g ds vs → RepT C (g.fix n p o) ds vs
  | [], vs, _, h => h
  | (i, d) :: ds, vs, k, h => by
    unfold RepT at h ⊢
    obtain ⟨key, v, r, e, ek, a, b⟩ := h
    exact ⟨key, v, r, e, ek, Rep.fix hp k.1 a, RepT.fix hp k.2 b⟩
end
end
section
variable {B : Bd} {X : Cx} {W : WX} {a b c e : Expr} {es : List Expr} {wa wb wc : WE} {ta : WA} {pos : Pos} {M : MT}
theorem BOk.newCellO (ck : ConOk B.C) {g : Gh} {env : Envr} {st : Store} {σ : L2.St} {H : Hp} (bo : BOk B g env st σ H) {p : Addr} {o : HO} {cl : Cell} (hp : H p = none) (r : CellRep B.C (g.cell st.length p) (upd H p o) p cl) :
    Nx g H (g.cell st.length p) (upd H p o) ∧ BOk B (g.cell st.length p) env (st ++ [cl]) σ (upd H p o) := by
  have e : ∀ a u, H a = some u → upd H p o a = some u := fun a u q => by rw [upd_ne (ne_of_none q hp)]; exact q
  have hn : g.ad st.length = none := by
    cases q : g.ad st.length with
    | none => rfl
    | some a => exact absurd (bo.ok.dom _ _ q) (Nat.lt_irrefl _)
  have ne : ∀ n a, g.ad n = some a → n ≠ st.length := fun n a q z => by rw [z, hn] at q; cases q
  have l : g.le (g.cell st.length p) := ⟨fun _ _ h => h, fun n a q => by
    show (if n = st.length then some p else g.ad n) = some a
    rw [if_neg (ne n a q)]; exact q⟩
  have at_ : ∀ n a, (g.cell st.length p).ad n = some a → (n = st.length ∧ a = p) ∨ g.ad n = some a := fun n a q => by
    have q' : (if n = st.length then some p else g.ad n) = some a := q
    by_cases h : n = st.length
    · rw [if_pos h] at q'; cases q'; exact .inl ⟨h, rfl⟩
    · rw [if_neg h] at q'; exact .inr q'
  have nx : Nx g H (g.cell st.length p) (upd H p o) := ⟨l, fun a u q _ _ => e a u q, dm_of e, fun n a q => by
    rcases at_ n a q with ⟨_, rfl⟩ | z
    · exact .inr hp
    · exact .inl z, fun a u q => .inl q⟩
  have b1 := bo.grow ck e
  refine ⟨nx, bo.of_sp l ⟨fun a u q => e a u (bo.ok.p a u q), bo.ok.nt, fun n a q => ?_, fun n m a q1 q2 => ?_, fun n c q => ?_, fun n a q => ?_, b1.ok.tab⟩ nx⟩
  · rcases at_ n a q with ⟨_, rfl⟩ | z
    · exact bo.ok.free hp
    · exact bo.ok.np n a z
  · rcases at_ n a q1 with ⟨h1, rfl⟩ | z1
    · rcases at_ m _ q2 with ⟨h2, _⟩ | z2
      · rw [h1, h2]
      · exact absurd z2 (bo.cellNe hp m)
    · rcases at_ m a q2 with ⟨h2, rfl⟩ | z2
      · exact absurd z1 (bo.cellNe hp n)
      · exact bo.ok.inj n m a z1 z2
  · by_cases hlt : n < st.length
    · rw [List.getElem?_append_left hlt] at q
      obtain ⟨a, h1, h2⟩ := bo.ok.cell n c q
      exact ⟨a, l.a n a h1, h2.mono l (upd_ne fun z => bo.cellNe hp n (by rw [← z]; exact h1))⟩
    · have hc : n = st.length ∧ c = cl := by
        rw [List.getElem?_append_right (by omega)] at q
        by_cases hz : n - st.length = 0
        · rw [hz] at q
          simp at q
          exact ⟨by omega, q.symm⟩
        · rw [List.getElem?_eq_none (by simp; omega)] at q; cases q
      obtain ⟨rfl, rfl⟩ := hc
      exact ⟨p, by show (if st.length = st.length then some p else _) = _; rw [if_pos rfl], r⟩
  · rcases at_ n a q with ⟨rfl, _⟩ | z
    · simp
    · have := bo.ok.dom n a z
      simp; omega
/-- an instance, the last cell, is done: from here on it does not change -/
theorem GOk.fix {g g0 : Gh} {H H0 : Hp} {st : Store} {cc : Nat} {fs : List (Nat × D)} (k : GOk B.C g H (st ++ [.ins cc fs])) (nx : Nx g0 H0 g H) (h0 : g0.ad st.length = none) (hs : ∀ cl ∈ st, cl.noc st.length) (hf : D.nocF st.length fs) :
    ∃ g' p, Nx g0 H0 g' H ∧ GOk B.C g' H st ∧ Rep B.C g' (.ob cc fs) (.ref p) ∧ g.ad st.length = some p := by
  obtain ⟨p, hp, dx, fv, hH, rf⟩ := k.cell st.length (.ins cc fs) (by rw [List.getElem?_append_right (Nat.le_refl _)]; simp)
  have hP : g.P p = none := k.np _ _ hp
  have ad' : ∀ n a, (g.fix st.length p (.ins (B.C.ca cc) dx fv)).ad n = some a → n ≠ st.length ∧ g.ad n = some a := fun n a q => by
    have q' : (if n = st.length then none else g.ad n) = some a := q
    by_cases h : n = st.length
    · rw [if_pos h] at q'; cases q'
    · rw [if_neg h] at q'; exact ⟨h, q'⟩
  refine ⟨g.fix st.length p (.ins (B.C.ca cc) dx fv), p, ⟨⟨fun a u q => ?_, fun n a q => ?_⟩, nx.kp, nx.dm, fun n a q => nx.nc n a (ad' n a q).2, fun a u q => ?_⟩, ⟨fun a u q => ?_, fun a ps q => ?_, fun n a q => ?_, fun n m a q1 q2 => k.inj n m a (ad' n a q1).2 (ad' m a q2).2, fun n c q => ?_, fun n a q => ?_, k.tab⟩, ?_, hp⟩
  · show upd g.P p _ a = some u
    rw [upd_ne (ne_of_none (nx.le.p a u q) hP)]; exact nx.le.p a u q
  · show (if n = st.length then none else g.ad n) = some a
    rw [if_neg fun z => by rw [z, h0] at q; cases q]; exact nx.le.a n a q
  · have q' : upd g.P p (.ins (B.C.ca cc) dx fv) a = some u := q
    by_cases h : a = p
    · subst h
      rcases nx.nc _ _ hp with z | z
      · rw [h0] at z; cases z
      · exact .inr z
    · rw [upd_ne h] at q'; exact nx.np a u q'
  · have q' : upd g.P p (.ins (B.C.ca cc) dx fv) a = some u := q
    by_cases h : a = p
    · subst h; rw [upd_same] at q'; cases q'; exact hH
    · rw [upd_ne h] at q'; exact k.p a u q'
  · have q' : upd g.P p (.ins (B.C.ca cc) dx fv) a = some (.tbl ps) := q
    by_cases h : a = p
    · subst h; rw [upd_same] at q'; cases q'
    · rw [upd_ne h] at q'; exact k.nt a ps q'
  · obtain ⟨hn, q1⟩ := ad' n a q
    have hap : a ≠ p := fun z => hn (k.inj n _ p (by rw [← z]; exact q1) hp)
    show upd g.P p _ a = none
    rw [upd_ne hap]; exact k.np n a q1
  · have hlt : n < st.length := (List.getElem?_eq_some_iff.mp q).1
    obtain ⟨a, h1, h2⟩ := k.cell n c (by rw [List.getElem?_append_left hlt]; exact q)
    have hnc : c.noc st.length := hs c (List.mem_of_getElem? q)
    refine ⟨a, by show (if n = st.length then none else g.ad n) = some a; rw [if_neg (by omega)]; exact h1, ?_⟩
    cases c with
    | lst ds => obtain ⟨xs, e1, r1⟩ := h2; exact ⟨xs, e1, r1.fix hP hnc⟩
    | ins c gs => obtain ⟨dx, fv, e1, r1⟩ := h2; exact ⟨dx, fv, e1, r1.fix hP hnc⟩
    | dct kvs => obtain ⟨xs, e1, r1⟩ := h2; exact ⟨xs, e1, r1.fix hP hnc⟩
  · obtain ⟨hn, q1⟩ := ad' n a q
    have := k.dom n a q1
    simp at this
    omega
  · unfold Rep
    exact ⟨p, dx, fv, rfl, upd_same, rf.fix hP hf⟩
/-- an instance, the last cell, is forgotten -/
theorem GOk.drop {g g0 : Gh} {H H0 : Hp} {st : Store} {cc : Nat} {fs : List (Nat × D)} (k : GOk B.C g H (st ++ [.ins cc fs])) (nx : Nx g0 H0 g H) (h0 : g0.ad st.length = none) (hs : ∀ cl ∈ st, cl.noc st.length) :
    ∃ g', Nx g0 H0 g' H ∧ GOk B.C g' H st ∧ ∀ fs' fv', D.nocF st.length fs' → RepF B.C g fs' fv' → RepF B.C g' fs' fv' := by
  obtain ⟨p, hp, dx, fv, hH, rf⟩ := k.cell st.length (.ins cc fs) (by rw [List.getElem?_append_right (Nat.le_refl _)]; simp)
  have hP : g.P p = none := k.np _ _ hp
  have ad' : ∀ n a, (g.fix st.length p (.ins (B.C.ca cc) dx fv)).ad n = some a → n ≠ st.length ∧ g.ad n = some a := fun n a q => by
    have q' : (if n = st.length then none else g.ad n) = some a := q
    by_cases h : n = st.length
    · rw [if_pos h] at q'; cases q'
    · rw [if_neg h] at q'; exact ⟨h, q'⟩
  refine ⟨g.fix st.length p (.ins (B.C.ca cc) dx fv), ⟨⟨fun a u q => ?_, fun n a q => ?_⟩, nx.kp, nx.dm, fun n a q => nx.nc n a (ad' n a q).2, fun a u q => ?_⟩, ⟨fun a u q => ?_, fun a ps q => ?_, fun n a q => ?_, fun n m a q1 q2 => k.inj n m a (ad' n a q1).2 (ad' m a q2).2, fun n c q => ?_, fun n a q => ?_, k.tab⟩, ?_⟩
  · show upd g.P p _ a = some u
    rw [upd_ne (ne_of_none (nx.le.p a u q) hP)]; exact nx.le.p a u q
  · show (if n = st.length then none else g.ad n) = some a
    rw [if_neg fun z => by rw [z, h0] at q; cases q]; exact nx.le.a n a q
  · have q' : upd g.P p (.ins (B.C.ca cc) dx fv) a = some u := q
    by_cases h : a = p
    · subst h
      rcases nx.nc _ _ hp with z | z
      · rw [h0] at z; cases z
      · exact .inr z
    · rw [upd_ne h] at q'; exact nx.np a u q'
  · have q' : upd g.P p (.ins (B.C.ca cc) dx fv) a = some u := q
    by_cases h : a = p
    · subst h; rw [upd_same] at q'; cases q'; exact hH
    · rw [upd_ne h] at q'; exact k.p a u q'
  · have q' : upd g.P p (.ins (B.C.ca cc) dx fv) a = some (.tbl ps) := q
    by_cases h : a = p
    · subst h; rw [upd_same] at q'; cases q'
    · rw [upd_ne h] at q'; exact k.nt a ps q'
  · obtain ⟨hn, q1⟩ := ad' n a q
    have hap : a ≠ p := fun z => hn (k.inj n _ p (by rw [← z]; exact q1) hp)
    show upd g.P p _ a = none
    rw [upd_ne hap]; exact k.np n a q1
  · have hlt : n < st.length := (List.getElem?_eq_some_iff.mp q).1
    obtain ⟨a, h1, h2⟩ := k.cell n c (by rw [List.getElem?_append_left hlt]; exact q)
    have hnc : c.noc st.length := hs c (List.mem_of_getElem? q)
    refine ⟨a, by show (if n = st.length then none else g.ad n) = some a; rw [if_neg (by omega)]; exact h1, ?_⟩
    cases c with
    | lst ds => obtain ⟨xs, e1, r1⟩ := h2; exact ⟨xs, e1, r1.fix hP hnc⟩
    | ins c gs => obtain ⟨dx, fv, e1, r1⟩ := h2; exact ⟨dx, fv, e1, r1.fix hP hnc⟩
    | dct kvs => obtain ⟨xs, e1, r1⟩ := h2; exact ⟨xs, e1, r1.fix hP hnc⟩
  · obtain ⟨hn, q1⟩ := ad' n a q
    have := k.dom n a q1
    simp at this
    omega
  · exact fun fs' fv' h1 h2 => h2.fix hP h1
structure MakG (X : Cx) (C : Con) (k : Nat) (c : Nat) (φ : WF) : Prop where
  ex : ∃ f, FnA X C k f φ ∧ Mk X.K (C.ca c) f
/-- it does not change once it is made -/
def mkV (c : Nat) (φ : WF) : WF := fun ds st Q R => φ (.cel st.length :: ds) (st ++ [.ins c []]) (fun r st2 => r = .non ∧ ∃ fs, st2 = st ++ [.ins c fs] ∧ D.nocF st.length fs ∧ Q (.ob c fs) st) (fun x st2 => ∃ fs, st2 = st ++ [.ins c fs] ∧ D.nocF st.length x.fs ∧ R x st)
/-- it is a cell -/
def mkC (c : Nat) (φ : WF) : WF := fun ds st Q R => φ (.cel st.length :: ds) (st ++ [.ins c []]) (fun r st2 => r = .non ∧ Q (.cel st.length) st2) R
theorem run_mk (j : J B X W) {cc : Nat} {φ : WF} {k : Nat} (m : MakG X B.C k cc φ) (hr : Room (k + 1) X.A) {gb g : Gh} {Hb : Hp} {env : Envr} {st : Store} {σ : L2.St} {H : Hp} {pins : List (Addr × Obj)} {s : Shared} {Q : QE} {R : XQ} {ds : List D} {vs : List V} {us : List Value} (l : Nx gb Hb g H) (bo : BOk B g env st σ H) (rw : RW B W env σ R)
    (I : Inv X pins σ H s) (r : Reps B.C g ds vs) (ru : Vals vs us) (h : mkV cc φ ds st Q R ∨ mkC cc φ ds st Q R) : wpAny (model X.prog X.w) X.A (call (.ref (B.C.ca cc)) us) (EP X pins σ (QV B gb Hb env σ Q)) X.xe s := by
  obtain ⟨f, F, M⟩ := m.ex
  have nx_ : H (s.heap.objs.size + 1) = none := I.hok.fresh (Nat.le_succ _)
  have ndx : H s.heap.objs.size = none := I.hok.fresh (Nat.le_refl _)
  generalize hx : s.heap.objs.size + 1 = x at *
  generalize hdx : s.heap.objs.size = dx at *
  have hne : dx ≠ x := by omega
  have I2 := Inv.made (C := B.C.ca cc) I
  rw [hdx, hx] at I2
  have b1 := bo.grow j.ck (H' := upd H dx (.own x)) fun a o q => by rw [upd_ne (ne_of_none q ndx)]; exact q
  have n1 : Nx g H g (upd H dx (.own x)) := ⟨.refl g, fun a o q _ _ => by rw [upd_ne (ne_of_none q ndx)]; exact q, dm_of fun a o q => by rw [upd_ne (ne_of_none q ndx)]; exact q, fun _ _ z => .inl z, fun _ _ z => .inl z⟩
  have hx1 : upd H dx (.own x) x = none := by rw [upd_ne fun z => hne z.symm]; exact nx_
  obtain ⟨n2, b2⟩ := b1.newCellO j.ck (o := .ins (B.C.ca cc) dx []) (cl := .ins cc []) hx1 ⟨dx, [], upd_same, by unfold RepF; rfl⟩
  have lN := n1.trans n2
  have hcel : Rep B.C (g.cell st.length x) (.cel st.length) (.ref x) := by
    unfold Rep
    exact ⟨x, by show (if st.length = st.length then some x else _) = _; rw [if_pos rfl], rfl⟩
  have hg0 : g.ad st.length = none := by
    cases q : g.ad st.length with
    | none => rfl
    | some a => exact absurd (bo.ok.dom _ _ q) (Nat.lt_irrefl _)
  have r2 : Reps B.C (g.cell st.length x) (.cel st.length :: ds) (.ref x :: vs) := Reps.cons hcel (r.mono lN.le)
  have ru2 : Vals (V.ref x :: vs) (Value.ref x :: us) := .cons rfl ru
  have hs : spOfA B.C φ (.ref x :: vs) (upd (upd H dx (.own x)) x (.ins (B.C.ca cc) dx [])) (fun v H2 => v = .non ∧ QV B gb Hb env σ Q (.ref x) H2) (L2.WE W σ) := by
    rcases h with h | h
    · refine ⟨_, _, _, _, _, b2.ok, r2, h, fun v H' ⟨d, st', g', l', ok', nx', rv, e, fs, e1, e4, q⟩ => ?_, fun cls dd H' ⟨x', st', g', l', ok', nx', rx, fs, e1, e4, q⟩ => ?_⟩
      · subst e e1
        have hv := rv.nonV
        subst hv
        refine ⟨rfl, ?_⟩
        obtain ⟨g3, p, nx3, ok3, rep3, hp⟩ := ok'.fix (lN.trans nx') hg0 (bo.ok.noc hg0) e4
        have hpx : p = x := by
          have := l'.a st.length x (by show (if st.length = st.length then some x else _) = _; rw [if_pos rfl])
          rw [this] at hp
          exact (Option.some.inj hp).symm
        subst hpx
        exact ⟨_, st, g3, l.trans nx3, bo.of_sp nx3.le ok3 nx3, rep3, q⟩
      · subst e1
        obtain ⟨g3, nx3, ok3, rf3⟩ := ok'.drop (lN.trans nx') hg0 (bo.ok.noc hg0)
        obtain ⟨hc, d3, fv, hd, hH, rr⟩ := rx
        exact rw x' g3 st H' cls dd (bo.of_sp nx3.le ok3 nx3) ⟨hc, d3, fv, hd, hH, rf3 _ _ e4 rr⟩ q
    · refine ⟨_, _, _, _, R, b2.ok, r2, h, fun v H' ⟨d, st', g', l', ok', nx', rv, e, q⟩ => ?_, fun cls dd H' ⟨x', st', g', l', ok', nx', rx, q⟩ => rw x' g' st' H' cls dd (b2.of_sp l' ok' nx') rx q⟩
      subst e
      have hv := rv.nonV
      subst hv
      exact ⟨rfl, _, st', g', (l.trans lN).trans nx', b2.of_sp l' ok' nx', hcel.mono l', q⟩
  refine wpAny_call (make_map (f := f) I.kIn M.makes M.init (beq_iff_eq.mp M.fn) ?_)
  rw [hdx, hx]
  refine codeAny_mono (F _ X.stack _ _ (Value.ref x :: us) _ _ (L2.WE W σ) (hr.make _ us []) (I2.env0.make _ us []) ru2 hs) fun r s' hq' => ?_
  cases r with
  | error e => exact passAt j.tk σ pins _ _ e s' I2 hq'
  | ok fl =>
    cases fl with
    | ret u =>
      obtain ⟨v, H', I3, rv, ev, q3⟩ := I2.after hq'
      subst ev
      exact ⟨rv, ⟨V.ref x, H', I3, rfl, q3⟩⟩
    | next => exact False.elim hq'
    | brk => exact False.elim hq'
    | cont => exact False.elim hq'
/-- a class of the module -/
structure ClsG (B : Bd) (X : Cx) (x : Str) (c : Nat) (φ : WF) : Prop where
  ex : ∃ k, Room (k + 1) X.A ∧ MakG X B.C k c φ
  mg : X.mg x = some (.ref (B.C.ca c))
def wMk (v : Bool) (c : Nat) (φ : WF) (ta : WA) : WE := fun env st Q R => ta env st (fun ds st1 => (if v = true then mkV c φ else mkC c φ) ds st1 Q R) R
/-- x(*e), x a class -/
def wMkS (v : Bool) (c : Nat) (φ : WF) (wa : WE) : WE := fun env st Q R => wa env st (fun d st1 => match d with
  | .tup ds => (if v = true then mkV c φ else mkC c φ) ds st1 Q R
  | .lst ds => (if v = true then mkV c φ else mkC c φ) ds st1 Q R
  | _ => False) R
end
end G
namespace G
open PySem PySem.Spec PyProof.Rows L2
abbrev Fna (P : Program) (w : World) (C : Con) (mg : Str → Option Value) (base : Heap) (k : Nat) (f : Addr) (φ : WF) : Prop := L2.FnR P w C.K mg base (L2.CX P w) k f (spOfA C φ)
section
variable {P : Program} {w : World} {C : Con} {mg : Str → Option Value} {base : Heap} {x qual : Str} {params : Arguments} {body : List Stmt} {scope : Scope} {dvs : List V} {kws : List (Str × V)} {f : Addr} {fd : FuncData} {N ps : List Str} {k : Nat} {wb : WS}
abbrev BodyOk (P : Program) (w : World) (C : Con) (mg : Str → Option Value) (base : Heap) (qual : Str) (body : List Stmt) (scope : Scope) (f : Addr) (N : List Str) (k : Nat) (wb : WS) : Prop :=
  ∀ (cdv : Value) (A : Around) (outer : List Env) (s : Shared) (H : Hp) (E : XK) (g : Gh) (W : WX), Room k (A.deeper (envOfC qual scope s.heap.objs.size f cdv)) → J ⟨C, g, H⟩ (cxOf (L2.CX P w) P w C.K mg base N qual scope f cdv A outer s H E) W →
      PSsg ⟨C, g, H⟩ (cxOf (L2.CX P w) P w C.K mg base N qual scope f cdv A outer s H E) W body wb
theorem body_ok (ck : ConOk C) (S : FnScope N ps scope) (h : BodyOk P w C mg base qual body scope f N k wb) (cdv : Value) (A : Around) (outer : List Env) (s : Shared) (H : Hp) (vs : List V) (Q : VK) (E : XK) (hr : Room k (A.deeper (envOfC qual scope s.heap.objs.size f cdv)))
    (hsp : spOf C (wfn N.length ps.length wb) ps.length vs H Q E) : ∃ t, PSs (cxOf (L2.CX P w) P w C.K mg base N qual scope f cdv A outer s H E) body t ∧ t { nx := fun _ H' => Q .non H', rt := Q } (L2.start N vs) H := by
  obtain ⟨hn, g, ds, st, Qg, R, ok, r, hw, hQ, hE⟩ := hsp
  have j : J ⟨C, g, H⟩ (cxOf (L2.CX P w) P w C.K mg base N qual scope f cdv A outer s H E) (fun cls d _ H' => E cls d H') :=
    { ck := ck, hK := rfl, tk := takes_of rfl rfl rfl rfl, po := passes_of rfl, calm := rfl, nd := S.nd, hd := hr.hd, hu := hr.units, hu2 := by have h := hr.un; show (A.deeper _).units + 150 < cLine; omega }
  refine ⟨_, (h cdv A outer s H E g _ hr j).ps, ?_⟩
  refine ⟨g, startE N.length ds, st, _, start_ok ok r, ?_, hw.2, ?_, ?_, ?_, ?_⟩
  · exact fun x g' env' st' σ H' cls d b x' q => hE cls d H' ⟨x, st', g', b.nx.le, b.ok, b.nx, x', q⟩
  · exact fun σ' H' ⟨env', st', g', l, b, q⟩ => hQ .non H' ⟨.non, st', g', l, b.ok, b.nx, rep_non, q⟩
  · exact fun v H' ⟨d, st', g', l, ok', nx, rv, q⟩ => hQ v H' ⟨d, st', g', l, ok', nx, rv, q⟩
  · exact fun σ' H' ⟨env', st', g', l, b, q⟩ => q.elim
  · exact fun σ' H' ⟨env', st', g', l, b, q⟩ => q.elim
/-- a def, called without its defaults -/
theorem fna_of (ck : ConOk C) (F : FunD C.K x qual params body scope [] kws f fd) (S : FnScope N ps scope) (hb : L2.Binds C.K fd ps []) (h : BodyOk P w C mg base qual body scope f N k wb) : Fna P w C mg base (k + 1) f (wfn N.length ps.length wb) :=
  fnA_of wfn_len (F.ok (CX := L2.CX P w) S (fun vs H Q E h => h.1) fun cdv A outer s H vs Q E hr hsp => body_ok ck S h cdv A outer s H vs Q E hr hsp) hb
/-- def f(a, .., *v) -/
def wstar (m n : Nat) (wb : WS) : WF := fun ds st Q R => ∃ ws rest, ds = ws ++ rest ∧ ws.length = n ∧ rest.length ≤ sizeLine ∧ wfn m (n + 1) wb (ws ++ [.tup rest]) st Q R
theorem Reps.split {g : Gh} : ∀ {ws rest : List D} {vs : List V}, Reps C g (ws ++ rest) vs → ∃ us ys, vs = us ++ ys ∧ Reps C g ws us ∧ Reps C g rest ys
  | [], rest, vs, h => ⟨[], vs, rfl, Reps.nil, h⟩
  | d :: ws, rest, vs, h => by
    obtain ⟨v, r, rfl, a, b⟩ := h.cons_inv
    obtain ⟨us, ys, rfl, h1, h2⟩ := Reps.split b
    exact ⟨v :: us, ys, rfl, Reps.cons a h1, h2⟩
theorem fna_star (ck : ConOk C) {pv : Str} (F : FunD C.K x qual params body scope [] kws f fd) (S : FnScope N (ps ++ [pv]) scope)
    (hb : ∀ (kV doc pm : Value) (an : Option Addr) (cdv ct : Value) (us rest : List Value), us.length = ps.length → bindArgs (PySem.W.fnOf x qual params body scope .none kV doc pm an cdv ct) ⟨us ++ rest, []⟩ = (newTuple rest >>= fun t => pure (ps.zip us ++ [(pv, t)])))
    (h : BodyOk P w C mg base qual body scope f N k wb) : Fna P w C mg base (k + 1) f (wstar N.length ps.length wb) := by
  obtain ⟨oc, od, dV, kV, doc, pm, an, cdv, ct, osl, rfl, lk, hcd, hD, hK⟩ := F.ex
  have hdv : dV = .none := by
    rcases hD with ⟨_, z⟩ | ⟨e, _⟩
    · exact z
    · exact absurd rfl e
  subst hdv
  refine (StX.fn_star (pv := pv) (sp := spOf C (wfn N.length (ps ++ [pv]).length wb) (ps ++ [pv]).length) lk hcd S (StX.cxUp) (hb kV doc pm an cdv ct) fun A outer s H vs Q E hr hsp => body_ok ck S h _ A outer s H vs Q E hr hsp).imp fun vs H Q E ⟨g, ds, st, Qg, R, ok, r, ⟨ws, rest, e, hl, hz, hw⟩, hQ, hE⟩ => ?_
  subst e
  obtain ⟨us, ys, rfl, r1, r2⟩ := r.split
  refine ⟨us, ys, rfl, by rw [← r1.length]; exact hl, by rw [← r2.length]; exact hz, fun p hp => ?_⟩
  have bo : BOk ⟨C, g, H⟩ g [] st [] H := ⟨ok, .refl g H, ⟨rfl, fun i d h => by simp at h, fun i ds h => by simp at h, fun i j ds es a _ h => by simp at h⟩⟩
  have b2 := bo.new ck (o := .tup ys) hp (fun ps z => by cases z) (bo.cellNe hp)
  have l2 := bo.ok.le_add (o := .tup ys) hp
  have nx2 := bo.ok.nx_new (o := .tup ys) hp
  refine ⟨by simp [← r1.length, hl], g.add p (.tup ys), ws ++ [.tup rest], st, Qg, R, b2.ok, (r1.mono l2).append (Reps.cons ?_ Reps.nil), by rw [List.length_append]; exact hw, fun v H' ⟨d, st', g', l', ok', nx, rv, q⟩ => hQ v H' ⟨d, st', g', l2.trans l', ok', nx2.trans nx, rv, q⟩, fun cls dd H' ⟨x', st', g', l', ok', nx, rx, q⟩ => hE cls dd H' ⟨x', st', g', l2.trans l', ok', nx2.trans nx, rx, q⟩⟩
  unfold Rep
  exact ⟨p, ys, rfl, sqT_new, r2.mono l2⟩
end
structure DefX where
  at_ : PySem.W.Frag → Addr
  name : Str
  qual : Str
  params : Arguments
  body : List Stmt
  scope : Scope
def DefX.val (d : DefX) : He.FnW := some (d.name, d.qual, d.params, .stmts d.body, d.scope, mainGlobals, [], builtinsNs)
def fnWX (K : PySem.W.Frag) (a : Addr) : He.FnW := match K.lookup a with
  | some o => (match o.data with
    | .func fd => some (fd.name, fd.qualname, fd.params, fd.body, fd.scope, fd.globals, fd.closure, fd.builtins)
    | _ => none)
  | none => none
def DefX.ok (K : PySem.W.Frag) (d : DefX) : Bool := PySem.W.keepIn K (.ref (d.at_ K)) && (match K.lookup (d.at_ K) with
  | some o => (match o.data with
    | .func fd => PySem.W.codeIn K fd.code d.qual && He.dflB K fd.defaults []
    | _ => false)
  | none => false)
theorem DefX.funD {K : PySem.W.Frag} {d : DefX} (e : fnWX K (d.at_ K) = d.val) (c : d.ok K = true) : ∃ fd, FunD K d.name d.qual d.params d.body d.scope [] [] (d.at_ K) fd := by
  obtain ⟨kp, c2⟩ := He.ba c
  unfold fnWX at e
  cases q : K.lookup (d.at_ K) with
  | none => rw [q] at c2; cases c2
  | some o =>
    rw [q] at c2 e
    obtain ⟨oc, od, dt, osl⟩ := o
    cases dt with
    | func fd =>
      obtain ⟨n1, n2, n3, n4, n5, n6, n7, n8, n9, n10, n11, n12, n13, n14, n15⟩ := fd
      have e3 : (some (n1, n2, n3, n4, n5, n6, n7, n15) : He.FnW) = d.val := e
      unfold DefX.val at e3
      simp only [Option.some.injEq, Prod.mk.injEq] at e3
      obtain ⟨rfl, rfl, rfl, rfl, rfl, rfl, rfl, rfl⟩ := e3
      obtain ⟨k1, k2⟩ := He.ba (show (PySem.W.codeIn K n13 d.qual && He.dflB K n8 []) = true from c2)
      exact ⟨_, ⟨oc, od, n8, n9, n10, n11, n12, n13, n14, osl, rfl, q, k1, He.dflB_ok k2, .inl rfl⟩, kp⟩
    | _ => cases c2
abbrev Fab : Type := PySem.W.Frag → Bool
def obsX (fa : List Fab) (fn : List DefX) (K : PySem.W.Frag) : He.AlD := ((fa.all fun f => f K) && fn.all fun d => d.ok K, fn.map fun d => fnWX K (d.at_ K))
def valX (fn : List DefX) : He.AlD := (true, fn.map DefX.val)
def SaysX (fa : List Fab) (fn : List DefX) (K : PySem.W.Frag) : Prop := obsX fa fn K = valX fn
section
variable {fa : List Fab} {fn : List DefX} {K : PySem.W.Frag}
theorem SaysX.both (c : SaysX fa fn K) : (fa.all fun f => f K) = true ∧ (fn.all fun d => d.ok K) = true := He.ba (show ((fa.all fun f => f K) && fn.all fun d => d.ok K) = true from congrArg (fun z : He.AlD => z.1) c)
theorem SaysX.fact (c : SaysX fa fn K) (i : Nat) {f : Fab} (h : fa[i]? = some f := by rfl) : f K = true := List.all_eq_true.mp c.both.1 f (List.mem_of_getElem? h)
theorem SaysX.def_ (c : SaysX fa fn K) (i : Nat) {d : DefX} (h : fn[i]? = some d := by rfl) : ∃ fd, FunD K d.name d.qual d.params d.body d.scope [] [] (d.at_ K) fd := by
  have e : fn.map (fun d => fnWX K (d.at_ K)) = fn.map DefX.val := congrArg (fun z : He.AlD => z.2) c
  have e2 : (fn.map fun d => fnWX K (d.at_ K))[i]? = (fn.map DefX.val)[i]? := by rw [e]
  rw [List.getElem?_map, List.getElem?_map, h] at e2
  exact DefX.funD (Option.some.inj e2) (List.all_eq_true.mp c.both.2 d (List.mem_of_getElem? h))
end
/-- a global's, a method's, a property's place -/
def atG (x : Str) : PySem.W.Frag → Addr := fun K => He.ga K x
def atM (c m : Str) : PySem.W.Frag → Addr := fun K => He.ma K (He.ga K c) m
def atP (c m : Str) : PySem.W.Frag → Addr := fun K => match PySem.W.recIn K (He.ma K (He.ga K c) m) "property" with
  | some (.ref g :: _) => g
  | _ => 0
def faB (f : He.Fa) : Fab := fun K => f.ok K
def propB (c m : Str) : Fab := fun K => He.eqO (PySem.W.findIn K (.ref (He.ga K c)) m) (some (some (.ref (He.ma K (He.ga K c) m)))) && (He.eqO (PySem.W.specialIn K (.ref (He.ma K (He.ga K c) m)) "__get__") (some (some (.builtin "property.__get__"))) &&
  (decide (PySem.W.takesIn K (.ref (He.ma K (He.ga K c) m)) = some true) && (match PySem.W.recIn K (He.ma K (He.ga K c) m) "property" with
  | some (.ref _ :: _) => true
  | _ => false)))
theorem propB_ok {K : PySem.W.Frag} {c m : Str} (h : propB c m K = true) : PropOf K (He.ga K c) m (He.ma K (He.ga K c) m) (atP c m K) := by
  obtain ⟨h1, h2⟩ := He.ba h
  obtain ⟨h3, h4⟩ := He.ba h2
  obtain ⟨h5, h6⟩ := He.ba h4
  refine ⟨He.eqO_ok h1, He.eqO_ok h3, of_decide_eq_true h5, ?_⟩
  unfold atP
  split at h6
  · rename_i g r e
    rw [e]
    exact ⟨r, rfl⟩
  · cases h6
def sfB (c : Str) : Fab := fun K => PySem.W.selfFirst K (He.ga K c)
/-- names by number: all differ -/
def nameOf (L : List Str) (i : Nat) : Str := match L[i]? with
  | some s => s
  | none => ⟨Array.replicate (i + 1000) 0⟩
theorem nameOf_inj {L : List Str} (hn : L.Nodup) (hl : L.length < 1000) (hs : ∀ s ∈ L, s.cps.size < 1000) : ∀ i j, nameOf L i = nameOf L j → i = j := by
  intro i j h
  unfold nameOf at h
  cases hi : L[i]? with
  | none =>
    cases hj : L[j]? with
    | none =>
      rw [hi, hj] at h
      have := congrArg (fun z : Str => z.cps.size) h
      simp at this
      exact this
    | some t =>
      rw [hi, hj] at h
      have h2 := hs t (List.mem_of_getElem? hj)
      have := congrArg (fun z : Str => z.cps.size) h
      simp at this
      omega
  | some s =>
    cases hj : L[j]? with
    | none =>
      rw [hi, hj] at h
      have h2 := hs s (List.mem_of_getElem? hi)
      have := congrArg (fun z : Str => z.cps.size) h
      simp at this
      omega
    | some t =>
      rw [hi, hj] at h
      have h3 : s = t := h
      subst h3
      exact (List.getElem?_inj (List.getElem?_eq_some_iff.mp hi).1 hn).mp (hi.trans hj.symm)
end G
namespace G
open PySem PySem.Spec PyProof.Rows L2
def IntSet (w : World) (a : Addr) (S : Int → Bool) (n : Nat) : HO := .ext fun h => SetR w h a S n
theorem intSet_obj {w : World} {P : Program} {H : Hp} {h : Heap} {a : Addr} {S : Int → Bool} {n : Nat} (r : SetR w h a S n) : ObjOk P w H h a (IntSet w a S n) := by
  obtain ⟨o, es, ep, t, ho, rest⟩ := r
  exact ⟨⟨o, es, ep, t, ho, rest⟩, ⟨o, ho⟩, fun _ _ was keep => SetR.at was keep⟩
section
variable {X : Cx}
theorem intSet_add {pins : List (Addr × Obj)} {σ : L2.St} {H : Hp} {s : Shared} {Er : Value → Shared → Prop} {D : Addr} {S : Int → Bool} {n : Nat} {k : Int} {tk : Tok} {Q : Value → Shared → Prop} (I : Inv X pins σ H s) (hD : H D = some (IntSet X.w D S n)) (hn : n + 1 < scanBound)
    (next : ∀ s', Inv X pins σ (upd H D (IntSet X.w D (fun j => S j || decide (j = k)) (if S k = true then n else n + 1))) s' → Q .none s') : wpAny (model X.prog X.w) X.A (call (.builtin "set.add") [.ref D, .int k tk]) Q Er s := by
  have before : SetR X.w s.heap D S n := (I.hok D _ hD).1
  refine setR_add before hn fun h' same after => ?_
  have there : ∃ u, h'.get? D = some u := by
    obtain ⟨o, _, _, _, ho, _⟩ := after
    exact ⟨o, ho⟩
  exact next _ (I.write (e := D) (t' := s.toks + 1) (by rw [hD]; trivial) (.inl rfl) (fun b u hb hu => (same.2 b hb).trans hu) there (intSet_obj after))
/-- what must hold of {e for t in i} -/
def tIs (w : World) (wi : TI) (tg : TG) (te : TE) (vs : List Nat) : TE := fun σ H Q => wi σ H fun it H1 => ∀ D, H1 D = none → ∃ M : Nat → Nat → Hp → Prop, (∃ m, M 0 m (upd H1 D (IntSet w D (fun _ => false) 0))) ∧ ∀ i m H, M i m H →
  (it.stop i H ∧ Q (.ref D) H) ∨ (it.go i H ∧ ∃ K : Hp → Prop, (∀ H', K H' → ∃ m', m' < m ∧ M (i + 1) m' H') ∧ ∀ x H', it.yld i H x H' → tg x (wipe σ vs) H' fun σ2 H2 => wipe σ2 vs = wipe σ vs ∧
    te σ2 H2 fun y H3 => ∃ (k : Int) (S : Int → Bool) (n : Nat), y = .int k ∧ H3 D = some (IntSet w D S n) ∧ n + 1 < scanBound ∧ K (upd H3 D (IntSet w D (fun j => S j || decide (j = k)) (if S k = true then n else n + 1))))
theorem pe_is {elt tgt iter : Expr} {scope : Scope} {own : List (Str × Nat)} {pos : Pos} {wi : TI} {tg : TG} {te : TE} (calm : X.calm = true) (nd : X.N.Nodup) (hi : PI X tgt iter wi) (ok : BlkOk X.N X.env.scope scope own)
    (ht : ∀ (s : Shared) (H : Hp) (c : Addr) (cl : List (Str × Addr)) (fp : List Addr), PG (X.blk s H scope (compEnvC scope cl c X.env) fp) tgt tg)
    (he : ∀ (s : Shared) (H : Hp) (c : Addr) (cl : List (Str × Addr)) (fp : List Addr), PE (X.blk s H scope (compEnvC scope cl c X.env) fp) elt te) (hs : ∀ x, foldedSetIterable iter X.env x = pure x := by intro _; rfl) :
    PE X (.SetComp elt [⟨tgt, iter, [], 0⟩] scope pos) (tIs X.w wi tg te (own.map (·.2))) := by
  constructor
  intro pins s0 σ H0 Q I0 hw
  rw [PpSet.eval_SetComp]
  have frees : ∀ y ∈ scope.names, y.2 = .free → ∃ c, X.env.cells.lookup y.1 = some c := by
    intro y hy hf
    rcases ok.free y hy hf with z | z
    · exact I0.ok.has _ (.inl z)
    · exact I0.ok.has _ (.inr z)
  refine wpAny_comprehension_free (use := none) rfl hs (closure_ok frees) ok.kind (fun y hy hk => by rw [ok.uniq y hy, hk]) (thn (hi.run pins s0 σ H0 _ I0 hw) fun itv s1 got => thn got fun _ s2 gone => ?_)
  obtain ⟨ia, fp, tn, it, H2, rfl, I2, T, at2, fok, hq⟩ := gone
  refine PpSet.newSet_ok (newEnv_comp ?_)
  obtain ⟨M, ⟨m0, start⟩, turn⟩ := hq s2.heap.objs.size (I2.hok.fresh (Nat.le_refl _))
  generalize eD : s2.heap.objs.size = D at start turn ⊢
  generalize eh : s2.heap.push { cls := .type "set", dict := none, data := .set #[] 0 (.fresh 0 0 (!X.w.params.followText "set-order")) } = hp3
  have grows : ∀ b o, s2.heap.get? b = some o → hp3.get? b = some o := fun b o z => by rw [← eh]; exact Heap.get?_push_of_some _ z
  have size3 : hp3.objs.size = D + 1 := by rw [← eh, ← eD]; exact Heap.size_push _ _
  have I3 : Inv X pins σ (upd H2 D (IntSet X.w D (fun _ => false) 0)) { s2 with heap := hp3 } := by
    refine I2.laid (t' := s2.toks) grows (Nat.le_of_eq eD) (intSet_obj ?_)
    rw [← eh, ← eD]
    exact setR_fresh X.w
  have small : ∀ b ∈ fp, b < D := fun b hb => by
    obtain ⟨o, z, _⟩ := T.obj _ _ at2 b hb
    rw [← eD]; exact Heap.lt_size z
  have fok3 : ∀ b ∈ fp, FpOk X pins (upd H2 D (IntSet X.w D (fun _ => false) 0)) b ∧ b < hp3.objs.size := fun b hb =>
    ⟨⟨by rw [upd_ne (Nat.ne_of_lt (small b hb))]; exact (fok b hb).1, (fok b hb).2⟩, Nat.lt_trans (small b hb) (by rw [size3]; exact Nat.lt_succ_self _)⟩
  have at3 : tn 0 hp3 := T.keep _ _ _ at2 fun b _ o z => grows b o z
  have I4 := block_start I3 ok nd fok3
  generalize eH3 : upd H2 D (IntSet X.w D (fun _ => false) 0) = H3 at I3 I4 start fok3
  generalize es3 : ({ s2 with heap := hp3 } : Shared) = s3 at I3 I4
  have hs3 : s3.heap = hp3 := by rw [← es3]
  have pg := ht s3 H3 s3.heap.objs.size (cellsFrom (s3.heap.objs.size + 1) scope.names (cloFrom X.env.cells scope.names [])) fp
  have pe := he s3 H3 s3.heap.objs.size (cellsFrom (s3.heap.objs.size + 1) scope.names (cloFrom X.env.cells scope.names [])) fp
  have unfp : ∀ b ∈ fp, H3 b = none := fun b hb => (fok3 b hb).1.1
  have goal : codeAny (model X.prog X.w) X.A (.compStart (.SetComp elt [⟨tgt, iter, [], 0⟩] scope pos) 0 (.ref ia) (.ref D) (compEnvC scope (cellsFrom (s3.heap.objs.size + 1) scope.names (cloFrom X.env.cells scope.names [])) s3.heap.objs.size X.env))
      (compPost (model X.prog X.w) X.A X.xe none (EP X pins σ Q) (.ref D) s3.heap.objs.size) { s3 with heap := pushCells (s3.heap.push { cls := .type "dict", data := .dict #[] }) scope.names } := by
    generalize ece : compEnvC scope (cellsFrom (s3.heap.objs.size + 1) scope.names (cloFrom X.env.cells scope.names [])) s3.heap.objs.size X.env = ce at I4 pg pe ⊢
    have loc : ce.locals = s3.heap.objs.size := by rw [← ece]; rfl
    generalize es4 : ({ s3 with heap := pushCells (s3.heap.push { cls := .type "dict", data := .dict #[] }) scope.names } : Shared) = s4 at I4 ⊢
    have at4 : tn 0 s4.heap := T.keep _ _ _ at3 fun b _ o z => by rw [← es4]; exact pushCells_keeps _ _ _ _ (Heap.get?_push_of_some _ (by rw [hs3]; exact z))
    have held : ∀ {σ' : L2.St} {H' : Hp} {s' : Shared}, Inv (X.blk s3 H3 scope ce fp) [] σ' H' s' → (∀ b ∈ fp, H' b = none) → ∀ b ∈ fp, FpOk (X.blk s3 H3 scope ce fp) [] H' b := by
      intro σ' H' s' J hn b hb
      exact ⟨hn b hb, (J.ok.exf b hb).1, J.ok.exfs b hb, .inl hb, fun x c z => (J.ok.exf b hb).2 x c z, fun p hp => by simp at hp⟩
    have run : codeAny (model X.prog X.w) X.A (.compLoop (.SetComp elt [⟨tgt, iter, [], 0⟩] scope pos) 0 (.ref ia) (.ref D) ce) (compPost (model X.prog X.w) X.A X.xe none (EP X pins σ Q) (.ref D) s3.heap.objs.size) s4 := by
      refine PpSet.compLoopS_any (fun n s' => ∃ i H', Inv (X.blk s3 H3 scope ce fp) [] (wipe σ (own.map (·.2))) H' s' ∧ tn i s'.heap ∧ (∀ b ∈ fp, H' b = none) ∧ M i n H') ?_ m0 ⟨0, H3, I4, at4, unfp, start⟩
      rintro n s5 ⟨i, H5, I5, at5, un5, here⟩
      rcases turn i n H5 here with ⟨stop, done⟩ | ⟨go, K, back, step⟩
      · refine thnF (T.done (X.blk s3 H3 scope ce fp) rfl rfl rfl calm i [] s5 _ H5 (fun _ _ => False) I5 (held I5 un5) at5 stop) fun r s6 ⟨hr, I6⟩ => ?_
        subst hr
        have I7 : Inv X pins σ H5 s6 := I3.call' (ch := fp) I6.os I6.base I6.hok I6.bare fun b hb => ⟨(fok3 b hb).1.2.2.2.1, (fok3 b hb).1.2.1, (fok3 b hb).1.2.2.2.2.1, (fok3 b hb).1.2.2.2.2.2⟩
        have nloc : H5 s3.heap.objs.size = none := by
          have z : H5 ce.locals = none := I6.free
          rw [loc] at z; exact z
        obtain ⟨mm, hns, _⟩ := I6.loc
        have hns' : s6.heap.Ns ce.locals mm := hns
        rw [loc] at hns'
        obtain ⟨f0, f1, f2, f3, f4, f5⟩ := I3.fpOk (H' := H5) (Nat.le_refl _) nloc
        refine ⟨mm, hns', fun h'' sb => ?_⟩
        exact ⟨.ref D, H5, I7.turned (t' := s6.toks) (fun b o hb z => (sb.2 b hb).trans z) f0 f1 f3 f4 f5, rfl, done⟩
      · refine thnF (T.item (X.blk s3 H3 scope ce fp) rfl rfl rfl calm i [] s5 _ H5 (fun _ _ => False) I5 (held I5 un5) at5 go) fun r s6 ⟨u, hr, more⟩ => ?_
        subst hr
        refine thnF more fun _ s7 ⟨x, H7, I7, rx, yx, at7, un7⟩ => ?_
        have I7p := I7.pinned (held I7 un7) (T.obj _ _ at7)
        refine thnF (pg.run _ s7 _ H7 x u _ I7p rx (step x H7 yx)) fun _ s8 ⟨σ8, H8, I8, wiped, q8⟩ => ?_
        refine wpAny_pure ?_
        simp only [if_true]
        refine thnF (pe.run _ s8 σ8 H8 _ I8 q8) fun z s9 ⟨yv, H9, I9, r9, k, S, cnt, ey, hD9, room, fin⟩ => ?_
        subst ey
        obtain ⟨tk, rfl⟩ := r9
        refine intSet_add (X := X.blk s3 H3 scope ce fp) I9 hD9 room fun s10 I10 => ?_
        obtain ⟨m', less, next⟩ := back _ fin
        have pinned : ∀ b ∈ fp, ∀ o, s7.heap.get? b = some o → s10.heap.get? b = some o ∧ _ := fun b hb o z => by
          have y := I10.pin (b, o) (List.mem_append_right _ (List.mem_append_right _ (mem_pinsAt hb z)))
          exact ⟨y.1, y.2.1⟩
        have len : (wipe σ (own.map (·.2))).length = σ8.length := by rw [← wiped, wipe_length]
        refine ⟨m', less, i + 1, _, (I10.unpinned (pins := [])).weak len (fun j v z => ?_), T.keep _ _ _ at7 fun b hb o z => (pinned b hb o z).1, fun b hb => ?_, next⟩
        · rw [← wiped] at z
          exact (wipe_some z).1
        · obtain ⟨o, z, _⟩ := T.obj _ _ at7 b hb
          exact (pinned b hb o z).2
    exact PpSet.codeAny_compStart_set run (T.self X.A 0 _ _ _ at4 run)
  exact goal
end
end G
namespace G
open PySem PySem.Spec PyProof.Rows L2
section
variable {B : Bd} {X : Cx} {W : WX} {a b c e : Expr} {es : List Expr} {wa wb wc : WE} {ta : WA} {pos : Pos} {M : MT}
/-- what the tables say does not hang on sets of ints -/
def TS (C : Con) : Prop := ∀ (w : World) (H : Hp) (p : Addr) (S S' : Int → Bool) (n n' : Nat), C.TT H → H p = some (IntSet w p S n) → C.TT (upd H p (IntSet w p S' n'))
theorem BOk.chAnonT {g : Gh} {env : Envr} {st : Store} {σ : L2.St} {H : Hp} (bo : BOk B g env st σ H) {p : Addr} (x : Anon B g env σ p) {o : HO} (tt : B.C.TT (upd H p o)) : BOk B g env st σ (upd H p o) := by
  have ne : ∀ b, g.P b ≠ none → b ≠ p := fun b q z => q (by rw [z]; exact x.np)
  have nc : ∀ n b, g.ad n = some b → b ≠ p := fun n b q z => x.nc n (by rw [← z]; exact q)
  refine ⟨⟨fun b o q => ?_, bo.ok.nt, bo.ok.np, bo.ok.inj, fun n c q => ?_, bo.ok.dom, tt⟩, ⟨bo.nx.le, fun b o q t c => ?_, fun b q => ?_, bo.nx.nc, bo.nx.np⟩, ⟨bo.en.len, bo.en.val, fun k es q => ?_, bo.en.dis⟩⟩
  · rw [upd_ne (ne b (by rw [q]; simp))]; exact bo.ok.p b o q
  · obtain ⟨b, q1, q2⟩ := bo.ok.cell n c q
    exact ⟨b, q1, q2.mono (.refl g) (upd_ne (nc n b q1))⟩
  · have hb : b ≠ p := fun z => by rw [z, x.h0] at q; cases q
    rw [upd_ne hb]
    exact bo.nx.kp b o q t c
  · by_cases hb : b = p
    · rw [hb]; exact x.h0
    · rw [upd_ne hb] at q; exact bo.nx.dm b q
  · obtain ⟨b, zs, q1, q2, q3⟩ := bo.en.own k es q
    have hb : b ≠ p := fun z => x.no k es q (by rw [← z]; exact q1)
    exact ⟨b, zs, q1, by rw [upd_ne hb]; exact q2, q3⟩
/-- len({e for t in i}), e an int -/
def wIsL (vs : List Nat) (t : WG) (we : WE) (env : Envr) (Q : List Int → Store → Prop) : List D → List Int → Store → Prop
  | [], acc, st => Q acc st
  | d :: ds, acc, st => t d (wipeE env vs) st (fun env1 st1 => we env1 st1 (fun y st2 => match y with
    | .int k => acc.length + 1 < scanBound ∧ wIsL vs t we env Q ds (if k ∈ acc then acc else acc ++ [k]) st2
    | _ => False) noX)
def wLenIs (wi : WI) (vs : List Nat) (t : WG) (we : WE) : WE := fun env st Q R => wi env st (fun ds st1 => wIsL vs t we env (fun acc st2 => (acc.length : Int) < 2 ^ 63 ∧ Q (.int acc.length) st2) ds [] st1) R
theorem g_lenIs (j : J B X W) (ts : TS B.C) {elt tg iter : Expr} {scope : Scope} {wi : WI} {t : WG} {we : WE} {sl : List Nat} {p : Pos} (own : List (Str × Nat)) (hm : X.mg "len" = none) (hi : PIg B X W tg iter wi) (ok : BlkOk X.N X.env.scope scope own)
    (ht : ∀ (s : Shared) (H : Hp) (C : Addr) (cl : List (Str × Addr)) (fp : List Addr), PGg B (X.blk s H scope (compEnvC scope cl C X.env) fp) tg sl t)
    (he : ∀ (s : Shared) (H : Hp) (C : Addr) (cl : List (Str × Addr)) (fp : List Addr), PEg B (X.blk s H scope (compEnvC scope cl C X.env) fp) W0 elt we)
    (hsl : ∀ k ∈ sl, k ∈ own.map (·.2)) (hg : Gl X "len") (hs : ∀ x, foldedSetIterable iter X.env x = pure x := by intro _; rfl) {pos2 : Pos}
    (hst : starEach [.SetComp elt [⟨tg, iter, [], 0⟩] scope pos2] X.env = (false, eval (.SetComp elt [⟨tg, iter, [], 0⟩] scope pos2) X.env) :: starEach [] X.env := by rfl) :
    PEg B X W (.Call (.Name "len" p) [.SetComp elt [⟨tg, iter, [], 0⟩] scope pos2] [] pos) (wLenIs wi (own.map (·.2)) t we) := by
  obtain ⟨ti, hpi, hk⟩ := hi.ex
  have hset := pe_is (pos := pos2) j.calm j.nd hpi ok (fun s H C cl fp => (ht s H C cl fp).pga) (fun s H C cl fp => (he s H C cl fp).pe) hs
  refine ⟨fun pins s σ H g env st Q R I bo rw hw => ?_⟩
  refine Call_ (ld_blt I hg hm boot_len ?_)
  refine PyProof.Rows.callWith_builtin1 (PyProof.Rows.args_cons (thn (hset.run pins s σ H (fun v H' => ∃ D S acc st' g', v = .ref D ∧ H' D = some (IntSet X.w D S acc.length) ∧ Nx g H g' H' ∧ BOk B g' env st' σ H' ∧ ((acc.length : Int) < 2 ^ 63 ∧ Q (.int (List.length (α := Int) acc)) st')) I ?_) fun v s1 ⟨x, H1, I1, rx, hD⟩ => PyProof.Rows.args_nil ?_) hst) hst rfl
  · refine hk σ H g env st _ _ _ bo rw hw fun J H1 ⟨ds, st1, g1, l1, b1, ir, hq⟩ => ?_
    intro D hD
    have eD : ∀ a o, H1 a = some o → upd H1 D (IntSet X.w D (fun _ => false) 0) a = some o := fun a o q => by rw [upd_ne (ne_of_none q hD)]; exact q
    have bD := b1.grow j.ck eD
    have nD : Nx g1 H1 g1 (upd H1 D (IntSet X.w D (fun _ => false) 0)) := ⟨.refl g1, fun a o q _ _ => eD a o q, dm_of eD, fun _ _ h => .inl h, fun _ _ h => .inl h⟩
    refine ⟨fun i m H' => m = ds.length - i ∧ i ≤ ds.length ∧ ∃ g' st' S acc, Nx g1 H1 g' H' ∧ BOk B g' env st' σ H' ∧ Anon B g' env σ D ∧ H' D = some (IntSet X.w D S acc.length) ∧ (∀ k, S k = decide (k ∈ acc)) ∧ wIsL (own.map (·.2)) t we env (fun acc st2 => (acc.length : Int) < 2 ^ 63 ∧ Q (.int acc.length) st2) (ds.drop i) acc st',
      ⟨ds.length, by simp, Nat.zero_le _, g1, st1, fun _ => false, [], nD, bD, Anon.new b1 hD, upd_same, fun k => by simp, by simpa using hq⟩, ?_⟩
    rintro i m H' ⟨rfl, hi, g', st', S, acc, nx', b', an', hH', hS, hf⟩
    by_cases hlt : i < ds.length
    · right
      obtain ⟨d, hd⟩ : ∃ d, ds[i]? = some d := ⟨ds[i], by simp [hlt]⟩
      obtain ⟨hgo, hy⟩ := (ir g' env st' σ H' nx'.le b').1 i d hd
      have hdrop : ds.drop i = d :: ds.drop (i + 1) := by
        rw [List.drop_eq_getElem_cons hlt]
        rw [List.getElem?_eq_getElem hlt] at hd
        cases hd
        rfl
      rw [hdrop] at hf
      unfold wIsL at hf
      refine ⟨hgo, fun H' => ∃ g' st' S acc, Nx g1 H1 g' H' ∧ BOk B g' env st' σ H' ∧ Anon B g' env σ D ∧ H' D = some (IntSet X.w D S acc.length) ∧ (∀ k, S k = decide (k ∈ acc)) ∧ wIsL (own.map (·.2)) t we env (fun acc st2 => (acc.length : Int) < 2 ^ 63 ∧ Q (.int acc.length) st2) (ds.drop (i + 1)) acc st', fun H2 z => ⟨ds.length - (i + 1), by omega, rfl, hlt, z⟩, fun x H2 hyl => ?_⟩
      obtain ⟨g2, l2, b2, rx⟩ := hy x H2 hyl
      refine ⟨g2, wipeE env (own.map (·.2)), st', d, _, b2.wipe _, rx, hf, fun σ3 H3 ag ⟨env3, st3, g3, l3, b3, q3⟩ => ⟨wipe_agr ag hsl, ?_⟩⟩
      refine ⟨g3, env3, st3, _, _, b3, rw0, q3, fun y H5 ⟨d5, st5, g5, l5, b5, r5, q5⟩ => ?_⟩
      cases d5 with
      | int k =>
        obtain ⟨room, q5⟩ := q5
        have ey := r5.intV
        subst ey
        have n5 : Nx g' H' g5 H5 := (l2.trans l3).trans l5
        have an5 : Anon B g5 env σ D := an'.next hH' n5
        have h5 : H5 D = some (IntSet X.w D S acc.length) := n5.kp D _ hH' (fun ps z => by cases z) an'.nc
        have bo5 : BOk B g5 env st5 σ H5 := b'.unwipe n5 b5.ok
        have cnt : (if S k = true then acc.length else acc.length + 1) = (if k ∈ acc then acc else acc ++ [k]).length := by
          rw [hS k]
          by_cases hkm : k ∈ acc
          · simp [hkm]
          · simp [hkm]
        refine ⟨k, S, acc.length, rfl, h5, room, ?_⟩
        rw [cnt]
        have c5 := bo5.chAnonT an5 (ts X.w H5 D S (fun j => S j || decide (j = k)) acc.length (if k ∈ acc then acc else acc ++ [k]).length bo5.ok.tab h5)
        refine ⟨g5, st5, _, _, ?_, c5, ⟨an5.np, an5.nc, an5.h0, an5.no⟩, upd_same, fun i => ?_, q5⟩
        · refine ⟨(nx'.trans n5).le, fun a o q tq cq => ?_, fun a q => ?_, (nx'.trans n5).nc, (nx'.trans n5).np⟩
          · rw [upd_ne (ne_of_none q hD)]
            exact (nx'.trans n5).kp a o q tq cq
          · by_cases ha : a = D
            · rw [ha]; exact hD
            · rw [upd_ne ha] at q; exact (nx'.trans n5).dm a q
        · rw [hS i]
          by_cases hkm : k ∈ acc
          · rw [if_pos hkm]
            by_cases hik : i = k
            · subst hik; simp [hkm]
            · simp [hik]
          · rw [if_neg hkm]; simp
      | _ => exact q5.elim
    · left
      have e : i = ds.length := by omega
      subst e
      refine ⟨(ir g' env st' σ H' nx'.le b').2, ?_⟩
      rw [List.drop_length] at hf
      unfold wIsL at hf
      exact ⟨D, S, acc, st', g', rfl, hH', l1.trans nx', b', hf⟩
  · obtain ⟨D, S, acc, st', g', rfl, hH, nx', b', room, q⟩ := hD
    obtain rfl : v = Value.ref D := rx
    obtain ⟨⟨o, es', ep, tb, ho, hex, hd, _, _, _, _, hf, hn, _, _⟩, _⟩ := I1.hok D _ hH
    refine PySem.call_len_set ho hex hd hf (by rw [hn]; exact room) ?_
    exact ⟨.int acc.length, H1, I1.tok _, ⟨_, by rw [hn]⟩, .int acc.length, st', g', nx', b', rep_int, q⟩
end
end G
namespace G
open PySem PySem.Spec PyProof.Rows L2
section
variable {prog : Program} {w : World} {A : Around} {E : Value → Shared → Prop} {s : Shared} {K : PySem.W.Frag} {x C L f : Addr} {h₀ : Heap} {m : Str → Option Value} {ox : Obj} {od : Option Obj}
/-- what object.__ne__ asks of a class -/
structure NeK (K : PySem.W.Frag) (C f : Addr) : Prop where
  ne : PySem.W.findIn K (.ref C) "__ne__" = some (some (.builtin "object.__ne__"))
  eq : PySem.W.findIn K (.ref C) "__eq__" = some (some (.ref f))
  fn : PySem.W.isFn K (.ref f) = true
  ob : PySem.W.subIn K (.ref C) (.type "object") = some true
end
end G
namespace G
open PySem PySem.Spec PyProof.Rows L2
section
variable {B : Bd} {X : Cx} {W : WX} {a b c e : Expr} {es : List Expr} {wa wb wc : WE} {ta : WA} {pos : Pos} {M : MT}
/-- the own == of the classes that have one -/
structure EqOk (B : Bd) (X : Cx) (T : Nat → Option WF) : Prop where
  eq : ∀ c φ, T c = some φ → ∃ k f, Room (k + 1) X.A ∧ FnA X B.C k f φ ∧ NeK X.K (B.C.ca c) f
def ownEq (T : Nat → Option WF) (neg : Bool) (c : Nat) (fs gs : List (Nat × D)) (st : Store) (Q : QE) (R : XQ) : Prop := match T c with
  | some φ => φ [.ob c fs, .ob c gs] st (fun r st1 => match r with | .bl b => Q (.bl (b != neg)) st1 | _ => False) R
  | none => False
def oEqO (T : Nat → Option WF) : O2 := fun d1 d2 st Q R => match d1, d2 with
  | .ob c fs, .ob c' gs => c = c' ∧ ownEq T false c fs gs st Q R
  | d1, d2 => oEqD d1 d2 st Q R
def oNeO (T : Nat → Option WF) : O2 := fun d1 d2 st Q R => match d1, d2 with
  | .ob c fs, .ob c' gs => c = c' ∧ ownEq T true c fs gs st Q R
  | d1, d2 => oNeD d1 d2 st Q R
def T0 : Nat → Option WF := fun _ => none
theorem t0 : EqOk B X T0 := ⟨fun _ _ h => (by cases h)⟩
end
end G
namespace G
open PySem PySem.Spec PyProof.Rows L2
section
variable {B : Bd} {X : Cx} {W : WX} {a b c e o : Expr} {es : List Expr} {wa wb wc : WE} {ta : WA} {pos apos : Pos} {M : MT}
/-- a static method of a class: its record at p, its def at f -/
structure StatK (K : PySem.W.Frag) (C : Addr) (m : Str) (f : Addr) : Prop where
  rd : ClX.CRead K C (.type "type")
  at_ : ∃ p rest, PySem.W.findCls K (.ref C) (.type "type") m = some (.get (.builtin "staticmethod.__get__") (.ref p) .none (.ref C)) ∧ PySem.W.recIn K p "staticmethod" = some (.ref f :: rest)
  kp : PySem.W.keepIn K (.ref f) = true
structure StatG (B : Bd) (X : Cx) (x m : Str) (c : Nat) (φ : WF) : Prop where
  ex : ∃ k f, Room k X.A ∧ FnA X B.C k f φ ∧ StatK X.K (B.C.ca c) m f
  mg : X.mg x = some (.ref (B.C.ca c))
end
end G
namespace G
open PySem PySem.Spec PyProof.Rows L2
def addM (c : Nat) (m : Mn) (φ : WF) (M : MT) : MT := fun c' m' => if c' = c ∧ m' = m then some φ else M c' m'
def addT (c i : Nat) (φ : WF) (T : Nat → Nat → Option WF) : Nat → Nat → Option WF := fun c' i' => if c' = c ∧ i' = i then some φ else T c' i'
def addF (c i : Nat) (F : Nat → Nat → Bool) : Nat → Nat → Bool := fun c' i' => (decide (c' = c) && decide (i' = i)) || F c' i'
def addE (c : Nat) (φ : WF) (T : Nat → Option WF) : Nat → Option WF := fun c' => if c' = c then some φ else T c'
def F0 : Nat → Nat → Bool := fun _ _ => false
def P0 : Nat → Nat → Option WF := fun _ _ => none
/-- what is known of a method, a property, a static method, a class, behind the top -/
structure MetR (P : Program) (w : World) (C : Con) (mg : Str → Option Value) (base : Heap) (c : Nat) (m : Mn) (k : Nat) (φ : WF) : Prop where
  ex : ∃ f, Fna P w C mg base k f φ ∧ Meth C.K (C.ca c) (m.str C) f
  cls : Cls C.K (C.ca c)
  sf : PySem.W.selfFirst C.K (C.ca c) = true
structure PropR (P : Program) (w : World) (C : Con) (mg : Str → Option Value) (base : Heap) (c i : Nat) (k : Nat) (φ : WF) : Prop where
  ex : ∃ p g fd ps n, L2.FnOk P w C.K mg base (L2.CX P w) k g fd ps (spOf C φ n) ∧ PropOf C.K (C.ca c) (C.fn i) p g ∧ L2.Binds C.K fd ps [] ∧ ∀ ds st Q R, φ ds st Q R → ds.length = n
  cls : Cls C.K (C.ca c)
structure MakR (P : Program) (w : World) (C : Con) (mg : Str → Option Value) (base : Heap) (x : Str) (c : Nat) (k : Nat) (φ : WF) : Prop where
  ex : ∃ f, Fna P w C mg base k f φ ∧ Mk C.K (C.ca c) f
  mg : mg x = some (.ref (C.ca c))
structure StatR (P : Program) (w : World) (C : Con) (mg : Str → Option Value) (base : Heap) (x m : Str) (c : Nat) (k : Nat) (φ : WF) : Prop where
  ex : ∃ f, Fna P w C mg base k f φ ∧ StatK C.K (C.ca c) m f
  mg : mg x = some (.ref (C.ca c))
section
variable {B : Bd} {X : Cx} {M : MT} {c i k m : Nat} {mn : Mn} {φ : WF} {x y : Str}
theorem mok_cons (h : MetR X.prog X.w B.C X.mg X.base c mn k φ) (hK : X.K = B.C.K) (hr : Room m X.A) (r : MOk B X M) (hk : k ≤ m := by decide) : MOk B X (addM c mn φ M) := ⟨fun c' m' φ' e => by
  unfold addM at e
  split at e
  · rename_i q
    obtain ⟨rfl, rfl⟩ := q
    cases e
    obtain ⟨f, F, me⟩ := h.ex
    refine ⟨k, hr.mono hk, ⟨f, ?_, by rw [hK]; exact me⟩, by rw [hK]; exact h.cls, by rw [hK]; exact h.sf⟩
    unfold FnA; rw [hK]; exact F
  · exact r.met c' m' φ' e⟩
theorem pok_nil : PrOk B X P0 := ⟨fun _ _ _ e => by cases e⟩
theorem pok_cons {T : Nat → Nat → Option WF} (h : PropR X.prog X.w B.C X.mg X.base c i k φ) (hK : X.K = B.C.K) (hr : Room m X.A) (r : PrOk B X T) (hk : k + 1 ≤ m := by decide) : PrOk B X (addT c i φ T) := ⟨fun c' i' φ' e => by
  unfold addT at e
  split at e
  · rename_i q
    obtain ⟨rfl, rfl⟩ := q
    cases e
    obtain ⟨p, g, fd, ps, n, ok, pr, hb, hl⟩ := h.ex
    exact ⟨k, p, g, fd, ps, n, hr.mono hk, by rw [hK]; exact ok, by rw [hK]; exact h.cls, by rw [hK]; exact pr, by rw [hK]; exact hb, hl⟩
  · exact r.pr c' i' φ' e⟩
theorem fok_nil (inj : ∀ i j, B.C.fn i = B.C.fn j → i = j) : FOk B X F0 := ⟨fun _ _ e => (by cases e), inj⟩
theorem fok_cons {F : Nat → Nat → Bool} (hc : Cls B.C.K (B.C.ca c)) (hn : NoAttr B.C.K (B.C.ca c) (B.C.fn i)) (hK : X.K = B.C.K) (r : FOk B X F) : FOk B X (addF c i F) := ⟨fun c' i' e => by
  unfold addF at e
  cases h : (decide (c' = c) && decide (i' = i)) with
  | true =>
    simp at h
    obtain ⟨rfl, rfl⟩ := h
    exact ⟨by rw [hK]; exact hc, by rw [hK]; exact hn⟩
  | false =>
    rw [h] at e
    exact r.at_ c' i' (by simpa using e), r.inj⟩
theorem MakR.at (h : MakR X.prog X.w B.C X.mg X.base x c k φ) (hK : X.K = B.C.K) (hr : Room m X.A) (hk : k + 1 ≤ m := by decide) : ClsG B X x c φ := by
  obtain ⟨f, F, mk⟩ := h.ex
  refine ⟨⟨k, hr.mono hk, ⟨f, ?_, by rw [hK]; exact mk⟩⟩, h.mg⟩
  unfold FnA; rw [hK]; exact F
theorem StatR.at (h : StatR X.prog X.w B.C X.mg X.base x y c k φ) (hK : X.K = B.C.K) (hr : Room m X.A) (hk : k ≤ m := by decide) : StatG B X x y c φ := by
  obtain ⟨f, F, sk⟩ := h.ex
  refine ⟨⟨k, f, hr.mono hk, ?_, by rw [hK]; exact sk⟩, h.mg⟩
  unfold FnA; rw [hK]; exact F
end
structure DefC (C : Con) (f : Addr) (x qual : Str) (params : Arguments) (body : List Stmt) (scope : Scope) (ps : List Str) : Prop where
  ex : ∃ fd, FunD C.K x qual params body scope [] [] f fd ∧ L2.Binds C.K fd ps []
section
variable {P : Program} {w : World} {C : Con} {mg : Str → Option Value} {base : Heap} {x qual : Str} {params : Arguments} {body : List Stmt} {scope : Scope} {f : Addr} {N ps : List Str} {k : Nat} {wb : WS}
theorem DefC.fna (ck : ConOk C) (D : DefC C f x qual params body scope ps) (S : FnScope N ps scope) (h : BodyOk P w C mg base qual body scope f N k wb) : Fna P w C mg base (k + 1) f (wfn N.length ps.length wb) := by
  obtain ⟨fd, F, hb⟩ := D.ex
  exact fna_of ck F S hb h
theorem DefC.prop (ck : ConOk C) {c i : Nat} {p : Addr} (D : DefC C f x qual params body scope ps) (S : FnScope N ps scope) (hc : Cls C.K (C.ca c)) (hp : PropOf C.K (C.ca c) (C.fn i) p f) (h : BodyOk P w C mg base qual body scope f N k wb) : PropR P w C mg base c i (k + 1) (wfn N.length ps.length wb) := by
  obtain ⟨fd, F, hb⟩ := D.ex
  exact ⟨⟨p, f, fd, ps, ps.length, F.ok (CX := L2.CX P w) S (fun vs H Q E h => h.1) fun cdv A outer s H vs Q E hr hsp => body_ok ck S h cdv A outer s H vs Q E hr hsp, hp, hb, wfn_len⟩, hc⟩
/-- .. with a star -/
structure DefS (C : Con) (f : Addr) (x qual : Str) (params : Arguments) (body : List Stmt) (scope : Scope) (ps : List Str) (pv : Str) : Prop where
  ex : ∃ fd, FunD C.K x qual params body scope [] [] f fd
  hb : ∀ (kV doc pm : Value) (an : Option Addr) (cdv ct : Value) (us rest : List Value), us.length = ps.length → bindArgs (PySem.W.fnOf x qual params body scope .none kV doc pm an cdv ct) ⟨us ++ rest, []⟩ = (newTuple rest >>= fun t => pure (ps.zip us ++ [(pv, t)]))
theorem DefS.fna (ck : ConOk C) {pv : Str} (D : DefS C f x qual params body scope ps pv) (S : FnScope N (ps ++ [pv]) scope) (h : BodyOk P w C mg base qual body scope f N k wb) : Fna P w C mg base (k + 1) f (wstar N.length ps.length wb) := by
  obtain ⟨fd, F⟩ := D.ex
  exact fna_star ck F S D.hb h
end
/-- a class's statements -/
def clsBody (s : Stmt) : List Stmt := match s with
  | .ClassDef _ _ _ b _ _ _ _ _ _ _ => b
  | _ => []
end G
namespace G
open PySem PySem.Spec PyProof.Rows L2
abbrev IsL := List ((Nat × Nat) × Bool)
def isOf (L : IsL) : IS := fun c c' => L.lookup (c, c')
section
variable {B : Bd} {X : Cx} {W : WX} {a b c e o : Expr} {es : List Expr} {wa wb wc : WE} {ta : WA} {pos apos : Pos} {M : MT}
/-- a, b, c = x, y, z -/
def wPar3 (i k l : Nat) (ta : WA) : WS := fun env st D => ta env st (fun ds st1 => match ds with
  | [d1, d2, d3] => D.nx (((env.set i (.val d1)).set k (.val d2)).set l (.val d3)) st1
  | _ => False) (xe D env)
end
end G
namespace G
open PySem PySem.Spec PyProof.Rows L2
theorem metR_of {P : Program} {w : World} {C : Con} {mg : Str → Option Value} {base : Heap} {c : Nat} {m : Mn} {k : Nat} {φ : WF} {f : Addr} (F : Fna P w C mg base k f φ) (hm : Meth C.K (C.ca c) (m.str C) f) (hc : Cls C.K (C.ca c)) (hs : PySem.W.selfFirst C.K (C.ca c) = true) : MetR P w C mg base c m k φ := ⟨⟨f, F, hm⟩, hc, hs⟩
theorem makR_of {P : Program} {w : World} {C : Con} {mg : Str → Option Value} {base : Heap} {x : Str} {c : Nat} {k : Nat} {φ : WF} {f : Addr} (F : Fna P w C mg base k f φ) (hm : Mk C.K (C.ca c) f) (hg : mg x = some (.ref (C.ca c))) : MakR P w C mg base x c k φ := ⟨⟨f, F, hm⟩, hg⟩
end G
namespace G
open PySem PySem.Spec PyProof.Rows L2
/-- a clause behind the first; vs: what it and those behind it store -/
structure CP where
  wi : TI
  g : TG
  tt : TT
  vs : List Nat
def vsH : List CP → List Nat
  | [] => []
  | c :: _ => c.vs
inductive ClsN (X : Cx) : List Comprehension → List CP → Prop
  | nil : ClsN X [] []
  | cons {tg iter : Expr} {ifs : List Expr} {gs : List Comprehension} {c : CP} {cs : List CP} (hi : PI X tg iter c.wi) (hg : PG X tg c.g) (ht : PTs X ifs c.tt) (hs : ∀ x, foldedSetIterable iter X.env x = pure x) (hv : ∀ i ∈ vsH cs, i ∈ c.vs) (r : ClsN X gs cs) : ClsN X (⟨tg, iter, ifs, 0⟩ :: gs) (c :: cs)
end G
namespace G
open PySem PySem.Spec PyProof.Rows L2
section
variable {B : Bd} {X : Cx} {W : WX}
/-- as Nx, but for one object that only we know -/
structure NxD (D : Addr) (g : Gh) (H : Hp) (g' : Gh) (H' : Hp) : Prop where
  le : g.le g'
  kp : ∀ a o, a ≠ D → H a = some o → (∀ ps, o ≠ .tbl ps) → (∀ n, g.ad n ≠ some a) → H' a = some o
  dm : ∀ a, H' a = none → H a = none
  nc : ∀ n a, g'.ad n = some a → g.ad n = some a ∨ H a = none
  np : ∀ a o, g'.P a = some o → g.P a = some o ∨ H a = none
theorem NxD.of {D : Addr} {g g' : Gh} {H H' : Hp} (x : Nx g H g' H') : NxD D g H g' H' := ⟨x.le, fun a o _ => x.kp a o, x.dm, x.nc, x.np⟩
theorem NxD.trans {D : Addr} {g g1 g2 : Gh} {H H1 H2 : Hp} (x : NxD D g H g1 H1) (y : NxD D g1 H1 g2 H2) : NxD D g H g2 H2 where
  le := x.le.trans y.le
  kp := fun a o n h t c => y.kp a o n (x.kp a o n h t c) t fun m z => (x.nc m a z).elim (c m) fun q => by rw [q] at h; cases h
  dm := fun a h => x.dm a (y.dm a h)
  nc := fun n a h => (y.nc n a h).elim (x.nc n a) fun q => .inr (x.dm a q)
  np := fun a o h => (y.np a o h).elim (x.np a o) fun q => .inr (x.dm a q)
theorem NxD.set {D : Addr} {g : Gh} {H : Hp} {u v : HO} (h : H D = some u) : NxD D g H g (upd H D v) where
  le := .refl g
  kp := fun a o n h _ _ => by rw [upd_ne n]; exact h
  dm := fun a q => by
    by_cases e : a = D
    · rw [e, upd_same] at q; cases q
    · rw [upd_ne e] at q; exact q
  nc := fun n a h => .inl h
  np := fun a o h => .inl h
def OwnLe (e e' : Envr) : Prop := ∀ (i : Nat) (es : List D), e'[i]? = some (Slot.own es) → e[i]? = some (Slot.own es)
theorem OwnLe.refl (e : Envr) : OwnLe e e := fun _ _ h => h
theorem OwnLe.trans {a b c : Envr} (x : OwnLe a b) (y : OwnLe b c) : OwnLe a c := fun i es h => x i es (y i es h)
theorem OwnLe.set (e : Envr) (i : Nat) (d : D) : OwnLe e (e.set i (.val d)) := fun k es h => by
  by_cases hk : i = k
  · subst hk
    by_cases hi : i < e.length
    · rw [List.getElem?_set_self hi] at h; cases h
    · rw [List.set_eq_of_length_le (by omega)] at h; exact h
  · rw [List.getElem?_set_ne hk] at h; exact h
structure CG where
  wi : WI
  t : WG
  tt : WT
  vs : List Nat
  sl : List Nat
def wLpN (t : WG) (tt : WT) (vs : List Nat) (env : Envr) (step : Envr → List D → Store → (List D → Store → Prop) → Prop) (Q : List D → Store → Prop) : List D → List D → Store → Prop
  | [], acc, st => Q acc st
  | d :: ds, acc, st => t d (wipeE env vs) st (fun env1 st1 => tt env1 st1 (fun b st2 => if b = true then step env1 acc st2 (fun acc' st3 => wLpN t tt vs env step Q ds acc' st3) else wLpN t tt vs env step Q ds acc st2) noX)
def wTaskN (we : WE) : List CG → Envr → List D → Store → (List D → Store → Prop) → Prop
  | [], env, acc, st, Q => we env st (fun y st3 => acc.length < sizeLine ∧ Q (acc ++ [y]) st3) noX
  | c :: cs, env, acc, st, Q => c.wi env st (fun ds st1 => wLpN c.t c.tt c.vs env (fun e a s k => wTaskN we cs e a s k) Q ds acc st1) noX
def wLcN (c : CG) (cs : List CG) (we : WE) : WE := fun env st Q R => c.wi env st (fun ds st1 => wLpN c.t c.tt c.vs env (fun e a s k => wTaskN we cs e a s k) (fun acc st2 => Q (.lst acc) st2) ds [] st1) R
/-- the walk of an iterable, told by its reading -/
def tgi (B : Bd) (W : WX) (wi : WI) : TI := fun σ H Rr => ∃ g env st Q R, BOk B g env st σ H ∧ RW B W env σ R ∧ wi env st Q R ∧ ∀ J H1, (∃ ds st1 g1, Nx g H g1 H1 ∧ BOk B g1 env st1 σ H1 ∧ ItRep B σ J g1 ds ∧ Q ds st1) → Rr J H1
theorem PIg.pi {tg iter : Expr} {wi : WI} (h : PIg B X W tg iter wi) : PI X tg iter (tgi B W wi) := by
  obtain ⟨ti, hp, hk⟩ := h.ex
  exact ⟨fun pins s σ H R I ⟨g, env, st, Q, Rx, bo, rw, hw, k⟩ => hp.run pins s σ H R I (hk σ H g env st Q Rx R bo rw hw k)⟩
def CG.cp (B : Bd) (c : CG) : CP := ⟨tgi B W0 c.wi, tgga B c.sl c.t, tgt B W0 c.tt, c.vs⟩
/-- the clauses behind the first, each by its rules -/
inductive ClsG2 (B : Bd) (X : Cx) : List Comprehension → List CG → Prop
  | nil : ClsG2 B X [] []
  | cons {tg iter : Expr} {ifs : List Expr} {gs : List Comprehension} {c : CG} {cs : List CG} (hi : PIg B X W0 tg iter c.wi) (hg : PGg B X tg c.sl c.t) (ht : PTsg B X W0 ifs c.tt) (hv : ∀ i ∈ vsH (cs.map (CG.cp B)), i ∈ c.vs) (r : ClsG2 B X gs cs) (hs : ∀ x, foldedSetIterable iter X.env x = pure x := by intro _; rfl) : ClsG2 B X (⟨tg, iter, ifs, 0⟩ :: gs) (c :: cs)
theorem ClsG2.n {gs : List Comprehension} {cs : List CG} (h : ClsG2 B X gs cs) : ClsN X gs (cs.map (CG.cp B)) := by
  induction h with
  | nil => exact .nil
  | cons hi hg ht hv r hs ih => exact .cons (c := CG.cp B _) hi.pi hg.pga ht.pts hs hv ih
end
end G
namespace G
open PySem PySem.Spec PyProof.Rows L2
theorem lexAt_lt : ∀ (ns ms : List Int) (i : Nat) (f : Nat → Bool) (r : Nat → Bool), (∀ j, f (i + j) = decide (ns.getD j 0 = ms.getD j 0)) → (∀ j, r (i + j) = decide (ms.getD j 0 < ns.getD j 0)) →
    Ob.lexAt f r (decide (ns.length > ms.length)) i (min ns.length ms.length) = HT.lexLt ms ns
  | [], [], i, f, r, _, _ => rfl
  | [], _ :: _, i, f, r, _, _ => by simp [Ob.lexAt, HT.lexLt]
  | _ :: _, [], i, f, r, _, _ => by simp [Ob.lexAt, HT.lexLt]
  | x :: xs, y :: ys, i, f, r, hf, hr => by
    have e1 : min (x :: xs).length (y :: ys).length = min xs.length ys.length + 1 := by simp [Nat.succ_min_succ]
    have f0 := hf 0; have r0 := hr 0
    simp only [Nat.add_zero, List.getD_cons_zero] at f0 r0
    rw [e1, Ob.lexAt_succ, f0, r0, HT.lexLt_cons]
    by_cases e : x = y
    · subst e
      rw [if_pos (by simp), if_pos rfl]
      have e2 : decide ((x :: xs).length > (x :: ys).length) = decide (xs.length > ys.length) := by simp
      rw [e2]
      exact lexAt_lt xs ys (i + 1) f r (fun j => by rw [show i + 1 + j = i + (j + 1) by omega, hf (j + 1)]; rfl) (fun j => by rw [show i + 1 + j = i + (j + 1) by omega, hr (j + 1)]; rfl)
    · rw [if_neg (by simpa using e), if_neg (fun z => e z.symm)]
section
variable {X : Cx}
def rGtT (K : PySem.W.Frag) : R2 := fun x y H Q => ∃ (a b : Addr) (ns ms : List Int), x = .ref a ∧ y = .ref b ∧ SqT K H a (ns.map V.int) ∧ SqT K H b (ms.map V.int) ∧ Q (.bl (HT.lexLt ms ns)) H
theorem op_gtT (hu : X.A.units < cLine) : OpR X (compareOp .Gt) (rGtT X.K) := by
  intro pins s σ H x y v u Q I rx ry h
  obtain ⟨a, b, ns, ms, rfl, rfl, ha, hb, q⟩ := h
  cases rx
  cases ry
  obtain ⟨its, r1, p1, _⟩ := I.tuple ha
  obtain ⟨its2, r2, p2, _⟩ := I.tuple hb
  have i1 : IntsAre its ns := Vals.ints r1
  have i2 : IntsAre its2 ms := Vals.ints r2
  have e1 : its.toArray.size = ns.length := by rw [List.size_toArray]; exact i1.length
  have e2 : its2.toArray.size = ms.length := by rw [List.size_toArray]; exact i2.length
  have at1 : ∀ j (h1 : j < its.toArray.size), ∃ t, its.toArray[j] = .int (ns.getD j 0) t := fun j h1 => PyProof.Rows.IntsAre.int_at i1 _ _ (by simp at h1; simp [h1])
  have at2 : ∀ j (h1 : j < its2.toArray.size), ∃ t, its2.toArray[j] = .int (ms.getD j 0) t := fun j h1 => PyProof.Rows.IntsAre.int_at i2 _ _ (by simp at h1; simp [h1])
  have R := Ob.RcOp.tuples_gt (A := X.A) (s := s) (e := fun j => decide (ns.getD j 0 = ms.getD j 0)) (r := fun j => decide (ms.getD j 0 < ns.getD j 0)) p1 p2 hu (fun j h1 h2 => by
    obtain ⟨t, et⟩ := at1 j h1
    obtain ⟨t', et'⟩ := at2 j h2
    rw [et, et']
    have z : (ns.getD j 0 == ms.getD j 0) = decide (ns.getD j 0 = ms.getD j 0) := by
      by_cases q : ns.getD j 0 = ms.getD j 0
      · rw [decide_eq_true q]; exact beq_iff_eq.mpr q
      · rw [decide_eq_false q]; exact beq_eq_false_iff_ne.mpr q
    rw [← z]
    exact SeqAt.EqAt.int_int _ _ _ _) (fun j h1 h2 _ => by
    obtain ⟨t, et⟩ := at1 j h1
    obtain ⟨t', et'⟩ := at2 j h2
    rw [et, et']
    exact Ob.RcOp.gt_int _ _ _ _)
  rw [e1, e2, lexAt_lt ns ms 0 _ _ (fun j => by simp) (fun j => by simp)] at R
  exact R X.prog X.w X.xe (EP X pins σ Q) ⟨.bl _, H, I, rfl, q⟩
theorem opr_or {f : Value → Value → Sem Value} {r r' : R2} (h : OpR X f r) (h' : OpR X f r') : OpR X f (fun x y H Q => r x y H Q ∨ r' x y H Q) := fun pins s σ H x y v u Q I rx ry k => k.elim (h pins s σ H x y v u Q I rx ry) (h' pins s σ H x y v u Q I rx ry)
end
def IsInts (h : Heap) (v : Value) (ns : List Int) : Prop := ∃ (a : Addr) (o : Obj) (its : List Value) (n : Nat), v = .ref a ∧ h.get? a = some o ∧ o.cls = .type "tuple" ∧ o.data = .seq its.toArray n ∧ IntsAre its ns
theorem IsInts.keeps {h h' : Heap} {v : Value} {ns : List Int} (x : IsInts h v ns) (k : ∀ b o, h.get? b = some o → o.cls = .type "tuple" → h'.get? b = some o) : IsInts h' v ns := by
  obtain ⟨a, o, its, n, e, ho, hc, hd, hi⟩ := x
  exact ⟨a, o, its, n, e, k a o ho hc, hc, hd, hi⟩
end G
namespace G
open PySem PySem.Spec PyProof.Rows L2
open Sem (wp)
end G
namespace G
open PySem PySem.Spec PyProof.Rows L2
section
variable {B : Bd} {X : Cx} {W : WX} {a b c e o : Expr} {es : List Expr} {wa wb wc : WE} {ta : WA} {pos : Pos} {M : MT}
def iSeq (K : PySem.W.Frag) (tl : TE) : TI := fun σ H R => tl σ H fun x H1 => ∃ a, x = .ref a ∧ (((∃ xs, SqL K H1 a xs) ∧ R (Itl K a) H1) ∨ ((∃ xs, SqT K H1 a xs) ∧ R (Itt K a) H1))
theorem pi_seqA {tg l : Expr} {tl : TE} (hl : PE X l tl) : PI X tg l (iSeq X.K tl) := by
  refine ⟨fun pins s σ H R I h => ?_⟩
  refine thn (hl.run pins s σ H _ I h) fun v s1 ⟨x, H1, I1, r1, q1⟩ => ?_
  obtain ⟨a, e, q1⟩ := q1
  subst e
  cases r1
  rcases q1 with ⟨⟨xs, hq⟩, q⟩ | ⟨⟨xs, hq⟩, q⟩
  · obtain ⟨its, rv, p, hz⟩ := I1.list hq
    refine wpAny_pyIter_list p.isList ?_
    refine ⟨s1.heap.objs.size, [s1.heap.objs.size], _, _, H1, rfl, I1.kept (t' := s1.toks) fun b o e => Heap.get?_push_of_some _ e, turn_list a _, ⟨_, Heap.get?_push_size _ rfl, rfl, rfl⟩, fun b hb => ?_, q⟩
    have e : b = s1.heap.objs.size := by simpa using hb
    subst e
    exact I1.fpOk (Nat.le_refl _) (I1.hok.fresh (Nat.le_refl _))
  · obtain ⟨its, rv, p, hz⟩ := I1.tuple hq
    refine wpAny_pyIter_tuple (show s1.heap.IsTuple a its.toArray from p) ?_
    refine ⟨s1.heap.objs.size, [s1.heap.objs.size], _, _, H1, rfl, I1.kept (t' := s1.toks) fun b o e => Heap.get?_push_of_some _ e, turn_tuple a _, ⟨_, Heap.get?_push_size _ rfl, rfl, rfl⟩, fun b hb => ?_, q⟩
    have e : b = s1.heap.objs.size := by simpa using hb
    subst e
    exact I1.fpOk (Nat.le_refl _) (I1.hok.fresh (Nat.le_refl _))
def wiSeq (wa : WE) : WI := fun env st Q R => wa env st (fun d st1 => match d with | .lst ds => Q ds st1 | .tup ds => Q ds st1 | _ => False) R
theorem gi_seq (j : J B X W) {tg : Expr} (h : PEg B X W e wa) : PIg B X W tg e (wiSeq wa) := ⟨⟨_, pi_seqA h.pe, fun σ H g env st Q R Rr bo rw hw k => ⟨g, env, st, _, R, bo, rw, hw, fun x H1 ⟨d, st1, g1, l1, b1, r1, h1⟩ => by
  cases d with
  | lst ds =>
    obtain ⟨p, xs, e, hx, r⟩ := r1.lstV
    exact ⟨p, e, .inl ⟨⟨xs, SqL.of (b1.ok.p _ _ hx)⟩, k _ _ ⟨ds, st1, g1, l1, b1, itrep_list j.hK (SqL.of hx) r, h1⟩⟩⟩
  | tup ds =>
    obtain ⟨p, xs, e, hx, r⟩ := r1.tupV
    exact ⟨p, e, .inr ⟨⟨xs, by rw [j.hK]; exact (Same.sqU b1.ok.p hx).t⟩, k _ _ ⟨ds, st1, g1, l1, b1, itrep_tup j.hK hx r, h1⟩⟩⟩
  | _ => exact h1.elim⟩⟩⟩
def wExt (i : Nat) (wa : WE) : WS := fun env st D => match env[i]? with
  | some (Slot.own ds) => wa env st (fun d st1 => match d with | .lst fs => ds.length + fs.length ≤ sizeLine ∧ D.nx (env.set i (.own (ds ++ fs))) st1 | _ => False) (xe D env)
  | _ => False
def wgFld (F : Nat → Nat → Bool) (i : Nat) (wo : WE) : WG := fun d env st Q => wo env st (fun x st2 => match x with
  | .cel n => (match st2[n]? with
    | some (.ins c fs) => F c i ∧ fs.length < 1000 ∧ Q env (st2.set n (.ins c (putD i d fs)))
    | _ => False)
  | _ => False) (fun _ _ => False)
end
end G
namespace G
open PySem PySem.Spec PyProof.Rows L2
def itup (r : List Int) : D := .tup (r.map D.int)
def D.rows : List D → Option (List (List Int))
  | [] => some []
  | .tup xs :: ds => (match D.ints xs, D.rows ds with
    | some ns, some rs => some (ns :: rs)
    | _, _ => none)
  | _ :: _ => none
def D.strs : List D → Option (List Str)
  | [] => some []
  | .str x :: ds => (D.strs ds).map (x :: ·)
  | _ :: _ => none
theorem D.strs_map : ∀ zs : List Str, D.strs (zs.map D.str) = some zs
  | [] => rfl
  | z :: zs => by simp [D.strs, D.strs_map zs]
section
variable {X : Cx}
/-- V's and rows side by side -/
def RowsV (K : PySem.W.Frag) (H : Hp) (xs : List V) (rows : List (List Int)) : Prop := xs.length = rows.length ∧ ∀ (i : Nat) (x : V) (r : List Int), xs[i]? = some x → rows[i]? = some r → ∃ t, x = V.ref t ∧ SqT K H t (r.map V.int)
theorem RowsV.mem {K : PySem.W.Frag} {H : Hp} {xs : List V} {rows : List (List Int)} (h : RowsV K H xs rows) {x : V} (hx : x ∈ xs) : ∃ r ∈ rows, ∃ t, x = V.ref t ∧ SqT K H t (r.map V.int) := by
  obtain ⟨i, hi, rfl⟩ := List.mem_iff_getElem.mp hx
  obtain ⟨t, e, ht⟩ := h.2 i _ (rows[i]'(by rw [← h.1]; exact hi)) (List.getElem?_eq_getElem hi) (List.getElem?_eq_getElem _)
  exact ⟨_, List.getElem_mem _, t, e, ht⟩
end
theorem strs_reps {C : Con} {g : Gh} : ∀ ns : List Str, Reps C g (ns.map D.str) (ns.map V.str)
  | [] => Reps.nil
  | n :: ns => Reps.cons rep_str (strs_reps ns)
section
variable {B : Bd} {X : Cx} {W : WX} {a b c e : Expr} {es : List Expr} {wa wb wc : WE} {ta : WA} {pos : Pos} {M : MT}
def oSorted : ON := fun ds st Q R => match ds with
  | [.lst xs] => (match D.ints xs with
    | some ns => ∀ ms : List Int, ms.Perm ns → ms.Pairwise (· ≤ ·) → Q (.lst (ms.map D.int)) st
    | none => match D.rows xs with
      | some rows => (∀ r ∈ rows, r ≠ []) ∧ ∀ rs : List (List Int), rs.Perm rows → rs.Pairwise (fun a b => HT.lexLt b a = false) → Q (.lst (rs.map itup)) st
      | none => match D.strs xs with
        | some zs => zs.length < 64 ∧ ∀ ys : List Str, ys.Perm zs → sortedS ys = true → Q (.lst (ys.map D.str)) st
        | none => False)
  | _ => False
def oMax : ON := fun ds st Q R => match ds with
  | [.int i, .int j] => Q (.int (if j > i then j else i)) st
  | [.lst xs] => (match D.ints xs with
    | some ns => 0 < ns.length ∧ ∀ m : Int, m ∈ ns → (∀ y, y ∈ ns → y ≤ m) → Q (.int m) st
    | none => match D.rows xs with
      | some rows => 0 < rows.length ∧ ∀ r : List Int, r ∈ rows → (∀ r' ∈ rows, HT.lexLt r r' = false) → Q (itup r) st
      | none => False)
  | _ => False
def oMin : ON := fun ds st Q R => match ds with
  | [.int i, .int j] => Q (.int (if j < i then j else i)) st
  | [.lst xs] => (match D.ints xs with
    | some ns => 0 < ns.length ∧ ∀ m : Int, m ∈ ns → (∀ y, y ∈ ns → m ≤ y) → Q (.int m) st
    | none => False)
  | _ => False
def lexD (xs ys : List D) : Option Bool := match D.ints xs, D.ints ys with | some ns, some ms => some (HT.lexLt ns ms) | _, _ => none
def oGtA : O2 := fun d1 d2 st Q R => match d1, d2 with
  | .int i, .int j => Q (.bl (decide (j < i))) st
  | .tup xs, .tup ys => (match lexD ys xs with | some b => Q (.bl b) st | none => False)
  | _, _ => False
def oLtA : O2 := fun d1 d2 st Q R => match d1, d2 with
  | .int i, .int j => Q (.bl (decide (i < j))) st
  | .tup xs, .tup ys => (match lexD xs ys with | some b => Q (.bl b) st | none => False)
  | _, _ => False
theorem units0 (j : J B X W) : X.A.units < cLine := by have := j.hu; omega
theorem og_gtA (j : J B X W) : OpG B X W (compareOp .Gt) oGtA := OpG.of (opr_or op_gt (op_gtT (units0 j))) fun gb g Hb env st σ H d1 d2 x y Q R l bo rw r1 r2 q => by
  unfold oGtA at q
  split at q
  · have e1 := r1.intV; have e2 := r2.intV
    subst e1; subst e2
    exact .inl ⟨_, _, rfl, rfl, QV.same l bo rep_bl q⟩
  · obtain ⟨a, vs, rfl, h1, k1⟩ := r1.tupV bo
    obtain ⟨b, us, rfl, h2, k2⟩ := r2.tupV bo
    split at q
    · rename_i z hz
      unfold lexD at hz
      split at hz
      · rename_i ns ms e1 e2
        cases hz
        have ev := ints_rep k1 e2; have ew := ints_rep k2 e1
        subst ev ew
        exact .inr ⟨a, b, ms, ns, rfl, rfl, by rw [j.hK]; exact h1.t, by rw [j.hK]; exact h2.t, QV.same l bo rep_bl q⟩
      · cases hz
    · exact q.elim
  · exact q.elim
theorem og_ltA (j : J B X W) : OpG B X W (compareOp .Lt) oLtA := OpG.of (opr_or op_lt (op_ltT (units0 j))) fun gb g Hb env st σ H d1 d2 x y Q R l bo rw r1 r2 q => by
  unfold oLtA at q
  split at q
  · have e1 := r1.intV; have e2 := r2.intV
    subst e1; subst e2
    exact .inl ⟨_, _, rfl, rfl, QV.same l bo rep_bl q⟩
  · obtain ⟨a, vs, rfl, h1, k1⟩ := r1.tupV bo
    obtain ⟨b, us, rfl, h2, k2⟩ := r2.tupV bo
    split at q
    · rename_i z hz
      unfold lexD at hz
      split at hz
      · rename_i ns ms e1 e2
        cases hz
        have ev := ints_rep k1 e1; have ew := ints_rep k2 e2
        subst ev ew
        exact .inr ⟨a, b, ns, ms, rfl, rfl, by rw [j.hK]; exact h1.t, by rw [j.hK]; exact h2.t, QV.same l bo rep_bl q⟩
      · cases hz
    · exact q.elim
  · exact q.elim
end
end G
namespace G
open PySem PySem.Spec PyProof.Rows L2
def D.flat : D → Bool
  | .non => true | .bl _ => true | .int _ => true | .str _ => true
  | _ => false
def D.toV : D → V
  | .bl b => .bl b | .int i => .int i | .str x => .str x
  | _ => .non
theorem flat_rep {C : Con} {g : Gh} : ∀ {d : D} {v : V}, d.flat = true → Rep C g d v → v = d.toV
  | .non, v, _, h => h.nonV
  | .bl b, v, _, h => h.blV
  | .int b, v, _, h => h.intV
  | .str b, v, _, h => h.strV
  | .tup _, _, k, _ => by cases k
  | .lst _, _, k, _ => by cases k
  | .ob _ _, _, k, _ => by cases k
  | .cel _, _, k, _ => by cases k
  | .cls _, _, k, _ => by cases k
  | .ty _, _, k, _ => by cases k
  | .scr _, _, k, _ => by cases k
  | .dct _, _, k, _ => by cases k
  | .dtt _, _, k, _ => by cases k
  | .raw _, _, k, _ => by cases k
  | .wtp _, _, k, _ => by cases k
theorem flats_rep {C : Con} {g : Gh} : ∀ {ds : List D} {vs : List V}, ds.all D.flat = true → Reps C g ds vs → vs = ds.map D.toV
  | [], vs, _, h => by unfold Reps at h; exact h
  | d :: ds, vs, k, h => by
    simp only [List.all_cons, Bool.and_eq_true] at k
    unfold Reps at h
    obtain ⟨v, r, rfl, a, b⟩ := h
    rw [flat_rep k.1 a, flats_rep k.2 b]; rfl
theorem flat_toV {d : D} (h : d.flat = true) : flatV d.toV = true := by
  cases d <;> first | rfl | cases h
theorem flat_eqV {d e : D} (h : d.flat = true) (k : e.flat = true) : eqV d.toV e.toV = eqD d e := by
  cases d <;> first | (cases h; done) | skip
  all_goals (cases e <;> first | (cases k; done) | skip)
  all_goals first
    | rfl
    | (simp [D.toV, eqV, eqD]; done)
    | (simp only [D.toV, eqV, eqD]; rename_i x y; by_cases e : x = y <;> simp [e])
    | skip
theorem flat_inV {d : D} {es : List D} (h : d.flat = true) (k : es.all D.flat = true) : inV d.toV (es.map D.toV) = es.any fun z => eqD z d := by
  unfold inV
  rw [List.any_map]
  induction es with
  | nil => rfl
  | cons e es ih =>
    simp only [List.all_cons, Bool.and_eq_true] at k
    simp only [List.any_cons, Function.comp, flat_eqV k.1 h]
    rw [← ih k.2]
theorem pys_any (d : D) (hd : d.dat = true) : ∀ {es : List D}, D.dats es = true → (D.pys es).any (fun z => PyData.eqv z d.py) = es.any fun z => eqD z d
  | [], _ => rfl
  | e :: es, h => by
    simp only [D.dats, Bool.and_eq_true] at h
    simp only [D.pys, List.any_cons]
    rw [py_eqv e d h.1 hd, pys_any d hd h.2]
theorem ksp_contains {K : PySem.W.Frag} {prog : Program} {w : World} {A : Around} {E : Value → Shared → Prop} {s : Shared} {x C f : Addr} {ox : Obj} {od : Option Obj} {v : Value} {Q : Bool → Shared → Prop} (X : K.In s.heap) (I : PySem.W.InstAt s.heap x ox C od)
    (hs : PySem.W.findIn K (.ref C) "__contains__" = some (some (.ref f))) (hf : PySem.W.isFn K (.ref f) = true)
    (h : wpAny (model prog w) A (call (.ref f) [.ref x, v]) (PySem.W.BoolBack Q) E s) : wpAny (model prog w) A (contains (.ref x) v) Q E s := by
  unfold contains
  refine wpAny_holding ?_
  have e0 : stdlibNamesSay? (.ref x) v = none := rfl
  simp only [e0]
  refine wpAny_bind (wpAny_bind (I.type.here ((PySem.W.looks_findIn X hs).here ?_)))
  have e1 : (some (Value.ref f) == some Value.none) = false := rfl
  simp only [e1, Bool.false_eq_true, if_false]
  show wpAny _ _ (callSpecialUnlessNone? (.ref x) (Str.ofString "__contains__") [v] _ >>= _) _ _ _
  refine wpAny_bind ?_
  unfold callSpecialUnlessNone?
  refine wpAny_bind (wpAny_bind (I.type.here ((PySem.W.looks_findIn X hs).here ?_)))
  refine wpAny_holding (wpAny_bind ((PySem.W.bind_fn X _ (beq_iff_eq.mp hf)).here ?_))
  have e2 : (Value.ref f == Value.none) = false := rfl
  simp only [e2, Bool.false_eq_true, if_false]
  refine wpAny_bind (wpAny_mono h (fun r s' hr => wpAny_pure ?_) fun _ _ z => z)
  cases r <;> first | exact hr.elim | skip
  exact wpAny_truthy_bool hr
section
variable {B : Bd} {X : Cx} {W : WX} {a b c e : Expr} {es : List Expr} {wa wb wc : WE} {ta : WA} {pos : Pos} {M : MT}
def oIn (neg : Bool) (M : MT) : O2 := fun d1 d2 st Q R => match d2 with
  | .lst es => DatOk d1 (.lst es) ∧ Q (.bl ((es.any fun z => eqD z d1) != neg)) st
  | .tup es => d1.flat = true ∧ es.all D.flat = true ∧ Q (.bl ((es.any fun z => eqD z d1) != neg)) st
  | .str z => (match d1 with
    | .str x => (match x.cps.toList with | [c] => Q (.bl (decide (c ∈ z.cps.toList) != neg)) st | _ => False)
    | _ => False)
  | .ob c fs => (∀ ds, d1 ≠ .lst ds) ∧ callM M c .contains [.ob c fs, d1] st (fun r st1 => match r with | .bl b => Q (.bl (b != neg)) st1 | _ => False) R
  | _ => False
theorem str_one {x : Str} {c : Nat} (h : x.cps.toList = [c]) : x = ⟨#[c]⟩ := by
  cases x with
  | mk cps =>
    have : cps = #[c] := by
      apply Array.toList_inj.mp
      exact h
    rw [this]
/-- x in o by the class's own method, as an operator -/
theorem contains_ob (j : J B X W) (m : MOk B X M) (neg : Bool) {gb g : Gh} {Hb : Hp} {env : Envr} {st : Store} {σ : L2.St} {H : Hp} {d1 : D} {c : Nat} {fs : List (Nat × D)} {x y : V} {v u : Value} {pins : List (Addr × Obj)} {s : Shared} {Q : QE} {R : XQ} (l : Nx gb Hb g H) (I : Inv X pins σ H s) (bo : BOk B g env st σ H) (rw : RW B W env σ R) (r1 : RepB B g env σ d1 x) (r2 : RepB B g env σ (.ob c fs) y) (rx : RelV x v) (ry : RelV y u)
    (hd : ∀ ds, d1 ≠ .lst ds) (q : callM M c .contains [.ob c fs, d1] st (fun r st1 => match r with | .bl b => Q (.bl (b != neg)) st1 | _ => False) R) :
    wpAny (model X.prog X.w) X.A (contains u v) (fun k s' => EP X pins σ (QV B gb Hb env σ Q) (.bool (k != neg)) s') X.xe s := by
  unfold callM at q
  split at q
  · rename_i φ hm
    obtain ⟨a, dx, fv, ex, ha, _, f1⟩ := rep_ob bo r2
    obtain ⟨f, hme, hc, hs, hw⟩ := met_call j m l bo rw I (reps2 f1 (r1.full hd)) (.cons ry (.cons rx .nil)) hm q
    subst ex
    cases ry
    obtain ⟨od, mA, i1, _⟩ := inst_at I ha
    refine ksp_contains I.kIn i1 hme.at_ hme.fn (thn hw fun r s2 ⟨z, H2, I2, rz, d2, st2, g2, l2, b2, rr, h2⟩ => ?_)
    cases d2 with
    | bl k =>
      have e := rr.blV
      subst e
      cases rz
      exact ⟨.bl (k != neg), H2, I2, rfl, .bl (k != neg), st2, g2, l2, b2, rep_bl, h2⟩
    | _ => exact h2.elim
  · exact q.elim
theorem og_in (j : J B X W) (m : MOk B X M) : OpG B X W (compareOp .In) (oIn false M) := by
  intro gb g Hb env st σ H d1 d2 x y v u pins s Q R l I bo rw r1 r2 rx ry q
  unfold oIn at q
  have bf : ∀ b : Bool, (b != false) = b := fun b => by cases b <;> rfl
  simp only [bf] at q
  split at q
  · rename_i es
    obtain ⟨⟨h1, h2, h3, h4⟩, q⟩ := q
    have hes : D.dats es = true := by simpa [D.dat] using h2
    refine op_inD (by have := j.hu2; omega) pins s σ H x y v u _ I rx ry ⟨d1.py, D.pys es, by rw [j.hK]; exact repB_dp bo h1 r1, ?_, shaped_of h1 h3, ?_, ?_⟩
    · have := repB_dp bo h2 r2; rw [j.hK]; simpa only [D.py] using this
    · have := shaped_of h2 h4; simpa only [D.py] using this
    · rw [pys_any d1 h1 hes]; exact QV.same l bo rep_bl q
  · rename_i es
    obtain ⟨h1, h2, q⟩ := q
    obtain ⟨p, ys, rfl, hy, ry2⟩ := r2.tupV bo
    have ey := flats_rep h2 ry2
    subst ey
    have ex := flat_rep h1 (r1.full fun ds z => by subst z; cases h1)
    subst ex
    refine op_in_seq pins s σ H _ _ v u _ I rx ry ⟨p, _, rfl, .inr (by rw [j.hK]; exact hy.t), flat_toV h1, ?_, ?_⟩
    · rw [List.all_map]; exact List.all_eq_true.mpr fun z hz => flat_toV (List.all_eq_true.mp h2 z hz)
    · rw [if_neg Bool.false_ne_true, flat_inV h1 h2]; exact QV.same l bo rep_bl q
  · split at q
    · split at q
      · rename_i zz xx cc hc
        have ex := r1.strV; have ey := r2.strV
        subst ex ey
        have := str_one hc
        subst this
        exact op_in_sign pins s σ H _ _ v u _ I rx ry ⟨_, _, rfl, rfl, QV.same l bo rep_bl q⟩
      · exact q.elim
    · exact q.elim
  · rename_i cc fs
    exact wpAny_bind (wpAny_mono (contains_ob j m false l I bo rw r1 r2 rx ry q.1 (by simpa only [bf] using q.2)) (fun k s' h => wpAny_pure (by simpa only [bf] using h)) fun _ _ z => z)
  · exact q.elim
end
end G
namespace G
open PySem PySem.Spec PyProof.Rows L2
structure CalOk (B : Bd) (X : Cx) (T : Nat → Option WF) : Prop where
  cal : ∀ c φ, T c = some φ → ∃ k f, Room k X.A ∧ FnA X B.C k f φ ∧ StX.CallO X.K (B.C.ca c) f
theorem c0 {B : Bd} {X : Cx} : CalOk B X T0 := ⟨fun _ _ h => by cases h⟩
section
variable {B : Bd} {X : Cx} {W : WX} {a b c e fe : Expr} {es : List Expr} {wa wb wc : WE} {ta : WA} {pos : Pos} {M : MT}
/-- f(e, ..), f an expression that gives an instance -/
def wCal (T : Nat → Option WF) (wf : WE) (ta : WA) : WE := fun env st Q R => wf env st (fun d st1 => match d with
  | .ob c fs => ta env st1 (fun ds st2 => match T c with | some φ => φ (.ob c fs :: ds) st2 Q R | none => False) R
  | _ => False) R
def oIsB (neg : Bool) : O2 := fun d1 d2 st Q R => match d1, d2 with
  | .bl a, .bl b => Q (.bl (decide (a = b) != neg)) st
  | _, _ => False
end
end G
namespace G
open PySem PySem.Spec PyProof.Rows L2
open AutoSeq1 (wpAny_loadPart')
theorem tuple_mulS (l : Addr) (items : Array Value) (n : Nat) (dd : Option Addr) (sl : Array (Option Value)) (x : Int) (u : Tok) (c0 : (decide (x < -(2 ^ 63)) || decide (x ≥ 2 ^ 63)) = false) (c1 : (items.isEmpty || x == 1) = true) :
    Meets (Builtin.«tuple.__mul__» ⟨[.ref l, .int x u], []⟩) (fun _ R s => s.heap.get? l = some { cls := .type "tuple", dict := dd, data := .seq items n, slots := sl } ∧ R (.ok (.ret (Value.ref l))) s) :=
  .of_wp fun prog w A R s h => by
    obtain ⟨hp, g, d, tk, os⟩ := s
    obtain ⟨hl, h⟩ := h
    have f1 := AutoSeq1.idx_int
    wp_walk using wpAny_loadPart' hl
    repeat (first
      | (refine wpAny_ite_false (decide_eq_false (by rw [c0]; exact Bool.false_ne_true)) ?_; wp_walk using wpAny_loadPart' hl)
      | (refine wpAny_ite_true (decide_eq_true c1) ?_; wp_walk using wpAny_loadPart' hl))
    exact ⟨_, rfl, h⟩
theorem tuple_mul0 (l : Addr) (items : Array Value) (n : Nat) (dd : Option Addr) (sl : Array (Option Value)) (x : Int) (u : Tok) (c0 : (decide (x < -(2 ^ 63)) || decide (x ≥ 2 ^ 63)) = false) (c1 : (items.isEmpty || x == 1) = false) (c2 : (decide (x ≤ 0) || items.isEmpty) = true) :
    Meets (Builtin.«tuple.__mul__» ⟨[.ref l, .int x u], []⟩) (fun _ R s => s.heap.get? l = some { cls := .type "tuple", dict := dd, data := .seq items n, slots := sl } ∧
      R (.ok (.ret (Value.ref s.heap.objs.size))) { s with heap := s.heap.push { cls := Value.type "tuple", data := Data.seq #[] }, toks := s.toks }) :=
  .of_wp fun prog w A R s h => by
    obtain ⟨hp, g, d, tk, os⟩ := s
    obtain ⟨hl, h⟩ := h
    have f1 := AutoSeq1.idx_int
    wp_walk using wpAny_loadPart' hl
    repeat (first
      | (refine wpAny_ite_false (decide_eq_false (by rw [c0]; exact Bool.false_ne_true)) ?_; wp_walk using wpAny_loadPart' hl)
      | (refine wpAny_ite_false (decide_eq_false (by rw [c1]; exact Bool.false_ne_true)) ?_; wp_walk using wpAny_loadPart' hl)
      | (refine wpAny_ite_true (decide_eq_true c2) ?_; wp_walk using wpAny_loadPart' hl))
    exact ⟨_, rfl, h⟩
def rRepA (K : PySem.W.Frag) : R2 := fun x y H Q => ∃ l k xs, x = .ref l ∧ y = .int k ∧ SqT K H l xs ∧ xs ≠ [] ∧ k ≤ 1000 ∧ -1000 ≤ k ∧ xs.length ≤ 1000 ∧ (k = 1 → Q (.ref l) H) ∧ (k ≠ 1 → ∀ p, H p = none → Q (.ref p) (upd H p (.tup (List.replicate k.toNat xs).flatten)))
section
variable {X : Cx}
theorem op_repA : OpR X (binaryOp .Mult) (rRepA X.K) := by
  intro pins s σ H x y v u Q I rx ry h
  obtain ⟨l, k, xs, rfl, rfl, hT, hne, h2, h3, hz, q1, q⟩ := h
  by_cases hk : 2 ≤ k
  · exact op_repT pins s σ H _ _ v u Q I rx ry ⟨l, k, xs, rfl, rfl, hT, hne, hk, h2, hz, q (by omega)⟩
  cases rx
  obtain ⟨t, rfl⟩ := ry
  obtain ⟨its, r, ⟨⟨cls, dd, data, sl⟩, ho, hc, n, hd⟩, hs⟩ := I.tuple hT
  simp only at hc hd
  subst hc hd
  have hle : its.length = xs.length := r.length.symm
  have hn : its ≠ [] := fun e => hne (by
    rw [e] at hle
    exact List.eq_nil_of_length_eq_zero hle.symm)
  have hi : its.toArray.isEmpty = false := by
    cases its with
    | nil => exact absurd rfl hn
    | cons a b => rfl
  have c0 : (decide (k < -(2 ^ 63)) || decide (k ≥ 2 ^ 63)) = false := by
    rw [decide_eq_false (by omega), decide_eq_false (by omega)] <;> rfl
  by_cases h1 : k = 1
  · have c1 : (its.toArray.isEmpty || k == 1) = true := by rw [h1]; simp
    exact wpAny_binaryOp_repeat_ref (T := "tuple") (U := "int") (by decide) ⟨_, ho, rfl⟩ (fun s' => typeIs_int s' k t) noFill_tuple_mul F.fills_int_mul F.slot_int_rmul repeat_tuple F.slot_int_index.lookup
      (call_meets F.slot_int_rmul (typeIs_int s k t) F.entry_int_rmul (F.args_int_rmul_2 _ _) (int_rmul_tuple k t l its.toArray n dd sl)
        ⟨ho, rfl, ⟨_, ho, rfl⟩, call_meets F.slot_tuple_mul ⟨_, ho, rfl⟩ F.entry_tuple_mul (F.args_tuple_mul_2 _ _) (tuple_mulS l its.toArray n dd sl k t c0 c1) ⟨ho, ⟨.ref l, H, I, rfl, q1 h1⟩⟩⟩)
  · have c1 : (its.toArray.isEmpty || k == 1) = false := by
      rw [hi, Bool.false_or]
      exact beq_eq_false_iff_ne.mpr h1
    have c2 : (decide (k ≤ 0) || its.toArray.isEmpty) = true := by rw [decide_eq_true (by omega)]; rfl
    refine wpAny_binaryOp_repeat_ref (T := "tuple") (U := "int") (by decide) ⟨_, ho, rfl⟩ (fun s' => typeIs_int s' k t) noFill_tuple_mul F.fills_int_mul F.slot_int_rmul repeat_tuple F.slot_int_index.lookup
      (call_meets F.slot_int_rmul (typeIs_int s k t) F.entry_int_rmul (F.args_int_rmul_2 _ _) (int_rmul_tuple k t l its.toArray n dd sl)
        ⟨ho, rfl, ⟨_, ho, rfl⟩, call_meets F.slot_tuple_mul ⟨_, ho, rfl⟩ F.entry_tuple_mul (F.args_tuple_mul_2 _ _) (tuple_mul0 l its.toArray n dd sl k t c0 c1 c2) ⟨ho, ?_⟩⟩)
    have ek : k.toNat = 0 := by omega
    have q' := q h1
    rw [ek] at q'
    refine ⟨.ref s.heap.objs.size, _, I.laid (t' := s.toks) (o := .tup ([] : List V)) (fun b ob q => Heap.get?_push_of_some _ q) (Nat.le_refl _) ?_, rfl, q' _ (I.hok.fresh (Nat.le_refl _))⟩
    exact ⟨Nat.zero_le _, [], .nil, IsTup.new _ _⟩
end
section
variable {B : Bd} {X : Cx} {W : WX} {M : MT}
def oAddA (M : MT) : O2 := fun d1 d2 st Q R => match d1, d2 with
  | .tup xs, .tup ys => xs.length + ys.length ≤ sizeLine ∧ Q (.tup (xs ++ ys)) st
  | d1, d2 => oAdd M d1 d2 st Q R
theorem og_addA (j : J B X W) (m : MOk B X M) : OpG B X W (binaryOp .Add) (oAddA M) := by
  intro gb g Hb env st σ H d1 d2 x y v u pins s Q R l I bo rw r1 r2 rx ry q
  unfold oAddA at q
  split at q
  · rename_i xs ys
    obtain ⟨a, vs, e1, h1, p1⟩ := r1.tupV bo
    obtain ⟨b, us, e2, h2, p2⟩ := r2.tupV bo
    subst e1 e2
    have f1 := r1.full (fun ds z => by cases z); have f2 := r2.full (fun ds z => by cases z)
    refine op_catA pins s σ H _ _ v u _ I rx ry ⟨a, b, vs, us, rfl, rfl, by rw [j.hK]; exact h1.t, by rw [j.hK]; exact h2.t, by rw [← p1.length, ← p2.length]; exact q.1, fun e => ?_, fun _ e => ?_, fun _ _ p hp => ?_⟩
    · have : xs = [] := List.eq_nil_of_length_eq_zero (by rw [p1.length, e]; rfl)
      subst this
      exact QV.same l bo f2 (by simpa using q.2)
    · have : ys = [] := List.eq_nil_of_length_eq_zero (by rw [p2.length, e]; rfl)
      subst this
      exact QV.same l bo f1 (by simpa using q.2)
    · exact QV.tup j.ck l bo (p1.append p2) q.2 hp
  · exact og_add j m gb g Hb env st σ H d1 d2 x y v u pins s Q R l I bo rw r1 r2 rx ry q
def oMulA (M : MT) : O2 := fun d1 d2 st Q R => match d1, d2 with
  | .tup xs, .int k => (xs ≠ [] ∧ k ≤ 1000 ∧ -1000 ≤ k ∧ xs.length ≤ 1000) ∧ Q (.tup (List.replicate k.toNat xs).flatten) st
  | d1, d2 => oMul M d1 d2 st Q R
theorem reps_rep {C : Con} {g : Gh} {ds : List D} {vs : List V} (r : Reps C g ds vs) : ∀ n : Nat, Reps C g (List.replicate n ds).flatten (List.replicate n vs).flatten
  | 0 => Reps.nil
  | n + 1 => by rw [List.replicate_succ, List.replicate_succ, List.flatten_cons, List.flatten_cons]; exact r.append (reps_rep r n)
theorem og_mulA (j : J B X W) (m : MOk B X M) : OpG B X W (binaryOp .Mult) (oMulA M) := by
  intro gb g Hb env st σ H d1 d2 x y v u pins s Q R l I bo rw r1 r2 rx ry q
  unfold oMulA at q
  split at q
  · rename_i xs k
    obtain ⟨a, vs, e1, h1, p1⟩ := r1.tupV bo
    have e2 := r2.intV
    subst e1 e2
    have f1 := r1.full (fun ds z => by cases z)
    obtain ⟨⟨a1, a2, a3, a4⟩, q⟩ := q
    refine op_repA pins s σ H _ _ v u _ I rx ry ⟨a, k, vs, rfl, rfl, by rw [j.hK]; exact h1.t, fun e => a1 (List.eq_nil_of_length_eq_zero (by rw [p1.length, e]; rfl)), a2, a3, by rw [← p1.length]; exact a4, fun e => ?_, fun _ p hp => ?_⟩
    · subst e
      exact QV.same l bo f1 (by simpa using q)
    · exact QV.tup j.ck l bo (reps_rep p1 _) q hp
  · exact og_mul j m gb g Hb env st σ H d1 d2 x y v u pins s Q R l I bo rw r1 r2 rx ry q
end
end G
namespace RZ
open PySem
open PySem.Sem (wp)
/-- what zip asks of the iterator it over l: at turn k it gives out k -/
structure Src (prog : Program) (w : World) (it l : Addr) (out : Nat → Option Value) (P : Nat → Heap → Prop) : Prop where
  keep : ∀ {k h h'}, P k h → (∀ o, h.get? it = some o → h'.get? it = some o) → (∀ o, h.get? l = some o → h'.get? l = some o) → P k h'
  live : ∀ {k h}, P k h → it < h.objs.size
  item : ∀ {A s k x E} {Q : Value → Shared → Prop}, P k s.heap → out k = some x → (∀ h', P (k + 1) h' → Heap.SameBut it s.heap h' → Q x { s with heap := h' }) → wpAny (model prog w) A (Builtin.SmallTypes.nextOf (.ref it)) Q E s
  stop : ∀ {A s k E} {Q : Value → Shared → Prop}, A.handled = none → P k s.heap → out k = none → (∀ h' e, Heap.ExtBut it s.heap h' → (∃ o, h'.get? e = some o ∧ o.cls = .type "StopIteration") → E (.ref e) { s with heap := h' }) → wpAny (model prog w) A (Builtin.SmallTypes.nextOf (.ref it)) Q E s
theorem src_list {prog : Program} {w : World} {it l : Addr} {xs : Array Value} (hl : l ≠ it) : Src prog w it l (fun k => xs[k]?) (fun k h => h.IsListIter it l k ∧ h.IsList l xs) where
  keep := fun p f g => ⟨p.1.at f, p.2.at g⟩
  live := fun p => by obtain ⟨_, e, _⟩ := p.1; exact Heap.lt_size e
  item := fun p e h => wpAny_nextOf_list_item p.1 p.2 e fun h' n sb => h h' ⟨n, p.2.extBut sb.extBut hl⟩ sb
  stop := fun a p e h => wpAny_nextOf_list_end a p.1 p.2 e h
theorem src_tup {prog : Program} {w : World} {it l : Addr} {xs : Array Value} (hl : l ≠ it) : Src prog w it l (fun k => xs[k]?) (fun k h => h.IsTupleIter it l k ∧ h.IsTuple l xs) where
  keep := fun p f g => ⟨p.1.at f, p.2.at g⟩
  live := fun p => by obtain ⟨_, e, _⟩ := p.1; exact Heap.lt_size e
  item := fun p e h => nextOf_tuple_item p.1 p.2 e fun h' n sb => h h' ⟨n, p.2.extBut sb.extBut hl⟩ sb
  stop := fun a p e h => nextOf_tuple_end a p.1 p.2 e h
section
variable {prog : Program} {w : World} {A : Around} {E : Value → Shared → Prop} {s : Shared} {z T O i1 i2 l1 l2 : Addr} {o1 o2 : Nat → Option Value} {P1 P2 : Nat → Heap → Prop} {k : Nat} {x y a b : Value}
theorem zs_item {Q : Value → Shared → Prop} (S1 : Src prog w i1 l1 o1 P1) (S2 : Src prog w i2 l2 o2 P2) (D : ZipApart z T O i1 i2 l1 l2) (gz : IsZip s.heap z T O .none) (gT : IsPair s.heap T (.ref i1) (.ref i2)) (gO : IsPair s.heap O a b) (p1 : P1 k s.heap) (p2 : P2 k s.heap) (e1 : o1 k = some x) (e2 : o2 k = some y)
    (hQ : ∀ m, IsZip m z T O (rawInt s.heap.objs.size) → IsPair m O x y → P1 (k + 1) m → P2 (k + 1) m → IsPair m s.heap.objs.size x y → (∀ c o, c ≠ z → c ≠ O → c ≠ i1 → c ≠ i2 → s.heap.get? c = some o → m.get? c = some o) → Q (.ref s.heap.objs.size) { s with heap := m }) :
    wpAny (model prog w) A (Builtin.«zip.__next__» ⟨[.ref z], []⟩) (fun fin s' => ∃ v, fin = .done (.ret v) ∧ Q v s') E s := by
  show wpAny _ _ (field (.ref z) 2 >>= _) _ _ _; refine wpAny_bind (wpAny_field gz rfl (x := .bool false) rfl ?_)
  show wpAny _ _ (field (.ref z) 3 >>= _) _ _ _; refine wpAny_bind (wpAny_field gz rfl (x := .ref T) rfl (wpAny_bind (wpAny_seqItems gT rfl ?_)))
  show wpAny _ _ (Builtin.SmallTypes.ownedTupleIsFree (.ref z) >>= _) _ _ _; refine wpAny_bind ?_; unfold Builtin.SmallTypes.ownedTupleIsFree
  refine wpAny_bind (wpAny_field gz rfl (x := .none) rfl (wpAny_pure ?_)); rw [if_pos (show _ = true from rfl)]
  refine wpAny_bind (wpAny_rule (wpAny_bind (wpAny_field gz rfl (x := .ref O) rfl (wpAny_bind (wpAny_setField_rec gz (by simp) fun m1 gz1 t1 => ?_)))))
  replace gz1 : IsZip m1 z T O .ellipsis := gz1
  refine wpAny_bind ?_; simp only [List.zipIdx_nil, List.zipIdx_cons, List.forIn_nil, List.forIn_cons]
  refine wpAny_bind (wpAny_bind (wpAny_onRaise ?_)); show wpAny _ _ (Builtin.SmallTypes.nextOf (.ref i1) >>= _) _ _ _
  have q1 : P1 k m1 := S1.keep p1 (fun _ e => t1.extBut _ _ D.i1z e) (fun _ e => t1.extBut _ _ D.l1z e)
  refine wpAny_bind (S1.item q1 e1 fun m2 r1 t2 => wpAny_pure ?_)
  have gO2 : IsPair m2 O a b := t2.extBut _ _ D.TOi1 (t1.extBut _ _ D.TOz gO)
  refine wpAny_bind (wpAny_seqItems gO2 rfl (wpAny_bind (wpAny_updateSeq_pair gO2 fun m3 gO3 t3 => ?_)))
  replace gO3 : IsPair m3 O x b := gO3
  refine wpAny_bind (wpAny_letGo (wpAny_pure (wpAny_bind (wpAny_bind (wpAny_onRaise ?_))))); show wpAny _ _ (Builtin.SmallTypes.nextOf (.ref i2) >>= _) _ _ _
  have q2 : P2 k m3 := S2.keep p2 (fun _ e => t3.extBut _ _ D.TOi2.symm (t2.extBut _ _ D.i12.symm (t1.extBut _ _ D.i2z e))) (fun _ e => t3.extBut _ _ D.l2TO (t2.extBut _ _ D.l2i1 (t1.extBut _ _ D.l2z e)))
  refine wpAny_bind (S2.item q2 e2 fun m4 r2 t4 => wpAny_pure ?_)
  have gO4 : IsPair m4 O x b := t4.extBut _ _ D.TOi2 gO3
  refine wpAny_bind (wpAny_seqItems gO4 rfl (wpAny_bind (wpAny_updateSeq_pair gO4 fun m5 gO5 t5 => ?_)))
  replace gO5 : IsPair m5 O x y := gO5
  refine wpAny_bind (wpAny_letGo (wpAny_pure (wpAny_pure ?_)))
  refine wpAny_bind (wpAny_seqItems gO5 rfl (wpAny_bind (wpAny_newTuple ?_)))
  have sz : m5.objs.size = s.heap.objs.size := by rw [t5.1, t4.1, t3.1, t2.1, t1.1]
  have gz5 : IsZip m5 z T O .ellipsis := t5.extBut _ _ D.TOz.symm (t4.extBut _ _ D.i2z.symm (t3.extBut _ _ D.TOz.symm (t2.extBut _ _ D.i1z.symm gz1)))
  have k5 : ∀ c o, c ≠ z → c ≠ O → c ≠ i1 → c ≠ i2 → s.heap.get? c = some o → m5.get? c = some o := fun c o n1 n2 n3 n4 e => t5.extBut _ _ n2 (t4.extBut _ _ n4 (t3.extBut _ _ n2 (t2.extBut _ _ n3 (t1.extBut _ _ n1 e))))
  have r1' : P1 (k + 1) m5 := S1.keep r1 (fun _ e => t5.extBut _ _ D.TOi1.symm (t4.extBut _ _ D.i12 (t3.extBut _ _ D.TOi1.symm e))) (fun _ e => t5.extBut _ _ D.l1TO (t4.extBut _ _ D.l1i2 (t3.extBut _ _ D.l1TO e)))
  have r2' : P2 (k + 1) m5 := S2.keep r2 (fun _ e => t5.extBut _ _ D.TOi2.symm e) (fun _ e => t5.extBut _ _ D.l2TO e)
  have zl : z < m5.objs.size := Heap.lt_size gz5
  show wpAny _ _ (Builtin.SmallTypes.ownedTupleHandOut (.ref z) (.ref m5.objs.size) >>= _) _ _ _
  refine wpAny_bind ?_; unfold Builtin.SmallTypes.ownedTupleHandOut
  have gz6 : IsZip (m5.push { cls := .type "tuple", data := .seq #[x, y] }) z T O .ellipsis := Heap.get?_push_of_some _ gz5
  refine wpAny_bind (wpAny_setField_rec gz6 (by simp) fun m7 gz7 t7 => ?_)
  replace gz7 : IsZip m7 z T O (rawInt m5.objs.size) := gz7
  refine wpAny_setField_rec gz7 (by simp) fun m8 gz8 t8 => ?_
  replace gz8 : IsZip m8 z T O (rawInt m5.objs.size) := gz8
  have up : ∀ c o, c ≠ z → m5.get? c = some o → m8.get? c = some o := fun c o n e => t8.extBut _ _ n (t7.extBut _ _ n (Heap.get?_push_of_some _ e))
  have gN : IsPair m8 m5.objs.size x y := t8.extBut _ _ (Nat.ne_of_gt zl) (t7.extBut _ _ (Nat.ne_of_gt zl) (Heap.get?_push_size _ rfl))
  rw [sz] at gz8 gN
  refine wpAny_pure ⟨_, rfl, ?_⟩; show Q (.ref m5.objs.size) _; rw [sz]
  exact hQ m8 gz8 (up _ _ D.TOz gO5) (S1.keep r1' (fun _ e => up _ _ D.i1z e) fun _ e => up _ _ D.l1z e) (S2.keep r2' (fun _ e => up _ _ D.i2z e) fun _ e => up _ _ D.l2z e) gN fun c o n1 n2 n3 n4 e => up c o n1 (k5 c o n1 n2 n3 n4 e)
theorem zs_stop {Q : Fin → Shared → Prop} (hh : A.handled = none) (S1 : Src prog w i1 l1 o1 P1) (S2 : Src prog w i2 l2 o2 P2) (D : ZipApart z T O i1 i2 l1 l2) (gz : IsZip s.heap z T O .none) (gT : IsPair s.heap T (.ref i1) (.ref i2)) (gO : IsPair s.heap O a b) (p1 : P1 k s.heap) (p2 : P2 k s.heap) (e : o1 k = none ∨ o2 k = none)
    (hE : ∀ m r, (∀ c o, c ≠ z → c ≠ O → c ≠ i1 → c ≠ i2 → s.heap.get? c = some o → m.get? c = some o) → (∃ o, m.get? r = some o ∧ o.cls = .type "StopIteration") → E (.ref r) { s with heap := m }) :
    wpAny (model prog w) A (Builtin.«zip.__next__» ⟨[.ref z], []⟩) Q E s := by
  show wpAny _ _ (field (.ref z) 2 >>= _) _ _ _; refine wpAny_bind (wpAny_field gz rfl (x := .bool false) rfl ?_)
  show wpAny _ _ (field (.ref z) 3 >>= _) _ _ _; refine wpAny_bind (wpAny_field gz rfl (x := .ref T) rfl (wpAny_bind (wpAny_seqItems gT rfl ?_)))
  show wpAny _ _ (Builtin.SmallTypes.ownedTupleIsFree (.ref z) >>= _) _ _ _; refine wpAny_bind ?_; unfold Builtin.SmallTypes.ownedTupleIsFree
  refine wpAny_bind (wpAny_field gz rfl (x := .none) rfl (wpAny_pure ?_)); rw [if_pos (show _ = true from rfl)]
  refine wpAny_bind (wpAny_rule (wpAny_bind (wpAny_field gz rfl (x := .ref O) rfl (wpAny_bind (wpAny_setField_rec gz (by simp) fun m1 gz1 t1 => ?_)))))
  replace gz1 : IsZip m1 z T O .ellipsis := gz1
  refine wpAny_bind ?_; simp only [List.zipIdx_nil, List.zipIdx_cons, List.forIn_nil, List.forIn_cons]
  refine wpAny_bind (wpAny_bind (wpAny_onRaise ?_)); show wpAny _ _ (Builtin.SmallTypes.nextOf (.ref i1) >>= _) _ _ _
  have q1 : P1 k m1 := S1.keep p1 (fun _ e => t1.extBut _ _ D.i1z e) (fun _ e => t1.extBut _ _ D.l1z e)
  cases e1 : o1 k with
  | none =>
    refine wpAny_bind (S1.stop hh q1 e1 fun m2 r t2 ⟨oe, he, hc⟩ => ?_)
    have gz2 : IsZip m2 z T O .ellipsis := t2 _ _ D.i1z.symm gz1
    have ne : r ≠ z := fun q => by subst q; rw [gz2] at he; cases he; simp at hc
    exact wpAny_setField_rec gz2 (by simp) fun m3 _ t3 => hE m3 r (fun c o n1 _ n3 _ q => t3.extBut _ _ n1 (t2 _ _ n3 (t1.extBut _ _ n1 q))) ⟨oe, t3.extBut _ _ ne he, hc⟩
  | some x =>
    have e2 : o2 k = none := by rcases e with q | q; rw [e1] at q; cases q; exact q
    refine wpAny_bind (S1.item q1 e1 fun m2 r1 t2 => wpAny_pure ?_)
    have gO2 : IsPair m2 O a b := t2.extBut _ _ D.TOi1 (t1.extBut _ _ D.TOz gO)
    refine wpAny_bind (wpAny_seqItems gO2 rfl (wpAny_bind (wpAny_updateSeq_pair gO2 fun m3 gO3 t3 => ?_)))
    refine wpAny_bind (wpAny_letGo (wpAny_pure (wpAny_bind (wpAny_bind (wpAny_onRaise ?_))))); show wpAny _ _ (Builtin.SmallTypes.nextOf (.ref i2) >>= _) _ _ _
    have q2 : P2 k m3 := S2.keep p2 (fun _ e => t3.extBut _ _ D.TOi2.symm (t2.extBut _ _ D.i12.symm (t1.extBut _ _ D.i2z e))) (fun _ e => t3.extBut _ _ D.l2TO (t2.extBut _ _ D.l2i1 (t1.extBut _ _ D.l2z e)))
    refine wpAny_bind (S2.stop hh q2 e2 fun m4 r t4 ⟨oe, he, hc⟩ => ?_)
    have gz4 : IsZip m4 z T O .ellipsis := t4 _ _ D.i2z.symm (t3.extBut _ _ D.TOz.symm (t2.extBut _ _ D.i1z.symm gz1))
    have ne : r ≠ z := fun q => by subst q; rw [gz4] at he; cases he; simp at hc
    exact wpAny_setField_rec gz4 (by simp) fun m5 _ t5 => hE m5 r (fun c o n1 n2 n3 n4 q => t5.extBut _ _ n1 (t4 _ _ n4 (t3.extBut _ _ n2 (t2.extBut _ _ n3 (t1.extBut _ _ n1 q))))) ⟨oe, t5.extBut _ _ ne he, hc⟩
theorem zsNext_item {Q : Option Value → Shared → Prop} (S1 : Src prog w i1 l1 o1 P1) (S2 : Src prog w i2 l2 o2 P2) (D : ZipApart z T O i1 i2 l1 l2) (gz : IsZip s.heap z T O .none) (gT : IsPair s.heap T (.ref i1) (.ref i2)) (gO : IsPair s.heap O a b) (p1 : P1 k s.heap) (p2 : P2 k s.heap) (e1 : o1 k = some x) (e2 : o2 k = some y)
    (hQ : ∀ m, IsZip m z T O (rawInt s.heap.objs.size) → IsPair m O x y → P1 (k + 1) m → P2 (k + 1) m → IsPair m s.heap.objs.size x y → (∀ c o, c ≠ z → c ≠ O → c ≠ i1 → c ≠ i2 → s.heap.get? c = some o → m.get? c = some o) → Q (some (.ref s.heap.objs.size)) { s with heap := m }) :
    wpAny (model prog w) A (pyNext (.ref z)) Q E s := by
  have tz : s.TypeIs (.ref z) "zip" := ⟨_, gz, rfl⟩
  unfold pyNext
  exact wpAny_bind (wpAny_attempt (wpAny_callSpecial?_slot (name := Str.ofString "__next__") tz F.slot_zip_next (wpAny_call_entry F.slot_zip_next tz F.entry_zip_next (zs_item S1 S2 D gz gT gO p1 p2 e1 e2 fun m a1 a2 a3 a4 a5 a6 => wpAny_pure (hQ m a1 a2 a3 a4 a5 a6)) (F.args_zip_next_1 _))))
theorem zsNext_stop {Q : Option Value → Shared → Prop} (hh : A.handled = none) (S1 : Src prog w i1 l1 o1 P1) (S2 : Src prog w i2 l2 o2 P2) (D : ZipApart z T O i1 i2 l1 l2) (gz : IsZip s.heap z T O .none) (gT : IsPair s.heap T (.ref i1) (.ref i2)) (gO : IsPair s.heap O a b) (p1 : P1 k s.heap) (p2 : P2 k s.heap) (e : o1 k = none ∨ o2 k = none)
    (hQ : ∀ m, (∀ c o, c ≠ z → c ≠ O → c ≠ i1 → c ≠ i2 → s.heap.get? c = some o → m.get? c = some o) → Q none { s with heap := m }) : wpAny (model prog w) A (pyNext (.ref z)) Q E s := by
  have tz : s.TypeIs (.ref z) "zip" := ⟨_, gz, rfl⟩
  unfold pyNext
  refine wpAny_bind (wpAny_attempt (wpAny_callSpecial?_slot (name := Str.ofString "__next__") tz F.slot_zip_next (wpAny_call_entry F.slot_zip_next tz F.entry_zip_next (zs_stop hh S1 S2 D gz gT gO p1 p2 e fun m r hk ⟨o, ho, hc⟩ => ?_) (F.args_zip_next_1 _))))
  exact wpAny_bind (wpAny_isInstance (T := "StopIteration") (b := true) ⟨o, ho, hc⟩ isSubtype_stop (wpAny_pure (hQ _ hk)))
end
def zmA (h : Heap) (l1 : Addr) : Heap := h.push { cls := .type "tuple_iterator", data := .fields #[.ref l1, .int 0 0] }
def zmB (h : Heap) (l1 l2 : Addr) : Heap := (zmA h l1).push { cls := .type "list_iterator", data := .fields #[.ref l2, .int 0 0] }
def zmC (h : Heap) (l1 l2 : Addr) : Heap := (zmB h l1 l2).push { cls := .type "tuple", data := .seq #[.ref h.objs.size, .ref (h.objs.size + 1)] }
def zmD (h : Heap) (l1 l2 : Addr) : Heap := (zmC h l1 l2).push { cls := .type "tuple", data := .seq #[.none, .none] }
def zmE (h : Heap) (l1 l2 : Addr) : Heap := (zmD h l1 l2).push { cls := .type "zip", data := .fields #[.none, .bool false, .bool false, .ref (h.objs.size + 2), .ref (h.objs.size + 3)] }
theorem zmA_sz (h : Heap) (l1 : Addr) : (zmA h l1).objs.size = h.objs.size + 1 := Heap.size_push ..
theorem zmB_sz (h : Heap) (l1 l2 : Addr) : (zmB h l1 l2).objs.size = h.objs.size + 2 := by rw [zmB, Heap.size_push, zmA_sz]
theorem zmC_sz (h : Heap) (l1 l2 : Addr) : (zmC h l1 l2).objs.size = h.objs.size + 3 := by rw [zmC, Heap.size_push, zmB_sz]
theorem zmD_sz (h : Heap) (l1 l2 : Addr) : (zmD h l1 l2).objs.size = h.objs.size + 4 := by rw [zmD, Heap.size_push, zmC_sz]
theorem zm_new (l1 l2 : Addr) (xs ys : Array Value) : Meets (Builtin.«zip.__new__» ⟨[.type "zip", .ref l1, .ref l2], []⟩) (fun _ R s => s.heap.IsTuple l1 xs ∧ s.heap.IsList l2 ys ∧ R (.ok (.ret (.ref (s.heap.objs.size + 4)))) { s with heap := zmE s.heap l1 l2 }) :=
  .of_wp fun prog w A R s h => by
    obtain ⟨hp, g, d, tk, os⟩ := s
    obtain ⟨f1, f2, h⟩ := h
    have sub := sub_zip
    have g1 : Heap.IsTuple (Shared.heap ⟨hp, g, d, tk, os⟩) l1 xs := f1
    have g2 : Heap.IsList (Shared.heap ⟨hp.push { cls := .type "tuple_iterator", data := .fields #[.ref l1, .int 0 0] }, g, d, tk, os⟩) l2 ys := Heap.IsList.push f2 _
    wp_walk using wpAny_pyIter_tuple g1, wpAny_pyIter_list g2
    refine ⟨_, rfl, ?_⟩
    simp only [Heap.size_push]
    exact h
section
variable {prog : Program} {w : World} {A : Around} {E : Value → Shared → Prop} {s : Shared}
theorem call_zm {l1 l2 : Addr} {xs ys : Array Value} {Q : Value → Shared → Prop} (f1 : s.heap.IsTuple l1 xs) (f2 : s.heap.IsList l2 ys)
    (h : ∀ m, IsZip m (s.heap.objs.size + 4) (s.heap.objs.size + 2) (s.heap.objs.size + 3) .none → IsPair m (s.heap.objs.size + 2) (.ref s.heap.objs.size) (.ref (s.heap.objs.size + 1)) → IsPair m (s.heap.objs.size + 3) .none .none → m.IsTupleIter s.heap.objs.size l1 0 → m.IsListIter (s.heap.objs.size + 1) l2 0 →
      (∀ c o, s.heap.get? c = some o → m.get? c = some o) → Q (.ref (s.heap.objs.size + 4)) { s with heap := m }) :
    wpAny (model prog w) A (call (.type "zip") [.ref l1, .ref l2]) Q E s := by
  refine callType_new F.called_zip (by decide) (F.typeCall_zip_2 _ _) (F.newCall_zip_2 _ _) (fun obj => F.args_object_init_3 obj _ _) F.entry_zip_new (zm_new l1 l2 xs ys) ⟨f1, f2, ?_⟩
  have gE : (zmE s.heap l1 l2).get? (zmD s.heap l1 l2).objs.size = some _ := Heap.get?_push_size _ rfl
  have gD : (zmE s.heap l1 l2).get? (zmC s.heap l1 l2).objs.size = some _ := Heap.get?_push_of_some _ (Heap.get?_push_size _ rfl)
  have gC : (zmE s.heap l1 l2).get? (zmB s.heap l1 l2).objs.size = some _ := Heap.get?_push_of_some _ (Heap.get?_push_of_some _ (Heap.get?_push_size _ rfl))
  have gB : (zmE s.heap l1 l2).get? (zmA s.heap l1).objs.size = some _ := Heap.get?_push_of_some _ (Heap.get?_push_of_some _ (Heap.get?_push_of_some _ (Heap.get?_push_size _ rfl)))
  have gA : (zmE s.heap l1 l2).get? s.heap.objs.size = some _ := Heap.get?_push_of_some _ (Heap.get?_push_of_some _ (Heap.get?_push_of_some _ (Heap.get?_push_of_some _ (Heap.get?_push_size _ rfl))))
  rw [zmD_sz] at gE; rw [zmC_sz] at gD; rw [zmB_sz] at gC; rw [zmA_sz] at gB
  show _ ∧ _
  exact ⟨⟨_, gE, rfl⟩, h _ gE gC gD ⟨_, gA, rfl, rfl⟩ ⟨_, gB, rfl, rfl⟩ fun c o e => Heap.get?_push_of_some _ (Heap.get?_push_of_some _ (Heap.get?_push_of_some _ (Heap.get?_push_of_some _ (Heap.get?_push_of_some _ e))))⟩
end
section
open PySem.Spec PyProof.Rows L2
/-- the tuple at a and the list at b as they stand at each turn, the items in new pairs -/
def ItzM (K : PySem.W.Frag) (a b : Addr) : It :=
  ⟨fun i H => ∃ (xs ys : List V) (x y : V), SqT K H a xs ∧ SqL K H b ys ∧ xs[i]? = some x ∧ ys[i]? = some y,
    fun i H v H' => ∃ N x y, v = .ref N ∧ H N = none ∧ H' = upd H N (.tup [x, y]) ∧ (∀ xs, SqT K H a xs → xs[i]? = some x) ∧ ∀ ys, SqL K H b ys → ys[i]? = some y,
    fun i H => ∃ xs ys : List V, SqT K H a xs ∧ SqL K H b ys ∧ (xs.length ≤ i ∨ ys.length ≤ i)⟩
theorem turn_zm {P : Program} {w : World} {K : PySem.W.Frag} {elts : List Expr} {kk : Nat} {tpos : Pos} {a b z TI TO i1 i2 : Addr} (D : ZipApart z TI TO i1 i2 a b) :
    Turn P w K (.Tuple elts kk tpos) (ItzM K a b) [z, TI, TO, i1, i2] z (fun i h => IsZip h z TI TO .none ∧ IsPair h TI (.ref i1) (.ref i2) ∧ (∃ x y, IsPair h TO x y) ∧ h.IsTupleIter i1 a i ∧ h.IsListIter i2 b i) where
  mem := by simp
  obj := fun i h st c hc => by
    obtain ⟨g1, g2, ⟨x, y, g3⟩, ⟨o1, e1, _, d1⟩, ⟨o2, e2, _, d2⟩⟩ := st
    simp only [List.mem_cons, List.not_mem_nil, or_false] at hc
    rcases hc with rfl | rfl | rfl | rfl | rfl
    · exact ⟨_, g1, fun v q => nomatch q⟩
    · exact ⟨_, g2, fun v q => nomatch q⟩
    · exact ⟨_, g3, fun v q => nomatch q⟩
    · exact ⟨o1, e1, fun v q => by rw [d1] at q; cases q⟩
    · exact ⟨o2, e2, fun v q => by rw [d2] at q; cases q⟩
  keep := fun i h h' st k => by
    obtain ⟨g1, g2, ⟨x, y, g3⟩, h1, h2⟩ := st
    exact ⟨k z (by simp) _ g1, k TI (by simp) _ g2, ⟨x, y, k TO (by simp) _ g3⟩, h1.at fun o q => k i1 (by simp) o q, h2.at fun o q => k i2 (by simp) o q⟩
  item := by
    intro X hP hw hK hc i pins s σ H E I hf st hg
    subst hP hw hK
    obtain ⟨g1, g2, ⟨x0, y0, g3⟩, h1, h2⟩ := st
    obtain ⟨xs, ys, x, y, hqx, hqy, hx, hy⟩ := hg
    obtain ⟨its, rv, p, _⟩ := I.tuple hqx
    obtain ⟨its2, rv2, p2, _⟩ := I.list hqy
    obtain ⟨u, hu, ru⟩ := rv.get hx
    obtain ⟨u2, hu2, ru2⟩ := rv2.get hy
    have zl : z < s.heap.objs.size := Heap.lt_size g1
    refine zsNext_item (k := i) (src_tup (xs := its.toArray) D.l1i1) (src_list (xs := its2.toArray) D.l2i2) D g1 g2 g3 ⟨h1, p⟩ ⟨h2, p2.isList⟩ (x := u) (y := u2) (by simpa using hu) (by simpa using hu2) fun m z' TO' f1 f2 hT hk => ?_
    refine ⟨_, rfl, wpAny_letOwnedTupleGo_zip (s := { s with heap := m }) z' fun m' z'' sb => ?_⟩
    have hT2 : m'.get? s.heap.objs.size = some { cls := .type "tuple", data := .seq #[u, u2] } := (sb.2 _ (Nat.ne_of_gt zl)).trans hT
    have new : ObjOk X.prog X.w (upd H s.heap.objs.size (.tup [x, y])) m' s.heap.objs.size (.tup [x, y]) := ⟨show 2 ≤ sizeLine by decide, [u, u2], .cons ru (.cons ru2 .nil), ⟨_, hT2, rfl, _, rfl⟩⟩
    have I1 : Inv X pins σ (upd H s.heap.objs.size (.tup [x, y])) { s with heap := m' } :=
      I.turnedNew (t' := s.toks) (ch := [z, TI, TO, i1, i2]) (fun c o nb q => by
        simp only [List.mem_cons, List.not_mem_nil, or_false, not_or] at nb
        exact (sb.2 c nb.1).trans (hk c o nb.1 nb.2.2.1 nb.2.2.2.1 nb.2.2.2.2 q)) hf (Nat.le_refl _) new
    refine ⟨.ref s.heap.objs.size, _, I1, rfl, ⟨_, x, y, rfl, I.hok.fresh (Nat.le_refl _), rfl, fun l hl => by rw [I.tuple_inj hl hqx]; exact hx, fun l hl => by rw [I.list_inj hl hqy]; exact hy⟩, ⟨z'', ?_, ⟨u, u2, ?_⟩, ?_, ?_⟩, fun c hcm => ?_⟩
    · exact (sb.2 _ D.TIz).trans (hk _ _ D.TIz D.TITO D.TIi1 D.TIi2 g2)
    · exact (sb.2 _ D.TOz).trans TO'
    · exact f1.1.at fun o q => (sb.2 _ D.i1z).trans q
    · exact f2.1.at fun o q => (sb.2 _ D.i2z).trans q
    · have lt : c < s.heap.objs.size := by
        simp only [List.mem_cons, List.not_mem_nil, or_false] at hcm
        rcases hcm with rfl | rfl | rfl | rfl | rfl
        · exact zl
        · exact Heap.lt_size g2
        · exact Heap.lt_size g3
        · obtain ⟨_, e1, _⟩ := h1; exact Heap.lt_size e1
        · obtain ⟨_, e2, _⟩ := h2; exact Heap.lt_size e2
      rw [upd_ne (Nat.ne_of_lt lt)]
      exact (hf c hcm).1
  done := by
    intro X hP hw hK hc i pins s σ H E I hf st hg
    subst hP hw hK
    obtain ⟨g1, g2, ⟨x0, y0, g3⟩, h1, h2⟩ := st
    obtain ⟨xs, ys, hqx, hqy, hend⟩ := hg
    obtain ⟨its, rv, p, _⟩ := I.tuple hqx
    obtain ⟨its2, rv2, p2, _⟩ := I.list hqy
    have n1 := rv.length
    have n2 := rv2.length
    have fin : its.toArray[i]? = none ∨ its2.toArray[i]? = none := by
      rcases hend with q | q
      · exact .inl (by simp; omega)
      · exact .inr (by simp; omega)
    exact zsNext_stop (k := i) (I.ok.hd hc) (src_tup (xs := its.toArray) D.l1i1) (src_list (xs := its2.toArray) D.l2i2) D g1 g2 g3 ⟨h1, p⟩ ⟨h2, p2.isList⟩ fin fun m hk => ⟨rfl, I.turnedL (t' := s.toks) (ch := [z, TI, TO, i1, i2]) (fun c o nb q => by
      simp only [List.mem_cons, List.not_mem_nil, or_false, not_or] at nb
      exact hk c o nb.1 nb.2.2.1 nb.2.2.2.1 nb.2.2.2.2 q) hf⟩
  self := fun A i s Q E st h => wpAny_pyIter_zip st.1 h
/-- zip of two lists, of two tuples, of a tuple and a list -/
def iZipB (K : PySem.W.Frag) (ta : TA) : TI := fun σ H R => ta σ H fun vs H1 => ∃ a b xs ys, vs = [.ref a, .ref b] ∧ ((SqL K H1 a xs ∧ SqL K H1 b ys ∧ R (Itz K a b) H1) ∨ (SqT K H1 a xs ∧ SqT K H1 b ys ∧ R (ItzT K a b) H1) ∨ (SqT K H1 a xs ∧ SqL K H1 b ys ∧ R (ItzM K a b) H1))
theorem pi_zipB {X : Cx} {e e2 : Expr} {ta : TA} {p pos tpos : Pos} {elts : List Expr} {kk : Nat} (hg : Gl X "zip") (hm : X.mg "zip" = none) (ha : PA X [e, e2] ta)
    (hs : starEach [e, e2] X.env = (false, eval e X.env) :: starEach [e2] X.env := by rfl) (hpl : (backTo pos (starEach [e2] X.env)).any (·.1) = false := by rfl) :
    PI X (.Tuple elts kk tpos) (.Call (.Name "zip" p) [e, e2] [] pos) (iZipB X.K ta) := by
  refine ⟨fun pins s σ H R I h => Call_ (ld_blt I hg hm PyProof.Rows.boot_zip (PyProof.Rows.callWith_type1 (thn (ha.run pos pins s σ H _ I h) fun us s1 ⟨vs, H1, I1, r1, a, b, xs, ys, ex, q1⟩ => ?_) hs hpl))⟩
  subst ex
  obtain ⟨u, us', rfl, ra, r2⟩ : ∃ u us', us = u :: us' ∧ RelV (.ref a) u ∧ Vals [.ref b] us' := by cases r1 with | cons r rr => exact ⟨_, _, rfl, r, rr⟩
  obtain ⟨u2, rfl, rb⟩ := vals1 r2
  cases ra
  cases rb
  have fr : ∀ c, c ∈ [s1.heap.objs.size + 4, s1.heap.objs.size + 2, s1.heap.objs.size + 3, s1.heap.objs.size, s1.heap.objs.size + 1] → FpOk X pins H1 c := fun c hc => by
    have le : s1.heap.objs.size ≤ c := by simp only [List.mem_cons, List.not_mem_nil, or_false] at hc; omega
    exact I1.fpOk le (I1.hok.fresh le)
  rcases q1 with ⟨qx, qy, q⟩ | ⟨qx, qy, q⟩ | ⟨qx, qy, q⟩
  · obtain ⟨its, _, p1, _⟩ := I1.list qx
    obtain ⟨its2, _, p2, _⟩ := I1.list qy
    exact call_zip_2 p1.isList p2.isList fun m g1 g2 g3 h1 h2 _ hk => wpAny_pyIter_zip g1 ⟨_, _, _, _, H1, rfl, I1.kept (t' := s1.toks) hk, turn_zip (PySem.W.ktu_apart s1.heap.objs.size a b p1.lt p2.lt), ⟨g1, g2, ⟨_, _, g3⟩, h1, h2⟩, fr, q⟩
  · obtain ⟨its, _, p1, _⟩ := I1.tuple qx
    obtain ⟨its2, _, p2, _⟩ := I1.tuple qy
    obtain ⟨_, f1, _⟩ := id p1
    obtain ⟨_, f2, _⟩ := id p2
    exact call_zipT (show s1.heap.IsTuple a its.toArray from p1) (show s1.heap.IsTuple b its2.toArray from p2) fun m g1 g2 g3 h1 h2 _ hk => wpAny_pyIter_zip g1 ⟨_, _, _, _, H1, rfl, I1.kept (t' := s1.toks) hk, turn_zipT (PySem.W.ktu_apart s1.heap.objs.size a b (Heap.lt_size f1) (Heap.lt_size f2)), ⟨g1, g2, ⟨_, _, g3⟩, h1, h2⟩, fr, q⟩
  · obtain ⟨its, _, p1, _⟩ := I1.tuple qx
    obtain ⟨its2, _, p2, _⟩ := I1.list qy
    obtain ⟨_, f1, _⟩ := id p1
    exact call_zm (show s1.heap.IsTuple a its.toArray from p1) p2.isList fun m g1 g2 g3 h1 h2 hk => wpAny_pyIter_zip g1 ⟨_, _, _, _, H1, rfl, I1.kept (t' := s1.toks) hk, turn_zm (PySem.W.ktu_apart s1.heap.objs.size a b (Heap.lt_size f1) p2.lt), ⟨g1, g2, ⟨_, _, g3⟩, h1, h2⟩, fr, q⟩
end
end RZ
namespace G
open PySem PySem.Spec PyProof.Rows L2
variable {B : Bd} {X : Cx} {W : WX} {a b c e : Expr} {ta : WA} {pos : Pos}
/-- zip of two lists, of two tuples, of a tuple and a list -/
def wiZipA (ta : WA) : WI := fun env st Q R => ta env st (fun ds st1 => match ds with
  | [.lst xs, .lst ys] => Q (zipD xs ys) st1
  | [.tup xs, .tup ys] => Q (zipD xs ys) st1
  | [.tup xs, .lst ys] => Q (zipD xs ys) st1
  | [.tup xs, .wtp ys] => Q (zipD xs ys) st1
  | _ => False) R
theorem itrep_zipM (ck : ConOk B.C) (hK : X.K = B.C.K) {σ : L2.St} {g : Gh} {p q : Addr} {xs ys : List V} {ds es : List D} (hp : SqU B.C.K g.P p xs) (r : Reps B.C g ds xs) (hq : SqL B.C.K g.P q ys) (r2 : Reps B.C g es ys) : ItRep B σ (RZ.ItzM X.K p q) g (zipD ds es) := by
  intro g' env st σ' H l bo
  have hs : SqT X.K H p xs := by rw [hK]; exact (Same.sqU bo.ok.p (Same.sqU l.p hp)).t
  have ht : SqL X.K H q ys := by rw [hK]; exact Same.sqL bo.ok.p (Same.sqL l.p hq)
  refine ⟨fun i d hd => ?_, ⟨xs, ys, hs, ht, by simp only [zipD, List.length_zipWith, r.length, r2.length]; omega⟩⟩
  obtain ⟨x, y, h1, h2, rfl⟩ := zipD_get hd
  obtain ⟨v, k1, k2⟩ := r.get h1
  obtain ⟨w, m1, m2⟩ := r2.get h2
  refine ⟨⟨xs, ys, v, w, hs, ht, k1, m1⟩, fun z H' ⟨T, x', y', e1, e2, e3, e4, e5⟩ => ?_⟩
  have hx := e4 xs hs
  have hy := e5 ys ht
  rw [k1] at hx; cases hx
  rw [m1] at hy; cases hy
  subst e1 e3
  have l2 := bo.ok.nx_new (o := .tup [v, w]) e2
  refine ⟨_, l2, bo.new ck e2 (fun ps z => by cases z) (bo.cellNe e2), ?_⟩
  unfold Rep
  exact ⟨T, _, rfl, upd_same, reps2 ((k2.mono l).mono l2.le) ((m2.mono l).mono l2.le)⟩
theorem gi_zipA (j : J B X W) {p tpos : Pos} {elts : List Expr} {kk : Nat} (hg : Gl X "zip") (hm : X.mg "zip" = none) (h : PAg B X W [a, b] ta) (hs : starEach [a, b] X.env = (false, eval a X.env) :: starEach [b] X.env := by rfl) (hpl : (backTo pos (starEach [b] X.env)).any (·.1) = false := by rfl) :
    PIg B X W (.Tuple elts kk tpos) (.Call (.Name "zip" p) [a, b] [] pos) (wiZipA ta) :=
  ⟨⟨_, RZ.pi_zipB hg hm h.pa hs hpl, fun σ H g env st Q R Rr bo rw hw k => ⟨g, env, st, _, R, bo, rw, hw, fun xs H1 ⟨ds, st1, g1, l1, b1, r1, h1⟩ => by
    dsimp only at h1 ⊢
    split at h1
    · obtain ⟨v, q, rfl, ra, rb⟩ := r1.cons_inv
      obtain ⟨v2, q2, rfl, rc, rd⟩ := rb.cons_inv
      unfold Reps at rd
      subst rd
      obtain ⟨p1, x1, rfl, hx, r⟩ := ra.lstV
      obtain ⟨p2, x2, rfl, hy, r2⟩ := rc.lstV
      exact ⟨p1, p2, x1, x2, rfl, .inl ⟨SqL.of (b1.ok.p _ _ hx), SqL.of (b1.ok.p _ _ hy), k _ _ ⟨_, st1, g1, l1, b1, itrep_zipL j.ck j.hK (SqL.of hx) r (SqL.of hy) r2, h1⟩⟩⟩
    · obtain ⟨v, q, rfl, ra, rb⟩ := r1.cons_inv
      obtain ⟨v2, q2, rfl, rc, rd⟩ := rb.cons_inv
      unfold Reps at rd
      subst rd
      obtain ⟨p1, x1, rfl, hx, r⟩ := ra.tupV
      obtain ⟨p2, x2, rfl, hy, r2⟩ := rc.tupV
      exact ⟨p1, p2, x1, x2, rfl, .inr (.inl ⟨by rw [j.hK]; exact (Same.sqU b1.ok.p hx).t, by rw [j.hK]; exact (Same.sqU b1.ok.p hy).t, k _ _ ⟨_, st1, g1, l1, b1, itrep_zipT j.ck j.hK hx r hy r2, h1⟩⟩)⟩
    · obtain ⟨v, q, rfl, ra, rb⟩ := r1.cons_inv
      obtain ⟨v2, q2, rfl, rc, rd⟩ := rb.cons_inv
      unfold Reps at rd
      subst rd
      obtain ⟨p1, x1, rfl, hx, r⟩ := ra.tupV
      obtain ⟨p2, x2, rfl, hy, r2⟩ := rc.lstV
      exact ⟨p1, p2, x1, x2, rfl, .inr (.inr ⟨by rw [j.hK]; exact (Same.sqU b1.ok.p hx).t, SqL.of (b1.ok.p _ _ hy), k _ _ ⟨_, st1, g1, l1, b1, itrep_zipM j.ck j.hK hx r (SqL.of hy) r2, h1⟩⟩)⟩
    · obtain ⟨v, q, rfl, ra, rb⟩ := r1.cons_inv
      obtain ⟨v2, q2, rfl, rc, rd⟩ := rb.cons_inv
      unfold Reps at rd
      subst rd
      obtain ⟨p1, x1, rfl, hx, r⟩ := ra.tupV
      obtain ⟨p2, x2, rfl, hy, r2⟩ := rc.wtpV
      exact ⟨p1, p2, x1, x2, rfl, .inr (.inl ⟨by rw [j.hK]; exact (Same.sqU b1.ok.p hx).t, by rw [j.hK]; exact (Same.sqU b1.ok.p hy).t, k _ _ ⟨_, st1, g1, l1, b1, itrep_zipT j.ck j.hK hx r hy r2, h1⟩⟩)⟩
    · exact h1.elim⟩⟩⟩
end G
namespace G
open PySem PySem.Spec PyProof.Rows L2
variable {B : Bd} {X : Cx} {W : WX} {a b c e : Expr} {es : List Expr} {ta : WA} {pos : Pos}
/-- x, y = [..], n : the list is changed later -/
def wParO (i k : Nat) (ta : WA) (n : Int) : WS := fun env st D => ta env st (fun ds st1 => ds.length ≤ sizeLine ∧ D.nx ((env.set i (.own ds)).set k (.val (.int n))) st1) (xe D env)
end G
namespace G
section
open PySem PySem.Spec PyProof.Rows L2
variable {B : Bd} {X : Cx} {W : WX} {T : Nat → Option WF}
/-- two lists of instances, pair by pair equal by their own == -/
def ownAll (T : Nat → Option WF) (st : Store) : List D → List D → Prop
  | [], ys => ys = []
  | x :: xs, ys => match x, ys with
    | .ob c fs, .ob c' gs :: ys => (c = c' ∧ ownEq T false c fs gs st (fun r st1 => r = .bl true ∧ st1 = st) (fun _ _ => False)) ∧ ownAll T st xs ys
    | _, _ => False
def oEqL (T : Nat → Option WF) : O2 := fun d1 d2 st Q R => match d1, d2 with
  | .lst xs, .lst ys => ownAll T st xs ys ∧ Q (.bl true) st
  | d1, d2 => oEqO T d1 d2 st Q R
def oNeL (T : Nat → Option WF) : O2 := fun d1 d2 st Q R => match d1, d2 with
  | .lst xs, .lst ys => ownAll T st xs ys ∧ Q (.bl false) st
  | d1, d2 => oNeO T d1 d2 st Q R
end
end G
namespace G
open PySem PySem.Spec PyProof.Rows L2 NdefX
/-- the statements of such an __init__ -/
def supBody (x f t : Str) (T : Str) (p : Nat → Pos) (j : Nat) : List Stmt :=
  [.Expr (.Call (.Attribute (.Call (.Name "super" (p 0)) [] [] (p 1)) "__init__" (p 2)) [.Name x (p 3)] [] (p 4)) (p 5),
   .Assign [.Attribute (.Name "self" (p 6)) f (p 7)] (.Name x (p 8)) (p 9),
   .Assign [.Attribute (.Name "self" (p 10)) t (p 11)] (.Constant (.str T) j (p 12)) (p 13)]
/-- what the written part says of it -/
structure SupK (P : Program) (K : PySem.W.Frag) (C fI cc : Addr) (fn : NF) (x : Str) : Prop where
  oex : OexC K C
  lk : ∃ oc od doc pm ctv osl, K.lookup fI = some ⟨oc, od, .func (fn.fd doc pm ctv), osl⟩
  cd : PySem.W.codeIn K (.ref fn.c) fn.qual = true
  code : ∃ ccl cdd vs ccs file tf, K.lookup fn.c = some ⟨ccl, cdd, .fields vs, ccs⟩ ∧ vs[2]? = some (.str file tf) ∧ ((P.main.file : Str) == file) = true
  cell : ∃ cl cld csl, K.lookup cc = some ⟨cl, cld, .cell (some (.ref C)), csl⟩
  cl : fn.cl = [(("__class__" : Str), cc)]
  cls : ∃ cd, PySem.W.clsIn K C = some cd ∧ PySem.W.alongIn K "__init__" ((cd.mro.dropWhile (· != .ref C)).drop 1) = some (some (.builtin "ValueError.__init__"))
  sub : PySem.W.mroIn K C (.ref C) = some true
  ve : PySem.W.subIn K (.ref C) (.type "ValueError") = some true
  any : PySem.W.nsIn K cStatics "thirdparty.any" = some none
  top : (P.main.scope.names.lookup ("super" : Str)).isSome = false
  par : ∃ ar, (fn.params.posonlyargs ++ fn.params.args).head? = some ar ∧ ar.arg = ("self" : Str)
  sc : NScope [("self" : Str), x, "__class__"] ["self", x] ["__class__"] fn.scope
  su : fn.scope.names.lookup ("super" : Str) = some .globalImplicit
section
variable {P : Program} {w : World} {A : Around} {E : Value → Shared → Prop} {hp : Heap} {gn : Array GenState} {dr : Drawn} {tk : Nat} {os : OsState}
variable {nm q : Str} {C N : Addr} {bs bm : List Value} {hd : Bool} {sn : List Str} {sb : List Value} {ab : Bool} {col : Option Bool} {dd : Option Addr} {j0 j1 j2 j3 j5 : Option Value}
/-- ValueError.__init__, bound to the object, called -/
theorem bound_call {mw a t0 : Addr} {us : List Value} {Q : Value → Shared → Prop} (atC : hp.get? C = some (excClassObj nm q C N bs bm hd sn sb ab col dd j0 j1 j2 j3 j5 "ValueError.__new__")) (atA : hp.get? a = some (HandSPX.excO C t0))
    (atM : hp.get? mw = some (PySem.W.kxs_mw "ValueError.__init__" a)) (len : us.length ≤ sizeLine) (k : ∀ hp' t1, (∀ b o, b ≠ a → hp.get? b = some o → hp'.get? b = some o) → hp'.get? a = some (HandSPX.excO C t1) → Q .none ⟨hp', gn, dr, tk, os⟩) :
    wpAny (model P w) A (call (.ref mw) us) Q E ⟨hp, gn, dr, tk, os⟩ := by
  have FB := F.excBase_ValueError
  refine wpAny_call (codeAny_of_tree (show wpAny _ A.in1 (callAny (.ref mw) ⟨us, []⟩) _ _ _ from ?_))
  simp only [callAny]
  refine wpAny_bind (wpAny_load atM ?_)
  simp only [PySem.W.kxs_mw, show (Value.type "method-wrapper" == .type "method" || Value.type "method-wrapper" == .type "builtin_function_or_method" || Value.type "method-wrapper" == .type "method-wrapper") = true by decide, if_true]
  refine PySem.W.KFB.if_so (by decide) (wpAny_bind (PySem.W.check_bound_init FB.toExcCallFacts atC atA rfl (wpAny_bind (wpAny_pure (wpAny_pure ⟨Code.quiet_builtin _ (by decide +kernel), codeAny_builtin FB.initEntry ?_⟩)))))
  rw [Around.under_plainId FB.init.plain _]
  wp_walk
  refine k _ hp.objs.size (fun b o ne e => (Heap.get?_update_other _ _ (Ne.symm ne)).trans (Heap.get?_push_of_some _ e)) ((Heap.get?_update_self _ (Heap.get?_push_of_some _ atA) rfl).trans rfl)
/-- the wrapper's call with its arguments -/
theorem mw_call {M : Model} {s : Shared} {mw a : Addr} {env : Env} {e : Expr} {pos : Pos} {Q : Value → Shared → Prop} (h : wpAny M A (spliced (backTo pos (starEach [e] env))) (fun vs s1 => s1.heap.get? mw = some (PySem.W.kxs_mw "ValueError.__init__" a) ∧ wpAny M A (call (.ref mw) vs) Q E s1) E s)
    (he : starEach [e] env = (false, eval e env) :: starEach [] env := by rfl) : wpAny M A (callWith pos (.ref mw) [] (backTo pos (starEach [e] env)) []) Q E s := by
  rw [he] at h ⊢
  exact PySem.W.kxs_callWith (i := "ValueError.__init__") (x := a) rfl (PySem.Calls.evalArgs_plain h)
end
/-- the call is laid out as a method's call (a look at its places) -/
def Plain (p0 p1 p2 p3 p4 : Pos) (x : Str) : Prop := ∀ env : Env, eval (.Call (.Attribute (.Call (.Name "super" p0) [] [] p1) "__init__" p2) [.Name x p3] [] p4) env = (do
  let ov ← attributeBase (.Call (.Name "super" p0) [] [] p1) "__init__" env (eval (.Call (.Name "super" p0) [] [] p1) env)
  standAt p2.atName
  let (f, first) ← holding [ov] (getMethod ov "__init__" (do return (← importBound (.Call (.Name "super" p0) [] [] p1) env).getD true))
  callWith p4 f first (backTo p4 (starEach [.Name x p3] env)) [])
section
variable {P : Program} {w : World} {K : PySem.W.Frag} {mg : Str → Option Value} {base : Heap} {CX : CXT}
/-- super().__init__(x) done, in the body's own frame -/
theorem sup_first {N : List Str} {fn : NF} {fI C cc a : Addr} {A : Around} {outer : List Env} {s s1 : Shared} {H : Hp} {E : XK} {σ : L2.St} {x : Str} {p0 p1 p2 p3 p4 p5 : Pos} {v : V} {Q : Flow → Shared → Prop}
    (S : SupK P K C fI cc fn x) (I : Inv (ncx CX P w K mg base N fn fI A outer s H E) [] σ H s1) (ea : H a = some (exo a C none)) (msup : mg "super" = none)
    (i0 : N[0]? = some ("self" : Str)) (i1 : N[1]? = some x) (v0 : σ[0]? = some (some (.ref a))) (v1 : σ[1]? = some (some v)) (xd : (x == ("__debug__" : Str)) = false) (xc : (x == ("__classdict__" : Str)) = false)
    (k : ∀ s2, Inv (ncx CX P w K mg base N fn fI A outer s H E) [] σ H s2 → Q .next s2) (he : Plain p0 p1 p2 p3 p4 x) :
    PySem.wpAt (model P w) (A.deeper (envF fn fI s.heap.objs.size)) (.func fn.body (envF fn fI s.heap.objs.size))
      (exec (.Expr (.Call (.Attribute (.Call (.Name "super" p0) [] [] p1) "__init__" p2) [.Name x p3] [] p4) p5) (envF fn fI s.heap.objs.size)) Q (ncx CX P w K mg base N fn fI A outer s H E).xe s1 := by
  obtain ⟨oc, od, doc, pm, ctv, osl, lk⟩ := S.lk
  obtain ⟨ccl, cdd, vs, ccs, file, tf, lc, hvs, hfile⟩ := S.code
  obtain ⟨cl, cld, csl, lcell⟩ := S.cell
  obtain ⟨cd, hcd, halong⟩ := S.cls
  obtain ⟨ar, hpar, hself⟩ := S.par
  have kself : fn.scope.names.lookup ("self" : Str) = some .local := S.sc.par _ (by simp)
  have kx : fn.scope.names.lookup x = some .local := S.sc.par _ (by simp)
  have kcls : fn.scope.names.lookup ("__class__" : Str) = some .free := S.sc.frk _ (by simp)
  have X := I.kIn
  refine PySem.ks_wpAt_Expr_any ?_ (by simp [interactive, envF, PySem.W.envX, S.sc.kind])
  refine PySem.ks_wpAt_MethodCall ?_ (he _)
  refine PySem.ks_wpAt_super_base (f := fI) (cc := fn.c) (fd := fn.fd doc pm ctv) S.su kcls rfl rfl (X _ _ lk) rfl hpar rfl (X _ _ lc) rfl hvs hfile S.top ?_
  obtain ⟨mb, hb1, hb2⟩ := I.mod.blt
  refine PySem.W.ks_loadName_global S.sc.kind S.su (Calls.loadGlobal_builtin (I.mod.glob.keeps I.bk) msup (hb1.keeps I.bk) ((hb2 _ (by decide)).trans PyProof.Rows.Boot.«super») ⟨rfl, ?_⟩)
  refine wpAny_loadName_free S.sc.kind kcls (by show fn.cl.lookup _ = _; rw [S.cl]; rfl) ⟨_, X _ _ lcell, rfl⟩ ?_
  obtain ⟨m, hn, hl⟩ := id I.loc
  obtain ⟨u, ru, hu⟩ := hl 0 _ _ i0 v0 (.inl kself)
  obtain rfl : u = Value.ref a := ru
  have mself : m ar.arg = some (.ref a) := by
    rw [hself]
    rcases hu with ⟨_, z⟩ | ⟨z, _⟩
    · exact z
    · rcases z with z | z <;> (rw [show fn.scope.names.lookup ("self" : Str) = _ from z] at kself; cases kself)
  refine wpAny_loadName_local S.sc.kind (by show fn.scope.names.lookup ar.arg = _; rw [hself]; exact kself) hn mself ?_
  obtain ⟨nm, q, N', bs, bm, sn, sb, ab, col, dd, j0, j1, j2, j3, j5, hC, hbm⟩ := S.oex.cls
  have atC := X _ _ hC
  obtain ⟨t0, atA⟩ := exo_at I.hok ea
  refine PySem.ks_wpAny_isType_cls atC rfl ⟨rfl, ?_⟩
  obtain ⟨hp, gn, dr, tk, os⟩ := s1
  refine PySem.ks_wpAny_call_super atC rfl atA rfl (fun c z => by cases z) (PySem.W.looks_mroIn X S.sub) (fun h1 e1 k1 => ?_)
  have IA : PySem.W.InstAt h1 a { cls := .ref C, dict := none, data := .fields #[.ref t0, .none, .none, .none, .bool false, .none] } C none := ⟨k1 _ _ atA, rfl, rfl, trivial⟩
  have X1 : K.In h1 := X.keeps k1
  refine PySem.W.kxs_getMethod PySem.W.kxs_ValueError e1 (PySem.W.looks_opaque X1 S.any) (l₀ := cd.mro) (fun A Q E s k q => wpAny_bind ((PySem.W.looks_clsIn X1 hcd) A _ E s k (wpAny_pure q))) rfl X1 halong (IA.type.andThen (PySem.W.looks_subIn X1 S.ve)) (PySem.W.ks_ne X1 IA hcd) rfl ?_
  have k2 : ∀ b o, hp.get? b = some o → (h1.push (PySem.W.kxs_mw "ValueError.__init__" a)).get? b = some o := fun b o e => Heap.get?_push_of_some _ (k1 b o e)
  have J := I.kept (t' := tk + 1) k2
  have mwN : H h1.objs.size = none := (I.kept (t' := tk) k1).hok.fresh (Nat.le_refl _)
  have Jp : Inv (ncx CX P w K mg base N fn fI A outer s H E) [(h1.objs.size, PySem.W.kxs_mw "ValueError.__init__" a)] σ H ⟨h1.push (PySem.W.kxs_mw "ValueError.__init__" a), gn, dr, tk + 1, os⟩ := J.pins_of fun p hp => by
    obtain rfl : p = (h1.objs.size, PySem.W.kxs_mw "ValueError.__init__" a) := List.mem_singleton.mp hp
    exact ⟨Heap.get?_push_at rfl rfl, mwN, fun z => Nat.lt_irrefl _ (Nat.lt_of_lt_of_eq (I.kept (t' := tk) k1).lt z), (I.kept (t' := tk) k1).nofs (Nat.le_refl _), fun v z => by cases z⟩
  have ha : PA (ncx CX P w K mg base N fn fI A outer s H E) [.Name x p3] _ := pa_cons (pe_var (pos := p3) i1 (.inl kx) xd xc) pa_nil
  refine mw_call (a := a) (thn (ha.run p4 _ _ σ H (fun vs H1 => vs = [v] ∧ H1 = H) Jp ⟨v, v1, rfl, rfl⟩) fun us s3 ⟨ws, H1, I1, r1, q1⟩ => ?_)
  obtain ⟨ew, eH⟩ := q1
  rw [eH] at I1
  rw [ew] at r1
  have atM := (I1.pin _ (List.mem_append_right _ (List.mem_singleton.mpr rfl))).1
  refine ⟨atM, ?_⟩
  obtain ⟨t3, atA3⟩ := exo_at I1.hok ea
  have atC3 := I1.kIn _ _ hC
  have len : us.length ≤ sizeLine := by rw [← Paired.length r1, sizeLine_eq]; simp
  obtain ⟨hp3, gn3, dr3, tk3, os3⟩ := s3
  refine bound_call atC3 atA3 atM len fun hp4 t4 k4 e4 => ?_
  have J4 := I1.write (t' := tk3) (x := a) (e := a) (o := exo a C none) (by rw [ea]; exact True.intro) (.inl rfl) k4 ⟨_, e4⟩ (exo_ok e4)
  have same : upd H a (exo a C none) = H := by
    funext b
    by_cases hb : b = a
    · rw [hb, upd_same, ea]
    · rw [upd_ne hb]
  rw [same] at J4
  exact k _ (J4.pins_of fun p hp => absurd hp (by simp))
/-- what such an __init__ promises -/
def supSp (C : Addr) (f t : Str) (T : Str) : Sp := fun vs H Q _ => ∃ a v, vs = [.ref a, v] ∧ H a = some (exo a C none) ∧ ∀ dx, H dx = none → dx ≠ a → Q .non (upd (upd (upd H dx (exd dx [(f, v)])) a (exo a C (some dx))) dx (exd dx [(t, .str T), (f, v)]))
theorem sup_cells {s : Shared} {H : Hp} {A : Around} {outer : List Env} {C fI cc : Addr} {fn : NF} {x : Str} (S : SupK P K C fI cc fn x) (e0 : Env0 P w K mg base A outer s H) : CellsAt fn.cl [("__class__" : Str)] [none] s.heap H := by
  obtain ⟨cl, cld, csl, lcell⟩ := S.cell
  have b := e0.bs _ _ (e0.mod.kin _ _ lcell)
  have one : ∀ y c, fn.cl.lookup y = some c → y = ("__class__" : Str) ∧ c = cc := fun y c e => by
    rw [S.cl] at e
    by_cases hy : y = ("__class__" : Str)
    · subst hy
      simp [List.lookup] at e
      exact ⟨rfl, e.symm⟩
    · have : (y == ("__class__" : Str)) = false := by simpa using hy
      simp [List.lookup, this] at e
  refine ⟨rfl, fun y c e => ?_, fun y z c e1 e2 => (one y c e1).1.trans (one z c e2).1.symm, fun i y hi => ?_⟩
  · obtain ⟨_, rfl⟩ := one y c e
    exact ⟨b.2, _, _, b.1, rfl⟩
  · cases i with
    | zero =>
      obtain rfl : ("__class__" : Str) = y := by simpa using hi
      exact ⟨cc, by rw [S.cl]; rfl, fun v z => by simp at z⟩
    | succ i => simp at hi
theorem sup_fn {k : Nat} {C fI cc : Addr} {fn : NF} {x f t T : Str} {p : Nat → Pos} {j : Nat} (S : SupK P K C fI cc fn x) (hbody : fn.body = supBody x f t T p j) (msup : mg "super" = none) (nof : PySem.W.findIn K (.ref C) f = some none) (noT : PySem.W.findIn K (.ref C) t = some none)
    (he : Plain (p 0) (p 1) (p 2) (p 3) (p 4) x) (xd : (x == ("__debug__" : Str)) = false) (xc : (x == ("__classdict__" : Str)) = false) (tf : f ≠ t) :
    ∃ fd, (∃ oc od osl, K.lookup fI = some ⟨oc, od, .func fd, osl⟩) ∧ (∃ doc pm ctv, fd = fn.fd doc pm ctv) ∧ FnOk P w K mg base CX (k + 1) fI fd [("self" : Str), x] (supSp C f t T) := by
  obtain ⟨oc, od, doc, pm, ctv, osl, lk⟩ := id S.lk
  refine ⟨_, ⟨oc, od, osl, lk⟩, ⟨doc, pm, ctv, rfl⟩, fun vs H Q E ⟨a, v, e, _⟩ => by rw [e]; rfl, fun A outer s H args us vs Q E hr e0 hb r hs => ?_⟩
  obtain ⟨a, v, ev, ea, hq⟩ := hs
  subst ev
  have KX : K.In s.heap := e0.mod.kin.keeps fun b o e => (e0.bs b o e).1
  have lim : s.heap.NoLimit := e0.mod.nolimit.keeps fun b o e => (e0.bs b o e).1
  refine PySem.ks_codeAny_call_defAt (fd := fn.fd doc pm ctv) (body := fn.body) (binds := _) hr.depth (KX _ _ lk) rfl lim (PySem.W.codeRec_of KX S.cd) rfl hb S.sc.nocell (fun y hy => S.sc.par _ (List.of_mem_zip hy).1) (fun h1 hns kp => ?_) S.sc.co S.sc.gen S.sc.kind
  have J : Inv (ncx CX P w K mg base [("self" : Str), x, "__class__"] fn fI A outer s H E) [] (startF [("self" : Str), x, "__class__"] [.ref a, v] [none]) H { s with heap := h1, toks := s.toks + ([("self" : Str), x].zip us).length } := inv_startN S.sc hr.hd e0 rfl r (sup_cells S e0) hns kp
  have kself : fn.scope.names.lookup ("self" : Str) = some .local := S.sc.par _ (by simp)
  have kx : fn.scope.names.lookup x = some .local := S.sc.par _ (by simp)
  show PySem.wpAt _ _ (.func fn.body (envF fn fI s.heap.objs.size)) (execs fn.body (envF fn fI s.heap.objs.size)) _ _ _
  rw [show execs fn.body (envF fn fI s.heap.objs.size) = execs (supBody x f t T p j) (envF fn fI s.heap.objs.size) by rw [hbody]]
  refine PySem.ks_wpAt_execs_cons (sup_first S J ea msup rfl rfl rfl rfl xd xc (fun s2 J2 => ?_) he)
  have rest : PSs (ncx CX P w K mg base [("self" : Str), x, "__class__"] fn fI A outer s H E) [.Assign [.Attribute (.Name "self" (p 6)) f (p 7)] (.Name x (p 8)) (p 9), .Assign [.Attribute (.Name "self" (p 10)) t (p 11)] (.Constant (.str T) j (p 12)) (p 13)] _ :=
    pss_cons (ps_ost (pe_var (i := 0) rfl (.inl kself)) (pe_var (i := 1) rfl (.inl kx) xd xc)) (pss_one (ps_ost (pe_var (i := 0) rfl (.inl kself)) pe_str))
  refine PySem.wpAt_of_wpAny (wpAny_mono (rest.run [] s2 _ H { nx := fun _ H' => Q .non H', rt := Q } J2 ⟨v, rfl, .ref a, rfl, a, C, rfl, S.oex, nof, .inl ⟨ea, fun dx n ne => ⟨.ref a, rfl, a, C, rfl, S.oex, noT, .inr ⟨dx, [(f, v)], upd_same, by rw [upd_ne ne, upd_same], by simp, hq dx n ne⟩⟩⟩⟩) (fun fl s3 hs => ?_) fun _ _ z => z)
  cases fl with
  | ret u =>
    obtain ⟨z, σ', H', J', rv, q⟩ := hs
    exact ⟨z, H', J'.os, J'.bare, J'.base, J'.hok, rv, q⟩
  | next =>
    obtain ⟨σ', H', J', q⟩ := hs
    exact ⟨.non, H', J'.os, J'.bare, J'.base, J'.hok, rfl, q⟩
  | brk =>
    obtain ⟨_, _, _, q⟩ := hs
    exact q.elim
  | cont =>
    obtain ⟨_, _, _, q⟩ := hs
    exact q.elim
end
end G
namespace G
open PySem PySem.Spec PyProof.Rows L2
variable {B : Bd} {X : Cx} {W : WX} {e : Expr} {we : WE}
def wRaise (c f t : Nat) (T : Str) (wa : WE) : WS := fun env st D => wa env st (fun d st1 => D.ex ⟨c, [(t, .str T), (f, d)]⟩ env st1) (xe D env)
theorem del_back {H1 : Hp} {a dx : Addr} {o1 o2 o3 o4 o5 : HO} (ha : H1 a = none) (ne : dx ≠ a) : upd (del (upd (upd (upd (upd H1 a o1) dx o2) a o3) dx o4) a) dx o5 = upd H1 dx o5 := by
  funext b
  by_cases hd : b = dx
  · rw [hd, upd_same, upd_same]
  · rw [upd_ne hd, upd_ne hd]
    by_cases hb : b = a
    · rw [hb, del_same, ha]
    · rw [del_ne hb, upd_ne hd, upd_ne hb, upd_ne hd, upd_ne hb]
theorem gs_raise (j : J B X W) {c f t k : Nat} {T x pn : Str} {fI : Addr} {fd : FuncData} {p pos pos2 : Pos} (T1 : OexC X.K (B.C.ca c)) (iC : PySem.W.findIn X.K (.ref (B.C.ca c)) "__init__" = some (some (.ref fI))) (tI : PySem.W.typeIn X.K (.ref fI) = some (.type "function"))
    (F1 : FnOk X.prog X.w X.K X.mg X.base (L2.CX X.prog X.w) k fI fd [("self" : Str), pn] (supSp (B.C.ca c) (B.C.fn f) (B.C.fn t) T)) (hr : Room (k + 1) X.A) (hb : Binds X.K fd [("self" : Str), pn] []) (hg : Gl X x) (hm : X.mg x = some (.ref (B.C.ca c))) (ha : PEg B X W e we)
    (hdb : (x == ("__debug__" : Str)) = false := by decide) (he : starEach [e] X.env = (false, eval e X.env) :: starEach [] X.env := by rfl) (hpl : (backTo pos (starEach [] X.env)).any (·.1) = false := by rfl) :
    PSg B X W (.Raise (some (.Call (.Name x p) [e] [] pos)) none pos2) (wRaise c f t T we) :=
  PSg.of (ps_raise j.calm j.tk (pmk_oex (ds := []) (dvs := []) T1 iC tI F1 hr hb .nil (passes_call j.tk fun _ _ _ _ z => z.elim) hg hm (ga_cons ha ga_nil he).pa hdb he hpl)) fun σ H g env st D bo rw hq =>
    ⟨g, env, st, fun ds st1 => match ds with | [d] => D.ex ⟨c, [(t, .str T), (f, d)]⟩ env st1 | _ => False, _, bo, rw.at env σ, hq, fun vs H1 ⟨ds, st1, g1, l1, b1, r1, h1⟩ => by
      match ds, r1, h1 with
      | [d], r1, h1 =>
        obtain ⟨v, r, rfl, rv, r2⟩ := Reps.cons_inv r1
        obtain rfl : r = [] := by unfold Reps at r2; exact r2
        refine ⟨by simp, fun a n0 => ⟨a, v, rfl, upd_same, fun dx n ne => ⟨rfl, dx, [(B.C.fn t, .str T), (B.C.fn f, v)], by rw [upd_ne (Ne.symm ne), upd_same], upd_same, by rw [upd_ne ne] at n; exact n, ?_⟩⟩⟩
        rw [del_back n0 ne]
        rw [upd_ne ne] at n
        exact rw ⟨c, [(t, .str T), (f, d)]⟩ g1 env st1 σ _ _ _ (b1.grow j.ck fun b o hb => by rw [upd_ne (ne_of_none hb n)]; exact hb) ⟨rfl, dx, _, rfl, upd_same, by unfold RepF; exact ⟨_, _, rfl, rep_str, by unfold RepF; exact ⟨_, _, rfl, rv, by unfold RepF; rfl⟩⟩⟩ h1
      | [], _, h1 => exact h1.elim
      | _ :: _ :: _, _, h1 => exact h1.elim⟩
end G
namespace G
open PySem PySem.Spec PyProof.Rows L2
/-- a clause's test, in the suite's context: which of the classes it asks for -/
def TestTo (X : Cx) (t : Expr) (cs : List Value) : Prop :=
  ∀ (a : Addr) (pn : List (Addr × Obj)) (σ : L2.St) (H : Hp) (s : Shared) (cls : Value) (b : Bool) (Q : Bool → Shared → Prop) (E : Value → Shared → Prop), Inv (X.suite a pn) [] σ H s → PySem.W.Looks (model X.prog X.w) s.heap (typeOf (.ref a)) cls → PySem.W.exmAny X.K cls cs = some b →
    (∀ h', (∀ q o, s.heap.get? q = some o → h'.get? q = some o) → Q b { s with heap := h' }) → wpAny (model X.prog X.w) (X.A.mark (some (.ref a))) (eval t X.env) (fun c s1 => wpAny (model X.prog X.w) (X.A.mark (some (.ref a))) (excMatches (.ref a) c) Q E s1) E s
section
variable {X : Cx}
theorem name_in {x : Str} {c : Value} {np : Pos} (hc : Names X x c) {a : Addr} {pn : List (Addr × Obj)} {σ : L2.St} {H : Hp} {s : Shared} (I : Inv (X.suite a pn) [] σ H s) {Q : Value → Shared → Prop} {E : Value → Shared → Prop} (q : Q c s) : wpAny (model X.prog X.w) (X.A.mark (some (.ref a))) (eval (.Name x np) X.env) Q E s := by
  obtain ⟨hg, hd, hm | ⟨hm, hv, hn⟩⟩ := hc
  · exact ld_glob (X := X.suite a pn) I hg hm q hd
  · exact ld_blt (X := X.suite a pn) I hg hm hv q hn hd
theorem test_one {x : Str} {c : Value} {np : Pos} (hc : Names X x c) : TestTo X (.Name x np) [c] := fun a pn σ H s cls b Q E I LT hx q => by
  obtain ⟨b1, d1, e1, e2, e3⟩ := PySem.W.exmAny_cons hx
  obtain rfl : d1 = false := by
    have z : some false = some d1 := e2
    exact (Option.some.inj z).symm
  rw [Bool.or_false] at e3
  subst e3
  exact name_in hc I ((PySem.W.exm_one I.kIn LT e1).here (q s.heap fun _ _ z => z))
theorem test_two {x1 x2 : Str} {c1 c2 : Value} {p1 p2 pt : Pos} {k : Nat} (n1 : Names X x1 c1) (n2 : Names X x2 c2) : TestTo X (.Tuple [.Name x1 p1, .Name x2 p2] k pt) [c1, c2] := fun a pn σ H s cls b Q E I LT hx q => by
  refine wpAny_Tuple (wpAny_items_cons (name_in n1 I (wpAny_items_cons (name_in n2 I (wpAny_items_nil ⟨by size_fits, ?_⟩)))))
  have kp : ∀ q o, s.heap.get? q = some o → (s.heap.push { cls := .type "tuple", data := .seq [c1, c2].toArray }).get? q = some o := fun _ _ z => Heap.get?_push_of_some _ z
  exact (PySem.W.exm_tup2 (I.kIn.keeps kp) (LT.keeps kp) (Heap.get?_push_size s.heap rfl) hx).here (q _ kp)
theorem test_three {x1 x2 x3 : Str} {c1 c2 c3 : Value} {p1 p2 p3 pt : Pos} {k : Nat} (n1 : Names X x1 c1) (n2 : Names X x2 c2) (n3 : Names X x3 c3) : TestTo X (.Tuple [.Name x1 p1, .Name x2 p2, .Name x3 p3] k pt) [c1, c2, c3] := fun a pn σ H s cls b Q E I LT hx q => by
  refine wpAny_Tuple (wpAny_items_cons (name_in n1 I (wpAny_items_cons (name_in n2 I (wpAny_items_cons (name_in n3 I (wpAny_items_nil ⟨by size_fits, ?_⟩)))))))
  have kp : ∀ q o, s.heap.get? q = some o → (s.heap.push { cls := .type "tuple", data := .seq [c1, c2, c3].toArray }).get? q = some o := fun _ _ z => Heap.get?_push_of_some _ z
  exact (PySem.W.exm_tup3 (I.kIn.keeps kp) (LT.keeps kp) (Heap.get?_push_size s.heap rfl) hx).here (q _ kp)
theorem test_four {x1 x2 x3 x4 : Str} {c1 c2 c3 c4 : Value} {p1 p2 p3 p4 pt : Pos} {k : Nat} (n1 : Names X x1 c1) (n2 : Names X x2 c2) (n3 : Names X x3 c3) (n4 : Names X x4 c4) : TestTo X (.Tuple [.Name x1 p1, .Name x2 p2, .Name x3 p3, .Name x4 p4] k pt) [c1, c2, c3, c4] := fun a pn σ H s cls b Q E I LT hx q => by
  refine wpAny_Tuple (wpAny_items_cons (name_in n1 I (wpAny_items_cons (name_in n2 I (wpAny_items_cons (name_in n3 I (wpAny_items_cons (name_in n4 I (wpAny_items_nil ⟨by size_fits, ?_⟩)))))))))
  have kp : ∀ q o, s.heap.get? q = some o → (s.heap.push { cls := .type "tuple", data := .seq [c1, c2, c3, c4].toArray }).get? q = some o := fun _ _ z => Heap.get?_push_of_some _ z
  exact (PySem.W.exm_tup4 (I.kIn.keeps kp) (LT.keeps kp) (Heap.get?_push_size s.heap rfl) hx).here (q _ kp)
end
/-- all is kept: it flies on -/
theorem fly_keeps {B h h' : Heap} {l : List Env} {a : Addr} {Z : Obj → Prop} (f : HandSPX.FlyingZ B l a Z h) (k : ∀ b o, h.get? b = some o → h'.get? b = some o) : HandSPX.FlyingZ B l a Z h' := by
  obtain ⟨f1, f2, f3, oe, vs, T, oT, ts, he, hz, hd, h1, nT, ne, hT, dT, h3⟩ := f
  exact ⟨fun b o e => k b o (f1 b o e), f2, f3.of_keeps fun b o e _ => ⟨o, k b o e, rfl⟩, oe, vs, T, oT, ts, k _ _ he, hz, hd, h1, nT, ne, k _ _ hT, dT, h3⟩
abbrev Cla := List Value × (Addr → Value → Option Addr → L2.TS)
/-- what the clauses wish, one behind the other; slot i is the name's -/
def wTold (K : PySem.W.Frag) (i : Nat) (Wout : WX) (D : Ends) : List Cla → WX
  | [] => Wout
  | (cs, ts) :: r => fun cls d σ H => ∃ b, PySem.W.exmAny K cls cs = some b ∧ (b = true → ∀ a, H a = none → ts a cls d { nx := fun σ' H' => D.nx (σ'.set i none) H', rt := D.rt, bk := fun σ' H' => D.bk (σ'.set i none) H', ct := fun σ' H' => D.ct (σ'.set i none) H' } (σ.set i (some (.ref a))) H) ∧
      (b = false → wTold K i Wout D r cls d σ H)
inductive Clauses (X : Cx) (n : Str) : List ExceptHandler → List Cla → Prop
  | nil : Clauses X n [] []
  | cons {t : Expr} {cs : List Value} {ts : Addr → Value → Option Addr → L2.TS} {b0 : Stmt} {suite : List Stmt} {pos : Pos} {hds : List ExceptHandler} {l : List Cla} (ht : TestTo X t cs)
      (hsu : ∀ (a : Addr) (oe : Obj) (cls : Value) (d : Option Addr) (pn : List (Addr × Obj)), Zc cls d oe → (∃ vs, oe.data = .fields vs) → PSs (X.suite a ((a, oe) :: pn)) (b0 :: suite) (ts a cls d)) (r : Clauses X n hds l) : Clauses X n (.ExceptHandler (some t) (some n) (b0 :: suite) pos :: hds) ((cs, ts) :: l)
section
variable {X : Cx} {body : List Stmt} {h0 : ExceptHandler} {hds : List ExceptHandler} {l : List Cla} {n : Str} {i : Nat} {pos : Pos} {tb : WX → L2.TS} {Wout : WX}
theorem ps_told (hs : X.stack = X.env :: X.outer) (hf : X.env.frame = some X.env.locals) (hN : X.N.Nodup) (hi : X.N[i]? = some n) (hln : X.env.kindOf n = some .local) (tk : Takes X Wout)
    (hb : ∀ (W : WX) (pn : List (Addr × Obj)) (xe : Value → Shared → Prop), Takes (X.tr pn xe) W → PassesOwn (model X.prog X.w) X.A X.env xe → PSs (X.tr pn xe) body (tb W)) (hc : Clauses X n (h0 :: hds) l) :
    PS X (.Try body (h0 :: hds) [] [] pos) (fun D σ H => tb (wTold X.K i Wout D l) D σ H) := by
  refine ⟨fun pins s σ H D I h => ?_⟩
  have ok := I.ok
  have fr : X.A.frames = some (X.env :: X.outer) := by rw [ok.frames, hs]
  have lc : Loc X.env.scope n := .inl hln
  refine wpAny_Try_except (wpAny_mono ((hb (wTold X.K i Wout D l) (X.pn ++ pins) (fun e z1 => wpAny (model X.prog X.w) X.A (noteFrame e X.env) (fun _ z2 => wpAny (model X.prog X.w) X.A (setFlight e none) (fun _ z3 =>
    wpAny (model X.prog X.w) X.A (handleBy e X.env (h0 :: hds)) (SP X pins D) X.xe z3) X.xe z2) X.xe z1) (fun u s1 xx => ?_) PassesOwn.looking).run [] s σ H D (I.toTry _) h) (fun f s1 hsp => ?_) fun _ _ z => z)
  · obtain ⟨a, B, sI, pins', σ1, H1, cls, d, rfl, J', nb, up, sky, na, os, ag, w⟩ := xx
    have J : Inv X pins σ1 H1 sI := J'.ofTry ok
    have sky1 : Sky B (X.env :: X.outer) a (Zc cls d) X.env.locals s1.heap := by rw [← hs]; exact sky
    refine Sky.land Zc.steady fr hf sky1 fun h3 fl3 up3 => ?_
    obtain ⟨oe3, vs3, he3, hz3, hd3⟩ := fl3.there
    have notFr : ∀ {h : Heap} {o : Obj} {vs : Array Value}, h.FunFrames B (X.env :: X.outer) → h.get? a = some o → o.data = .fields vs → a ∉ frs (X.env :: X.outer) := fun {h o vs} ff e dd hm => by
      obtain ⟨_, o', e', no⟩ := ff.mem hm
      rw [e] at e'
      cases e'
      exact no _ dd
    have nfr := notFr fl3.2.2.1 he3 hd3
    have nL : a ≠ X.env.locals := fun z => nfr (List.mem_filterMap.mpr ⟨X.env, List.mem_cons_self, by rw [hf, z]⟩)
    have nF : a ∉ X.fs := fun hm => by
      obtain ⟨e, he, q⟩ := List.mem_filterMap.mp hm
      exact nfr (List.mem_filterMap.mpr ⟨e, List.mem_cons_of_mem _ he, q⟩)
    have go : ∀ {hds' : List ExceptHandler} {l' : List Cla}, Clauses X n hds' l' → ∀ (h3 : Heap), HandSPX.FlyingZ B (X.env :: X.outer) a (Zc cls d) h3 → s1.heap.UpToSlots h3 → wTold X.K i Wout D l' cls d σ1 H1 →
        wpAny (model X.prog X.w) X.A (handleBy (.ref a) X.env hds') (SP X pins D) X.xe { s1 with heap := h3 } := by
      intro hds' l' hk
      induction hk with
      | nil =>
        intro h3 fl3 up3 w
        refine wpAny_handleBy_nil ?_
        obtain ⟨k1, k2, k3, oe, vs, T, oT, ts', he, hz, hd, h1, hr⟩ := id fl3
        unfold PySem.passOn
        refine wpAny_bind (wpAny_field he hd h1 ?_)
        rw [if_neg (show ¬ ((Value.ref T == Value.none) = true) from by simp)]
        have fin : wpAny (model X.prog X.w) X.A (setFlight (.ref a) X.env.frame) (fun _ s4 => wpAny (model X.prog X.w) X.A (throw (.ref a) : Sem Flow) (SP X pins D) X.xe s4) X.xe { s1 with heap := h3 } := by
          rw [hf]
          refine HandSPX.setFlight_upZ fl3 fun h4 hh4 up4 => wpAny_throw (tk _ _ ?_)
          exact ⟨a, B, sI, pins, σ1, H1, cls, d, rfl, J, nb, (up.trans up3).trans up4, .inr (.inr (by rw [hs]; exact hh4)), na, os, ag, w⟩
        first
          | exact wpAny_bind (wpAny_pure (wpAny_bind fin))
          | exact wpAny_bind fin
      | @cons t cs ts b0 suite pos' hds2 l2 ht hsu r ih =>
        intro h3 fl3 up3 w
        obtain ⟨b, hb1, hyes, hno⟩ := w
        have J3 : Inv X pins σ1 H1 { s1 with heap := h3 } := J.landed nb fl3.1 (up.trans up3) os ag
        obtain ⟨oe3, vs3, he3, hz3, hd3⟩ := fl3.there
        refine wpAny_handleBy_cons (codeAny_handlers_test ?_) (by intro q; cases q)
        have LT : PySem.W.Looks (model X.prog X.w) h3 (typeOf (.ref a)) cls := fun A Q E s k q => wpAny_typeOf_ref (k _ _ he3) (by rw [hz3.1]; exact q)
        refine ht a _ σ1 H1 _ cls b _ _ (J3.suite he3 hd3 na nL nF) LT hb1 fun h5 k5 => ?_
        have fl5 := fly_keeps fl3 k5
        have up5 : s1.heap.UpToSlots h5 := up3.trans (Heap.UpToSlots.of_keeps k5)
        cases b with
        | true =>
          refine codeAny_handlers_suite_as (HandSPX.lands_againZ fl5 fun h4 fl4 up4 => ?_)
          have J4 : Inv X pins σ1 H1 { s1 with heap := h4 } := J.landed nb fl4.1 ((up.trans up5).trans up4) os ag
          obtain ⟨oe4, vs4, he4, hz4, hd4⟩ := fl4.there
          refine store_ok (X := X.suite a ((a, oe4) :: (X.pn ++ pins))) (v := .ref a) (J4.suite he4 hd4 na nL nF) hN hi lc rfl (fun s5 S5 => ?_) (.inr hln)
          refine wpAny_mono ((hsu a oe4 cls d (X.pn ++ pins) hz4 ⟨_, hd4⟩).run [] s5 _ H1 _ S5 (hyes rfl a na)) (fun f s6 hsp => ?_) (fun _ _ z => False.elim z)
          have ends : ∀ {σ6 : L2.St} {H6 : Hp} {Q : Shared → Prop}, Inv (X.suite a ((a, oe4) :: (X.pn ++ pins))) [] σ6 H6 s6 → (∀ s7, Inv X pins (σ6.set i none) H6 s7 → Q s7) →
              wpAny (model X.prog X.w) X.A (do bindName X.env n .none; unbindBehindTheSuite X.env n pos') (fun _ s7 => Q s7) X.xe s6 := fun {σ6 H6 Q} S6 hq => gone_ok (S6.unsuite ok) hN hi hln hq
          cases f with
          | next =>
            obtain ⟨σ6, H6, S6, q6⟩ := hsp
            exact ends S6 fun s7 J7 => ⟨_, _, J7, q6⟩
          | brk =>
            obtain ⟨σ6, H6, S6, q6⟩ := hsp
            exact ends S6 fun s7 J7 => ⟨_, _, J7, q6⟩
          | cont =>
            obtain ⟨σ6, H6, S6, q6⟩ := hsp
            exact ends S6 fun s7 J7 => ⟨_, _, J7, q6⟩
          | ret u =>
            obtain ⟨v6, σ6, H6, S6, r6, q6⟩ := hsp
            exact ends S6 fun s7 J7 => ⟨_, _, _, J7, r6, q6⟩
        | false => exact ih h5 fl5 up5 (hno rfl)
    exact go hc h3 fl3 up3 w
  · cases f with
    | next =>
      obtain ⟨σ1, H1, J1, q⟩ := hsp
      exact wpAny_execs_nil ⟨σ1, H1, J1.ofTry ok, q⟩
    | brk =>
      obtain ⟨σ1, H1, J1, q⟩ := hsp
      exact ⟨σ1, H1, J1.ofTry ok, q⟩
    | cont =>
      obtain ⟨σ1, H1, J1, q⟩ := hsp
      exact ⟨σ1, H1, J1.ofTry ok, q⟩
    | ret u =>
      obtain ⟨v, σ1, H1, J1, r, q⟩ := hsp
      exact ⟨v, σ1, H1, J1.ofTry ok, r, q⟩
end
end G
namespace G
open PySem PySem.Spec PyProof.Rows L2 LamX
/-- a clause: its classes, the field that it tells (none: None) -/
structure Told where
  cs : List Addr
  fld : Option Str
/-- what is known of a class that a clause names -/
structure ToldC (K : PySem.W.Frag) (tag : Str) (f : Option Str) (C : Addr) : Prop where
  xf : XfC K C
  tg : PySem.W.findIn K (.ref C) tag = some none
  fl : ∀ g, f = some g → PySem.W.findIn K (.ref C) g = some none
/-- the value that a clause gives -/
def tellV (f : Option Str) (fs : List (Str × V)) (v : V) : Prop := match f with | none => v = .non | some g => fs.lookup g = some v
/-- what the clauses make of an error -/
def told (K : PySem.W.Frag) (tag : Str) : List Told → Value → Option Addr → Hp → VK → Prop
  | [], _, _, _, _ => False
  | t :: r, cls, d, H, Q => ∃ b, PySem.W.exmAny K cls (t.cs.map Value.ref) = some b ∧
      (b = true → ∃ C dd fs g v, cls = .ref C ∧ ToldC K tag t.fld C ∧ d = some dd ∧ H dd = some (.xd fs) ∧ fs.lookup tag = some g ∧ tellV t.fld fs v ∧ ∀ p, H p = none → Q (.ref p) (upd H p (.tup [g, v]))) ∧ (b = false → told K tag r cls d H Q)
def TTref (K : PySem.W.Frag) (tag : Str) (l : List Told) : (XK → Hp → VK → Prop) → Hp → VK → Prop := fun tl H Q => ∀ p0, H p0 = none → tl (fun cls d H' => told K tag l cls d H' Q) (upd H p0 (.tup [.str "", .non])) (fun _ H' => Q (.ref p0) H')
def tellT (K : PySem.W.Frag) (i ie : Nat) (tag : Str) (f : Option Str) (a : Addr) (cls : Value) (d : Option Addr) : L2.TS := fun D σ H => σ[ie]? = some (some (V.ref a)) ∧ ∃ C dd fs g v, cls = .ref C ∧ ToldC K tag f C ∧ d = some dd ∧ H dd = some (.xd fs) ∧ fs.lookup tag = some g ∧ tellV f fs v ∧
  ∀ p, H p = none → D.nx (σ.set i (some (.ref p))) (upd H p (.tup [g, v]))
section
variable {X : Cx} {a : Addr} {oe : Obj} {cls : Value} {d : Option Addr} {pn : List (Addr × Obj)} {x e tag f : Str} {p0 p1 p2 p3 p4 p5 p6 : Pos} {k j i ie : Nat}
theorem suite_none (hz : Zc cls d oe) (hf : ∃ vs, oe.data = .fields vs) (hN : X.N.Nodup) (hi : X.N[i]? = some x) (he : X.N[ie]? = some e) (kx : X.env.scope.names.lookup x = some .local) (ke : X.env.scope.names.lookup e = some .local)
    (ed : (e == ("__debug__" : Str)) = false) (ec : (e == ("__classdict__" : Str)) = false) : PSs (X.suite a ((a, oe) :: pn)) [.Assign [.Name x p0] (.Tuple [.Attribute (.Name e p1) tag p2, .Constant .none j p3] k p5) p6] (tellT X.K i ie tag none a cls d) := by
  refine ⟨fun pins s σ H D I ⟨hσ, C, dd, fs, g, v, ec1, T, ed1, hdd, hg, hv, h⟩ => ?_⟩
  have one : PSs (X.suite a ((a, oe) :: pn)) [.Assign [.Name x p0] (.Tuple [.Attribute (.Name e p1) tag p2, .Constant .none j p3] k p5) p6] _ := pss_one (ps_set hN hi (.inl kx) (pe_tup (pa_cons (pe_xf T.xf T.tg hz hf (pe_var he (.inl ke) ed ec)) (pa_cons pe_non pa_nil))) (by rfl) (.inr kx))
  have hv : v = .non := hv
  subst hv
  exact one.run pins s σ H D I ⟨.ref a, hσ, rfl, ec1, dd, fs, g, ed1, hdd, hg, by simp [sizeLine_eq], h⟩
theorem suite_some (hz : Zc cls d oe) (hf : ∃ vs, oe.data = .fields vs) (hN : X.N.Nodup) (hi : X.N[i]? = some x) (he : X.N[ie]? = some e) (kx : X.env.scope.names.lookup x = some .local) (ke : X.env.scope.names.lookup e = some .local)
    (ed : (e == ("__debug__" : Str)) = false) (ec : (e == ("__classdict__" : Str)) = false) : PSs (X.suite a ((a, oe) :: pn)) [.Assign [.Name x p0] (.Tuple [.Attribute (.Name e p1) tag p2, .Attribute (.Name e p3) f p4] k p5) p6] (tellT X.K i ie tag (some f) a cls d) := by
  refine ⟨fun pins s σ H D I ⟨hσ, C, dd, fs, g, v, ec1, T, ed1, hdd, hg, hv, h⟩ => ?_⟩
  have one : PSs (X.suite a ((a, oe) :: pn)) [.Assign [.Name x p0] (.Tuple [.Attribute (.Name e p1) tag p2, .Attribute (.Name e p3) f p4] k p5) p6] _ := pss_one (ps_set hN hi (.inl kx) (pe_tup (pa_cons (pe_xf T.xf T.tg hz hf (pe_var he (.inl ke) ed ec)) (pa_cons (pe_xf T.xf (T.fl f rfl) hz hf (pe_var he (.inl ke) ed ec)) pa_nil))) (by rfl) (.inr kx))
  exact one.run pins s σ H D I ⟨.ref a, hσ, rfl, ec1, dd, fs, g, ed1, hdd, hg, .ref a, hσ, rfl, ec1, dd, fs, v, ed1, hdd, hv, by simp [sizeLine_eq], h⟩
end
/-- an error that leaves a state of the context: its slots are as many as its names -/
theorem takes_len {X : Cx} {W : WX} (tk : Takes X W) : Takes X (fun cls d σ H => σ.length = X.N.length → W cls d σ H) := fun u s' ⟨a, B, sI, pins, σ, H, cls, d, e, I, nb, up, sky, na, os, ag, w⟩ =>
  tk u s' ⟨a, B, sI, pins, σ, H, cls, d, e, I, nb, up, sky, na, os, ag, w I.len⟩
def claOf (K : PySem.W.Frag) (i ie : Nat) (tag : Str) (t : Told) : Cla := (t.cs.map Value.ref, fun a cls d => tellT K i ie tag t.fld a cls d)
theorem wTold_of {K : PySem.W.Frag} {i ie : Nat} {tag : Str} {Q : VK} {rt : VK} {bk ct : L2.St → Hp → Prop} {cls : Value} {d : Option Addr} {σ : L2.St} {H : Hp} (hi : i < σ.length) (hie : ie < σ.length) (hne : i ≠ ie) : ∀ {l : List Told}, told K tag l cls d H Q →
    wTold K ie (fun _ _ _ _ => False) { nx := fun σ' H' => ∃ v, σ'[i]? = some (some v) ∧ Q v H', rt := rt, bk := bk, ct := ct } (l.map (claOf K i ie tag)) cls d σ H
  | [], h => h
  | t :: r, h => by
    obtain ⟨b, h1, h2, h3⟩ := h
    refine ⟨b, h1, fun hb a ha => ?_, fun hb => wTold_of hi hie hne (h3 hb)⟩
    obtain ⟨C, dd, fs, g, v, e1, T, e2, hdd, hg, hv, hq⟩ := h2 hb
    refine ⟨by rw [List.getElem?_set_self hie], C, dd, fs, g, v, e1, T, e2, hdd, hg, hv, fun p hp => ⟨.ref p, ?_, hq p hp⟩⟩
    rw [List.getElem?_set_ne (Ne.symm hne), List.getElem?_set_self (by simpa using hi)]
section
variable {X : Cx} {Ng : List Str} {xn a x e q tag : Str} {sg : Scope} {g : Addr} {cdg : Value} {i ie : Nat} {l : List Told} {h0 : ExceptHandler} {hds : List ExceptHandler} {q0 q1 q2 q3 q4 q5 q6 q7 q8 p1 p2 : Pos} {j1 j2 k : Nat}
theorem refused_gives (i0 : Ng[0]? = some a) (hi : Ng[i]? = some x) (hie : Ng[ie]? = some e) (hne : i ≠ ie) (h0i : i ≠ 0) (nd : Ng.Nodup) (kx : sg.names.lookup x = some .local) (ke : sg.names.lookup e = some .local) (xd : (x == ("__debug__" : Str)) = false) (xc : (x == ("__classdict__" : Str)) = false)
    (hcl : ∀ (s : Shared) (H : Hp), Clauses (cxOf C8.CX0 X.prog X.w X.K X.mg X.base Ng xn sg g cdg X.A X.stack s H C8.E0).nox e (h0 :: hds) (l.map (claOf X.K i ie tag))) :
    GivesTo X Ng xn sg g cdg [.Assign [.Name x q0] (.Tuple [.Constant (.str "") j1 q1, .Constant .none j2 q2] k q3) q4, .Try [.Expr (.Call (.Name a p1) [] [] p2) q5] (h0 :: hds) [] [] q6, .Return (some (.Name x q7)) q8] a q (TTref X.K tag l) := by
  intro f c' s H Q tl act hc h
  have li := (List.getElem?_eq_some_iff.mp hi).1
  have lie := (List.getElem?_eq_some_iff.mp hie).1
  have l0 := (List.getElem?_eq_some_iff.mp i0).1
  refine ⟨_, pss_cons (ps_set (X := (cxOf C8.CX0 X.prog X.w X.K X.mg X.base Ng xn sg g cdg X.A X.stack s H C8.E0).nox) nd hi (.inl kx) (pe_tup (pa_cons pe_str (pa_cons pe_non pa_nil))) (by rfl) (.inr kx)) (pss_cons (ps_told (X := (cxOf C8.CX0 X.prog X.w X.K X.mg X.base Ng xn sg g cdg X.A X.stack s H C8.E0).nox) (n := e) (i := ie) (l := l.map (claOf X.K i ie tag)) (Wout := fun _ _ _ _ => False)
      (tb := fun W D σ H => ∃ Ech : XK, (∀ cls d σ' H', Ech cls d H' → σ'.length = Ng.length → W cls d σ' H') ∧ σ[0]? = some (some (.ref f)) ∧ H c' = some (CodeO c' q) ∧ tl Ech H (fun _ H' => D.nx σ H'))
      rfl rfl nd hie ke LamX.takes0 (fun W pn xe tk _ => ?_) (hcl s H)) (pss_one (ps_ret (pe_var hi (.inl kx) xd xc)))), ?_⟩
  · refine ⟨fun pins s' σ H' D I ⟨Ech, hW, h1, h2, h3⟩ => ?_⟩
    have hp := act _ pn xe Ech p1 p2 (takes_len tk) (fun cls d σ' H' z len => hW cls d σ' H' z len)
    exact (pss_one (ps_expr hp (by rfl))).run pins s' σ H' D I ⟨h1, h2, h3⟩
  · refine ⟨by simp [sizeLine_eq], fun p0 n0 => ?_⟩
    have sl : (L2.start Ng [V.ref f]).length = Ng.length := by
      unfold L2.start
      rw [List.length_append, List.length_map, List.length_replicate, List.length_singleton]
      omega
    have same : (fun (_ : V) (H' : Hp) => ∃ v, ((L2.start Ng [V.ref f]).set i (some (V.ref p0)))[i]? = some (some v) ∧ Q v H') = (fun (_ : V) (H' : Hp) => Q (.ref p0) H') := by
      funext _ H'
      refine propext ⟨fun ⟨v, e, z⟩ => ?_, fun z => ⟨.ref p0, by rw [List.getElem?_set_self (by omega)], z⟩⟩
      rw [List.getElem?_set_self (by omega)] at e
      rw [← Option.some.inj (Option.some.inj e)] at z
      exact z
    have hh := h p0 n0
    rw [← same] at hh
    refine ⟨fun cls d H' => told X.K tag l cls d H' Q, fun cls d σ' H' z len => wTold_of (by omega) (by omega) hne z, ?_, ?_, hh⟩
    · rw [List.getElem?_set_ne h0i]
      rfl
    · rw [upd_ne (ne_of_none hc n0)]
      exact hc
end
end G
namespace LamX
open PySem PySem.Spec PyProof.Rows L2
theorem dmM {H : Hp} {P c' : Addr} {ps ps' : Array Value} {q : Str} (hP : H P = some (.tbl ps)) (nC : H c' = none) {b : Addr} (hb : upd (upd H P (.tbl ps')) c' (CodeO c' q) b = none) : H b = none := by
  by_cases h1 : b = c'
  · rw [h1]; exact nC
  · rw [upd_ne h1] at hb
    by_cases h2 : b = P
    · rw [h2, upd_same] at hb; cases hb
    · rw [upd_ne h2] at hb; exact hb
def tLamM (T : List (Addr × Str)) (TT : (XK → Hp → VK → Prop) → Hp → VK → Prop) (t : XK → TE) : TE := fun σ H Q => Tabs T H ∧ ∀ H1, ExtN H H1 → (∀ b, H1 b = none → H b = none) → Tabs T H1 → TT (fun E H' Q' => t E σ H' Q') H1 Q
section
variable {X : Cx} {pins : List (Addr × Obj)} {σ : L2.St} {H : Hp} {s : Shared}
/-- the lambda is made: its code object is new, or found in the table -/
theorem lam_makeM {T : List (Addr × Str)} {c P : Addr} {params : Arguments} {body : Expr} {scope : Scope} {pos : Pos} {E : Value → Shared → Prop} {Q : Value → Shared → Prop} (I : Inv X pins σ H s) (TB : TabB X.base X.mg c P) (hcode : X.env.code = .ref c)
    (hm : (P, X.env.qual ++ "<lambda>") ∈ T) (hu : ∀ p ∈ T, p.1 = P → p.2 = X.env.qual ++ "<lambda>") (hT : Tabs T H) (hdef : defaultsOf params X.env = ([], [])) (hfree : ∀ y ∈ scope.names, y.2 = .free → ∃ c, X.env.cells.lookup y.1 = some c)
    (h : ∀ (f c' : Addr) (pm ctv : Value) (H1 : Hp) (s' : Shared), Inv X pins σ H1 s' → ExtN H H1 → (∀ b, H1 b = Option.none → H b = Option.none) → Tabs T H1 →
      s'.heap.get? f = some (PySem.W.kla_obj "<lambda>" (X.env.qual ++ "<lambda>") params body scope (cloFrom X.env.cells scope.names []) pm c' ctv) → H1 f = none → f ∉ frs X.stack → H1 c' = some (CodeO c' (X.env.qual ++ "<lambda>")) → Q (.ref f) s') :
    wpAny (model X.prog X.w) X.A (eval (.Lambda params body scope pos) X.env) Q E s := by
  obtain ⟨ps, hP, ht, ha⟩ := hT _ hm
  refine PySem.W.kla_eval hdef ?_
  have bP : s.heap.BuiltinsAt X.mg P := TB.bm.keeps I.bk
  have hP' : s.heap.get? P = some { cls := .none, data := .fields ps } := I.hok P _ hP
  have nofr : ∀ f, s.heap.objs.size ≤ f → f ∉ frs X.stack := fun f hf z => by
    rcases List.mem_cons.mp (I.stkSub _ z) with e | e
    · have h1 := I.lt
      rw [← e] at h1
      exact Nat.lt_irrefl _ (Nat.lt_of_lt_of_le h1 hf)
    · exact I.nofs hf e
  cases hc : codeAmong pos ps.toList with
  | none =>
    refine PySem.W.kla_makeFunction (mg := X.mg) (c := c) (P := P) (ps := ps) (closure_ok hfree) I.ok.glob (I.mod.glob.keeps I.bk) hcode (TB.code.keeps I.bk) hP' ht hc TB.gP bP fun c' ctv h' tk hx hge hlt hrec htb => ?_
    obtain ⟨c2, oc, vs, t, e2, hoc, hd, hv⟩ := hrec
    cases e2
    have hsz : s.heap.objs.size ≤ h'.objs.size := Nat.le_trans hge (Nat.le_of_lt hlt)
    have nC : H c' = none := I.hok.fresh hge
    have I1 := inv_table (t' := tk) (more := #[rawInt pos.line, rawInt pos.col, .ref c']) (h' := h'.push (PySem.W.kla_obj "<lambda>" (X.env.qual ++ "<lambda>") params body scope (cloFrom X.env.cells scope.names []) ((X.mg "__name__").getD .none) c' ctv)) I hP
      (fun b o hb e => Heap.get?_push_of_some _ (hx b o hb e)) (Heap.get?_push_of_some _ htb) hge ⟨oc, vs, t, Heap.get?_push_of_some _ hoc, hd, hv⟩
    have hE : ExtN H (upd (upd H P (.tbl (ps ++ #[rawInt pos.line, rawInt pos.col, .ref c']))) c' (CodeO c' (X.env.qual ++ "<lambda>"))) := fun b o e n => by
      rw [upd_ne (ne_of_none e nC), upd_ne (fun z => n ps (Option.some.inj (e.symm.trans (by rw [z]; exact hP))))]
      exact e
    have eL : (ps ++ #[rawInt pos.line, rawInt pos.col, .ref c']).toList = ps.toList ++ [rawInt pos.line, rawInt pos.col, .ref c'] := by simp
    refine h h'.objs.size c' ((X.mg "__name__").getD .none) ctv _ _ I1 hE (fun b hb => dmM hP nC hb) (fun p hp => ?_) (Heap.get?_push_size _ rfl) ?_ (nofr _ hsz) upd_same
    · by_cases hb : p.1 = P
      · rw [hu p hp hb, hb]
        refine ⟨_, by rw [upd_ne (ne_of_none hP nC), upd_same], by rw [eL]; exact PySem.TriplesOk_snoc _ _ _ _ ht, fun p' cv hcv => ?_⟩
        rw [eL] at hcv
        rcases among_app _ ht hcv with z | z
        · obtain ⟨c0, e1, e2⟩ := ha p' cv z
          exact ⟨c0, e1, hE _ _ e2 codeO_ne⟩
        · exact ⟨c', z, upd_same⟩
      · obtain ⟨ps', a1, a2, a3⟩ := hT p hp
        refine ⟨ps', by rw [upd_ne (ne_of_none a1 nC), upd_ne hb]; exact a1, a2, fun p' cv hcv => ?_⟩
        obtain ⟨c0, e1, e2⟩ := a3 p' cv hcv
        exact ⟨c0, e1, hE _ _ e2 codeO_ne⟩
    · have n1 : h'.objs.size ≠ c' := Nat.ne_of_gt hlt
      have n2 : h'.objs.size ≠ P := Nat.ne_of_gt (Nat.lt_of_lt_of_le (Heap.lt_size hP') hsz)
      rw [upd_ne n1, upd_ne n2]
      exact I.hok.fresh hsz
  | some cv =>
    obtain ⟨c', e, hco⟩ := ha pos cv hc
    subst e
    refine PySem.W.kla_makeFunctionHit (mg := X.mg) (c := c) (P := P) (ps := ps) (closure_ok hfree) I.ok.glob (I.mod.glob.keeps I.bk) hcode (TB.code.keeps I.bk) hP' ht hc bP fun ctv h' tk hx hsz => ?_
    have I1 : Inv X pins σ H { s with heap := h'.push (PySem.W.kla_obj "<lambda>" (X.env.qual ++ "<lambda>") params body scope (cloFrom X.env.cells scope.names []) ((X.mg "__name__").getD .none) c' ctv), toks := tk } := I.kept fun b o e => Heap.get?_push_of_some _ (hx b o e)
    exact h h'.objs.size c' ((X.mg "__name__").getD .none) ctv H _ I1 (ExtN.refl H) (fun _ hb => hb) hT (Heap.get?_push_size _ rfl) (I.hok.fresh hsz) (nofr _ hsz) hco
end
section
variable {X : Cx}
/-- x(lambda: body) -/
theorem pe_lamcallM {T : List (Addr × Str)} {TT : (XK → Hp → VK → Prop) → Hp → VK → Prop} {x a : Str} {g c P : Addr} {k : Nat} {pg : Arguments} {bg : List Stmt} {sg : Scope} {dV kV doc pm cdv ct oc : Value} {an od : Option Addr} {osl : Array (Option Value)} {Ng : List Str}
    {params : Arguments} {body : Expr} {scope : Scope} {t : XK → TE} {p lpos pos : Pos} (hg : Gl X x) (hm : X.mg x = some (.ref g)) (hk : PySem.W.keepIn X.K (.ref g) = true)
    (lk : X.K.lookup g = some ⟨oc, od, .func (PySem.W.fnOf x x pg bg sg dV kV doc pm an cdv ct), osl⟩) (hcg : PySem.W.codeIn X.K cdv x = true) (hb : L2.Binds X.K (PySem.W.fnOf x x pg bg sg dV kV doc pm an cdv ct) [a] []) (Sg : FnScope Ng [a] sg) (hNg : Ng[0]? = some a) (hva : Vis sg a)
    (hG : GivesTo X Ng x sg g cdv bg a (X.env.qual ++ "<lambda>") TT)
    (TB : TabB X.base X.mg c P) (hcode : X.env.code = .ref c) (hmT : (P, X.env.qual ++ "<lambda>") ∈ T) (hu : ∀ p ∈ T, p.1 = P → p.2 = X.env.qual ++ "<lambda>") (hr : Room (k + 2) X.A) (L : LamS X.env.scope scope) (hdef : defaultsOf params X.env = ([], []))
    (hbind : ∀ (q : Str) (cl : List (Str × Addr)) (pm cv ctv : Value), bindArgs (PySem.W.kla_fn "<lambda>" q params body scope cl pm cv ctv) ⟨[], []⟩ = pure [])
    (hbody : ∀ (A : Around) (outer : List Env) (s : Shared) (H : Hp) (E : XK) (f c' : Addr), Room k (A.deeper (lamEnv X scope s.heap.objs.size f c')) → PE (lamCx X A outer s H E scope f c') body (t E))
    (hdb : (x == ("__debug__" : Str)) = false := by decide) (hd : (a == ("__debug__" : Str)) = false := by decide) (hcd : (a == ("__classdict__" : Str)) = false := by decide) :
    PE X (.Call (.Name x p) [.Lambda params body scope lpos] [] pos) (tLamM T TT t) := by
  refine ⟨fun pins s σ H Q I h => ?_⟩
  obtain ⟨hT, h⟩ := h
  refine wpAny_Call_Name_kw (ld_glob I hg hm ?_ hdb)
  refine PySem.W.callWith_K (h₀ := X.base) I.ok.mod.kin hk ?_ (by rfl) (by rfl)
  show wpAny _ _ (spliced ((false, eval (.Lambda params body scope lpos) X.env) :: backTo pos (starEach [] X.env))) _ _ s
  refine Calls.spliced_cons (lam_makeM I TB hcode hmT hu hT hdef (L.has I.ok) fun f c' pm' ctv H1 s' I1 eN dm T1 hf hfn hfr hco => ?_)
  refine Calls.spliced_nil ⟨I1.kIn, ?_⟩
  have rc : codeAny (model X.prog X.w) X.A (.call (.ref g) ⟨[.ref f], []⟩) (CR C8.CX0 X.stack X.prog X.w H1 s' Q C8.E0) s' := by
    refine run_ofS (N := Ng) (ps := [a]) (us := [.ref f]) (vs := [.ref f]) lk hcg Sg hr I1.env0 (hb s' [.ref f] I1.kIn rfl) (.cons rfl .nil) rfl fun hr' => ?_
    obtain ⟨t', ht', hq'⟩ := hG f c' s' H1 Q (fun E H' Q' => t E σ H' Q') (fun W pn xe E p1 p2 tk hW => pe_act (i := 0) I1 L hf hfn hfr (hbind _ _ _ _ _) tk hW hr' (fun A outer s H hr2 => hbody A outer s H E f c' hr2) hNg hva hd hcd) hco (h H1 eN dm T1)
    exact ⟨t', ht'.nox, hq'⟩
  refine wpAny_call (codeAny_mono rc fun r s2 hq => ?_)
  cases r with
  | error e => exact (show False from hq).elim
  | ok fl =>
    cases fl with
    | ret u => exact I1.after hq
    | next => exact False.elim hq
    | brk => exact False.elim hq
    | cont => exact False.elim hq
end
end LamX
namespace G
open PySem PySem.Spec PyProof.Rows L2 LamX
section
variable {B : Bd} {g : Gh} {env : Envr} {st : Store} {σ : L2.St} {H H1 : Hp}
theorem BOk.growN (k : BOk B g env st σ H) (e : ExtN H H1) (dm : ∀ b, H1 b = none → H b = none) (tt : B.C.TT H1) : BOk B g env st σ H1 := by
  have nl : ∀ {a : Addr} {xs : List V}, H a = some (.lst xs) → H1 a = some (.lst xs) := fun h => e _ _ h fun ps z => by cases z
  refine ⟨⟨fun a o h => e _ _ (k.ok.p a o h) fun ps z => k.ok.nt a ps (z ▸ h), k.ok.nt, k.ok.np, k.ok.inj, fun n c h => ?_, k.ok.dom, tt⟩, k.nx.trans ⟨.refl g, fun a o h t _ => e a o h t, dm, fun _ _ h => .inl h, fun _ _ h => .inl h⟩, ⟨k.en.len, k.en.val, fun i ds h => ?_, k.en.dis⟩⟩
  · obtain ⟨a, h1, h2⟩ := k.ok.cell n c h
    refine ⟨a, h1, ?_⟩
    cases c with
    | lst ds => obtain ⟨xs, h, r⟩ := h2; exact ⟨xs, nl h, r⟩
    | ins c fs => obtain ⟨dx, fv, h, r⟩ := h2; exact ⟨dx, fv, e _ _ h (fun ps z => by cases z), r⟩
    | dct kvs => obtain ⟨xs, h, r⟩ := h2; exact ⟨xs, e _ _ h (fun ps z => by cases z), r⟩
  · obtain ⟨a, xs, h1, h2, h3⟩ := k.en.own i ds h
    exact ⟨a, xs, h1, nl h2, h3⟩
theorem nx_growN (k : BOk B g env st σ H) (e : ExtN H H1) (dm : ∀ b, H1 b = none → H b = none) : Nx g H g H1 := ⟨.refl g, fun a o h t _ => e a o h t, dm, fun _ _ h => .inl h, fun _ _ h => .inl h⟩
end
/-- a clause, by numbers -/
abbrev TellN := List Nat × Option Nat
def tellX (tg : Nat) : List TellN → Exc → Store → QE → Prop
  | [], _, _, _ => False
  | (cs, f) :: r, x, st, Q => (x.c ∈ cs ∧ ∃ g v, x.fs.lookup tg = some g ∧ (match f with | none => v = D.non | some i => x.fs.lookup i = some v) ∧ Q (.tup [g, v]) st) ∨ (x.c ∉ cs ∧ tellX tg r x st Q)
/-- own lists are out of a lambda's sight -/
def noS : Slot → Slot
  | .own _ => .no
  | s => s
def wRef (tg : Nat) (cl : List TellN) (we : WE) : WE := fun env st Q R => we (env.map noS) st (fun _ st1 => Q (.tup [.str "", .non]) st1) (fun x st1 => tellX tg cl x st1 Q)
def toldOf (C : Con) (t : TellN) : Told := ⟨t.1.map C.ca, t.2.map C.fn⟩
/-- what is known of the classes that the clauses name -/
structure TellK (C : Con) (tg : Nat) (cl : List TellN) : Prop where
  inj : ∀ i j, C.fn i = C.fn j → i = j
  exm : ∀ t ∈ cl, ∀ u ∈ cl, ∀ c ∈ u.1, PySem.W.exmAny C.K (.ref (C.ca c)) ((t.1.map C.ca).map Value.ref) = some (decide (c ∈ t.1))
  cls : ∀ t ∈ cl, ∀ c ∈ t.1, ToldC C.K (C.fn tg) (t.2.map C.fn) (C.ca c)
theorem repF_look {C : Con} {g : Gh} (inj : ∀ i j, C.fn i = C.fn j → i = j) {i : Nat} {d : D} : ∀ {fs : List (Nat × D)} {vs : List (Str × V)}, RepF C g fs vs → fs.lookup i = some d → ∃ v, vs.lookup (C.fn i) = some v ∧ Rep C g d v
  | [], _, _, h => by simp [List.lookup] at h
  | (j, e) :: fs, vs, r, h => by
    unfold RepF at r
    obtain ⟨v, r, rfl, rv, rr⟩ := r
    by_cases hj : i = j
    · subst hj
      simp [List.lookup] at h
      subst h
      exact ⟨v, by simp [List.lookup], rv⟩
    · have n1 : (i == j) = false := by simpa using hj
      have n2 : (C.fn i == C.fn j) = false := by
        have := mt (inj i j) hj
        simpa using this
      simp only [List.lookup, n1] at h
      obtain ⟨v', h1, h2⟩ := repF_look inj rr h
      exact ⟨v', by simp only [List.lookup, n2]; exact h1, h2⟩
section
variable {B : Bd} {gb g : Gh} {Hb : Hp} {env : Envr} {st : Store} {σ : L2.St} {H : Hp} {Q : QE} {x : Exc} {cls : Value} {d : Option Addr} {tg : Nat}
theorem told_of {all : List TellN} (K : TellK B.C tg all) (ck : ConOk B.C) (l : Nx gb Hb g H) (bo : BOk B g env st σ H) (xr : XRep B.C g H x cls d) (mem : ∃ u ∈ all, x.c ∈ u.1) : ∀ {cl : List TellN}, (∀ t ∈ cl, t ∈ all) → tellX tg cl x st Q → told B.C.K (B.C.fn tg) (cl.map (toldOf B.C)) cls d H (QV B gb Hb env σ Q)
  | [], _, h => h
  | (cs, f) :: r, hm, h => by
    obtain ⟨ec, dd, fv, ed, hdd, rf⟩ := xr
    obtain ⟨u, hu, hc⟩ := mem
    have ex := K.exm (cs, f) (hm _ List.mem_cons_self) u hu x.c hc
    rw [← ec] at ex
    refine ⟨decide (x.c ∈ cs), ex, fun hb => ?_, fun hb => ?_⟩
    · have hin : x.c ∈ cs := of_decide_eq_true hb
      rcases h with ⟨_, gd, vd, h1, h2, q⟩ | ⟨no, _⟩
      · obtain ⟨gv, g1, g2⟩ := repF_look K.inj rf h1
        have T := K.cls (cs, f) (hm _ List.mem_cons_self) x.c hin
        cases f with
        | none =>
          have h2 : vd = .non := h2
          subst h2
          exact ⟨_, dd, fv, gv, .non, ec, T, ed, hdd, g1, rfl, fun p hp => QV.tup ck l bo (Reps.cons g2 (Reps.cons rep_non Reps.nil)) q hp⟩
        | some i =>
          obtain ⟨vv, v1, v2⟩ := repF_look K.inj rf h2
          exact ⟨_, dd, fv, gv, vv, ec, T, ed, hdd, g1, v1, fun p hp => QV.tup ck l bo (Reps.cons g2 (Reps.cons v2 Reps.nil)) q hp⟩
      · exact absurd hin no
    · have hno : x.c ∉ cs := of_decide_eq_false hb
      rcases h with ⟨yes, _⟩ | ⟨_, h⟩
      · exact absurd yes hno
      · exact told_of K ck l bo ⟨ec, dd, fv, ed, hdd, rf⟩ ⟨u, hu, hc⟩ (fun t ht => hm t (List.mem_cons_of_mem _ ht)) h
theorem tell_mem {st1 : Store} : ∀ {cl : List TellN}, tellX tg cl x st1 Q → ∃ u ∈ cl, x.c ∈ u.1
  | [], h => h.elim
  | (cs, f) :: r, h => by
    rcases h with ⟨yes, _⟩ | ⟨_, h⟩
    · exact ⟨_, List.mem_cons_self, yes⟩
    · obtain ⟨u, hu, hc⟩ := tell_mem h
      exact ⟨u, List.mem_cons_of_mem _ hu, hc⟩
end
theorem BOk.noOwn {B : Bd} {g : Gh} {env : Envr} {st : Store} {σ : L2.St} {H : Hp} (k : BOk B g env st σ H) : BOk ⟨B.C, g, H⟩ g (env.map noS) st σ H := by
  have at_ : ∀ {i : Nat} {s : Slot}, (env.map noS)[i]? = some s → ∃ s0, env[i]? = some s0 ∧ noS s0 = s := fun {i s} h => by
    rw [List.getElem?_map, Option.map_eq_some_iff] at h
    exact h
  refine ⟨k.ok, .refl g H, ⟨by rw [List.length_map]; exact k.en.len, fun i d h => ?_, fun i ds h => ?_, fun i j ds es a _ h => ?_⟩⟩
  · obtain ⟨s0, h1, h2⟩ := at_ h
    cases s0 <;> simp [noS] at h2
    subst h2
    exact k.en.val i _ h1
  · obtain ⟨s0, h1, h2⟩ := at_ h
    cases s0 <;> simp [noS] at h2
  · obtain ⟨s0, h1, h2⟩ := at_ h
    cases s0 <;> simp [noS] at h2
section
variable {B : Bd} {X : Cx} {W : WX}
theorem g_refused (j : J B X W) {tn : Nat} {cl : List TellN} (TK : TellK B.C tn cl) {T : List (Addr × Str)} (hTT : ∀ H, B.C.TT H ↔ Tabs T H) {we : WE}
    {x a : Str} {gA c P : Addr} {k : Nat} {pg : Arguments} {bg : List Stmt} {sg : Scope} {dV kV doc pm cdv ct oc : Value} {an od : Option Addr} {osl : Array (Option Value)} {Ng : List Str} {params : Arguments} {body : Expr} {scope : Scope} {p lpos pos : Pos} (hg : Gl X x) (hm : X.mg x = some (.ref gA)) (hk : PySem.W.keepIn X.K (.ref gA) = true)
    (lk : X.K.lookup gA = some ⟨oc, od, .func (PySem.W.fnOf x x pg bg sg dV kV doc pm an cdv ct), osl⟩) (hcg : PySem.W.codeIn X.K cdv x = true) (hb : L2.Binds X.K (PySem.W.fnOf x x pg bg sg dV kV doc pm an cdv ct) [a] []) (Sg : FnScope Ng [a] sg) (hNg : Ng[0]? = some a) (hva : Vis sg a)
    (hG : GivesTo X Ng x sg gA cdv bg a (X.env.qual ++ "<lambda>") (TTref X.K (B.C.fn tn) (cl.map (toldOf B.C)))) (TB : TabB X.base X.mg c P) (hcode : X.env.code = .ref c) (hmT : (P, X.env.qual ++ "<lambda>") ∈ T) (hu : ∀ p ∈ T, p.1 = P → p.2 = X.env.qual ++ "<lambda>") (hr : Room (k + 2) X.A) (L : LamS X.env.scope scope)
    (hdef : defaultsOf params X.env = ([], [])) (hbind : ∀ (q : Str) (cl : List (Str × Addr)) (pm cv ctv : Value), bindArgs (PySem.W.kla_fn "<lambda>" q params body scope cl pm cv ctv) ⟨[], []⟩ = pure [])
    (hbody : ∀ (g : Gh) (H : Hp) (A : Around) (outer : List Env) (s : Shared) (HZ : Hp) (E : XK) (f c' : Addr), Room k (A.deeper (lamEnv X scope s.heap.objs.size f c')) → J ⟨B.C, g, H⟩ (lamCx X A outer s HZ E scope f c') (fun cls d _ H' => E cls d H') → PEg ⟨B.C, g, H⟩ (lamCx X A outer s HZ E scope f c') (fun cls d _ H' => E cls d H') body we)
    (hdb : (x == ("__debug__" : Str)) = false := by decide) (hd : (a == ("__debug__" : Str)) = false := by decide) (hcd : (a == ("__classdict__" : Str)) = false := by decide) : PEg B X W (.Call (.Name x p) [.Lambda params body scope lpos] [] pos) (wRef tn cl we) := by
  refine PEg.of (pe_lamcallM (T := T) (TT := TTref X.K (B.C.fn tn) (cl.map (toldOf B.C))) (t := fun E σ H Q => ∃ g0 H0, tg ⟨B.C, g0, H0⟩ (fun cls d _ H' => E cls d H') we σ H Q) hg hm hk lk hcg hb Sg hNg hva hG TB hcode hmT hu hr L hdef hbind (fun A outer s HZ E f c' hr' => ?_) hdb hd hcd) fun σ H g env st Q R bo rw hw => ⟨(hTT H).mp bo.ok.tab, fun H1 eN dm T1 p0 n0 => ?_⟩
  · refine ⟨fun pins s' σ H Q I ⟨g0, H0, h⟩ => ?_⟩
    have jj : J ⟨B.C, g0, H0⟩ (lamCx X A outer s HZ E scope f c') (fun cls d _ H' => E cls d H') :=
      { ck := j.ck, hK := j.hK, tk := takes_of rfl rfl rfl rfl, po := passes_of rfl, calm := rfl, nd := j.nd, hd := hr'.hd, hu := hr'.units, hu2 := by have h := hr'.un; show (A.deeper _).units + 150 < cLine; omega }
    exact ((hbody g0 H0 A outer s HZ E f c' hr' jj).pe).run pins s' σ H Q I h
  · have b1 := bo.growN eN dm ((hTT H1).mpr T1)
    have l1 := nx_growN bo eN dm
    have nt : ∀ ps, HO.tup [V.str "", V.non] ≠ .tbl ps := fun ps z => by cases z
    have b2 := b1.new j.ck n0 nt (b1.cellNe n0)
    have l2 := l1.trans (b1.ok.nx_new (o := .tup [V.str "", V.non]) n0)
    refine ⟨g.add p0 (.tup [.str "", .non]), upd H1 p0 (.tup [.str "", .non]), g.add p0 (.tup [.str "", .non]), env.map noS, st, fun _ st1 => Q (.tup [.str "", .non]) st1, fun x st1 => tellX tn cl x st1 Q, b2.noOwn, fun x g3 st3 H3 cls d b3 xr h => ?_, hw, fun v H' ⟨d, st3, g3, nx3, b3, rv, q⟩ => ?_⟩
    · have hK := j.hK
      rw [hK]
      exact told_of TK j.ck (l2.trans b3.nx) (b2.of_sp b3.nx.le b3.ok b3.nx) xr (tell_mem h) (fun t ht => ht) h
    · refine ⟨.tup [.str "", .non], st3, g3, l2.trans nx3, b2.of_sp nx3.le b3.ok nx3, ?_, q⟩
      unfold Rep
      exact ⟨p0, _, rfl, nx3.le.p _ _ upd_same, Reps.cons rep_str (Reps.cons rep_non Reps.nil)⟩
end
end G
namespace G
open PySem PySem.Spec PyProof.Rows L2 NdefX
def oexB (C : Addr) (K : PySem.W.Frag) : Bool := (match K.lookup C with
  | some ⟨.type "type", _, .cls cd, sl⟩ => (match cd.mro, sl.toList with
    | .ref D :: bm, [_, _, _, _, some (.builtin n), _] => decide (D = C) && (decide (n = "ValueError.__new__") && (!cd.hasDel && (cd.hasDict && HandSPX.refsVE bm)))
    | _, _ => false)
  | _ => false) && (He.eqO (PySem.W.findIn K (.ref C) "__setattr__") (some (some (.builtin "object.__setattr__"))) && (decide (PySem.W.subIn K (.ref C) (.type "BaseException") = some true) && (He.eqO ((PySem.W.typeIn K (.ref C)).map some) (some (some (.type "type"))) && PySem.W.keepIn K (.ref C))))
theorem oexB_ok {C : Addr} {K : PySem.W.Frag} (h : oexB C K = true) : OexC K C := by
  obtain ⟨h1, h⟩ := He.ba h
  obtain ⟨h2, h⟩ := He.ba h
  obtain ⟨h3, h⟩ := He.ba h
  obtain ⟨h4, h5⟩ := He.ba h
  refine ⟨?_, He.eqO_ok h2, of_decide_eq_true h3, ?_, h5⟩
  · split at h1
    · rename_i dd cd sl e
      split at h1
      · rename_i D bm j0 j1 j2 j3 n j5 em es
        obtain ⟨g1, g⟩ := He.ba h1
        obtain ⟨g2, g⟩ := He.ba g
        obtain ⟨g3, g⟩ := He.ba g
        obtain ⟨g4, g5⟩ := He.ba g
        obtain ⟨nm, bs, mro, ns, qn, hd, sn, sb, ab, col, del⟩ := cd
        have e1 : D = C := of_decide_eq_true g1
        have e2 : n = "ValueError.__new__" := of_decide_eq_true g2
        have e3 : del = false := by simpa using g3
        have e4 : hd = true := g4
        subst e1; subst e2; subst e3; subst e4
        have em' : mro = .ref D :: bm := em
        subst em'
        have es' : sl = #[j0, j1, j2, j3, some (.builtin "ValueError.__new__"), j5] := by
          obtain ⟨l⟩ := sl
          have es : l = _ := es
          rw [es]
        subst es'
        exact ⟨nm, qn, ns, bs, bm, sn, sb, ab, col, dd, j0, j1, j2, j3, j5, e, g5⟩
      · cases h1
    · cases h1
  · have := He.eqO_ok h4
    cases e : PySem.W.typeIn K (.ref C) with
    | none => rw [e] at this; cases this
    | some v => rw [e] at this; exact congrArg some (Option.some.inj (Option.some.inj this))
/-- the function at a, its closure left out -/
def fnWS (K : PySem.W.Frag) (a : Addr) : He.FnW := match K.lookup a with
  | some o => (match o.data with
    | .func fd => some (fd.name, fd.qualname, fd.params, fd.body, fd.scope, fd.globals, [], fd.builtins)
    | _ => none)
  | none => none
/-- the cell of the class, the code object -/
def supParts (K : PySem.W.Frag) (a : Addr) : Option (Addr × Addr) := match K.lookup a with
  | some o => (match o.data with
    | .func fd => (match fd.closure, fd.code, fd.defaults, fd.kwdefaults, fd.annotations with
      | [(n, cc)], .ref c, .none, .none, none => if n = ("__class__" : Str) then some (cc, c) else none
      | _, _, _, _, _ => none)
    | _ => none)
  | none => none
def DefX.okS (file : Str) (C : PySem.W.Frag → Addr) (K : PySem.W.Frag) (d : DefX) : Bool := match supParts K (d.at_ K) with
  | some (cc, c) => PySem.W.codeIn K (.ref c) d.qual && ((match K.lookup cc with
    | some o => (match o.data with
      | .cell (some (.ref D)) => decide (D = C K)
      | _ => false)
    | none => false) && (match K.lookup c with
    | some o => (match o.data with
      | .fields vs => (match (vs[2]? : Option Value) with
        | some (Value.str f _) => f == file
        | _ => false)
      | _ => false)
    | none => false))
  | none => false
def supB (C : PySem.W.Frag → Addr) : Fab := fun K => oexB (C K) K && ((match PySem.W.clsIn K (C K) with
  | some cd => He.eqO (PySem.W.alongIn K "__init__" ((cd.mro.dropWhile (· != .ref (C K))).drop 1)) (some (some (.builtin "ValueError.__init__")))
  | none => false) && (decide (PySem.W.mroIn K (C K) (.ref (C K)) = some true) && (decide (PySem.W.subIn K (.ref (C K)) (.type "ValueError") = some true) && decide ((PySem.W.nsIn K cStatics "thirdparty.any").map (·.isNone) = some true))))
theorem DefX.supK {P : Program} {K : PySem.W.Frag} {d : DefX} {file x : Str} {C : PySem.W.Frag → Addr} (e : fnWS K (d.at_ K) = d.val) (c : d.okS file C K = true) (b : supB C K = true) (hf : ((P.main.file : Str) == file) = true) (top : (P.main.scope.names.lookup ("super" : Str)).isSome = false)
    (par : ∃ ar, (d.params.posonlyargs ++ d.params.args).head? = some ar ∧ ar.arg = ("self" : Str)) (sc : NScope [("self" : Str), x, "__class__"] ["self", x] ["__class__"] d.scope) (su : d.scope.names.lookup ("super" : Str) = some .globalImplicit) :
    ∃ cc cA, SupK P K (C K) (d.at_ K) cc ⟨d.name, d.qual, d.params, d.body, d.scope, [(("__class__" : Str), cc)], cA⟩ x := by
  obtain ⟨b1, b⟩ := He.ba b
  obtain ⟨b2, b⟩ := He.ba b
  obtain ⟨b3, b⟩ := He.ba b
  obtain ⟨b4, b5⟩ := He.ba b
  unfold DefX.okS at c
  cases hp : supParts K (d.at_ K) with
  | none => rw [hp] at c; cases c
  | some cp =>
    obtain ⟨cc, cA⟩ := cp
    rw [hp] at c
    obtain ⟨c1, c⟩ := He.ba (show (PySem.W.codeIn K (.ref cA) d.qual && (_ && _)) = true from c)
    obtain ⟨c2, c3⟩ := He.ba c
    refine ⟨cc, cA, oexB_ok b1, ?_, c1, ?_, ?_, rfl, ?_, of_decide_eq_true b3, of_decide_eq_true b4, ?_, top, par, sc, su⟩
    · unfold supParts at hp
      unfold fnWS at e
      split at hp
      · rename_i o ho
        split at hp
        · rename_i fd hd
          split at hp
          · rename_i n c0 c1' e1 e2 e3 e4 e5
            split at hp
            · rename_i hn
              rw [ho] at e
              obtain ⟨oc, od, dt, osl⟩ := o
              have hd' : dt = .func fd := hd
              subst hd'
              obtain ⟨n1, n2, n3, n4, n5, n6, n7, n8, n9, n10, n11, n12, n13, n14, n15⟩ := fd
              have ev : (some (n1, n2, n3, n4, n5, n6, [], n15) : He.FnW) = d.val := e
              unfold DefX.val at ev
              simp only [Option.some.injEq, Prod.mk.injEq] at ev hp
              obtain ⟨g1, g2, g3, g4, g5, g6, _, g8⟩ := ev
              obtain ⟨g9, g10⟩ := hp
              have e1 : n7 = [(n, c0)] := e1
              have e2 : n13 = .ref c1' := e2
              have e3 : n8 = .none := e3
              have e4 : n9 = .none := e4
              have e5 : n12 = none := e5
              subst g1; subst g2; subst g3; subst g4; subst g5; subst g6; subst g8; subst g9; subst g10; subst hn; subst e1; subst e2; subst e3; subst e4; subst e5
              exact ⟨oc, od, n10, n11, n14, osl, ho⟩
            · cases hp
          · cases hp
        · cases hp
      · cases hp
    · split at c3
      · rename_i o ho
        split at c3
        · rename_i vs hd
          split at c3
          · rename_i f tf hv
            obtain ⟨oc, od, dt, osl⟩ := o
            have hd' : dt = .fields vs := hd
            subst hd'
            have ef : f = file := by simpa using c3
            subst ef
            exact ⟨oc, od, vs, osl, f, tf, ho, hv, hf⟩
          · cases c3
        · cases c3
      · cases c3
    · split at c2
      · rename_i o ho
        split at c2
        · rename_i D hd
          obtain ⟨oc, od, dt, osl⟩ := o
          have hd' : dt = .cell (some (.ref D)) := hd
          subst hd'
          have eD : D = C K := of_decide_eq_true c2
          subst eD
          exact ⟨oc, od, osl, ho⟩
        · cases c2
      · cases c2
    · split at b2
      · rename_i cd hcd
        exact ⟨cd, hcd, He.eqO_ok b2⟩
      · cases b2
    · have := of_decide_eq_true b5
      cases e : PySem.W.nsIn K cStatics "thirdparty.any" with
      | none => rw [e] at this; cases this
      | some v =>
        rw [e] at this
        cases v with
        | none => rfl
        | some v => cases this
end G
namespace G
open PySem PySem.Spec PyProof.Rows L2 LamX
def toldB (tag : Str) (f : Option Str) (C : Addr) (K : PySem.W.Frag) : Bool := xfB K C && (He.eqO (PySem.W.findIn K (.ref C) tag) (some none) && (match f with
  | none => true
  | some g => He.eqO (PySem.W.findIn K (.ref C) g) (some none)))
theorem toldB_ok {tag : Str} {f : Option Str} {C : Addr} {K : PySem.W.Frag} (h : toldB tag f C K = true) : ToldC K tag f C := by
  obtain ⟨h1, h⟩ := He.ba h
  obtain ⟨h2, h3⟩ := He.ba h
  refine ⟨xfB_ok h1, He.eqO_ok h2, fun g e => ?_⟩
  subst e
  exact He.eqO_ok h3
def tellB (ca : PySem.W.Frag → Nat → Addr) (fn : Nat → Str) (tg : Nat) (cl : List TellN) : Fab := fun K => (cl.all fun t => cl.all fun u => u.1.all fun c => decide (PySem.W.exmAny K (.ref (ca K c)) ((t.1.map (ca K)).map Value.ref) = some (decide (c ∈ t.1)))) && (cl.all fun t => t.1.all fun c => toldB (fn tg) (t.2.map fn) (ca K c) K)
theorem tellB_ok {C : Con} {ca : PySem.W.Frag → Nat → Addr} {tg : Nat} {cl : List TellN} (inj : ∀ i j, C.fn i = C.fn j → i = j) (hca : C.ca = ca C.K) (h : tellB ca C.fn tg cl C.K = true) : TellK C tg cl := by
  obtain ⟨h1, h2⟩ := He.ba h
  refine ⟨inj, fun t ht u hu c hc => ?_, fun t ht c hc => ?_⟩
  · have a := List.all_eq_true.mp (List.all_eq_true.mp (List.all_eq_true.mp h1 t ht) u hu) c hc
    rw [hca]
    exact of_decide_eq_true a
  · have a := List.all_eq_true.mp (List.all_eq_true.mp h2 t ht) c hc
    rw [hca]
    exact toldB_ok a
section
variable {c f t tg tn : Nat} {T : Str} {wa we : WE} {env : Envr} {st : Store} {Dw : EW} {Q : QE} {R : XQ} {cl r : List TellN} {x : Exc}
theorem e_wRaise : wRaise c f t T wa env st Dw = wa env st (fun d st1 => Dw.ex ⟨c, [(t, .str T), (f, d)]⟩ env st1) (xe Dw env) := rfl
theorem e_wRef : wRef tn cl we env st Q R = we (env.map noS) st (fun _ st1 => Q (.tup [.str "", .non]) st1) (fun x st1 => tellX tn cl x st1 Q) := rfl
theorem noS_val {d : G.D} : noS (.val d) = .val d := rfl
theorem noS_no : noS .no = .no := rfl
/-- the clause that takes it, told -/
theorem tell_here {cs : List Nat} {fd : Nat} {y : Nat} {g v : G.D} {fs : List (Nat × G.D)} (h : y ∈ cs) (h1 : fs.lookup tg = some g) (h2 : fs.lookup fd = some v) (q : Q (.tup [g, v]) st) : tellX tg ((cs, some fd) :: r) ⟨y, fs⟩ st Q := .inl ⟨h, g, v, h1, h2, q⟩
theorem tell_next {cs : List Nat} {o : Option Nat} {y : Nat} {fs : List (Nat × G.D)} (h : y ∉ cs) (q : tellX tg r ⟨y, fs⟩ st Q) : tellX tg ((cs, o) :: r) ⟨y, fs⟩ st Q := .inr ⟨h, q⟩
end
end G
namespace G
open PySem PySem.Spec PyProof.Rows L2 LamX
/-- all but the tables -/
def noTab (H : Hp) : Hp := fun b => match H b with
  | some (.tbl _) => none
  | o => o
theorem noTab_le {H : Hp} {a : Addr} {o : HO} (h : noTab H a = some o) : H a = some o := by
  unfold noTab at h
  split at h
  · cases h
  · exact h
theorem noTab_of {H : Hp} {a : Addr} {o : HO} (h : H a = some o) (nt : ∀ ps, o ≠ .tbl ps) : noTab H a = some o := by
  unfold noTab
  rw [h]
  split
  · rename_i ps e
    exact absurd (Option.some.inj e) (nt ps)
  · rfl
theorem law_endT {C : Con} {φ : WF} {ns : List Int} {H : Hp} {a : Addr} (hl : SqL C.K H a (ns.map V.int)) (ht : C.TT H) (h : φ [.scr (ns.map D.int)] [] (fun d _ => d = .bl true) fun _ _ => False) : spOf C φ 1 [.ref a] H (fun v _ => v = .bl true) fun _ _ _ => False := by
  refine ⟨rfl, ⟨noTab H, fun _ => none⟩, [.scr (ns.map D.int)], [], _, _, ⟨fun _ _ h => noTab_le h, fun b ps e => ?_, fun _ _ h => (by cases h), fun _ _ _ h => (by cases h), fun n c h => (by simp at h), fun _ _ h => (by cases h), ht⟩, ?_, h, ?_, ?_⟩
  · have e : noTab H b = some (.tbl ps) := e
    have z := noTab_le e
    unfold noTab at e
    rw [z] at e
    cases e
  · refine Reps.cons ?_ Reps.nil
    unfold Rep
    refine ⟨a, _, rfl, ?_, rep_ints ns⟩
    rcases hl with (h | ⟨o, h⟩) | h
    · exact .inl (.inl (noTab_of h fun ps z => by cases z))
    · exact .inl (.inr ⟨o, noTab_of h fun ps z => by cases z⟩)
    · exact .inr h
  · rintro v H' ⟨d, st', g', _, _, _, r, rfl⟩
    exact r.blV
  · rintro cls dd H' ⟨x, st', g', _, _, _, _, z⟩
    exact z
theorem tabs_ok {T : List (Addr × Str)} {K : PySem.W.Frag} {ca : Nat → Addr} {fn mn : Nat → Str} : ConOk ⟨K, ca, fn, mn, fun H => Tabs T H⟩ := ⟨fun H H' h e p hp => by
  obtain ⟨ps, h1, h2, h3⟩ := h p hp
  refine ⟨ps, e _ _ h1 trivial, h2, fun pos cv hc => ?_⟩
  obtain ⟨c, e1, e2⟩ := h3 pos cv hc
  exact ⟨c, e1, e _ _ e2 trivial⟩⟩
end G
namespace G
open PySem PySem.Spec PyProof.Rows L2 NdefX
/-- an error class whose __init__ is known -/
structure ErrR (P : Program) (w : World) (C : Con) (mg : Str → Option Value) (base : Heap) (x : Str) (c f t : Nat) (T : Str) (k : Nat) : Prop where
  hm : mg x = some (.ref (C.ca c))
  ex : ∃ (fI : Addr) (fd : FuncData) (pn : Str), OexC C.K (C.ca c) ∧ PySem.W.findIn C.K (.ref (C.ca c)) "__init__" = some (some (.ref fI)) ∧ PySem.W.typeIn C.K (.ref fI) = some (.type "function") ∧
    FnOk P w C.K mg base (L2.CX P w) k fI fd [("self" : Str), pn] (supSp (C.ca c) (C.fn f) (C.fn t) T) ∧ L2.Binds C.K fd [("self" : Str), pn] []
section
variable {B : Bd} {X : Cx} {W : WX} {e : Expr} {we : WE}
theorem gs_raiseR (j : J B X W) {x T : Str} {c f t k m : Nat} {p pos pos2 : Pos} (Er : ErrR X.prog X.w B.C X.mg X.base x c f t T k) (hK : X.K = B.C.K) (hr : Room m X.A) (hg : Gl X x) (ha : PEg B X W e we) (hm : k + 1 ≤ m := by decide)
    (hdb : (x == ("__debug__" : Str)) = false := by decide) (he : starEach [e] X.env = (false, eval e X.env) :: starEach [] X.env := by rfl) (hpl : (backTo pos (starEach [] X.env)).any (·.1) = false := by rfl) :
    PSg B X W (.Raise (some (.Call (.Name x p) [e] [] pos)) none pos2) (wRaise c f t T we) := by
  obtain ⟨fI, fd, pn, h1, h2, h3, h4, h5⟩ := Er.ex
  exact gs_raise j (k := k) (pn := pn) (fI := fI) (fd := fd) (by rw [hK]; exact h1) (by rw [hK]; exact h2) (by rw [hK]; exact h3) (by rw [hK]; exact h4) (hr.mono hm) (by rw [hK]; exact h5) hg Er.hm ha hdb he hpl
end
/-- what is looked at for such a class -/
def errB (Cf aI : PySem.W.Frag → Addr) (f t : Str) : Fab := fun K => supB Cf K && (He.eqO (PySem.W.findIn K (.ref (Cf K)) "__init__") (some (some (.ref (aI K)))) && (He.eqO ((PySem.W.typeIn K (.ref (aI K))).map some) (some (some (.type "function"))) &&
  (He.eqO (PySem.W.findIn K (.ref (Cf K)) f) (some none) && He.eqO (PySem.W.findIn K (.ref (Cf K)) t) (some none))))
theorem errR_of {P : Program} {w : World} {C : Con} {mg : Str → Option Value} {base : Heap} {k : Nat} {x pn T file : Str} {c f t : Nat} {d : DefX} {Cf : PySem.W.Frag → Addr} {p : Nat → Pos} {j : Nat} (hc : C.ca c = Cf C.K) (su : fnWS C.K (d.at_ C.K) = d.val) (sk : d.okS file Cf C.K = true)
    (b : errB Cf d.at_ (C.fn f) (C.fn t) C.K = true) (hf : ((P.main.file : Str) == file) = true) (top : (P.main.scope.names.lookup ("super" : Str)).isSome = false) (par : ∃ ar, (d.params.posonlyargs ++ d.params.args).head? = some ar ∧ ar.arg = ("self" : Str))
    (sc : NScope [("self" : Str), pn, "__class__"] ["self", pn] ["__class__"] d.scope) (hsu : d.scope.names.lookup ("super" : Str) = some .globalImplicit) (hbody : d.body = supBody pn (C.fn f) (C.fn t) T p j) (msup : mg "super" = none) (he : Plain (p 0) (p 1) (p 2) (p 3) (p 4) pn)
    (xd : (pn == ("__debug__" : Str)) = false) (xc : (pn == ("__classdict__" : Str)) = false) (tf : C.fn f ≠ C.fn t)
    (hb : ∀ (cc cA : Addr) (doc pm ctv : Value), L2.Binds C.K (NF.fd ⟨d.name, d.qual, d.params, d.body, d.scope, [(("__class__" : Str), cc)], cA⟩ doc pm ctv) [("self" : Str), pn] []) (hm : mg x = some (.ref (C.ca c))) : ErrR P w C mg base x c f t T (k + 1) := by
  obtain ⟨b1, b⟩ := He.ba b
  obtain ⟨b2, b⟩ := He.ba b
  obtain ⟨b3, b⟩ := He.ba b
  obtain ⟨b4, b5⟩ := He.ba b
  obtain ⟨cc, cA, S⟩ := DefX.supK (P := P) (x := pn) su sk b1 hf top par sc hsu
  obtain ⟨fd, _, ⟨doc, pm, ctv, e2⟩, ok⟩ := sup_fn (P := P) (w := w) (mg := mg) (base := base) (CX := L2.CX P w) (k := k) (f := C.fn f) (t := C.fn t) (T := T) (p := p) (j := j) S hbody msup (He.eqO_ok b4) (He.eqO_ok b5) he xd xc tf
  have h3 := He.eqO_ok b3
  refine ⟨hm, d.at_ C.K, fd, pn, ?_, ?_, ?_, ?_, ?_⟩
  · rw [hc]; exact S.oex
  · rw [hc]; exact He.eqO_ok b2
  · cases e : PySem.W.typeIn C.K (.ref (d.at_ C.K)) with
    | none => rw [e] at h3; cases h3
    | some v => rw [e] at h3; exact congrArg some (Option.some.inj (Option.some.inj h3))
  · rw [hc]; exact ok
  · rw [e2]; exact hb cc cA doc pm ctv
/-- the def that asks and tells -/
structure RefR (P : Program) (w : World) (C : Con) (mg : Str → Option Value) (base : Heap) (x a : Str) (tn : Nat) (cl : List TellN) : Prop where
  tk : TellK C tn cl
  ex : ∃ (gA : Addr) (pg : Arguments) (bg : List Stmt) (sg : Scope) (dV kV doc pm cdv ct oc : Value) (an od : Option Addr) (osl : Array (Option Value)) (Ng : List Str), mg x = some (.ref gA) ∧ PySem.W.keepIn C.K (.ref gA) = true ∧
    C.K.lookup gA = some ⟨oc, od, .func (PySem.W.fnOf x x pg bg sg dV kV doc pm an cdv ct), osl⟩ ∧ PySem.W.codeIn C.K cdv x = true ∧ L2.Binds C.K (PySem.W.fnOf x x pg bg sg dV kV doc pm an cdv ct) [a] [] ∧ FnScope Ng [a] sg ∧ Ng[0]? = some a ∧ Vis sg a ∧
    ∀ (X : Cx) (q : Str), X.prog = P → X.w = w → X.K = C.K → X.mg = mg → X.base = base → LamX.GivesTo X Ng x sg gA cdv bg a q (TTref C.K (C.fn tn) (cl.map (toldOf C)))
theorem refR_of {P : Program} {w : World} {C : Con} {mg : Str → Option Value} {base : Heap} {x a : Str} {tn : Nat} {cl : List TellN} {gA : Addr} {pg : Arguments} {bg : List Stmt} {sg : Scope} {fd : FuncData} {Ng : List Str} (tk : TellK C tn cl) (F : FunD C.K x x pg bg sg [] [] gA fd)
    (hm : mg x = some (.ref gA)) (hb : L2.Binds C.K fd [a] []) (S : FnScope Ng [a] sg) (h0 : Ng[0]? = some a) (hv : Vis sg a)
    (G : ∀ (X : Cx) (q : Str) (cdv : Value), X.prog = P → X.w = w → X.K = C.K → X.mg = mg → X.base = base → LamX.GivesTo X Ng x sg gA cdv bg a q (TTref C.K (C.fn tn) (cl.map (toldOf C)))) : RefR P w C mg base x a tn cl := by
  obtain ⟨oc, od, dV, kV, doc, pm, an, cdv, ct, osl, rfl, lk, hcd, _, _⟩ := F.ex
  exact ⟨tk, gA, pg, bg, sg, dV, kV, doc, pm, cdv, ct, oc, an, od, osl, Ng, hm, F.kp, lk, hcd, hb, S, h0, hv, fun X q => G X q cdv⟩
/-- the table of the code objects that a def makes -/
structure LamT (C : Con) (mg : Str → Option Value) (base : Heap) (c P : Addr) (q : Str) : Prop where
  tb : LamX.TabB base mg c P
  ex : ∃ T : List (Addr × Str), (∀ H, C.TT H ↔ LamX.Tabs T H) ∧ (P, q) ∈ T ∧ ∀ p ∈ T, p.1 = P → p.2 = q
section
variable {B : Bd} {X : Cx} {W : WX}
theorem g_ref (j : J B X W) {x a q : Str} {tn : Nat} {cl : List TellN} {we : WE} {c P : Addr} {k m : Nat} {params : Arguments} {body : Expr} {scope : Scope} {p lpos pos : Pos} (R : RefR X.prog X.w B.C X.mg X.base x a tn cl) (L : LamT B.C X.mg X.base c P q) (hg : Gl X x) (hq : X.env.qual ++ "<lambda>" = q)
    (hr : Room m X.A) (hm : k + 2 ≤ m) (hcode : X.env.code = .ref c) (LS : LamX.LamS X.env.scope scope) (hdef : defaultsOf params X.env = ([], []))
    (hbind : ∀ (q : Str) (cl : List (Str × Addr)) (pm cv ctv : Value), bindArgs (PySem.W.kla_fn "<lambda>" q params body scope cl pm cv ctv) ⟨[], []⟩ = pure [])
    (hbody : ∀ (g : Gh) (H : Hp) (A : Around) (outer : List Env) (s : Shared) (HZ : Hp) (E : XK) (f c' : Addr), Room k (A.deeper (LamX.lamEnv X scope s.heap.objs.size f c')) → J ⟨B.C, g, H⟩ (LamX.lamCx X A outer s HZ E scope f c') (fun cls d _ H' => E cls d H') → PEg ⟨B.C, g, H⟩ (LamX.lamCx X A outer s HZ E scope f c') (fun cls d _ H' => E cls d H') body we)
    (hdb : (x == ("__debug__" : Str)) = false := by decide) (hd : (a == ("__debug__" : Str)) = false := by decide) (hcd : (a == ("__classdict__" : Str)) = false := by decide) : PEg B X W (.Call (.Name x p) [.Lambda params body scope lpos] [] pos) (wRef tn cl we) := by
  obtain ⟨gA, pg, bg, sg, dV, kV, doc, pm, cdv, ct, oc, an, od, osl, Ng, h1, h2, h3, h4, h5, h6, h7, h8, h9⟩ := R.ex
  obtain ⟨T, t1, t2, t3⟩ := L.ex
  subst hq
  exact g_refused j R.tk t1 hg h1 (by rw [j.hK]; exact h2) (by rw [j.hK]; exact h3) (by rw [j.hK]; exact h4) (by rw [j.hK]; exact h5) h6 h7 h8 (by rw [j.hK]; exact h9 X _ rfl rfl j.hK rfl rfl) L.tb hcode t2 t3 (hr.mono hm) LS hdef hbind hbody hdb hd hcd
end
def lawC (x : Str) (K : PySem.W.Frag) : Addr := match K.lookup (He.ga K x) with
  | some o => (match o.data with
    | .func fd => (match fd.code with
      | .ref c => c
      | _ => 0)
    | _ => 0)
  | none => 0
def lawP (x : Str) (K : PySem.W.Frag) : Addr := match K.lookup (lawC x K) with
  | some o => (match o.data with
    | .fields vs => (match (vs[11]? : Option Value) with
      | some (.ref P) => P
      | _ => 0)
    | _ => 0)
  | none => 0
def lawTabB (x : Str) : Fab := fun K => (match K.lookup (lawC x K) with
  | some o => (match o.data with
    | .fields vs => (match (vs[11]? : Option Value) with
      | some (.ref _) => true
      | _ => false)
    | _ => false)
  | none => false) && (K.lookup (lawP x K)).isNone
theorem law_tab {K : PySem.W.Frag} {h : Heap} {x qual : Str} {f : Addr} {fd : FuncData} {params : Arguments} {body : List Stmt} {scope : Scope} (X : K.In h) (b : lawTabB x K = true) (hf : f = He.ga K x) (F : FunD K x qual params body scope [] [] f fd)
    (ht : ∃ (o : Obj) (fd : FuncData) (c P : Addr), h.get? f = some o ∧ o.data = .func fd ∧ fd.code = .ref c ∧ h.IsCode c P #[] ∧ h.TableAt c P #[]) :
    fd.code = .ref (lawC x K) ∧ h.get? (lawP x K) = some { cls := .none, data := .fields #[] } ∧ K.lookup (lawP x K) = none ∧ PySem.W.CodeHd h (lawC x K) (lawP x K) := by
  obtain ⟨oc, od, dV, kV, doc, pm, an, cdv, ct, osl, efd, lk, hcd, _, _⟩ := F.ex
  obtain ⟨o, fd2, c, P, h1, h2, h3, h4, h5⟩ := ht
  obtain ⟨b1, b2⟩ := He.ba b
  rw [X _ _ lk] at h1
  cases h1
  have e2 : fd = fd2 := by cases h2; rfl
  subst e2
  subst hf
  have ec : lawC x K = c := by
    unfold lawC
    rw [lk]
    show (match fd.code with | .ref c => c | _ => 0) = c
    rw [h3]
  rw [ec] at b1
  have hd := PySem.W.CodeHd.of h4 h5
  obtain ⟨⟨o3, vs3, e1, _, e3, e4⟩, hP⟩ := id h5
  have eP : lawP x K = P := by
    unfold lawP
    rw [ec]
    cases q : K.lookup c with
    | none => rw [q] at b1; cases b1
    | some o4 =>
      have := X _ _ q
      rw [e1] at this
      cases this
      show (match o3.data with
        | .fields vs => (match (vs[11]? : Option Value) with
          | some (.ref P) => P
          | _ => 0)
        | _ => 0) = P
      rw [e3]
      show (match (vs3[11]? : Option Value) with
          | some (.ref P) => P
          | _ => 0) = P
      rw [e4]
  rw [eP] at b2 ⊢
  rw [ec]
  refine ⟨h3, hP, ?_, hd⟩
  cases q : K.lookup P with
  | none => rfl
  | some o4 => rw [q] at b2; cases b2
/-- THE RULE for the law's def where its code object is known -/
theorem fn_okC {P : Program} {w : World} {C : Con} {mg : Str → Option Value} {base : Heap} {x qual : Str} {params : Arguments} {body : List Stmt} {scope : Scope} {dvs : List V} {kws : List (Str × V)} {f cA : Addr} {fd : FuncData} {N ps : List Str} {k : Nat} {wb : WS}
    (ck : ConOk C) (F : FunD C.K x qual params body scope dvs kws f fd) (S : FnScope N ps scope) (fc : fd.code = .ref cA)
    (h : ∀ (A : Around) (outer : List Env) (s : Shared) (H : Hp) (E : XK) (g : Gh) (W : WX), Room k (A.deeper (envOfC qual scope s.heap.objs.size f (.ref cA))) → J ⟨C, g, H⟩ (cxOf (L2.CX P w) P w C.K mg base N qual scope f (.ref cA) A outer s H E) W →
      PSsg ⟨C, g, H⟩ (cxOf (L2.CX P w) P w C.K mg base N qual scope f (.ref cA) A outer s H E) W body wb) : FnOk P w C.K mg base (L2.CX P w) (k + 1) f fd ps (spOf C (wfn N.length ps.length wb) ps.length) := by
  obtain ⟨oc, od, dV, kV, doc, pm, an, cdv, ct, osl, rfl, lk, hcd, _, _⟩ := F.ex
  obtain rfl : cdv = .ref cA := fc
  refine fn_of lk hcd S (fun vs H Q E h => h.1) fun A outer s H vs Q E hr ⟨hn, g, ds, st, Qg, R, ok, r, hw, hQ, hE⟩ => ?_
  have j : J ⟨C, g, H⟩ (cxOf (L2.CX P w) P w C.K mg base N qual scope f (.ref cA) A outer s H E) (fun cls d _ H' => E cls d H') :=
    { ck := ck, hK := rfl, tk := takes_of rfl rfl rfl rfl, po := passes_of rfl, calm := rfl, nd := S.nd, hd := hr.hd, hu := hr.units, hu2 := by have h := hr.un; show (A.deeper _).units + 150 < cLine; omega }
  refine ⟨_, (h A outer s H E g _ hr j).ps, ?_⟩
  refine ⟨g, startE N.length ds, st, _, start_ok ok r, ?_, hw.2, ?_, ?_, ?_, ?_⟩
  · intro x g' env' st' σ H' cls d b x' q
    exact hE cls d H' ⟨x, st', g', b.nx.le, b.ok, b.nx, x', q⟩
  · rintro σ' H' ⟨env', st', g', l, b, q⟩
    exact hQ .non H' ⟨.non, st', g', l, b.ok, b.nx, rep_non, q⟩
  · rintro v H' ⟨d, st', g', l, ok', nx, rv, q⟩
    exact hQ v H' ⟨d, st', g', l, ok', nx, rv, q⟩
  · rintro σ' H' ⟨env', st', g', l, b, q⟩
    exact q.elim
  · rintro σ' H' ⟨env', st', g', l, b, q⟩
    exact q.elim
open PySem.W PyProof.Rows in
/-- a law with tables of code objects, its own table given -/
theorem walk_ofL {l : PySem.W.OpenLaw} {n k : Nat} {q : Program} {loose : List Str} {XP : (Str → Option Value) → Heap → Prop} {YP : World → Heap → Prop} {d : DefRec} {x : Str}
    (hn : l.most = some n) (hn2 : n ≤ sizeLine) (hdf : d.params.defaults = []) (hr : Room k callerA) (hrec : ((recsOf q).any fun r => r.name == d.name) = true)
    (F : ∀ (w : World) (mg : Str → Option Value) (fa : Addr) (h : Heap), YP w h → h.Ns mainGlobals mg → mg d.name = some (.ref fa) → (∃ (o : Obj) (fd : FuncData) (c P : Addr), h.get? fa = some o ∧ o.data = .func fd ∧ fd.code = .ref c ∧ h.IsCode c P #[] ∧ h.TableAt c P #[]) →
      ∃ (K : PySem.W.Frag) (fd : FuncData) (cs : List (Addr × Addr)) (sp : Sp), K.In h ∧ (∀ p ∈ cs, h.get? p.2 = some { cls := .none, data := .fields #[] }) ∧ (∀ p ∈ cs, K.lookup p.2 = none) ∧ (∀ p ∈ cs, PySem.W.CodeHd h p.1 p.2) ∧ (∀ (s : Shared) (u : Value), BindsTo s fd ⟨[u], []⟩ [(x, u)]) ∧
        (∀ (H : Hp) (a : Addr) (ns : List Int), ns.length ≤ n → (∀ p ∈ cs, H p.2 = some (.tbl #[])) → SqL K H a (ns.map V.int) → sp [.ref a] H (fun v _ => v = .bl true) fun _ _ _ => False) ∧
        ∀ base : Heap, K.In base → base.Ns mainGlobals mg → (∀ p ∈ cs, LamX.TabB base mg p.1 p.2) → FnOk l.prog w K mg base (L2.CX l.prog w) k fa fd [x] sp) :
    PySem.W.WalkO q loose XP YP l.row.toRowW d [] (fun f vs => PySem.call f vs) := by
  refine Att.attach_callB hn hdf fun w s₀ s₁ mg mb fa o pm cd doc a vs ns G Y ho hd hcd hmg hobj hints hlen _ hg => ?_
  have ht : ∃ (o : Obj) (fd : FuncData) (c P : Addr), s₁.heap.get? fa = some o ∧ o.data = .func fd ∧ fd.code = .ref c ∧ s₁.heap.IsCode c P #[] ∧ s₁.heap.TableAt c P #[] := by
    obtain ⟨r, hr1, hr2⟩ := List.any_eq_true.mp hrec
    obtain ⟨a2, o2, fd2, c, P, m1, m2, m3, m4, m5, m6⟩ := G.T.tab r hr1
    rw [beq_iff_eq.mp hr2, hmg] at m1
    cases m1
    exact ⟨o2, fd2, c, P, m2, m3, m4, m5, m6⟩
  obtain ⟨K, fd, cs, sp, KX, hT, nT, C, hb, hsp, hF⟩ := F w mg fa _ Y G.T.g hmg ht
  exact LamX.law_callTs KX G.T.g G.T.b G.T.builtins G.T.nolimit hg hT nT C G.T.bmain hobj hints (Nat.le_trans hlen hn2) hr hF hb (fun H hH hS => hsp H a ns hlen hH hS) fun H e s' ⟨_, _, _, _, _, _, _, _, _, _, _, _, q⟩ => q.elim
end G
namespace G
open PySem PySem.Spec PyProof.Rows L2
/-- the clauses, by the numbers of the classes and of the fields -/
def tcl : List TellN := [([2, 3, 5, 8], some 0), ([4], some 2), ([6], some 3), ([7, 12], some 4), ([9, 10, 15], some 5), ([11, 16], some 6), ([13], some 7), ([14], some 8), ([17], none)]
/-- an error's __init__, where it stands, its file, its class -/
structure SupX where
  d : DefX
  file : Str
  C : PySem.W.Frag → Addr
def SupX.ok (K : PySem.W.Frag) (s : SupX) : Bool := s.d.okS s.file s.C K
/-- the table of a global def's code object -/
def tabG (g : Addr → Option Obj) (x : Str) : Addr := match g (He.ga (He.frG g [mainGlobals]) x) with
  | some o => (match o.data with
    | .func fd => (match fd.code with
      | .ref c => (match g c with
        | some oc => (match oc.data with
          | .fields vs => (match (vs[11]? : Option Value) with
            | some (.ref P) => P
            | _ => 0)
          | _ => 0)
        | none => 0)
      | _ => 0)
    | _ => 0)
  | none => 0
abbrev AlY : Type := He.AlD × He.AlD
def obsY (fa : List Fab) (fn : List DefX) (su : List SupX) (K : PySem.W.Frag) : AlY := (obsX fa fn K, (su.all fun s => s.ok K, su.map fun s => fnWS K (s.d.at_ K)))
def valY (fn : List DefX) (su : List SupX) : AlY := (valX fn, (true, su.map fun s => s.d.val))
def SaysY (fa : List Fab) (fn : List DefX) (su : List SupX) (K : PySem.W.Frag) : Prop := obsY fa fn su K = valY fn su
section
variable {fa : List Fab} {fn : List DefX} {su : List SupX} {K : PySem.W.Frag}
theorem SaysY.x (c : SaysY fa fn su K) : SaysX fa fn K := congrArg (fun z : AlY => z.1) c
theorem SaysY.fact (c : SaysY fa fn su K) (i : Nat) {f : Fab} (h : fa[i]? = some f := by rfl) : f K = true := c.x.fact i h
theorem SaysY.def_ (c : SaysY fa fn su K) (i : Nat) {d : DefX} (h : fn[i]? = some d := by rfl) : ∃ fd, FunD K d.name d.qual d.params d.body d.scope [] [] (d.at_ K) fd := c.x.def_ i h
theorem SaysY.sup (c : SaysY fa fn su K) (i : Nat) {s : SupX} (h : su[i]? = some s := by rfl) : fnWS K (s.d.at_ K) = s.d.val ∧ s.d.okS s.file s.C K = true := by
  have e1 : (su.all fun s => s.ok K) = true := congrArg (fun z : AlY => z.2.1) c
  have e2 : (su.map fun s => fnWS K (s.d.at_ K)) = su.map fun s => s.d.val := congrArg (fun z : AlY => z.2.2) c
  have e3 : (su.map fun s => fnWS K (s.d.at_ K))[i]? = (su.map fun s => s.d.val)[i]? := by rw [e2]
  rw [List.getElem?_map, List.getElem?_map, h] at e3
  exact ⟨Option.some.inj e3, List.all_eq_true.mp e1 s (List.mem_of_getElem? h)⟩
end
theorem obs_partsY {α : Type} {e : Option α} {f : List Fab} {fn : List DefX} {su : List SupX} {K : α → PySem.W.Frag} (h1 : e.map (fun s => f.all fun x => x (K s)) = some true) (h2 : e.map (fun s => ((fn.all fun d => d.ok (K s)), fn.map fun d => fnWX (K s) (d.at_ (K s)))) = some (true, fn.map DefX.val))
    (h3 : e.map (fun s => ((su.all fun d => d.ok (K s)), su.map fun d => fnWS (K s) (d.d.at_ (K s)))) = some (true, su.map fun d => d.d.val)) : e.map (fun s => obsY f fn su (K s)) = some (valY fn su) := by
  cases e with
  | none => simp at h1
  | some s =>
    simp only [Option.map_some, Option.some.injEq, Prod.mk.injEq] at h1 h2 h3 ⊢
    unfold obsY valY obsX valX
    rw [h1, h2.1, h2.2, h3.1, h3.2]
    rfl
/-- the places in such an __init__ -/
def supPos (b : List Stmt) : Nat → Pos := match b with
  | [.Expr (.Call (.Attribute (.Call (.Name _ p0) _ _ p1) _ p2) [.Name _ p3] _ p4) p5, .Assign [.Attribute (.Name _ p6) _ p7] (.Name _ p8) p9, .Assign [.Attribute (.Name _ p10) _ p11] (.Constant _ _ p12) p13] => fun i => [p0, p1, p2, p3, p4, p5, p6, p7, p8, p9, p10, p11, p12, p13].getD i p0
  | _ => fun _ => ⟨0, 0, 0, 0⟩
def supJ (b : List Stmt) : Nat := match b with
  | [_, _, .Assign _ (.Constant _ j _) _] => j
  | _ => 0
end G
namespace G
open PySem PySem.Spec PyProof.Rows L2 LamX
/-- a code object is no set of ints -/
theorem code_set {w : World} {c p : Addr} {q : Str} {S : Int → Bool} {n : Nat} (h : CodeO c q = IntSet w p S n) : False := by
  unfold CodeO IntSet at h
  injection h with h
  let X : Obj := ⟨.none, none, .fields #[.none, .str q 0], #[]⟩
  have e := congrFun h { objs := Array.replicate (c + p + 1) X }
  have at_ : ∀ a, a ≤ c + p → (Heap.get? { objs := Array.replicate (c + p + 1) X } a) = some X := fun a ha => by
    have z : (Array.replicate (c + p + 1) X)[a]? = some X := by rw [Array.getElem?_replicate, if_pos (Nat.lt_succ_of_le ha)]
    show (match (Array.replicate (c + p + 1) X)[a]? with
      | some ⟨_, _, .freed, _⟩ => none
      | o => o) = some X
    rw [z]
  have z : SetR w { objs := Array.replicate (c + p + 1) X } p S n := by
    rw [← e]
    exact ⟨X, #[.none, .str q 0], 0, at_ c (Nat.le_add_right c p), rfl, rfl⟩
  obtain ⟨o, es, ep, t, ho, _, hd, _⟩ := z
  rw [at_ p (Nat.le_add_left p c)] at ho
  cases ho
  cases hd
theorem tabs_ts {T : List (Addr × Str)} {K : PySem.W.Frag} {ca : Nat → Addr} {fn mn : Nat → Str} : TS ⟨K, ca, fn, mn, fun H => LamX.Tabs T H⟩ := fun w H p S S' n n' hT hp q hq => by
  obtain ⟨ps, h1, h2, h3⟩ := hT q hq
  have np : q.1 ≠ p := fun z => by
    rw [z, hp] at h1
    cases h1
  refine ⟨ps, by rw [upd_ne np]; exact h1, h2, fun pos cv hc => ?_⟩
  obtain ⟨c, e1, e2⟩ := h3 pos cv hc
  refine ⟨c, e1, ?_⟩
  have nc : c ≠ p := fun z => by
    rw [z, hp] at e2
    exact code_set (Option.some.inj e2).symm
  rw [upd_ne nc]
  exact e2
end G
namespace G
open PySem PySem.Spec PyProof.Rows L2
/-- a def of the text, where it stands; dvs: the values of the last parameters -/
structure DefAtK (C : Con) (mg : Str → Option Value) (x : Str) (params : Arguments) (body : List Stmt) (scope : Scope) (ps : List Str) (dvs : List V) : Prop where
  ex : ∃ f fd kws ds, FunD C.K x x params body scope [] kws f fd ∧ mg x = some (.ref f) ∧ Vals dvs ds ∧ L2.Binds C.K fd ps ds
/-- a def whose promise is kept, called without its last parameters -/
structure FnpK (P : Program) (w : World) (C : Con) (mg : Str → Option Value) (base : Heap) (x : Str) (n k : Nat) (φ : WF) (dvs : List V) : Prop where
  len : ∀ ds st Q R, φ ds st Q R → ds.length = n
  ex : ∃ f fd ps ds, FnOk P w C.K mg base (L2.CX P w) k f fd ps (spOf C φ n) ∧ ps.length = n ∧ mg x = some (.ref f) ∧ PySem.W.keepIn C.K (.ref f) = true ∧ Vals dvs ds ∧ L2.Binds C.K fd ps ds
theorem FnpK.of {P : Program} {w : World} {C : Con} {mg : Str → Option Value} {base : Heap} {x : Str} {params : Arguments} {body : List Stmt} {scope : Scope} {N ps : List Str} {k : Nat} {wb : WS} {dvs : List V}
    (ck : ConOk C) (D : DefAtK C mg x params body scope ps dvs) (S : FnScope N ps scope)
    (h : ∀ (f : Addr) (cdv : Value) (A : Around) (outer : List Env) (s : Shared) (H : Hp) (E : XK) (g : Gh) (W : WX), Room k (A.deeper (envOfC x scope s.heap.objs.size f cdv)) → J ⟨C, g, H⟩ (cxOf (L2.CX P w) P w C.K mg base N x scope f cdv A outer s H E) W →
      PSsg ⟨C, g, H⟩ (cxOf (L2.CX P w) P w C.K mg base N x scope f cdv A outer s H E) W body wb) : FnpK P w C mg base x ps.length (k + 1) (wfn N.length ps.length wb) dvs := by
  obtain ⟨f, fd, kws, ds, F, hm, hv, hb⟩ := D.ex
  exact ⟨wfn_len, f, fd, ps, ds, fn_ok ck F S (h f), rfl, hm, F.kp, hv, hb⟩
structure FunGK (B : Bd) (X : Cx) (x : Str) (n : Nat) (φ : WF) (dvs : List V) : Prop where
  len : ∀ ds st Q R, φ ds st Q R → ds.length = n
  ex : ∃ k f fd ps ds, Room k X.A ∧ FnOk X.prog X.w X.K X.mg X.base (L2.CX X.prog X.w) k f fd ps (spOf B.C φ n) ∧ ps.length = n ∧ X.mg x = some (.ref f) ∧ PySem.W.keepIn X.K (.ref f) = true ∧ Vals dvs ds ∧ L2.Binds X.K fd ps ds
theorem FnpK.at {B : Bd} {X : Cx} {x : Str} {n k m : Nat} {φ : WF} {dvs : List V} (h : FnpK X.prog X.w B.C X.mg X.base x n k φ dvs) (hK : X.K = B.C.K) (hr : Room m X.A) (hk : k ≤ m := by decide) : FunGK B X x n φ dvs := by
  obtain ⟨f, fd, ps, ds, ok, hn, hm, hk', hv, hb⟩ := h.ex
  exact ⟨h.len, k, f, fd, ps, ds, hr.mono hk, by rw [hK]; exact ok, hn, hm, by rw [hK]; exact hk', hv, by rw [hK]; exact hb⟩
end G
namespace G
open PySem PySem.Spec PyProof.Rows L2
def QVF (B : Bd) (gb : Gh) (Hb : Hp) (env : Envr) (σ : L2.St) (Q : QE) : VK := fun v H' => ∃ D xs ds st' g', v = .ref D ∧ Nx gb Hb g' H' ∧ BOk B g' env st' σ H' ∧ Anon B g' env σ D ∧ H' D = some (.lst xs) ∧ Reps B.C g' ds xs ∧ Q (.lst ds) st'
def tgF (B : Bd) (W : WX) (w : WE) : TE := fun σ H Q => ∃ g env st Qg R, BOk B g env st σ H ∧ RW B W env σ R ∧ w env st Qg R ∧ ∀ v H', QVF B g H env σ Qg v H' → Q v H'
structure PEgF (B : Bd) (X : Cx) (W : WX) (e : Expr) (w : WE) : Prop where
  pe : PE X e (tgF B W w)
section
variable {B : Bd} {X : Cx} {W : WX} {e : Expr} {es : List Expr} {pos : Pos}
theorem PEgF.of {t : TE} {w : WE} (h : PE X e t) (k : ∀ (σ : L2.St) (H : Hp) (g : Gh) (env : Envr) (st : Store) (Q : QE) (R : XQ) (Q' : VK), BOk B g env st σ H → RW B W env σ R → w env st Q R → (∀ v H', QVF B g H env σ Q v H' → Q' v H') → t σ H Q') : PEgF B X W e w :=
  ⟨⟨fun pins s σ H Q I ⟨g, env, st, Qg, R, b, r, hw, hq⟩ => h.run pins s σ H Q I (k σ H g env st Qg R Q b r hw hq)⟩⟩
def QRF (B : Bd) (g : Gh) (Q : QE) : VK := fun v H' => ∃ D xs ds st' g', v = .ref D ∧ g.le g' ∧ GOk B.C g' H' st' ∧ Nx B.g0 B.H0 g' H' ∧ H' D = some (.lst xs) ∧ g'.P D = none ∧ (∀ n, g'.ad n ≠ some D) ∧ B.H0 D = none ∧ Reps B.C g' ds xs ∧ Q (.lst ds) st'
def EndsF (B : Bd) (g : Gh) (D : EW) : Ends := { nx := QN B g D.nx, rt := QRF B g D.rt, bk := QN B g D.bk, ct := QN B g D.ct }
structure PSsgF (B : Bd) (X : Cx) (W : WX) (st : List Stmt) (w : WS) : Prop where
  run : ∀ (pins : List (Addr × Obj)) (s : Shared) (σ : L2.St) (H : Hp) (g : Gh) (env : Envr) (sto : Store) (D : EW), Inv X pins σ H s → BOk B g env sto σ H → RWs B W D.ex → w env sto D →
    wpAny (model X.prog X.w) X.A (execs st X.env) (SP X pins (EndsF B g D)) X.xe s
theorem EndsF.le {g g' : Gh} {D : EW} (l : g.le g') {pins : List (Addr × Obj)} {f : Flow} {s : Shared} (h : SP X pins (EndsF B g' D) f s) : SP X pins (EndsF B g D) f s := by
  cases f with
  | next => obtain ⟨σ', H', I, env', st', g2, l2, b, q⟩ := h; exact ⟨σ', H', I, env', st', g2, l.trans l2, b, q⟩
  | brk => obtain ⟨σ', H', I, env', st', g2, l2, b, q⟩ := h; exact ⟨σ', H', I, env', st', g2, l.trans l2, b, q⟩
  | cont => obtain ⟨σ', H', I, env', st', g2, l2, b, q⟩ := h; exact ⟨σ', H', I, env', st', g2, l.trans l2, b, q⟩
  | ret u =>
    obtain ⟨v, σ', H', I, rv, Dd, xs, ds, st', g2, e, l2, k⟩ := h
    exact ⟨v, σ', H', I, rv, Dd, xs, ds, st', g2, e, l.trans l2, k⟩
end
def SpQF (C : Con) (g : Gh) (H : Hp) (Q : QE) (v : V) (H' : Hp) : Prop := ∃ D xs ds st' g', v = .ref D ∧ g.le g' ∧ GOk C g' H' st' ∧ Nx g H g' H' ∧ H' D = some (.lst xs) ∧ g'.P D = none ∧ (∀ n, g'.ad n ≠ some D) ∧ H D = none ∧ Reps C g' ds xs ∧ Q (.lst ds) st'
def spOfF (C : Con) (φ : WF) (n : Nat) : Sp := fun vs H Q E => vs.length = n ∧ ∃ g ds st Qg R, GOk C g H st ∧ Reps C g ds vs ∧ φ ds st Qg R ∧ (∀ v H', SpQF C g H Qg v H' → Q v H') ∧ (∀ cls dd H', SpR C g H R cls dd H' → E cls dd H')
/-- a body w over m names, the first n parameters; it always returns -/
def wfnF (m n : Nat) (w : WS) : WF := fun ds st Q R => ds.length = n ∧ w (startE m ds) st { nx := fun _ _ => False, rt := Q, bk := fun _ _ => False, ct := fun _ _ => False, ex := fun x _ st' => R x st' }
end G
namespace G
open PySem PySem.Spec PyProof.Rows L2
end G
namespace G
open PySem PySem.Spec PyProof.Rows L2
end G
namespace G
open PySem PySem.Spec PyProof.Rows L2
structure DefAtN (C : Con) (mg : Str → Option Value) (x : Str) (params : Arguments) (body : List Stmt) (scope : Scope) (ps : List Str) (dvs : List V) (n : Nat) (ks : List Str) : Prop where
  ex : ∃ f fd kws ds gg, FunD C.K x x params body scope [] kws f fd ∧ mg x = some (.ref f) ∧ Vals dvs ds ∧ L2.Binds C.K fd ps ds ∧ KBn C.K fd ps n ks gg (fun vs zs => vs ++ zs)
structure FnpN (P : Program) (w : World) (C : Con) (mg : Str → Option Value) (base : Heap) (x : Str) (n k : Nat) (φ : WF) (dvs : List V) (m : Nat) (ks : List Str) : Prop where
  len : ∀ ds st Q R, φ ds st Q R → ds.length = n
  ex : ∃ f fd ps ds gg, FnOk P w C.K mg base (L2.CX P w) k f fd ps (spOf C φ n) ∧ ps.length = n ∧ mg x = some (.ref f) ∧ PySem.W.keepIn C.K (.ref f) = true ∧ Vals dvs ds ∧ L2.Binds C.K fd ps ds ∧ KBn C.K fd ps m ks gg (fun vs zs => vs ++ zs)
structure FnpKF (P : Program) (w : World) (C : Con) (mg : Str → Option Value) (base : Heap) (x : Str) (n k : Nat) (φ : WF) (dvs : List V) : Prop where
  len : ∀ ds st Q R, φ ds st Q R → ds.length = n
  ex : ∃ f fd ps ds, FnOk P w C.K mg base (L2.CX P w) k f fd ps (spOfF C φ n) ∧ ps.length = n ∧ mg x = some (.ref f) ∧ PySem.W.keepIn C.K (.ref f) = true ∧ Vals dvs ds ∧ L2.Binds C.K fd ps ds
theorem wfnF_len {m n : Nat} {w : WS} : ∀ ds st Q R, wfnF m n w ds st Q R → ds.length = n := fun _ _ _ _ h => h.1
section
variable {P : Program} {w : World} {C : Con} {mg : Str → Option Value} {base : Heap} {x qual : Str} {params : Arguments} {body : List Stmt} {scope : Scope} {dvs : List V} {kws : List (Str × V)} {f : Addr} {fd : FuncData} {N ps : List Str} {k m : Nat} {wb : WS} {ks : List Str}
theorem FnpN.of (ck : ConOk C) (D : DefAtN C mg x params body scope ps dvs m ks) (S : FnScope N ps scope)
    (h : ∀ (f : Addr) (cdv : Value) (A : Around) (outer : List Env) (s : Shared) (H : Hp) (E : XK) (g : Gh) (W : WX), Room k (A.deeper (envOfC x scope s.heap.objs.size f cdv)) → J ⟨C, g, H⟩ (cxOf (L2.CX P w) P w C.K mg base N x scope f cdv A outer s H E) W →
      PSsg ⟨C, g, H⟩ (cxOf (L2.CX P w) P w C.K mg base N x scope f cdv A outer s H E) W body wb) : FnpN P w C mg base x ps.length (k + 1) (wfn N.length ps.length wb) dvs m ks := by
  obtain ⟨f, fd, kws, ds, gg, F, hm, hv, hb, hk⟩ := D.ex
  exact ⟨wfn_len, f, fd, ps, ds, gg, fn_ok ck F S (h f), rfl, hm, F.kp, hv, hb, hk⟩
theorem fnF_ok (ck : ConOk C) (F : FunD C.K x qual params body scope [] kws f fd) (S : FnScope N ps scope)
    (h : ∀ (cdv : Value) (A : Around) (outer : List Env) (s : Shared) (H : Hp) (E : XK) (g : Gh) (W : WX), Room k (A.deeper (envOfC qual scope s.heap.objs.size f cdv)) → J ⟨C, g, H⟩ (cxOf (L2.CX P w) P w C.K mg base N qual scope f cdv A outer s H E) W →
      PSsgF ⟨C, g, H⟩ (cxOf (L2.CX P w) P w C.K mg base N qual scope f cdv A outer s H E) W body wb) : FnOk P w C.K mg base (L2.CX P w) (k + 1) f fd ps (spOfF C (wfnF N.length ps.length wb) ps.length) := by
    refine F.ok (CX := L2.CX P w) S (fun vs H Q E h => h.1) fun cdv A outer s H vs Q E hr ⟨hn, g, ds, st, Qg, R, ok, r, hw, hQ, hE⟩ => ?_
    have j : J ⟨C, g, H⟩ (cxOf (L2.CX P w) P w C.K mg base N qual scope f cdv A outer s H E) (fun cls d _ H' => E cls d H') :=
      { ck := ck, hK := rfl, tk := takes_of rfl rfl rfl rfl, po := passes_of rfl, calm := rfl, nd := S.nd, hd := hr.hd, hu := hr.units, hu2 := by have h := hr.un; show (A.deeper _).units + 150 < cLine; omega }
    refine ⟨fun D σ H' => ∃ g0 env st0 D0, BOk ⟨C, g, H⟩ g0 env st0 σ H' ∧ RWs ⟨C, g, H⟩ (fun cls d _ H' => E cls d H') D0.ex ∧ wb env st0 D0 ∧ (∀ σ' H', QN ⟨C, g, H⟩ g0 D0.nx σ' H' → D.nx σ' H') ∧ (∀ v H', QRF ⟨C, g, H⟩ g0 D0.rt v H' → D.rt v H') ∧ (∀ σ' H', QN ⟨C, g, H⟩ g0 D0.bk σ' H' → D.bk σ' H') ∧ (∀ σ' H', QN ⟨C, g, H⟩ g0 D0.ct σ' H' → D.ct σ' H'), ⟨fun pins s' σ H' D I ⟨g0, env, st0, D0, bo, rw, hw, k1, k2, k3, k4⟩ => ?_⟩, ?_⟩
    · exact thn ((h cdv A outer s H E g _ hr j).run pins s' σ H' g0 env st0 D0 I bo rw hw) fun _ _ z => SP.imp z k1 k2 k3 k4
    · refine ⟨g, startE N.length ds, st, _, start_ok ok r, ?_, hw.2, ?_, ?_, ?_, ?_⟩
      · exact fun x g' env' st' σ H' cls d b x' q => hE cls d H' ⟨x, st', g', b.nx.le, b.ok, b.nx, x', q⟩
      · exact fun σ' H' ⟨env', st', g', l, b, q⟩ => q.elim
      · exact fun v H' ⟨Dd, xs, ds', st', g', e, l, ok', nx, hH, np, nc, h0, rv, q⟩ => hQ v H' ⟨Dd, xs, ds', st', g', e, l, ok', nx, hH, np, nc, h0, rv, q⟩
      · exact fun σ' H' ⟨env', st', g', l, b, q⟩ => q.elim
      · exact fun σ' H' ⟨env', st', g', l, b, q⟩ => q.elim
theorem FnpKF.of (ck : ConOk C) (D : DefAtN C mg x params body scope ps dvs m ks) (S : FnScope N ps scope)
    (h : ∀ (f : Addr) (cdv : Value) (A : Around) (outer : List Env) (s : Shared) (H : Hp) (E : XK) (g : Gh) (W : WX), Room k (A.deeper (envOfC x scope s.heap.objs.size f cdv)) → J ⟨C, g, H⟩ (cxOf (L2.CX P w) P w C.K mg base N x scope f cdv A outer s H E) W →
      PSsgF ⟨C, g, H⟩ (cxOf (L2.CX P w) P w C.K mg base N x scope f cdv A outer s H E) W body wb) : FnpKF P w C mg base x ps.length (k + 1) (wfnF N.length ps.length wb) dvs := by
  obtain ⟨f, fd, kws, ds, gg, F, hm, hv, hb, hk⟩ := D.ex
  exact ⟨wfnF_len, f, fd, ps, ds, fnF_ok ck F S (h f), rfl, hm, F.kp, hv, hb⟩
end
structure FunGKF (B : Bd) (X : Cx) (x : Str) (n : Nat) (φ : WF) (dvs : List V) : Prop where
  len : ∀ ds st Q R, φ ds st Q R → ds.length = n
  ex : ∃ k f fd ps ds, Room k X.A ∧ FnOk X.prog X.w X.K X.mg X.base (L2.CX X.prog X.w) k f fd ps (spOfF B.C φ n) ∧ ps.length = n ∧ X.mg x = some (.ref f) ∧ PySem.W.keepIn X.K (.ref f) = true ∧ Vals dvs ds ∧ L2.Binds X.K fd ps ds
theorem FnpKF.at {B : Bd} {X : Cx} {x : Str} {n k m : Nat} {φ : WF} {dvs : List V} (h : FnpKF X.prog X.w B.C X.mg X.base x n k φ dvs) (hK : X.K = B.C.K) (hr : Room m X.A) (hk : k ≤ m := by decide) : FunGKF B X x n φ dvs := by
  obtain ⟨f, fd, ps, ds, ok, hn, hm, hk', hv, hb⟩ := h.ex
  exact ⟨h.len, k, f, fd, ps, ds, hr.mono hk, by rw [hK]; exact ok, hn, hm, by rw [hK]; exact hk', hv, by rw [hK]; exact hb⟩
structure FunGN (B : Bd) (X : Cx) (x : Str) (n : Nat) (φ : WF) (m : Nat) (ks : List Str) : Prop where
  len : ∀ ds st Q R, φ ds st Q R → ds.length = n
  ex : ∃ k f fd ps gg, Room k X.A ∧ FnOk X.prog X.w X.K X.mg X.base (L2.CX X.prog X.w) k f fd ps (spOf B.C φ n) ∧ X.mg x = some (.ref f) ∧ PySem.W.keepIn X.K (.ref f) = true ∧ KBn X.K fd ps m ks gg (fun vs zs => vs ++ zs)
theorem FnpN.at {B : Bd} {X : Cx} {x : Str} {n k m q : Nat} {φ : WF} {dvs : List V} {ks : List Str} (h : FnpN X.prog X.w B.C X.mg X.base x n k φ dvs q ks) (hK : X.K = B.C.K) (hr : Room m X.A) (hk : k ≤ m := by decide) : FunGN B X x n φ q ks := by
  obtain ⟨f, fd, ps, ds, gg, ok, hn, hm, hk', hv, hb, hkb⟩ := h.ex
  exact ⟨h.len, k, f, fd, ps, gg, hr.mono hk, by rw [hK]; exact ok, hm, by rw [hK]; exact hk', by rw [hK]; exact hkb⟩
end G
namespace G
open PySem PySem.Spec PyProof.Rows L2
def nowZ {α : Type} (m : Nat) (f : Nat → α) : α := match m with
  | 0 => f 0
  | k + 1 => f (k + 1)
def putZ : List Addr → Nat → List Addr → (Nat → List Addr → List Addr) → List Addr
  | [], m, acc, k => k m acc
  | a :: as, m, acc, k => match Nat.beq (Nat.land (Nat.shiftRight m a) 1) 1 with
    | true => putZ as m acc k
    | false => nowZ (Nat.lor m (Nat.shiftLeft 1 a)) fun m2 => putZ as m2 (a :: acc) k
def growZ (g : Addr → Option Obj) : Nat → Nat → List Addr → List Addr → List Addr
  | 0, _, _, out => out
  | n + 1, m, fr, out => putZ (fr.flatMap fun a => match g a with
    | some o => He.refsD o
    | none => []) m [] fun m2 new => growZ g n m2 new (out ++ new)
/-- the tables of the defs tb are left out -/
def maskZ (tb : List Str) (g : Addr → Option Obj) : Nat := tb.foldr (fun x m => Nat.lor m (Nat.shiftLeft 1 (tabG g x))) (Nat.shiftLeft 1 mainGlobals)
def asZ (tb : List Str) (g : Addr → Option Obj) (n : Nat) : List Addr := cStatics :: nowZ (maskZ tb g) fun m => growZ g n m [mainGlobals] [mainGlobals]
def obsZG (tb : List Str) (n : Nat) (fa : List Fab) (fn : List DefX) (su : List SupX) (g : Addr → Option Obj) : AlY := obsY fa fn su (He.frG g (asZ tb g n))
def hookZ (tb : List Str) (n : Nat) (fa : List Fab) (fn : List DefX) (su : List SupX) : PySem.W.Hook where
  α := AlY
  obs := fun s => obsZG tb n fa fn su s.heap.get?
  val := fun _ => valY fn su
  says := fun _ h => ∃ K : PySem.W.Frag, K.In h ∧ SaysY fa fn su K
  of := fun _ _ e => ⟨_, He.frG_in, e⟩
  keeps := fun _ _ _ ⟨K, hK, c⟩ k => ⟨K, PySem.W.Frag.In.keeps hK k, c⟩
theorem obsZG_eq {tb : List Str} {n : Nat} {fa : List Fab} {fn : List DefX} {su : List SupX} {g : Addr → Option Obj} {s : Shared} (h : ∀ a, g a = s.heap.get? a) : obsZG tb n fa fn su g = (hookZ tb n fa fn su).obs s := by
  have e : g = s.heap.get? := funext h
  rw [e] <;> rfl
end G
namespace LamX
open PySem PySem.Spec PyProof.Rows L2
/-- an object known whole -/
def RawO (a : Addr) (o : Obj) : HO := .ext fun h => h.get? a = some o
theorem rawO_ne {a : Addr} {o : Obj} (ps : Array Value) : RawO a o ≠ .tbl ps := fun z => by
  unfold RawO at z
  cases z
/-- a lambda's names: captured ones, globals, parameters that the maker doesn't know -/
structure LamSD (N : List Str) (sc scope : Scope) : Prop where
  kind : scope.kind = .function
  co : scope.isCoroutine = false
  gen : scope.isGenerator = false
  own : ∀ y ∈ scope.names, y.2 ≠ .cell
  loc : ∀ y ∈ scope.names, y.2 = .local → y.1 ∉ N
  free : ∀ y ∈ scope.names, y.2 = .free → sc.names.lookup y.1 = some .cell ∨ sc.names.lookup y.1 = some .free
theorem LamSD.has {X : Cx} {scope : Scope} (L : LamSD X.N X.env.scope scope) (ok : X.Ok) : ∀ y ∈ scope.names, y.2 = .free → ∃ c, X.env.cells.lookup y.1 = some c := fun y hy e => by
  rcases L.free y hy e with k | k
  · exact ok.has _ (.inl k)
  · exact ok.has _ (.inr k)
abbrev lamObj (X : Cx) (params : Arguments) (body : Expr) (scope : Scope) (dV doc pm : Value) (c' : Addr) (ctv : Value) : Obj := PySem.W.kdv_obj "<lambda>" (X.env.qual ++ "<lambda>") params (.expr body) scope (cloFrom X.env.cells scope.names []) dV doc pm c' ctv
def DflAt (H : Hp) (dV : Value) : Option Str → Prop
  | none => dV = .none
  | some _ => ∃ t u, dV = .ref t ∧ H t = some (RawO t (PySem.W.kdv_tup [u]))
/-- a lambda of the maker X lies at f, its code object at c' -/
structure LamAt (X : Cx) (params : Arguments) (body : Expr) (scope : Scope) (par : Option Str) (f c' : Addr) (H : Hp) : Prop where
  co : H c' = some (CodeO c' (X.env.qual ++ "<lambda>"))
  ex : ∃ dV doc pm ctv, H f = some (RawO f (lamObj X params body scope dV doc pm c' ctv)) ∧ DflAt H dV par
theorem LamAt.ext {X : Cx} {params : Arguments} {body : Expr} {scope : Scope} {par : Option Str} {f c' : Addr} {H H1 : Hp} (l : LamAt X params body scope par f c' H) (e : ExtN H H1) : LamAt X params body scope par f c' H1 := by
  obtain ⟨co, dV, doc, pm, ctv, hf, hd⟩ := l
  refine ⟨e _ _ co codeO_ne, dV, doc, pm, ctv, e _ _ hf rawO_ne, ?_⟩
  cases par with
  | none => exact hd
  | some x =>
    obtain ⟨t, u, e1, e2⟩ := hd
    exact ⟨t, u, e1, e _ _ e2 rawO_ne⟩
end LamX
namespace LamX
open PySem PySem.Spec PyProof.Rows L2
end LamX
namespace LamX
open PySem PySem.Spec PyProof.Rows L2
end LamX
namespace G
open PySem PySem.Spec PyProof.Rows L2 LamX
/-- a lambda of the list: its parameter with a default, what its body gives -/
structure LamI where
  params : Arguments
  body : Expr
  scope : Scope
  par : Option Str
  pos : Pos
  we : WE
def LamAts (X : Cx) : List LamI → List (Addr × Addr) → Hp → Prop
  | [], fs, _ => fs = []
  | l :: ls, fs, H => ∃ f c' r, fs = (f, c') :: r ∧ LamAt X l.params l.body l.scope l.par f c' H ∧ LamAts X ls r H
theorem LamAts.len {X : Cx} {H : Hp} : ∀ {ls : List LamI} {fs : List (Addr × Addr)}, LamAts X ls fs H → fs.length = ls.length
  | [], _, h => by
    have h : _ = _ := h
    rw [h]; rfl
  | _ :: _, _, ⟨_, _, _, e, _, h⟩ => by rw [e, List.length_cons, List.length_cons, LamAts.len h]
theorem LamAts.at {X : Cx} {H : Hp} : ∀ {ls : List LamI} {fs : List (Addr × Addr)} {n : Nat} {p : Addr × Addr}, LamAts X ls fs H → fs[n]? = some p → ∃ l, ls[n]? = some l ∧ LamAt X l.params l.body l.scope l.par p.1 p.2 H
  | [], _, _, _, h, q => by
    have h : _ = _ := h
    rw [h] at q
    simp at q
  | l :: ls, _, 0, p, ⟨f, c', r, e, la, h⟩, q => by
    rw [e] at q
    obtain rfl : (f, c') = p := by simpa using q
    exact ⟨l, rfl, la⟩
  | l :: ls, _, n + 1, p, ⟨f, c', r, e, la, h⟩, q => by
    rw [e] at q
    exact LamAts.at (ls := ls) (fs := r) (n := n) h (by simpa using q)
theorem LamAts.ext {X : Cx} {H H1 : Hp} : ∀ {ls : List LamI} {fs : List (Addr × Addr)}, LamAts X ls fs H → ExtN H H1 → LamAts X ls fs H1
  | [], _, h, _ => h
  | _ :: _, _, ⟨f, c', r, e, la, h⟩, x => ⟨f, c', r, e, la.ext x, LamAts.ext h x⟩
theorem lamAt_keep {X : Cx} {params : Arguments} {body : Expr} {scope : Scope} {par : Option Str} {f c' : Addr} {H H1 : Hp} (l : LamAt X params body scope par f c' H) (k : ∀ a φ, H a = some (.ext φ) → H1 a = some (.ext φ)) : LamAt X params body scope par f c' H1 := by
  obtain ⟨co, dV, doc, pm, ctv, hf, hd⟩ := l
  refine ⟨k _ _ co, dV, doc, pm, ctv, k _ _ hf, ?_⟩
  cases par with
  | none => exact hd
  | some x =>
    obtain ⟨t, u, e1, e2⟩ := hd
    exact ⟨t, u, e1, k _ _ e2⟩
def wRunL (tn : Nat) (cl : List TellN) : List WE → Envr → List D → Store → (List D → Store → Prop) → Prop
  | [], _, acc, st, Q => Q acc st
  | we :: wes, env, acc, st, Q => wRef tn cl we env st (fun d st1 => acc.length < sizeLine ∧ wRunL tn cl wes env (acc ++ [d]) st1 Q) noX
end G
namespace G
open PySem PySem.Spec PyProof.Rows L2 LamX
end G
namespace G
open PySem PySem.Spec PyProof.Rows L2 LamX
end G
namespace G
end G
namespace G
open PySem PySem.Spec PyProof.Rows L2
section
variable {B : Bd} {X : Cx} {W : WX} {a b c e o : Expr} {es : List Expr} {wa wb wc : WE} {ta : WA} {pos apos : Pos} {M : MT}
def oFmt : O1 := fun d st Q R => match d with
  | .str y => y.length ≤ sizeLine ∧ Q (.str y) st
  | .int i => i.natAbs.log2 < 1920 ∧ Q (.str (toString i)) st
  | _ => False
theorem g_fmt (ha : PBg B X W a wa) : PEg B X W (.FormattedValue a (-1) none pos) (wUn oFmt wa) := by
  refine PEg.of (pe_fmt ha.pe) fun σ H g env st Q R bo rw hw => ?_
  refine ⟨g, env, st, _, R, bo, rw, hw, fun x H1 ⟨d, st1, g1, l1, b1, r1, h1⟩ => ?_⟩
  have h1 : oFmt d st1 Q R := h1
  unfold oFmt at h1
  split at h1
  · have e1 := r1.strV
    subst e1
    exact .inl ⟨_, rfl, h1.1, QV.same l1 b1 rep_str h1.2⟩
  · have e1 := r1.intV
    subst e1
    exact .inr ⟨_, rfl, h1.1, QV.same l1 b1 rep_str h1.2⟩
  · exact h1.elim
/-- the parts' judgements -/
inductive PJg (B : Bd) (X : Cx) (W : WX) : List Expr → List WE → Prop where
  | nil : PJg B X W [] []
  | cons {e : Expr} {w : WE} {es : List Expr} {ws : List WE} (h : PEg B X W e w) (r : PJg B X W es ws) : PJg B X W (e :: es) (w :: ws)
/-- the texts one behind the other -/
def wJs : List WE → Str → WE
  | [], acc => fun _ st Q _ => Q (.str acc) st
  | w :: ws, acc => fun env st Q R => w env st (fun d st1 => match d with
    | .str y => (acc ++ y).length ≤ sizeLine ∧ wJs ws (acc ++ y) env st1 Q R
    | _ => False) R
theorem PJg.pj {es : List Expr} {ws : List WE} (h : PJg B X W es ws) : PJ X es (ws.map (tg B W)) := by
  induction h with
  | nil => exact .nil
  | cons h r ih => exact .cons h.pe ih
theorem wJs_ok {env : Envr} {σ : L2.St} {R : XQ} : ∀ (ws : List WE) (acc : Str) (st : Store) (Q : QE) (gb g : Gh) (Hb H : Hp), Nx gb Hb g H → BOk B g env st σ H → RW B W env σ R → wJs ws acc env st Q R → tJs (ws.map (tg B W)) acc σ H (fun out H1 => QV B gb Hb env σ Q (.str out) H1)
  | [], acc, st, Q, gb, g, Hb, H, l, bo, rw, q => QV.same l bo rep_str q
  | w :: ws, acc, st, Q, gb, g, Hb, H, l, bo, rw, q => by
    refine ⟨g, env, st, _, R, bo, rw, q, fun x H1 ⟨d, st1, g1, l1, b1, r1, h1⟩ => ?_⟩
    cases d with
    | str y =>
      have e1 := r1.strV
      subst e1
      exact ⟨y, rfl, h1.1, wJs_ok ws (acc ++ y) st1 Q gb g1 Hb H1 (l.trans l1) b1 rw h1.2⟩
    | _ => exact h1.elim
theorem g_joined {v1 v2 : Expr} {rest : List Expr} {ws : List WE} (h : PJg B X W (v1 :: v2 :: rest) ws) : PEg B X W (.JoinedStr (v1 :: v2 :: rest) pos) (wJs ws Str.empty) :=
  PEg.of (pe_joined h.pj) fun σ H g env st Q R bo rw hw => wJs_ok ws Str.empty st Q g g H H (.refl g H) bo rw hw
theorem strs_rep {C : Con} {g : Gh} : ∀ {ds : List D} {vs : List V} {bs : List Str}, Reps C g ds vs → D.strs ds = some bs → vs = bs.map V.str
  | [], vs, bs, r, h => by unfold Reps at r; subst r; simp [D.strs] at h; subst h; rfl
  | d :: ds, vs, bs, r, h => by
    unfold Reps at r
    obtain ⟨v, q, rfl, a, b⟩ := r
    cases d with
    | str k =>
      simp only [D.strs, Option.map_eq_some_iff] at h
      obtain ⟨cs, h1, rfl⟩ := h
      rw [a.strV, strs_rep b h1]
      rfl
    | _ => simp [D.strs] at h
def joinOk (x : Str) (ys : List Str) : Prop := (ys.map (·.length)).sum + ys.length * x.length ≤ 16777216
def oJoin (x : Str) : O1 := fun d2 st Q R => match d2 with
  | .lst ds => (match D.strs ds with | some ys => joinOk x ys ∧ Q (.str (Txt.join x ys)) st | none => False)
  | .tup ds => (match D.strs ds with | some ys => joinOk x ys ∧ Q (.str (Txt.join x ys)) st | none => False)
  | _ => False
/-- a text's method of one argument: wo the text -/
def wTx (o : Str → O1) (wa wb : WE) : WE := fun env st Q R => wa env st (fun d st1 => match d with
  | .str x => wb env st1 (fun d2 st2 => o x d2 st2 Q R) R
  | _ => False) R
theorem g_join (j : J B X W) (ho : PBg B X W o wa) (he : PBg B X W e wb) (hs : starEach [e] X.env = [(false, eval e X.env)] := by rfl) (hbase : attributeBase o "join" X.env (eval o X.env) = eval o X.env := by rfl) (hline : (apos.endLine == pos.line) = true := by rfl) :
    PEg B X W (.Call (.Attribute o "join" apos) [e] [] pos) (wTx oJoin wa wb) := by
  refine PEg.of (pe_join ho.pe he.pe hs hbase hline) fun σ H g env st Q R bo rw hw => ?_
  refine ⟨g, env, st, _, R, bo, rw, hw, fun x H1 ⟨d1, st1, g1, l1, b1, r1, h1⟩ => ?_⟩
  cases d1 with
  | str a =>
    have e1 := r1.strV
    subst e1
    refine ⟨⟨a, rfl⟩, g1, env, st1, _, R, b1, rw, h1, fun y H2 ⟨d2, st2, g2, l2, b2, r2, h2⟩ => ?_⟩
    have h2 : oJoin a d2 st2 Q R := h2
    unfold oJoin at h2
    split at h2
    · split at h2
      · rename_i ys hb
        obtain ⟨p, vs, rfl, hx, rr⟩ := r2.lstV b2
        exact ⟨a, p, ys, rfl, rfl, .inl (by rw [← strs_rep rr hb]; exact SqL.of hx), h2.1, QV.same (l1.trans l2) b2 rep_str h2.2⟩
      · exact h2.elim
    · split at h2
      · rename_i ys hb
        obtain ⟨p, vs, rfl, hx, rr⟩ := r2.tupV b2
        exact ⟨a, p, ys, rfl, rfl, .inr (by rw [j.hK, ← strs_rep rr hb]; exact hx.t), h2.1, QV.same (l1.trans l2) b2 rep_str h2.2⟩
      · exact h2.elim
    · exact h2.elim
  | _ => exact h1.elim
def oStr : ON := fun ds st Q R => match ds with
  | [.int i] => i.natAbs.log2 < 1920 ∧ Q (.str (toString i)) st
  | [.str y] => Q (.str y) st
  | _ => False
theorem call_strA : CallR X (.type "str") (fun xs H Q => (∃ i, xs = [.int i] ∧ i.natAbs.log2 < 1920 ∧ Q (.str (toString i)) H) ∨ ∃ a, xs = [.str a] ∧ Q (.str a) H) := by
  intro pins s σ H xs us Q I r h
  rcases h with h | h
  · exact call_str_int pins s σ H xs us Q I r h
  · exact SkE.call_str_str pins s σ H xs us Q I r h
theorem ov_str : NV B W (fun xs H Q => (∃ i, xs = [.int i] ∧ i.natAbs.log2 < 1920 ∧ Q (.str (toString i)) H) ∨ ∃ a, xs = [.str a] ∧ Q (.str a) H) oStr := by
  intro gb g Hb env st σ H ds xs Q R l bo rw r q
  unfold oStr at q
  split at q
  · obtain ⟨x, rfl, r1⟩ := repsB1 r
    have e := r1.intV
    subst e
    exact .inl ⟨_, rfl, q.1, QV.same l bo rep_str q.2⟩
  · obtain ⟨x, rfl, r1⟩ := repsB1 r
    have e := r1.strV
    subst e
    exact .inr ⟨_, rfl, QV.same l bo rep_str q⟩
  · exact q.elim
def oRepr (M : MT) : O1 := fun d st Q R => match d with
  | .ob c fs => callM M c .repr [.ob c fs] st (fun r st1 => match r with | .str y => Q (.str y) st1 | _ => False) R
  | _ => False
def oBoolc (M : MT) : O1 := fun d st Q R => match d with
  | .ob c fs => callM M c .bool [.ob c fs] st (fun r st1 => match r with | .bl y => Q (.bl y) st1 | _ => False) R
  | _ => False
end
end G
namespace G
open PySem PySem.Spec PyProof.Rows L2
section
variable {B : Bd} {X : Cx} {W : WX} {a b c e o : Expr} {es : List Expr} {wa wb wc : WE} {ta : WA} {pos apos : Pos} {M : MT}
def ownEqX (T : Nat → Nat → Option WF) (c i : Nat) (fs : List (Nat × D)) (d : D) (st : Store) (Q : QE) (R : XQ) : Prop := match T c i with
  | some φ => φ [.ob c fs, d] st (fun r st1 => match r with | .bl b => Q (.bl b) st1 | _ => False) R
  | none => False
def oEqX (T : Nat → Nat → Option WF) : O2 := fun d1 d2 st Q R => match d1, d2 with
  | .ob c fs, .ob c' gs => ownEqX T c (c' + 2) fs (.ob c' gs) st Q R
  | .ob c fs, .tup xs => ownEqX T c 0 fs (.tup xs) st Q R
  | .ob c fs, .int i => ownEqX T c 1 fs (.int i) st Q R
  | d1, d2 => oEqD d1 d2 st Q R
def strOf : Value → Option Str
  | .str s _ => some s
  | _ => none
theorem strOf_vals : ∀ {its : List Value} {ss : List Str}, its.map strOf = ss.map some → Vals (ss.map V.str) its
  | [], [], _ => .nil
  | [], _ :: _, h => by simp at h
  | _ :: _, [], h => by simp at h
  | v :: its, s :: ss, h => by
    simp only [List.map_cons, List.cons.injEq] at h
    refine .cons ?_ (strOf_vals h.2)
    cases v with
    | str z t =>
      have := h.1
      unfold strOf at this
      cases this
      exact ⟨t, rfl⟩
    | _ => (have := h.1; unfold strOf at this; cases this)
/-- a module's tuple of texts -/
def GTup (K : PySem.W.Frag) (mg : Str → Option Value) (x : Str) (ss : List Str) : Prop := ∃ a o its n, mg x = some (.ref a) ∧ K.lookup a = some o ∧ o.cls = .type "tuple" ∧ o.data = .seq its n ∧ its.size ≤ sizeLine ∧ Vals (ss.map V.str) its.toList
def tupB (x : Str) (ss : List Str) : Fab := fun K => match K.lookup (He.ga K x) with
  | some o => decide (o.cls = .type "tuple") && (match o.data with
    | .seq its _ => decide (its.toList.map strOf = ss.map some)
    | _ => false)
  | none => false
theorem tupB_ok {K : PySem.W.Frag} {mg : Str → Option Value} {x : Str} {ss : List Str} (hg : mg x = some (.ref (He.ga K x))) (c : tupB x ss K = true) (hl : ss.length ≤ sizeLine := by decide) : GTup K mg x ss := by
  unfold tupB at c
  split at c
  · rename_i o ho
    obtain ⟨h1, h2⟩ := He.ba c
    split at h2
    · rename_i its n hd
      have e := of_decide_eq_true h2
      have hv := strOf_vals e
      refine ⟨_, o, its, n, hg, ho, of_decide_eq_true h1, hd, ?_, hv⟩
      have := congrArg List.length e
      simp at this
      omega
    · cases h2
  · cases c
theorem g_gloT (hK : X.K = B.C.K) {x : Str} {ss : List Str} (hg : Gl X x) (hm : GTup B.C.K X.mg x ss) (hd : (x == ("__debug__" : Str)) = false := by decide +kernel) : PEg B X W (.Name x pos) (wC (.wtp (ss.map D.str))) := by
  obtain ⟨a, o, its, n, e, lk, hc, hs, hz, hv⟩ := hm
  refine g_const (t := tC (.ref a)) (pe_glob (v := V.ref a) hg e rfl hd) fun g => ?_
  unfold Rep
  exact ⟨a, _, rfl, ⟨o, its, n, lk, hc, hs, hz, hv⟩, strs_reps ss⟩
end
end G
namespace G
open PySem PySem.Spec PyProof.Rows L2 LamX
theorem LamAts.keep {X : Cx} {H H1 : Hp} (k : ∀ a φ, H a = some (.ext φ) → H1 a = some (.ext φ)) : ∀ {ls : List LamI} {fs : List (Addr × Addr)}, LamAts X ls fs H → LamAts X ls fs H1
  | [], _, h => h
  | _ :: _, _, ⟨f, c', r, e, la, h⟩ => ⟨f, c', r, e, lamAt_keep la k, LamAts.keep k h⟩
def wAsksD (tn : Nat) (cl : List TellN) (i kd : Nat) (wes : List WE) (wd wr : WE) (wth : WS) : WS := fun env st D => wd (env.set i .no) st (fun d st0 => wRunL tn cl wes ((env.set i .no).set kd (.val d)) [] st0 fun ds st1 =>
  wr ((env.set i .no).set kd (.val d)) st1 (fun r st2 => oNeD (.lst ds) r st2 (fun z st3 => match z with | .bl b => if b = true then wth ((env.set i .no).set kd (.val d)) st3 D else D.nx ((env.set i .no).set kd (.val d)) st3 | _ => False) (xe D ((env.set i .no).set kd (.val d)))) (xe D ((env.set i .no).set kd (.val d)))) (xe D (env.set i .no))
end G
namespace G
open PySem PySem.Spec PyProof.Rows L2
abbrev rk (r : List Int) : List Key := r.map Sum.inl
theorem rk_inj {r s : List Int} (h : rk r = rk s) : r = s := (List.map_inj_right fun a b e => by cases e; rfl).mp h
/-- in its place, or at the end -/
def dputR (acc : List (List Int × D)) (r : List Int) (d : D) : List (List Int × D) :=
  if (acc.any fun p => decide (p.1 = r)) = true then acc.map (fun p => if p.1 = r then (p.1, d) else p) else acc ++ [(r, d)]
def dgetR (acc : List (List Int × D)) (r : List Int) : Option D := (acc.find? fun p => decide (p.1 = r)).map (·.2)
def RepR (C : Con) (g : Gh) : List (List Int × D) → List (List Key × V) → Prop
  | [], vs => vs = []
  | (r, d) :: ds, vs => ∃ v q, vs = (rk r, v) :: q ∧ Rep C g d v ∧ RepR C g ds q
section
variable {C : Con} {g g' : Gh}
theorem RepR.mono (l : g.le g') : ∀ {acc : List (List Int × D)} {xs : List (List Key × V)}, RepR C g acc xs → RepR C g' acc xs
  | [], _, h => h
  | (r, d) :: ds, _, ⟨v, q, e, a, b⟩ => ⟨v, q, e, a.mono l, RepR.mono l b⟩
theorem RepR.len : ∀ {acc : List (List Int × D)} {xs : List (List Key × V)}, RepR C g acc xs → acc.length = xs.length
  | [], _, h => by
    have h : _ = _ := h
    rw [h]; rfl
  | (r, d) :: ds, _, ⟨v, q, e, a, b⟩ => by rw [e, List.length_cons, List.length_cons, RepR.len b]
theorem RepR.append : ∀ {acc ac2 : List (List Int × D)} {xs ys : List (List Key × V)}, RepR C g acc xs → RepR C g ac2 ys → RepR C g (acc ++ ac2) (xs ++ ys)
  | [], _, _, _, h, k => by
    have h : _ = _ := h
    rw [h]; exact k
  | (r, d) :: ds, _, _, _, ⟨v, q, e, a, b⟩, k => by rw [e]; exact ⟨v, _, rfl, a, RepR.append b k⟩
theorem RepR.any {r : List Int} : ∀ {acc : List (List Int × D)} {xs : List (List Key × V)}, RepR C g acc xs → (xs.any fun kv => decide (kv.1 = rk r)) = acc.any fun p => decide (p.1 = r)
  | [], _, h => by
    have h : _ = _ := h
    rw [h]; rfl
  | (s, d) :: ds, _, ⟨v, q, e, a, b⟩ => by
    rw [e, List.any_cons, List.any_cons, RepR.any b]
    congr 1
    rw [decide_eq_decide]
    exact ⟨rk_inj, fun h => by have h : s = r := h; rw [h]⟩
theorem RepR.repl {r : List Int} {d : D} {v : V} (rv : Rep C g d v) : ∀ {acc : List (List Int × D)} {xs : List (List Key × V)}, RepR C g acc xs → RepR C g (acc.map fun p => if p.1 = r then (p.1, d) else p) (xs.map fun kv => if kv.1 = rk r then (kv.1, v) else kv)
  | [], _, h => by
    have h : _ = _ := h
    rw [h]; rfl
  | (s, e) :: ds, _, ⟨w, q, e1, a, b⟩ => by
    rw [e1, List.map_cons, List.map_cons]
    by_cases h : s = r
    · rw [if_pos h, if_pos (by rw [h])]
      exact ⟨v, _, rfl, rv, RepR.repl rv b⟩
    · rw [if_neg h, if_neg fun z => h (rk_inj z)]
      exact ⟨w, _, rfl, a, RepR.repl rv b⟩
theorem RepR.put {r : List Int} {d : D} {v : V} {acc : List (List Int × D)} {xs : List (List Key × V)} (h : RepR C g acc xs) (rv : Rep C g d v) : RepR C g (dputR acc r d) (putK xs (rk r) v) := by
  unfold dputR putK
  rw [h.any (r := r)]
  split
  · exact RepR.repl rv h
  · exact h.append ⟨v, [], rfl, rv, rfl⟩
theorem RepR.val {r : List Int} : ∀ {acc : List (List Int × D)} {xs : List (List Key × V)} {d : D}, RepR C g acc xs → dgetR acc r = some d → ∃ v, valV xs (rk r) = some v ∧ Rep C g d v
  | [], _, _, _, h => by cases h
  | (s, e) :: ds, _, d, ⟨v, q, e1, a, b⟩, h => by
    rw [e1]
    unfold dgetR at h
    rw [List.find?_cons] at h
    by_cases hs : s = r
    · rw [decide_eq_true hs] at h
      cases h
      exact ⟨v, valV_pos (by rw [hs]), a⟩
    · rw [decide_eq_false hs] at h
      obtain ⟨w, h1, h2⟩ := RepR.val b h
      exact ⟨w, by rw [valV_neg fun z => hs (rk_inj z)]; exact h1, h2⟩
end
end G
namespace G
open PySem PySem.Spec PyProof.Rows L2
end G
namespace G
open PySem PySem.Spec PyProof.Rows L2
theorem reps_strs {C : Con} {g : Gh} : ∀ ys : List Str, Reps C g (ys.map D.str) (ys.map V.str)
  | [] => by
    show Reps C g [] []
    unfold Reps; rfl
  | y :: ys => by
    show Reps C g (D.str y :: ys.map D.str) (V.str y :: ys.map V.str)
    unfold Reps
    exact ⟨_, _, rfl, rep_str, reps_strs ys⟩
def oneS (d : D) (P : Str → Prop) : Prop := match d with | .str x => P x | _ => False
theorem oneS_of {d : D} {P : Str → Prop} (h : oneS d P) : ∃ x, d = .str x ∧ P x := by
  cases d with
  | str x => exact ⟨x, rfl, h⟩
  | _ => exact h.elim
/-- x.m() : yes or no -/
def wSq (f : Str → Bool) (wa : WE) : WE := fun env st Q R => wa env st (fun d st1 => oneS d fun x => Q (.bl (f x)) st1) R
/-- x.m(y) : yes or no -/
def wSq1 (f : Str → Str → Bool) (wa wb : WE) : WE := fun env st Q R => wa env st (fun d st1 => oneS d fun x => wb env st1 (fun d2 st2 => oneS d2 fun y => Q (.bl (f x y)) st2) R) R
/-- x.m(y) : a text -/
def wSt1 (f : Str → Str → Str) (wa wb : WE) : WE := fun env st Q R => wa env st (fun d st1 => oneS d fun x => wb env st1 (fun d2 st2 => oneS d2 fun y => x.length ≤ sizeLine ∧ Q (.str (f x y)) st2) R) R
/-- x.split(y) -/
def wSpl (wa wb : WE) : WE := fun env st Q R => wa env st (fun d st1 => oneS d fun x => wb env st1 (fun d2 st2 => oneS d2 fun y => (y.length == 0) = false ∧ x.length + 2 ≤ sizeLine ∧ Q (.lst ((Txt.split x y).map D.str)) st2) R) R
/-- x.replace("y", "z") -/
def wRpl (y z : Str) (wa : WE) : WE := fun env st Q R => wa env st (fun d st1 => oneS d fun x => x.length + (x.length + 1) * z.length ≤ 16777216 ∧ Q (.str (Txt.replace x y z)) st1) R
section
variable {B : Bd} {X : Cx} {W : WX} {o e : Expr} {wa wb : WE} {pos apos : Pos}
theorem g_sq {f : Str → Bool} {id : String} {name : Str} (slot : PySem.Slot "str" name id) (ty : typeOf (.builtin id) = pure (.type "method_descriptor")) (rule : MtR X id (fun x xs H Q => ∃ a, x = .str a ∧ xs = [] ∧ True ∧ Q (.bl (f a)) H)) (ho : PBg B X W o wa)
    (hbase : attributeBase o name X.env (eval o X.env) = eval o X.env := by rfl) (hline : (apos.endLine == pos.line) = true := by rfl) : PEg B X W (.Call (.Attribute o name apos) [] [] pos) (wSq f wa) := by
  refine PEg.of (pe_m0 slot ty rule ho.pe hbase hline) fun σ H g env st Q R bo rw hw => ?_
  refine ⟨g, env, st, _, R, bo, rw, hw, ?_⟩
  rintro x H1 ⟨d, st1, g1, l1, b1, r1, h1⟩
  obtain ⟨a, rfl, q⟩ := oneS_of h1
  have e1 := r1.strV
  subst e1
  exact ⟨⟨a, rfl⟩, a, rfl, rfl, trivial, QV.same l1 b1 rep_bl q⟩
theorem g_sq1 {f : Str → Str → Bool} {id : String} {name : Str} (slot : PySem.Slot "str" name id) (ty : typeOf (.builtin id) = pure (.type "method_descriptor")) (rule : MtR X id (fun x xs H Q => ∃ a b, x = .str a ∧ xs = [.str b] ∧ Q (.bl (f a b)) H)) (ho : PBg B X W o wa) (he : PBg B X W e wb)
    (hs : starEach [e] X.env = [(false, eval e X.env)] := by rfl) (hbase : attributeBase o name X.env (eval o X.env) = eval o X.env := by rfl) (hline : (apos.endLine == pos.line) = true := by rfl) : PEg B X W (.Call (.Attribute o name apos) [e] [] pos) (wSq1 f wa wb) := by
  refine PEg.of (pe_m1 slot ty rule ho.pe he.pe hs hbase hline) fun σ H g env st Q R bo rw hw => ?_
  refine ⟨g, env, st, _, R, bo, rw, hw, ?_⟩
  rintro x H1 ⟨d, st1, g1, l1, b1, r1, h1⟩
  obtain ⟨a, rfl, q⟩ := oneS_of h1
  have e1 := r1.strV
  subst e1
  refine ⟨⟨a, rfl⟩, g1, env, st1, _, R, b1, rw, q, ?_⟩
  rintro y H2 ⟨d2, st2, g2, l2, b2, r2, h2⟩
  obtain ⟨b, rfl, q⟩ := oneS_of h2
  have e2 := r2.strV
  subst e2
  exact ⟨a, b, rfl, rfl, QV.same (l1.trans l2) b2 rep_bl q⟩
theorem g_st1 {f : Str → Str → Str} {id : String} {name : Str} (slot : PySem.Slot "str" name id) (ty : typeOf (.builtin id) = pure (.type "method_descriptor")) (rule : MtR X id (fun x xs H Q => ∃ a b, x = .str a ∧ xs = [.str b] ∧ a.length ≤ sizeLine ∧ Q (.str (f a b)) H)) (ho : PBg B X W o wa) (he : PBg B X W e wb)
    (hs : starEach [e] X.env = [(false, eval e X.env)] := by rfl) (hbase : attributeBase o name X.env (eval o X.env) = eval o X.env := by rfl) (hline : (apos.endLine == pos.line) = true := by rfl) : PEg B X W (.Call (.Attribute o name apos) [e] [] pos) (wSt1 f wa wb) := by
  refine PEg.of (pe_m1 slot ty rule ho.pe he.pe hs hbase hline) fun σ H g env st Q R bo rw hw => ?_
  refine ⟨g, env, st, _, R, bo, rw, hw, ?_⟩
  rintro x H1 ⟨d, st1, g1, l1, b1, r1, h1⟩
  obtain ⟨a, rfl, q⟩ := oneS_of h1
  have e1 := r1.strV
  subst e1
  refine ⟨⟨a, rfl⟩, g1, env, st1, _, R, b1, rw, q, ?_⟩
  rintro y H2 ⟨d2, st2, g2, l2, b2, r2, h2⟩
  obtain ⟨b, rfl, z, q⟩ := oneS_of h2
  have e2 := r2.strV
  subst e2
  exact ⟨a, b, rfl, rfl, z, QV.same (l1.trans l2) b2 rep_str q⟩
theorem g_isascii (ho : PBg B X W o wa) (hbase : attributeBase o "isascii" X.env (eval o X.env) = eval o X.env := by rfl) (hline : (apos.endLine == pos.line) = true := by rfl) : PEg B X W (.Call (.Attribute o "isascii" apos) [] [] pos) (wSq Txt.isascii wa) := g_sq PySem.F.slot_str_isascii PySem.F.type_str_isascii mt_isascii ho hbase hline
theorem g_isdigit (ho : PBg B X W o wa) (hbase : attributeBase o "isdigit" X.env (eval o X.env) = eval o X.env := by rfl) (hline : (apos.endLine == pos.line) = true := by rfl) : PEg B X W (.Call (.Attribute o "isdigit" apos) [] [] pos) (wSq Txt.isdigit wa) := g_sq PySem.F.slot_str_isdigit PySem.F.type_str_isdigit mt_isdigit ho hbase hline
theorem g_startswith (ho : PBg B X W o wa) (he : PBg B X W e wb) (hs : starEach [e] X.env = [(false, eval e X.env)] := by rfl) (hbase : attributeBase o "startswith" X.env (eval o X.env) = eval o X.env := by rfl) (hline : (apos.endLine == pos.line) = true := by rfl) : PEg B X W (.Call (.Attribute o "startswith" apos) [e] [] pos) (wSq1 Txt.startswith wa wb) := g_sq1 PySem.F.slot_str_startswith PySem.F.type_str_startswith mt_startswith ho he hs hbase hline
theorem g_endswith (ho : PBg B X W o wa) (he : PBg B X W e wb) (hs : starEach [e] X.env = [(false, eval e X.env)] := by rfl) (hbase : attributeBase o "endswith" X.env (eval o X.env) = eval o X.env := by rfl) (hline : (apos.endLine == pos.line) = true := by rfl) : PEg B X W (.Call (.Attribute o "endswith" apos) [e] [] pos) (wSq1 Txt.endswith wa wb) := g_sq1 PySem.F.slot_str_endswith PySem.F.type_str_endswith mt_endswith ho he hs hbase hline
theorem g_removeprefix (ho : PBg B X W o wa) (he : PBg B X W e wb) (hs : starEach [e] X.env = [(false, eval e X.env)] := by rfl) (hbase : attributeBase o "removeprefix" X.env (eval o X.env) = eval o X.env := by rfl) (hline : (apos.endLine == pos.line) = true := by rfl) : PEg B X W (.Call (.Attribute o "removeprefix" apos) [e] [] pos) (wSt1 Txt.removeprefix wa wb) := g_st1 PySem.F.slot_str_removeprefix PySem.F.type_str_removeprefix mt_removeprefix ho he hs hbase hline
def oIntT : ON := fun ds st Q R => match ds with
  | [.str a] => ∃ n, PySem.intText? a = some n ∧ a.length ≤ 640 ∧ Q (.int n) st
  | _ => False
theorem ov_intT : NV B W (fun xs H Q => ∃ a n, xs = [.str a] ∧ PySem.intText? a = some n ∧ a.length ≤ 640 ∧ Q (.int n) H) oIntT := by
  intro gb g Hb env st σ H ds xs Q R l bo rw r q
  unfold oIntT at q
  split at q
  · obtain ⟨n, h1, h2, q⟩ := q
    obtain ⟨x, rfl, r1⟩ := repsB1 r
    have e := r1.strV
    subst e
    exact ⟨_, n, rfl, h1, h2, QV.same l bo rep_int q⟩
  · exact q.elim
end
end G
namespace G
open PySem PySem.Spec PyProof.Rows L2
structure PEgT (B : Bd) (X : Cx) (W : WX) (e : Expr) (w : WE) : Prop where
  run : ∀ (pins : List (Addr × Obj)) (s : Shared) (σ : L2.St) (H : Hp) (g : Gh) (env : Envr) (st : Store) (Q : QE) (R : XQ), 1 ≤ s.toks → Inv X pins σ H s → BOk B g env st σ H → RW B W env σ R → w env st Q R →
    wpAny (model X.prog X.w) X.A (eval e X.env) (EP X pins σ (QV B g H env σ Q)) X.xe s
structure PSgT (B : Bd) (X : Cx) (W : WX) (st : Stmt) (w : WS) : Prop where
  run : ∀ (pins : List (Addr × Obj)) (s : Shared) (σ : L2.St) (H : Hp) (g : Gh) (env : Envr) (sto : Store) (D : EW), 1 ≤ s.toks → Inv X pins σ H s → BOk B g env sto σ H → RWs B W D.ex → w env sto D →
    wpAny (model X.prog X.w) X.A (exec st X.env) (SP X pins (EndsOf B g D)) X.xe s
structure PSsgT (B : Bd) (X : Cx) (W : WX) (st : List Stmt) (w : WS) : Prop where
  run : ∀ (pins : List (Addr × Obj)) (s : Shared) (σ : L2.St) (H : Hp) (g : Gh) (env : Envr) (sto : Store) (D : EW), 1 ≤ s.toks → Inv X pins σ H s → BOk B g env sto σ H → RWs B W D.ex → w env sto D →
    wpAny (model X.prog X.w) X.A (execs st X.env) (SP X pins (EndsOf B g D)) X.xe s
section
variable {B : Bd} {X : Cx} {W : WX} {o e : Expr} {wa wb : WE} {w u : WS} {stm : Stmt} {rest : List Stmt} {pos apos p p' : Pos}
theorem gsT_of (h : PSg B X W stm w) : PSgT B X W stm w := ⟨fun pins s σ H g env st D _ I bo rw hw => h.run pins s σ H g env st D I bo rw hw⟩
theorem gssT_of (h : PSsg B X W rest w) : PSsgT B X W rest w := ⟨fun pins s σ H g env st D _ I bo rw hw => h.run pins s σ H g env st D I bo rw hw⟩
theorem gssT_cons (h1 : PSgT B X W stm w) (h2 : PSsgT B X W rest u) : PSsgT B X W (stm :: rest) (wSeq w u) := by
  refine ⟨fun pins s σ H g env st D h0 I bo rw hw => ?_⟩
  refine wpAny_execs_cons (wpAny_mono (PySem.wpAny_toks (h1.run pins s σ H g env st { D with nx := fun env' st' => u env' st' D } h0 I bo rw hw)) ?_ fun _ _ z => z.2)
  rintro f s1 ⟨more, q⟩
  cases f with
  | next =>
    obtain ⟨σ', H', I', env', st', g', l', b', q⟩ := q
    exact thn (h2.run pins s1 σ' H' g' env' st' D (Nat.le_trans h0 more) I' b' rw q) fun _ _ z => SP.le l' z
  | ret v => exact q
  | brk => exact q
  | cont => exact q
theorem gsT_set (j : J B X W) (i : Nat) {x : Str} (he : PEgT B X W e wa) (hi : X.N[i]? = some x := by rfl) (hx : Loc X.env.scope x := by first | exact Or.inl rfl | exact Or.inr rfl) (hs : swapsWith e (some (.Name x p)) pos.line X.env = pure false := by rfl)
    (hf : X.fn x = true ∨ X.env.scope.names.lookup x = some .local := by first | exact .inl rfl | exact .inr rfl | assumption) : PSgT B X W (.Assign [.Name x p] e pos) (wSet i wa) := by
  refine ⟨fun pins s σ H g env st D h0 I bo rw hw => ?_⟩
  refine wpAny_Assign_Name (thn (he.run pins s σ H g env st _ _ h0 I bo (rw.at env σ) hw) ?_) hs
  rintro v s1 ⟨y, H1, I1, ry, d, st1, g1, l1, b1, r1, q1⟩
  exact store_ok I1 j.nd hi hx ry (fun s2 I2 => ⟨_, H1, I2, _, st1, g1, l1.le, b1.setVal r1 i, q1⟩) hf
theorem gT_repl {y z : Str} {n k : Nat} {c0 c1 : Pos} (ho : PBg B X W o wa) (hyz : (y == z) = false := by decide +kernel)
    (hst : starEach [.Constant (.str y) n c0, .Constant (.str z) k c1] X.env = [(false, eval (.Constant (.str y) n c0) X.env), (false, eval (.Constant (.str z) k c1) X.env)] := by rfl)
    (hbase : attributeBase o "replace" X.env (eval o X.env) = eval o X.env := by rfl) (hline : (apos.endLine == pos.line) = true := by rfl) :
    PEgT B X W (.Call (.Attribute o "replace" apos) [.Constant (.str y) n c0, .Constant (.str z) k c1] [] pos) (wRpl y z wa) := by
  refine ⟨fun pins s σ H g env st Q R h0 I bo rw hw => ?_⟩
  refine CwR.pet_replC (j := n) (k := k) ho.pe hyz hst hbase hline pins s σ H _ h0 I ?_
  refine ⟨g, env, st, _, R, bo, rw, hw, ?_⟩
  rintro v H1 ⟨d, st1, g1, l1, b1, r1, h1⟩
  obtain ⟨a, rfl, z1, q⟩ := oneS_of h1
  exact ⟨a, r1.strV, z1, QV.same l1 b1 rep_str q⟩
theorem gT_split (j : J B X W) (ho : PEgT B X W o wa) (he : PBg B X W e wb) (hs : starEach [e] X.env = [(false, eval e X.env)] := by rfl) (hbase : attributeBase o "split" X.env (eval o X.env) = eval o X.env := by rfl) (hline : (apos.endLine == pos.line) = true := by rfl) :
    PEgT B X W (.Call (.Attribute o "split" apos) [e] [] pos) (wSpl wa wb) := by
  refine ⟨fun pins s σ H g env st Q R h0 I bo rw hw => ?_⟩
  refine PySem.Call_method1 hbase hs hline (thn (ho.run pins s σ H g env st _ R h0 I bo rw hw) ?_)
  rintro v s1 ⟨x, H1, I1, rx, d, st1, g1, l1, b1, r1, h1⟩
  obtain ⟨a, rfl, q⟩ := oneS_of h1
  have e1 := r1.strV
  subst e1
  obtain ⟨t, rfl⟩ := rx
  refine ⟨"str", _, PySem.F.plainAttrs_str, PySem.F.slot_str_split, PySem.F.type_str_split, typeIs_str _ _ _, (fun _ e => nomatch e), Calls.callWith_builtin rfl (Calls.evalArgs_plain (Calls.spliced_cons ?_))⟩
  refine thn (he.run pins s1 σ H1 g1 env st1 _ R I1 b1 rw q) ?_
  rintro v2 s2 ⟨y, H2, I2, ry, d2, st2, g2, l2, b2, r2, h2⟩
  obtain ⟨b, rfl, z1, z2, q⟩ := oneS_of h2
  have e2 := r2.strV
  subst e2
  refine Calls.spliced_nil (mt_split pins s2 σ H2 (.str a) [.str b] _ [v2] _ I2 (show RelV (.str a) (.str a t) from ⟨t, rfl⟩) (.cons ry .nil) ⟨a, b, rfl, rfl, z1, z2, ?_⟩)
  exact fun p hp => QV.lst j.ck (l1.trans l2) b2 (reps_strs _) q hp
end
end G
namespace G
open PySem PySem.Spec PyProof.Rows L2
section
variable {B : Bd} {X : Cx} {W : WX} {a b e : Expr} {wa wb wk : WE} {ta : WA} {pos : Pos}
def wSlS (wa : WE) (wl wh : WO) : WE := fun env st Q R => wa env st (fun d st1 => wl env st1 (fun l st2 => wh env st2 (fun h st3 => oneS d fun z => z.length ≤ sizeLine ∧ Q (.str (cutS z l h)) st3) R) R) R
theorem g_slS {lo hi : Option Expr} {wl wh : WO} {p2 : Pos} (ha : PBg B X W a wa) (hl : POg B X W lo wl) (hh : POg B X W hi wh) : PEg B X W (.Subscript a (.Slice lo hi none p2) pos) (wSlS wa wl wh) := by
  refine PEg.of (pe_slice sl_str ha.pe hl.po hh.po) fun σ H g env st Q R bo rw hw => ?_
  refine ⟨g, env, st, _, R, bo, rw, hw, fun x H1 ⟨d, st1, g1, l1, b1, r1, h1⟩ => ?_⟩
  refine ⟨g1, env, st1, _, R, b1, rw, h1, fun lo' H2 ⟨st2, g2, l2, b2, h2⟩ => ?_⟩
  refine ⟨g2, env, st2, _, R, b2, rw, h2, fun hi' H3 ⟨st3, g3, l3, b3, h3⟩ => ?_⟩
  obtain ⟨z, rfl, hz, q⟩ := oneS_of h3
  exact ⟨z, (r1.mono (l2.trans l3).le).strV, hz, QV.same (l1.trans (l2.trans l3)) b3 rep_str q⟩
def enumD (k : Nat) : List D → List D
  | [] => []
  | d :: ds => .tup [.int (k : Nat), d] :: enumD (k + 1) ds
theorem enumD_len : ∀ {ds : List D} {k : Nat}, (enumD k ds).length = ds.length
  | [], _ => rfl
  | d :: ds, k => by rw [enumD, List.length_cons, List.length_cons, enumD_len]
theorem enumD_get : ∀ {ds : List D} {k i : Nat} {d : D}, (enumD k ds)[i]? = some d → ∃ x, ds[i]? = some x ∧ d = .tup [.int ((k + i : Nat) : Int), x]
  | [], _, _, _, h => by cases h
  | x :: ds, k, 0, d, h => by
    rw [enumD, List.getElem?_cons_zero] at h
    cases h
    exact ⟨x, rfl, rfl⟩
  | x :: ds, k, i + 1, d, h => by
    rw [enumD, List.getElem?_cons_succ] at h
    obtain ⟨y, h1, h2⟩ := enumD_get h
    refine ⟨y, h1, ?_⟩
    rw [h2]
    have : k + 1 + i = k + (i + 1) := by omega
    rw [this]
theorem itrep_enum (ck : ConOk B.C) (hK : X.K = B.C.K) {σ : L2.St} {g : Gh} {p : Addr} {xs : List V} {ds : List D} (hp : SqL B.C.K g.P p xs) (r : Reps B.C g ds xs) : ItRep B σ (Ite X.K p) g (enumD 0 ds) := by
  intro g' env st σ' H l bo
  have hs : SqL X.K H p xs := by rw [hK]; exact Same.sqL bo.ok.p (Same.sqL l.p hp)
  refine ⟨fun i d hd => ?_, ⟨xs, hs, by rw [enumD_len, r.length]; exact Nat.le_refl _⟩⟩
  obtain ⟨x, h1, rfl⟩ := enumD_get hd
  obtain ⟨v, k1, k2⟩ := r.get h1
  refine ⟨⟨xs, v, hs, k1⟩, ?_⟩
  rintro z H' ⟨T, y, rfl, fresh, rfl, all⟩
  have hy := all xs hs
  rw [k1] at hy
  cases hy
  have l2 := bo.ok.nx_new (o := .tup [.int (i : Nat), v]) fresh
  refine ⟨_, l2, bo.new ck fresh (fun ps z => by cases z) (bo.cellNe fresh), ?_⟩
  unfold Rep
  refine ⟨T, _, rfl, upd_same, reps2 ?_ ((k2.mono l).mono l2.le)⟩
  rw [Nat.zero_add]
  exact rep_int
def wiEnum (ta : WA) : WI := fun env st Q R => ta env st (fun ds st1 => match ds with | [.lst xs] => Q (enumD 0 xs) st1 | _ => False) R
theorem gi_enum (j : J B X W) {p tpos : Pos} {elts : List Expr} {kk : Nat} (hg : Gl X "enumerate") (hm : X.mg "enumerate" = none) (h : PAg B X W [a] ta) (hs : starEach [a] X.env = [(false, eval a X.env)] := by rfl) :
    PIg B X W (.Tuple elts kk tpos) (.Call (.Name "enumerate" p) [a] [] pos) (wiEnum ta) :=
  ⟨⟨_, pi_enum hg hm h.pa hs, fun σ H g env st Q R Rr bo rw hw k => ⟨g, env, st, _, R, bo, rw, hw, fun xs H1 ⟨ds, st1, g1, l1, b1, r1, h1⟩ => by
    dsimp only at h1 ⊢
    split at h1
    · obtain ⟨v, q, rfl, ra, rb⟩ := r1.cons_inv
      unfold Reps at rb
      subst rb
      obtain ⟨p1, x1, rfl, hx, r⟩ := ra.lstV
      exact ⟨p1, x1, rfl, SqL.of (b1.ok.p _ _ hx), k _ _ ⟨_, st1, g1, l1, b1, itrep_enum j.ck j.hK (SqL.of hx) r, h1⟩⟩
    · exact h1.elim⟩⟩⟩
def rGetN (K : PySem.W.Frag) : V → V → Hp → VK → Prop := fun o i H Q => ∃ (p : Addr) (xs : List V) (n : Nat) (v : V), o = .ref p ∧ i = .int n ∧ SqL K H p xs ∧ xs[n]? = some v ∧ Q v H
theorem get_listN : PGet X (rGetN X.K) := by
  rintro pins s σ H o i ov iv Q I ro ri ⟨p, xs, n, v, rfl, rfl, hs, hv, q⟩
  cases ro
  obtain ⟨t, rfl⟩ := ri
  obtain ⟨its, r, pl, hz⟩ := I.list hs
  obtain ⟨u, hu, ru⟩ := r.get hv
  have hl := r.length
  have hn := (List.getElem?_eq_some_iff.mp hu).1
  have h63 := line63
  have hs2 := sizeLine_eq
  refine wpAny_getItem_list (x := u) pl.isList (by omega) (by omega) ?_ ⟨v, H, I, ru, q⟩
  rw [Int.toNat_natCast]
  simpa using hu
def wAugAt (i : Nat) (wk wa : WE) : WS := fun env st D => match env[i]? with
  | some (Slot.own ds) => wk env st (fun k st1 => ∃ (n : Nat) (x : Int), k = .int n ∧ ds[n]? = some (.int x) ∧ n < 1000000 ∧ wa env st1 (fun d st2 => ∃ y : Int, d = .int y ∧ D.nx (env.set i (.own (ds.set n (.int (x + y))))) st2) (xe D env)) (xe D env)
  | _ => False
theorem gs_augAt (j : J B X W) (i : Nat) {x : Str} {p p2 : Pos} (hk : PBg B X W b wk) (he : PEg B X W e wa) (hi : X.N[i]? = some x := by rfl) (hv : Vis X.env.scope x := by first | exact Or.inl rfl | exact Or.inr (Or.inl rfl) | exact Or.inr (Or.inr rfl))
    (hd : (x == ("__debug__" : Str)) = false := by decide +kernel) (hcd : (x == ("__classdict__" : Str)) = false := by decide +kernel)
    (ha : ∀ ov iv new, augStore b ov iv new = (do holding [new, ov, iv] (setItem ov iv new); release [new, ov, iv] []; pure .next) := by intros; rfl) :
    PSg B X W (.AugAssign (.Subscript (.Name x p) b p2) .Add e pos) (wAugAt i wk wa) := by
  refine ⟨fun pins s σ H g env st D I bo rw hw => ?_⟩
  have hx := pe_var (X := X) (i := i) (pos := p) hi hv hd hcd
  refine (ps_augS hx hk.pe get_listN he.pe ip_add set_list ha).run pins s σ H _ I ?_
  unfold wAugAt at hw
  split at hw
  · rename_i ds ho
    obtain ⟨a0, xs0, hσ, hH, hr⟩ := bo.ownAt ho
    refine ⟨_, hσ, ?_⟩
    refine ⟨g, env, st, _, _, bo, rw.at env σ, hw, ?_⟩
    rintro kv H1 ⟨k, st1, g1, l1, b1, r1, n, c, rfl, hn, hn2, h1⟩
    obtain ⟨a1, xs1, hσ1, hH1, hr1⟩ := b1.ownAt ho
    rw [hσ] at hσ1
    cases hσ1
    obtain ⟨v, hv1, hv2⟩ := hr1.get hn
    have e1 := hv2.intV
    subst e1
    refine ⟨a0, xs1, n, .int c, rfl, r1.intV, SqL.of hH1, hv1, ?_⟩
    refine ⟨g1, env, st1, _, _, b1, rw.at env σ, h1, ?_⟩
    rintro y H2 ⟨d, st2, g2, l2, b2, r2, z, rfl, h2⟩
    obtain ⟨a2, xs2, hσ2, hH2, hr2⟩ := b2.ownAt ho
    rw [hσ] at hσ2
    cases hσ2
    refine ⟨c, z, rfl, r2.intV, a0, xs2, n, n, rfl, r1.intV, hH2, ?_, _, st2, g2, (l1.trans l2).le, b2.chOwn j.ck ho hσ (hr2.set (v := .int (c + z)) rep_int n), h2⟩
    have hn3 := (List.getElem?_eq_some_iff.mp hn).1
    have hn4 : n < xs2.length := by rw [← hr2.length]; exact hn3
    unfold ixN
    have n0 : ¬ ((n : Int) < 0) := by omega
    simp [seqIndex?, n0, hn4]
  · exact hw.elim
end
end G
namespace G
open PySem PySem.Spec PyProof.Rows L2
structure ClsmK (K : PySem.W.Frag) (C : Addr) (m : Str) (f : Addr) : Prop where
  rd : ClX.CRead K C (.type "type")
  at_ : ∃ p, ClX.CMet K C (.type "type") m p f
structure ClsmG (B : Bd) (X : Cx) (x m : Str) (c : Nat) (φ : WF) : Prop where
  ex : ∃ k f, Room k X.A ∧ FnA X B.C k f φ ∧ ClsmK X.K (B.C.ca c) m f
  mg : X.mg x = some (.ref (B.C.ca c))
structure ClsmR (P : Program) (w : World) (C : Con) (mg : Str → Option Value) (base : Heap) (x m : Str) (c : Nat) (k : Nat) (φ : WF) : Prop where
  ex : ∃ f, Fna P w C mg base k f φ ∧ ClsmK C.K (C.ca c) m f
  mg : mg x = some (.ref (C.ca c))
theorem clsmR_of {P : Program} {w : World} {C : Con} {mg : Str → Option Value} {base : Heap} {x m : Str} {c : Nat} {k : Nat} {φ : WF} {f : Addr} (F : Fna P w C mg base k f φ) (hm : ClsmK C.K (C.ca c) m f) (hg : mg x = some (.ref (C.ca c))) : ClsmR P w C mg base x m c k φ := ⟨⟨f, F, hm⟩, hg⟩
def atCm (c m : Str) : PySem.W.Frag → Addr := fun K => He5.wf K (He.ga K c) "classmethod" m
def clsmB (c m : Str) : Fab := fun K => (PySem.W.readsIn K (He.ga K c) (.type "type") && He.eqO (PySem.W.specialIn K (.ref (He.ga K c)) "__getattribute__") (some (some (.builtin "type.__getattribute__")))) && (He5.wrapB K (He.ga K c) "classmethod" "classmethod.__get__" m && PySem.W.fnIn K (atCm c m K))
theorem clsmB_ok {K : PySem.W.Frag} {c m : Str} (h : clsmB c m K = true) : ClsmK K (He.ga K c) m (atCm c m K) := by
  have ⟨reads, rest⟩ := He.ba h
  have ⟨r1, r2⟩ := He.ba reads
  have ⟨w1, w2⟩ := He.ba rest
  have ⟨k1, l, k2⟩ := He5.wrapB_ok w1
  exact ⟨⟨r1, He.eqO_ok r2⟩, _, k1, ⟨l, k2⟩, w2⟩
section
variable {B : Bd} {X : Cx} {W : WX} {e : Expr} {es : List Expr} {wa : WE} {ta : WA} {pos apos p : Pos} {x y m : Str} {c k n : Nat} {φ : WF}
theorem ClsmR.at (h : ClsmR X.prog X.w B.C X.mg X.base x y c k φ) (hK : X.K = B.C.K) (hr : Room n X.A) (hk : k ≤ n := by decide) : ClsmG B X x y c φ := by
  have ⟨f, F, ck⟩ := h.ex
  refine ⟨⟨k, f, hr.mono hk, ?_, hK ▸ ck⟩, h.mg⟩
  unfold FnA
  rw [hK]
  exact F
/-- a def's run, as the code that it is -/
theorem run_AC (j : J B X W) {φ : WF} {k : Nat} {f : Addr} (F : FnA X B.C k f φ) (hr : Room k X.A) {gb g : Gh} {Hb : Hp} {env : Envr} {st : Store} {σ : L2.St} {H : Hp} {pins : List (Addr × Obj)} {s : Shared} {Q : QE} {R : XQ} {ds : List D} {vs : List V} {us : List Value} (l : Nx gb Hb g H) (bo : BOk B g env st σ H) (rw : RW B W env σ R)
    (I : Inv X pins σ H s) (r : Reps B.C g ds vs) (ru : Vals vs us) (h : φ ds st Q R) : codeAny (model X.prog X.w) X.A (.call (.ref f) ⟨us, []⟩) (fun r s' => match r with | .ok (.ret v) => EP X pins σ (QV B gb Hb env σ Q) v s' | .ok _ => False | .error e => X.xe e s') s := by
  have hs : spOfA B.C φ vs H (QV B gb Hb env σ Q) (L2.WE W σ) := by
    refine ⟨g, ds, st, Q, R, bo.ok, r, h, fun v H' ⟨d, st', g', l', ok, nx, rv, q⟩ => ?_, fun cls dd H' ⟨x, st', g', l', ok, nx, rx, q⟩ => ?_⟩
    · exact ⟨d, st', g', l.trans nx, bo.of_sp l' ok nx, rv, q⟩
    · exact rw x g' st' H' cls dd (bo.of_sp l' ok nx) rx q
  refine (codeAny_mono (F X.A X.stack s H us vs _ (L2.WE W σ) hr I.env0 ru hs) fun r s' hq => ?_)
  cases r with
  | error e => exact passAt j.tk σ pins H s e s' I hq
  | ok fl =>
    cases fl with
    | ret u => exact I.after hq
    | next => exact False.elim hq
    | brk => exact False.elim hq
    | cont => exact False.elim hq
/-- x.m(e, ..), x a class, m a method of the class: the class is the first argument -/
def wCallC (c : Nat) (φ : WF) (ta : WA) : WE := fun env st Q R => ta env st (fun ds st1 => φ (.cls c :: ds) st1 Q R) R
theorem g_clsm (j : J B X W) {pl : Sem Bool} (F : ClsmG B X x m c φ) (hg : Gl X x) (ha : PAg B X W (e :: es) ta)
    (hdb : (x == ("__debug__" : Str)) = false := by decide) (hst : starEach (e :: es) X.env = (false, eval e X.env) :: starEach es X.env := by rfl) (hpl : (backTo pos (starEach es X.env)).any (·.1) = false := by rfl)
    (ht : eval (.Call (.Attribute (.Name x p) m apos) (e :: es) [] pos) X.env = (do
      let ov ← eval (.Name x p) X.env
      standAt apos.atName
      let (f, first) ← holding [ov] (getMethod ov m pl)
      callWith pos f first (backTo pos (starEach (e :: es) X.env)) (backToKw pos (keywordEach [] X.env))) := by rfl) :
    PEg B X W (.Call (.Attribute (.Name x p) m apos) (e :: es) [] pos) (wCallC c φ ta) := by
  obtain ⟨lv, f, room, FA, ck⟩ := F.ex
  obtain ⟨rec, cm⟩ := ck.at_
  refine ⟨fun pins s σ H g env st Q R I bo rw hw => ?_⟩
  refine PySem.W.methodCall_KW (pl := pl) (ld_glob I hg F.mg ?_ hdb) ht
  refine ClX.getmethcm_ok I ck.rd cm ?_
  intro s1 I1
  refine ClX.callwith_cm I1 (ClX.base_none I (Nat.le_refl _)) cm.fi (thn (ha.run pos _ s1 σ H g env st _ R I1 bo rw hw) ?_) hst hpl
  rintro us s2 ⟨vs, H2, I2, r, ds, st2, g2, l2, b2, r2, q2⟩
  refine ⟨⟨ClX.pin_at I2, I2.kIn⟩, ?_⟩
  have rc : Rep B.C g2 (.cls c) (.ref (B.C.ca c)) := by
    unfold Rep
    rfl
  have rs : Reps B.C g2 (.cls c :: ds) (.ref (B.C.ca c) :: vs) := by
    unfold Reps
    exact ⟨_, _, rfl, rc, r2⟩
  have go := wpAny_call (PySem.W.method_call (ClX.pin_at I2) (run_AC j FA room l2 b2 rw I2 rs (.cons rfl r) q2))
  exact thn go fun _ _ z => ClX.unpinE z
/-- the slot i holds the class c -/
def wAtC (i c : Nat) (w : WE) : WE := fun env st Q R => env[i]? = some (Slot.val (.cls c)) ∧ w env st Q R
/-- v(*e), v the name of a slot that holds the class c -/
theorem g_makeSV (v : Bool) (j : J B X W) (i : Nat) {cc : Nat} (F : ClsG B X y cc φ) (he : PBg B X W e wa) (hi : X.N[i]? = some x := by rfl) (hv : Vis X.env.scope x := by first | exact Or.inl rfl | exact Or.inr (Or.inl rfl) | exact Or.inr (Or.inr rfl))
    {sp_ : Pos} (hst : starEach [.Starred e sp_] X.env = [(true, eval e X.env)] := by rfl) (hd : (x == ("__debug__" : Str)) = false := by decide +kernel) (hcd : (x == ("__classdict__" : Str)) = false := by decide +kernel) :
    PEg B X W (.Call (.Name x p) [.Starred e sp_] [] pos) (wAtC i cc (wMkS v cc φ wa)) := by
  obtain ⟨lv, room, mk⟩ := F.ex
  obtain ⟨f, FA, M⟩ := mk.ex
  refine ⟨fun pins s σ H g env st Q R I bo rw hw => ?_⟩
  obtain ⟨ho, hw⟩ := hw
  obtain ⟨v0, hσ, r0⟩ := bo.en.val i _ ho
  have e0 : v0 = .ref (B.C.ca cc) := by
    unfold Rep at r0
    exact r0
  subst e0
  refine wpAny_Call_Name_kw (thn ((pe_var (X := X) (i := i) (pos := p) hi hv hd hcd).run pins s σ H (fun z H' => z = .ref (B.C.ca cc) ∧ H' = H) I ⟨_, hσ, rfl, rfl⟩) ?_)
  rintro u s1 ⟨z, H1, I1, rz, rfl, rfl⟩
  obtain rfl : u = Value.ref (B.C.ca cc) := rz
  refine PySem.W.callWith_S (h₀ := X.base) I1.ok.mod.kin M.kp (thn (he.run pins s1 σ H1 g env st _ R I1 bo rw hw) ?_) hst
  rintro u s2 ⟨x2, H2, I2, rx, d, st1, g1, l1, b1, rd, q⟩
  have fin : ∀ {ds : List D} {a : Addr} {xs : List V}, x2 = .ref a → (SqT X.K H2 a xs ∨ SqL X.K H2 a xs) → Reps B.C g1 ds xs → (if v = true then mkV cc φ else mkC cc φ) ds st1 Q R → PySem.W.StarOf (model X.prog X.w) X.A X.xe u (fun vs s₂ => X.K.In s₂.heap ∧ wpAny (model X.prog X.w) X.A (call (.ref (B.C.ca cc)) ([] ++ vs)) (EP X pins σ (QV B g H1 env σ Q)) X.xe s₂) s2 := by
    intro ds a xs ex hx rr hq
    subst ex
    obtain rfl : u = Value.ref a := rx
    refine StX.star_any I2 hx fun us s3 I3 rv => ⟨I3.kIn, run_mk j mk room l1 b1 rw I3 rr rv ?_⟩
    cases v with
    | true => exact .inl hq
    | false => exact .inr hq
  cases d with
  | tup ds =>
    obtain ⟨a, xs, e1, hx, rr⟩ := rd.tupV b1
    exact fin e1 (.inl (by rw [j.hK]; exact hx.t)) rr q
  | lst ds =>
    obtain ⟨a, xs, e1, hx, rr⟩ := rd.lstV b1
    exact fin e1 (.inr (SqL.of hx)) rr q
  | _ => exact q.elim
def GTupI (K : PySem.W.Frag) (mg : Str → Option Value) (x : Str) (ss : List Str) : Prop := ∃ a o its n, mg x = some (.ref a) ∧ K.lookup a = some o ∧ o.cls = .type "tuple" ∧ o.dict = none ∧ o.data = .seq its n ∧ its.size ≤ sizeLine ∧ Vals (ss.map V.str) its.toList
def tupIB (x : Str) (ss : List Str) : Fab := fun K => tupB x ss K && (match K.lookup (He.ga K x) with | some o => o.dict.isNone | none => false)
theorem tupIB_ok {K : PySem.W.Frag} {mg : Str → Option Value} {x : Str} {ss : List Str} (hg : mg x = some (.ref (He.ga K x))) (c : tupIB x ss K = true) (hl : ss.length ≤ sizeLine := by decide) : GTupI K mg x ss := by
  have ⟨c1, c2⟩ := He.ba c
  obtain ⟨a, o, its, n, h1, h2, h3, h4, h5, h6⟩ := tupB_ok hg c1 hl
  rw [hg] at h1
  cases h1
  rw [h2] at c2
  exact ⟨_, o, its, n, hg, h2, h3, Option.isNone_iff_eq_none.mp c2, h4, h5, h6⟩
def wTix (ss : List Str) (wa : WE) : WE := fun env st Q R => wa env st (fun d st1 => oneS d fun z => ∃ k, ss[k]? = some z ∧ (∀ m, m < k → ss[m]? ≠ some z) ∧ Q (.int (k : Nat)) st1) R
theorem g_tix (j : J B X W) {ss : List Str} (hg : Gl X x) (T : GTupI B.C.K X.mg x ss) (he : PBg B X W e wa) (hd : (x == ("__debug__" : Str)) = false := by decide +kernel)
    (hbase : attributeBase (.Name x p) "index" X.env (eval (.Name x p) X.env) = eval (.Name x p) X.env := by rfl)
    (hfew : ((backTo pos (starEach [e] X.env)).all (fun z => !z.1) && (backToKw pos (keywordEach [] X.env)).all (fun z => z.1.isSome) && decide (([e] : List Expr).length + ([] : List Keyword).length + (if ([] : List Keyword).isEmpty then 0 else 1) < 30)) = true := by rfl)
    (hline : (apos.endLine == pos.line) = true := by rfl) (hst : starEach [e] X.env = (false, eval e X.env) :: starEach [] X.env := by rfl) :
    PEg B X W (.Call (.Attribute (.Name x p) "index" apos) [e] [] pos) (wTix ss wa) := by
  obtain ⟨a, o, its, n, e1, lk, hc, hn, hs, hz, vals⟩ := T
  refine PEg.of (pe_bm PySem.F.plainAttrs_tuple PySem.F.slot_tuple_index PySem.F.type_tuple_index mt_tup_index (pe_glob (v := V.ref a) hg e1 rfl hd) (pa_cons he.pe pa_nil hst) hbase hfew hline hst (by rfl)) fun σ H g env st Q R bo rw hw => ?_
  refine ⟨.inr (.inl ⟨rfl, o, by rw [j.hK]; exact lk, hc, hn⟩), g, env, st, _, R, bo, rw, hw, ?_⟩
  rintro y H1 ⟨d, st1, g1, l1, b1, r1, h1⟩
  obtain ⟨z, rfl, k, h2, h3, q⟩ := oneS_of h1
  have e2 := r1.strV
  subst e2
  exact ⟨a, ss, z, k, rfl, rfl, .inr ⟨o, its, n, by rw [j.hK]; exact lk, hc, hs, hz, vals⟩, h2, h3, QV.same l1 b1 rep_int q⟩
end
end G
namespace G
open PySem PySem.Spec PyProof.Rows L2
structure PEgS (B : Bd) (X : Cx) (W : WX) (e : Expr) (w : WE) : Prop where
  run : ∀ (pins : List (Addr × Obj)) (s : Shared) (σ : L2.St) (H : Hp) (g : Gh) (env : Envr) (st : Store) (Q : QE) (R : XQ), Inv X pins σ H s → BOk B g env st σ H → RW B W env σ R → w env st Q R →
    wpAny (model X.prog X.w) X.A (eval e X.env) (fun v s' => EP X pins σ (QV B g H env σ Q) v s' ∧ 1 ≤ s'.toks) X.xe s
section
variable {B : Bd} {X : Cx} {W : WX} {e a b c : Expr} {wa wb : WE} {t : WT} {u : WS} {rest : List Stmt} {pos p : Pos}
theorem gS_int {i : Int} {k : Nat} : PEgS B X W (.Constant (.int i) k pos) (wC (.int i)) := by
  refine ⟨fun pins s σ H g env st Q R I bo rw hw => ?_⟩
  refine wpAny_Constant_int ⟨⟨.int i, H, I.tok _, ⟨_, rfl⟩, QV.same (.refl g H) bo rep_int hw⟩, ?_⟩
  show 1 ≤ s.toks + 1
  omega
theorem gS_if (hc : PTg B X W c t) (ha : PEgS B X W a wa) (hb : PEgS B X W b wb) : PEgS B X W (.IfExp c a b pos) (wIf t wa wb) := by
  refine ⟨fun pins s σ H g env st Q R I bo rw hw => ?_⟩
  refine wpAny_IfExp (thn (hc.run pins s σ H g env st _ R I bo rw hw) ?_)
  rintro d s1 ⟨H1, I1, st1, g1, l1, b1, q1⟩
  cases d with
  | true => exact thn (ha.run pins s1 σ H1 g1 env st1 Q R I1 b1 rw q1) fun _ _ z => ⟨EP.le l1 z.1, z.2⟩
  | false => exact thn (hb.run pins s1 σ H1 g1 env st1 Q R I1 b1 rw q1) fun _ _ z => ⟨EP.le l1 z.1, z.2⟩
theorem gssS_set (j : J B X W) (i : Nat) {x : Str} (he : PEgS B X W e wa) (h2 : PSsgT B X W rest u) (hi : X.N[i]? = some x := by rfl) (hx : Loc X.env.scope x := by first | exact Or.inl rfl | exact Or.inr rfl) (hs : swapsWith e (some (.Name x p)) pos.line X.env = pure false := by rfl)
    (hf : X.fn x = true ∨ X.env.scope.names.lookup x = some .local := by first | exact .inl rfl | exact .inr rfl | assumption) : PSsg B X W (.Assign [.Name x p] e pos :: rest) (wSeq (wSet i wa) u) := by
  refine ⟨fun pins s σ H g env st D I bo rw hw => ?_⟩
  refine wpAny_execs_cons (wpAny_Assign_Name (thn (he.run pins s σ H g env st _ _ I bo (rw.at env σ) hw) ?_) hs)
  rintro v s1 ⟨⟨y, H1, I1, ry, d, st1, g1, l1, b1, r1, q1⟩, ht⟩
  refine wpAny_mono (PySem.wpAny_toks (store_ok (Q := fun _ s2 => Inv X pins (σ.set i (some y)) H1 s2) I1 j.nd hi hx ry (fun s2 I2 => I2) hf)) ?_ fun _ _ z => z.2
  rintro _ s2 ⟨more, I2⟩
  exact thn (h2.run pins s2 _ H1 g1 _ st1 D (Nat.le_trans ht more) I2 (b1.setVal r1 i) rw q1) fun _ _ z => SP.le l1.le z
end
end G
namespace G
open PySem PySem.Spec PyProof.Rows L2
end G
namespace LK
open PySem PySem.Spec PyProof.Rows L2 G
abbrev NamesA : List Str := (["given", "tag", "number", "prime", "most", "name", "point", "first", "at", "kept", "whole", "units", "read", "halves", "size", "mirrored", "content", "divided", "text", "columns", "under", "still", "cube", "four", "spread", "rows", "image", "power", "own_turn", "plain"] : List Str) ++ (["of_ring", "turn", "coordinates", "ring", "turned", "steps", "one_in", "basis", "within", "narrowed", "points", "words", "word", "step", "either", "both", "single", "product", "factor", "table", "spots", "done", "past", "future", "held", "busy", "widest", "share", "limit", "change_limit"] : List Str) ++ (["names", "grain", "grains", "marks", "homes", "spread_of", "commands", "history", "set_grain", "check_new", "add_mark", "drop_mark", "execute", "state", "become", "apply", "apply_all", "undo", "redo", "twin", "blank", "tried", "running", "place", "block", "ask", "named", "long"] : List Str)
def top (i : Nat) : Stmt := PySem.Challenge.pw_grainmeet_k08_texts_that_are_no_fours.main.body.getD i (.Pass ⟨0, 0, 0, 0⟩)
abbrev s_Four_halves : Stmt := (clsBody (top 23)).getD 4 (.Pass ⟨0, 0, 0, 0⟩)
abbrev N_Four_halves : List Str := ["self"]
abbrev s_is_halves : Stmt := top 22
abbrev N_is_halves : List Str := ["given", "one"]
abbrev s_Four___init__ : Stmt := (clsBody (top 23)).getD 0 (.Pass ⟨0, 0, 0, 0⟩)
abbrev N_Four___init__ : List Str := ["self", "halves"]
abbrev s_term_text : Stmt := top 24
abbrev N_term_text : List Str := ["half", "letter", "top"]
abbrev s_four_text : Stmt := top 25
abbrev N_four_text : List Str := ["halves", "parts", "half", "letter", "sign"]
abbrev s_Four_text : Stmt := (clsBody (top 23)).getD 16 (.Pass ⟨0, 0, 0, 0⟩)
abbrev N_Four_text : List Str := ["self"]
abbrev s_read_term : Stmt := top 26
abbrev N_read_term : List Str := ["term", "letter", "digits", "scale"]
abbrev s_read_halves : Stmt := top 27
abbrev N_read_halves : List Str := ["text", "halves", "start", "sign", "terms", "at", "term", "found"]
abbrev s_Four_readE : Stmt := (clsBody (top 23)).getD 3 (.Pass ⟨0, 0, 0, 0⟩)
abbrev N_Four_readE : List Str := ["cls", "text", "halves", "made"]
abbrev s__law_feed : Stmt := top 29
abbrev N__law_feed : List Str := ["_law_script", "_law_cells", "_law_mark", "_law_cell"]
abbrev s__law_take : Stmt := top 30
abbrev N__law_take : List Str := ["_law_feed_here", "_law_many", "_law_cell", "_law_mixed", "_law_found"]
abbrev s__law_halves : Stmt := top 33
abbrev N__law_halves : List Str := ["_law_feed_here", "_law_most", "_law_odd", "_law_row", "_law_k"]
abbrev s__law_pick : Stmt := top 31
abbrev N__law_pick : List Str := ["_law_feed_here", "_law_things"]
abbrev s__law_spelled : Stmt := top 34
abbrev N__law_spelled : List Str := ["_law_halves_here", "_law_found", "_law_half", "_law_letter", "_law_top", "_law_word"]
abbrev s_law : Stmt := top 35
abbrev N_law : List Str := ["_law_script", "_law_feed_here", "_law_odd", "_law_turn", "_law_text", "_law_at", "_law_sign", "_law_bent", "_law_found", "e", "_law_good", "_law_a"]
abbrev s_E_ParseError : Stmt := (clsBody (top 16)).getD 0 (.Pass ⟨0, 0, 0, 0⟩)
abbrev s_refd : Stmt := top 32
abbrev clsN : List Str := ["GrainError", "Missing", "InvalidFour", "InvalidNumber", "InvalidRing", "InvalidOrder", "NotApart", "TooFar", "InvalidLimit", "InvalidName", "DuplicateName", "DuplicateMark", "CapacityExceeded", "InvalidCommand", "ParseError", "UnknownName", "UnknownMark", "NothingLeft", "Four", "Turn", "Grain", "Grid", "Reader", "Block", "Trial", "PlainBlock", "Desk"]
abbrev caOf (K : PySem.W.Frag) : Nat → Addr := fun c => He.ga K (clsN.getD c "")
def fns : List DefX := [⟨atP "Four" "halves", "halves", "Four.halves", defArgs s_Four_halves, defBody s_Four_halves, defScope s_Four_halves⟩, ⟨atG "is_halves", "is_halves", "is_halves", defArgs s_is_halves, defBody s_is_halves, defScope s_is_halves⟩, ⟨atM "Four" "__init__", "__init__", "Four.__init__", defArgs s_Four___init__, defBody s_Four___init__, defScope s_Four___init__⟩, ⟨atG "term_text", "term_text", "term_text", defArgs s_term_text, defBody s_term_text, defScope s_term_text⟩, ⟨atG "four_text", "four_text", "four_text", defArgs s_four_text, defBody s_four_text, defScope s_four_text⟩, ⟨atM "Four" "text", "text", "Four.text", defArgs s_Four_text, defBody s_Four_text, defScope s_Four_text⟩, ⟨atG "read_term", "read_term", "read_term", defArgs s_read_term, defBody s_read_term, defScope s_read_term⟩, ⟨atG "read_halves", "read_halves", "read_halves", defArgs s_read_halves, defBody s_read_halves, defScope s_read_halves⟩, ⟨atCm "Four" "read", "read", "Four.read", defArgs s_Four_readE, defBody s_Four_readE, defScope s_Four_readE⟩, ⟨atG "_law_feed", "_law_feed", "_law_feed", defArgs s__law_feed, defBody s__law_feed, defScope s__law_feed⟩, ⟨atG "_law_take", "_law_take", "_law_take", defArgs s__law_take, defBody s__law_take, defScope s__law_take⟩, ⟨atG "_law_halves", "_law_halves", "_law_halves", defArgs s__law_halves, defBody s__law_halves, defScope s__law_halves⟩, ⟨atG "_law_pick", "_law_pick", "_law_pick", defArgs s__law_pick, defBody s__law_pick, defScope s__law_pick⟩, ⟨atG "_law_spelled", "_law_spelled", "_law_spelled", defArgs s__law_spelled, defBody s__law_spelled, defScope s__law_spelled⟩, ⟨atG "law", "law", "law", defArgs s_law, defBody s_law, defScope s_law⟩, ⟨atG "_law_refused", "_law_refused", "_law_refused", defArgs s_refd, defBody s_refd, defScope s_refd⟩]
def sups : List SupX := [⟨⟨atM "ParseError" "__init__", "__init__", "ParseError.__init__", defArgs s_E_ParseError, defBody s_E_ParseError, defScope s_E_ParseError⟩, "/claim/cut.py", fun K => He.ga K "ParseError"⟩]
def fas0 : List Fab := [faB (.glo "LETTERS"), tupIB "LETTERS" ["", "i", "j", "k"], tupB "LETTERS" ["", "i", "j", "k"], faB (.free "abs"), faB (.free "enumerate"), faB (.free "int"), faB (.free "len"), faB (.free "list"), faB (.free "range"), faB (.free "str"), faB (.free "tuple"), faB (.free "zip"), faB (.free "super")]
def fas1 : List Fab := [faB (.cls "Four"), faB (.glo "Four"), faB (.glo "InvalidFour"), faB (.glo "InvalidNumber"), faB (.glo "InvalidOrder"), faB (.glo "InvalidLimit"), faB (.glo "InvalidRing"), faB (.glo "NotApart"), faB (.glo "TooFar"), faB (.glo "CapacityExceeded"), faB (.glo "InvalidName"), faB (.glo "DuplicateName"), faB (.glo "UnknownName")]
def fas2 : List Fab := [faB (.glo "DuplicateMark"), faB (.glo "UnknownMark"), faB (.glo "InvalidCommand"), faB (.glo "ParseError"), faB (.glo "NothingLeft"), faB (.noat "Four" "kept"), errB (fun K => He.ga K "ParseError") (atM "ParseError" "__init__") "at" "tag", tellB caOf (nameOf NamesA) 1 tcl, faB (.glo "_law_refused"), faB (.glo "is_halves"), faB (.glo "term_text"), faB (.glo "four_text"), faB (.glo "read_term")]
def fas3 : List Fab := [faB (.glo "read_halves"), faB (.glo "_law_feed"), faB (.glo "_law_take"), faB (.glo "_law_halves"), faB (.glo "_law_pick"), faB (.glo "_law_spelled"), faB (.glo "law"), lawTabB "law", propB "Four" "halves", faB (.mkr "Four"), faB (.meth "Four" "text"), sfB "Four", clsmB "Four" "read"]
def fas : List Fab := (fas0 ++ (fas1 ++ (fas2 ++ fas3)))
abbrev R : PySem.W.OpenRow := PySem.W.OpenLaw.row PySem.Challenge.rw_grainmeet_k08_texts_that_are_no_fours
abbrev hk : PySem.W.Hook := hookZ ["law"] 5 fas fns sups
def ob (s : PySem.W.SharedT) : AlY := obsZG ["law"] 5 fas fns sups (HandSHeadRun.getT s)
theorem ob_eq (s : PySem.W.SharedT) : ob s = hk.obs s.abs := obsZG_eq (HandSHeadRun.getT_eq s)
abbrev loose : List Str := (["_wall", "GrainError", "Missing", "InvalidFour", "InvalidNumber", "InvalidRing", "InvalidOrder", "NotApart", "TooFar", "InvalidLimit", "InvalidName", "DuplicateName", "DuplicateMark", "CapacityExceeded", "InvalidCommand", "ParseError", "UnknownName", "UnknownMark", "NothingLeft", "LETTERS", "is_halves", "Four", "term_text", "four_text", "read_term", "read_halves", "_law_feed", "_law_take", "_law_pick", "_law_refused"] : List Str) ++ (["_law_halves", "_law_spelled"] : List Str)
noncomputable abbrev endT (w : World) (os : OsState) := HandSHeadRun.endF (HandSHeadRun.stepQ (HandSHeadRun.denQ HandSHeadRun.tabQ) R.prog w) 12000 R.prog w os
abbrev knT (s : PySem.W.SharedT) : PySem.W.Frag := He.frG (HandSHeadRun.getT s) (asZ ["law"] (HandSHeadRun.getT s) 5)
theorem two_maps {α β γ : Type} {e : Option α} {f : α → β} {g : α → γ} {a : β} {b : γ} (h1 : e.map f = some a) (h2 : e.map g = some b) : e.map (fun s => (f s, g s)) = some (a, b) := by cases e with | none => simp at h1 | some s => simp at h1 h2 ⊢; exact ⟨h1, h2⟩
theorem three_maps {α β γ δ : Type} {e : Option α} {f : α → β} {g : α → γ} {h : α → δ} {a : β} {b : γ} {c : δ} (h1 : e.map (fun s => (f s, g s)) = some (a, b)) (h2 : e.map h = some c) : e.map (fun s => (f s, g s, h s)) = some (a, b, c) := by cases e with | none => simp at h1 | some s => simp at h1 h2 ⊢; exact ⟨h1.1, h1.2, h2⟩
theorem all_parts {α : Type} {e : Option α} {f g : List Fab} {K : α → PySem.W.Frag} (h1 : e.map (fun s => f.all fun x => x (K s)) = some true) (h2 : e.map (fun s => g.all fun x => x (K s)) = some true) : e.map (fun s => (f ++ g).all fun x => x (K s)) = some true := by cases e with | none => simp at h1 | some s => simp only [Option.map_some, Option.some.injEq, List.all_append] at h1 h2 ⊢; rw [h1, h2]; rfl
theorem run_l (w : World) (os : OsState) : (endT w os).map (fun s => (HandSHeadRun.looksF R.prog (PySem.W.boot_heap w.params) s.abs, HandSHeadRun.seenQ (PySem.W.view R.prog [35]) loose (importedModules R.prog.main.body) (fun s => PySem.W.xlAt (PySem.W.view R.prog [35]) [] s && PySem.W.recOk R.toRowW.records s) s.abs)) = some (true, PySem.W.openGood (PySem.W.view R.prog [35]) loose) := by kernel_rfl
theorem run_f0 (w : World) (os : OsState) : (endT w os).map (fun s => fas0.all fun x => x (knT s)) = some true := by kernel_rfl
theorem run_f1 (w : World) (os : OsState) : (endT w os).map (fun s => fas1.all fun x => x (knT s)) = some true := by kernel_rfl
theorem run_f2 (w : World) (os : OsState) : (endT w os).map (fun s => fas2.all fun x => x (knT s)) = some true := by kernel_rfl
theorem run_f3 (w : World) (os : OsState) : (endT w os).map (fun s => fas3.all fun x => x (knT s)) = some true := by kernel_rfl
theorem run_k (w : World) (os : OsState) : (endT w os).map (fun s => fns.all fun d => d.ok (knT s)) = some true := by kernel_rfl
theorem run_v (w : World) (os : OsState) : (endT w os).map (fun s => fns.map fun d => fnWX (knT s) (d.at_ (knT s))) = some (fns.map DefX.val) := by kernel_rfl
theorem run_sk (w : World) (os : OsState) : (endT w os).map (fun s => sups.all fun d => d.ok (knT s)) = some true := by kernel_rfl
theorem run_sv (w : World) (os : OsState) : (endT w os).map (fun s => sups.map fun d => fnWS (knT s) (d.d.at_ (knT s))) = some (sups.map fun d => d.d.val) := by kernel_rfl
theorem run (w : World) : HandSHeadRun.RunEq R (PySem.W.view R.prog [35]) hk ob 12000 loose w := fun os => three_maps (run_l w os) (obs_partsY (all_parts (run_f0 w os) (all_parts (run_f1 w os) (all_parts (run_f2 w os) (run_f3 w os)))) (two_maps (run_k w os) (run_v w os)) (two_maps (run_sk w os) (run_sv w os)))
theorem head0 (hc : PySem.W.WalkO (PySem.W.view (PySem.W.OpenLaw.row PySem.Challenge.rw_grainmeet_k08_texts_that_are_no_fours).prog [35]) loose (PySem.W.XL (PySem.W.view (PySem.W.OpenLaw.row PySem.Challenge.rw_grainmeet_k08_texts_that_are_no_fours).prog [35]) []) hk.says (PySem.W.OpenLaw.row PySem.Challenge.rw_grainmeet_k08_texts_that_are_no_fours).toRowW (HandSHeadRun.topDef (PySem.W.OpenLaw.row PySem.Challenge.rw_grainmeet_k08_texts_that_are_no_fours).prog 35) [] (fun f vs => PySem.call f vs)) : PySem.Challenge.rw_grainmeet_k08_texts_that_are_no_fours.Holds := by
  w_on; o_law
  refine HandSHeadRun.head_any (r := PySem.W.OpenLaw.row PySem.Challenge.rw_grainmeet_k08_texts_that_are_no_fours) (q := PySem.W.view (PySem.W.OpenLaw.row PySem.Challenge.rw_grainmeet_k08_texts_that_are_no_fours).prog [35]) (H := LK.hk) (ob := LK.ob) (M := 12000) (loose := LK.loose) (d := HandSHeadRun.topDef (PySem.W.OpenLaw.row PySem.Challenge.rw_grainmeet_k08_texts_that_are_no_fours).prog 35) (kwd := []) LK.ob_eq
    (by kernel_rfl) (fun s => by kernel_rfl) LK.run (by kernel_rfl) (by kernel_rfl) (by kernel_rfl) (by rfl) (by first | assumption | decide +kernel) (by decide +kernel) ⟨rfl, rfl, rfl, rfl, rfl, by decide +kernel⟩ ?hw hc
  case hw => w_witness2
end LK
namespace G
open PySem PySem.Spec PyProof.Rows L2
section
variable {B : Bd} {X : Cx} {W : WX} {a b c e : Expr} {es : List Expr} {wa wb wc : WE} {ta : WA} {pos : Pos}
def RepS (C : Con) (g : Gh) : List (Str × D) → List (L2.Key × V) → Prop
  | [], vs => vs = []
  | (z, d) :: ds, vs => ∃ v q, vs = (Sum.inr z, v) :: q ∧ Rep C g d v ∧ RepS C g ds q
theorem RepS.mono {C : Con} {g g' : Gh} (l : g.le g') : ∀ {acc : List (Str × D)} {xs : List (L2.Key × V)}, RepS C g acc xs → RepS C g' acc xs
  | [], _, h => h
  | (r, d) :: ds, _, ⟨v, q, e, a, b⟩ => ⟨v, q, e, a.mono l, RepS.mono l b⟩
end
end G
namespace G
open PySem PySem.Spec PyProof.Rows L2
abbrev WEo := Envr → Store → (D → Envr → Store → Prop) → (Exc → Envr → Store → Prop) → Prop
def QVo (B : Bd) (g : Gh) (σ : L2.St) (Q : D → Envr → Store → Prop) : VK := fun v H' => ∃ d env' st' g', g.le g' ∧ BOk B g' env' st' σ H' ∧ Rep B.C g' d v ∧ Q d env' st'
structure PEo (B : Bd) (X : Cx) (W : WX) (e : Expr) (w : WEo) : Prop where
  run : ∀ (pins : List (Addr × Obj)) (s : Shared) (σ : L2.St) (H : Hp) (g : Gh) (env : Envr) (st : Store) (Q : D → Envr → Store → Prop) (R : Exc → Envr → Store → Prop), Inv X pins σ H s → BOk B g env st σ H → RWs B W R → w env st Q R →
    wpAny (model X.prog X.w) X.A (eval e X.env) (EP X pins σ (QVo B g σ Q)) X.xe s
def tgo (B : Bd) (W : WX) (w : WEo) : TE := fun σ H Q => ∃ g env st Qg R, BOk B g env st σ H ∧ RWs B W R ∧ w env st Qg R ∧ ∀ v H', QVo B g σ Qg v H' → Q v H'
theorem QVo.le {B : Bd} {g g1 : Gh} {σ : L2.St} {Q : D → Envr → Store → Prop} {v : V} {H : Hp} (l : g.le g1) (h : QVo B g1 σ Q v H) : QVo B g σ Q v H := by
  obtain ⟨d, e, st, g', a, b⟩ := h
  exact ⟨d, e, st, g', l.trans a, b⟩
section
variable {B : Bd} {X : Cx} {W : WX} {a b c e : Expr} {es : List Expr} {wa wb wc : WE} {wo uo : WEo} {ta : WA} {pos : Pos} {w u : WS}
theorem PEo.pe (h : PEo B X W e wo) : PE X e (tgo B W wo) := ⟨fun pins s σ H Q I ⟨g, env, st, Qg, R, b, r, hw, k⟩ =>
  thn (h.run pins s σ H g env st Qg R I b r hw) fun _ _ z => EP.imp z k⟩
theorem Reps.dropLast {C : Con} {g : Gh} {ds : List D} {xs : List V} (r : Reps C g ds xs) : Reps C g ds.dropLast xs.dropLast := by
  rw [List.dropLast_eq_take, List.dropLast_eq_take, r.length]
  exact r.take _
end
end G
namespace G
open PySem PySem.Spec PyProof.Rows L2
section
variable {B : Bd} {X : Cx} {W : WX} {a b c e : Expr} {es : List Expr} {wa wb wc : WE} {ta : WA} {pos : Pos} {w u : WS} {stm : Stmt} {rest : List Stmt}
theorem QVF.lst (ck : ConOk B.C) {g gb : Gh} {Hb : Hp} {env : Envr} {st : Store} {σ : L2.St} {H : Hp} {Q : QE} {ds : List D} {xs : List V} (l : Nx gb Hb g H) (bo : BOk B g env st σ H) (r : Reps B.C g ds xs) (q : Q (.lst ds) st) {p : Addr} (hp : H p = none) :
    QVF B gb Hb env σ Q (.ref p) (upd H p (.lst xs)) := by
  have up : ∀ a o, H a = some o → upd H p (.lst xs) a = some o := fun a o q => by rw [upd_ne (ne_of_none q hp)]; exact q
  have nD : Nx g H g (upd H p (.lst xs)) := ⟨.refl g, fun a o q _ _ => up a o q, dm_of up, fun _ _ h => .inl h, fun _ _ h => .inl h⟩
  exact ⟨p, xs, ds, st, g, rfl, l.trans nD, bo.grow ck up, Anon.new bo hp, upd_same, r, q⟩
end
structure FnpF (P : Program) (w : World) (C : Con) (mg : Str → Option Value) (base : Heap) (x : Str) (n k : Nat) (φ : WF) : Prop where
  len : ∀ ds st Q R, φ ds st Q R → ds.length = n
  ex : ∃ f fd ps, FnOk P w C.K mg base (L2.CX P w) k f fd ps (spOfF C φ n) ∧ ps.length = n ∧ mg x = some (.ref f) ∧ PySem.W.keepIn C.K (.ref f) = true ∧ L2.Binds C.K fd ps []
theorem FnpF.of {P : Program} {w : World} {C : Con} {mg : Str → Option Value} {base : Heap} {x : Str} {params : Arguments} {body : List Stmt} {scope : Scope} {N ps : List Str} {k : Nat} {wb : WS}
    (ck : ConOk C) (D : DefAt C mg x params body scope ps) (S : FnScope N ps scope)
    (h : ∀ (f : Addr) (cdv : Value) (A : Around) (outer : List Env) (s : Shared) (H : Hp) (E : XK) (g : Gh) (W : WX), Room k (A.deeper (envOfC x scope s.heap.objs.size f cdv)) → J ⟨C, g, H⟩ (cxOf (L2.CX P w) P w C.K mg base N x scope f cdv A outer s H E) W →
      PSsgF ⟨C, g, H⟩ (cxOf (L2.CX P w) P w C.K mg base N x scope f cdv A outer s H E) W body wb) : FnpF P w C mg base x ps.length (k + 1) (wfnF N.length ps.length wb) := by
  obtain ⟨f, fd, F, hm, hb⟩ := D.ex
  exact ⟨wfnF_len, f, fd, ps, fnF_ok ck F S (h f), rfl, hm, F.kp, hb⟩
structure FunGF (B : Bd) (X : Cx) (x : Str) (n : Nat) (φ : WF) : Prop where
  len : ∀ ds st Q R, φ ds st Q R → ds.length = n
  ex : ∃ k f fd ps, Room k X.A ∧ FnOk X.prog X.w X.K X.mg X.base (L2.CX X.prog X.w) k f fd ps (spOfF B.C φ n) ∧ ps.length = n ∧ X.mg x = some (.ref f) ∧ PySem.W.keepIn X.K (.ref f) = true ∧ L2.Binds X.K fd ps []
theorem FnpF.at {B : Bd} {X : Cx} {x : Str} {n k m : Nat} {φ : WF} (h : FnpF X.prog X.w B.C X.mg X.base x n k φ) (hK : X.K = B.C.K) (hr : Room m X.A) (hk : k ≤ m := by decide) : FunGF B X x n φ := by
  obtain ⟨f, fd, ps, ok, hn, hm, hk', hb⟩ := h.ex
  exact ⟨h.len, k, f, fd, ps, hr.mono hk, by rw [hK]; exact ok, hn, hm, by rw [hK]; exact hk', by rw [hK]; exact hb⟩
end G
namespace G
open PySem PySem.Spec PyProof.Rows L2
end G
namespace G
open PySem PySem.Spec PyProof.Rows L2
/-- a list of tuples that begin with texts -/
def Mk (g : Gh) (a : Addr) : Prop := ∃ p xs z zs, g.P a = some (.lst (.ref p :: xs)) ∧ g.P p = some (.tup (.str z :: zs))
end G
namespace G
open PySem PySem.Spec PyProof.Rows L2
end G
namespace G
open PySem PySem.Spec PyProof.Rows L2
open Builtin Builtin.ObjectAttr
/-- own classes, then the built-in ones -/
def RefsB (tl l : List Value) : Prop := ∃ rs : List Addr, l = rs.map Value.ref ++ tl
theorem RefsB.cons {tl l : List Value} (h : RefsB tl l) (c : Addr) : RefsB tl (.ref c :: l) := by
  obtain ⟨rs, rfl⟩ := h
  exact ⟨c :: rs, rfl⟩
theorem RefsB.contains {tl l : List Value} (h : RefsB tl l) (X : String) : l.contains (.type X) = tl.contains (.type X) := by
  obtain ⟨rs, rfl⟩ := h
  induction rs with
  | nil => rfl
  | cons c r ih => rw [List.map_cons, List.cons_append, List.contains_cons, ih]; rfl
/-- what the written part says of such a class -/
structure OexB (newId : String) (tl : List Value) (K : PySem.W.Frag) (C : Addr) : Prop where
  cls : ∃ nm q N bs bm sn sub ab col dd k0 k1 k2 k3 k5, K.lookup C = some (excClassObj nm q C N bs bm true sn sub ab col dd k0 k1 k2 k3 k5 newId) ∧ RefsB tl bm
  sa : PySem.W.findIn K (.ref C) "__setattr__" = some (some (.builtin "object.__setattr__"))
  exC : PySem.W.subIn K (.ref C) (.type "BaseException") = some true
  tyC : PySem.W.typeIn K (.ref C) = some (.type "type")
  kC : PySem.W.keepIn K (.ref C) = true
section
variable {Bn newId initId : String} {tl : List Value} {X : Cx} {pins : List (Addr × Obj)} {σ : L2.St} {H : Hp} {s : Shared} {a C dx : Addr} {f : Str} {y : V} {u : Value} {fs : List (Str × V)} {Q : Unit → Shared → Prop} {E : Value → Shared → Prop} {A : Around}
theorem OexB.cd {K : PySem.W.Frag} (T : OexB newId tl K C) : ∃ cd, PySem.W.clsIn K C = some cd ∧ RefsB tl cd.mro ∧ cd.hasDict = true := by
  obtain ⟨nm, q, N, bs, bm, sn, sub, ab, col, dd, k0, k1, k2, k3, k5, hC, hbm⟩ := T.cls
  exact ⟨{ name := nm, bases := bs, mro := .ref C :: bm, ns := N, qualname := q, hasDict := true, slotNames := sn, subclasses := sub, abstract := ab, collection := col, hasDel := false }, by unfold PySem.W.clsIn; rw [hC] <;> rfl, hbm.cons C, rfl⟩
end
end G
namespace G
open PySem PySem.Spec PyProof.Rows L2 NdefX
end G
namespace G
open PySem PySem.Spec PyProof.Rows L2 NdefX
end G
namespace G
open PySem PySem.Spec PyProof.Rows L2 NdefX
end G
namespace G
open PySem PySem.Spec PyProof.Rows L2
variable {B : Bd} {X : Cx} {W : WX}
theorem RepK.length {C : Con} {g : Gh} : ∀ {ds : List (D × D)} {vs : List (L2.Key × V)}, RepK C g ds vs → vs.length = ds.length
  | [], vs, h => by unfold RepK at h; rw [h]; rfl
  | (k, d) :: ds, vs, h => by
    unfold RepK at h
    obtain ⟨key, v, r, e, _, _, h2⟩ := h
    rw [e, List.length_cons, List.length_cons, RepK.length h2]
end G
namespace G
open PySem PySem.Spec PyProof.Rows L2
theorem gss_none {B : Bd} {X : Cx} {W : WX} {ss : List Stmt} : PSsg B X W ss (fun _ _ _ => False) := ⟨fun _ _ _ _ _ _ _ _ _ _ _ hw => hw.elim⟩
theorem DefC.never {P : Program} {w : World} {C : Con} {mg : Str → Option Value} {base : Heap} {x qual : Str} {params : Arguments} {body : List Stmt} {scope : Scope} {f : Addr} {N ps : List Str} {k : Nat} (ck : ConOk C) (D : DefC C f x qual params body scope ps) (S : FnScope N ps scope) :
    Fna P w C mg base (k + 1) f (wfn N.length ps.length fun _ _ _ => False) := D.fna ck S fun _ _ _ _ _ _ _ _ _ _ => gss_none
end G
namespace G
open PySem PySem.Spec PyProof.Rows L2
end G
namespace G
open PySem PySem.Spec PyProof.Rows L2
variable {B : Bd} {X : Cx} {W : WX} {w : WS}
theorem J.nox (j : J B X W) : J B X.nox (fun _ _ _ _ => False) where
  ck := j.ck
  hK := j.hK
  tk := fun u s' ⟨_, _, _, _, _, _, _, _, _, _, _, _, _, _, _, _, z⟩ => z.elim
  po := fun e s h => h.elim
  calm := j.calm
  nd := j.nd
  hd := j.hd
  hu := j.hu
  hu2 := j.hu2
end G
namespace G
open PySem PySem.Spec PyProof.Rows L2
end G
namespace G
open PySem PySem.Spec PyProof.Rows L2
end G
namespace G
open PySem PySem.Spec PyProof.Rows L2
def spOfV (C : Con) (φ : WF) : Sp := fun vs H Q _ => vs.length ≤ 5 ∧ ∃ g ds st Qg, GOk C g H st ∧ Reps C g ds vs ∧ φ [.tup ds] st Qg noX ∧ ∀ v H', SpQ C g H Qg v H' → Q v H'
def BindsV (fd : FuncData) (pv : Str) : Prop := ∀ us : List Value, us.length ≤ 5 → bindArgs fd ⟨us, []⟩ = (newTuple us >>= fun t => pure [(pv, t)])
section
variable {P : Program} {w : World} {C : Con} {mg : Str → Option Value} {base : Heap} {x qual : Str} {params : Arguments} {body : List Stmt} {scope : Scope} {dvs : List V} {kws : List (Str × V)} {f : Addr} {fd : FuncData} {N : List Str} {pv : Str} {k : Nat} {wb : WS}
theorem fnV_of (ck : ConOk C) (F : FunD C.K x qual params body scope dvs kws f fd) (S : FnScope N [pv] scope) (hb : BindsV fd pv)
    (h : ∀ (cdv : Value) (A : Around) (outer : List Env) (s : Shared) (H : Hp) (E : XK) (g : Gh) (W : WX), Room k (A.deeper (envOfC qual scope s.heap.objs.size f cdv)) → J ⟨C, g, H⟩ (cxOf (L2.CX P w) P w C.K mg base N qual scope f cdv A outer s H E) W →
      PSsg ⟨C, g, H⟩ (cxOf (L2.CX P w) P w C.K mg base N qual scope f cdv A outer s H E).nox W0 body wb) : L2.FnR P w C.K mg base (L2.CX P w) (k + 1) f (spOfV C (wfn N.length 1 wb)) := by
  obtain ⟨oc, od, dV, kV, doc, pm, an, cdv, ct, osl, rfl, lk, hcd, _, _⟩ := F.ex
  intro A outer s H us vs Q E hr e0 r ⟨hl, g, ds, st, Qg, ok, rs, hφ, hQ⟩
  have hlu : us.length ≤ 5 := by rw [← r.length]; exact hl
  have hz : us.length ≤ sizeLine := Nat.le_trans hlu (by decide)
  have KX : C.K.In s.heap := e0.mod.kin.keeps fun b o e => (e0.bs b o e).1
  obtain ⟨p, hp⟩ : ∃ p, p = s.heap.objs.size := ⟨_, rfl⟩
  have hn : H p = none := by rw [hp]; exact e0.hok.fresh (Nat.le_refl _)
  obtain ⟨H2, hH2⟩ : ∃ H2, H2 = upd H p (.tup vs) := ⟨_, rfl⟩
  obtain ⟨s2, hs2⟩ : ∃ s2 : Shared, s2 = { s with heap := s.heap.push ({ cls := .type "tuple", data := .seq us.toArray } : Obj) } := ⟨_, rfl⟩
  have kp : ∀ b o, s.heap.get? b = some o → s2.heap.get? b = some o := fun b o e => by rw [hs2]; exact Heap.get?_push_of_some _ e
  have at2 : s2.heap.get? p = some ({ cls := .type "tuple", data := .seq us.toArray } : Obj) := by rw [hs2, hp]; exact Heap.get?_push_size _ rfl
  have new : ObjOk P w H2 s2.heap p (.tup vs) := ⟨by rw [r.length]; exact hz, us, r, ⟨_, at2, rfl, _, rfl⟩⟩
  have sz2 : s.heap.objs.size ≤ s2.heap.objs.size := by rw [hs2]; show _ ≤ (s.heap.push _).objs.size; rw [Heap.size_push]; exact Nat.le_succ _
  have hok2 : HOk P w H2 s2.heap := by rw [hH2] at new ⊢; exact e0.hok.laid kp (by rw [hp]; exact Nat.le_refl _) new
  have un : Un (frs outer) [] H H2 s.heap s2.heap := by rw [hH2]; exact Un.laid kp (by rw [hp]; exact Nat.le_refl _) hn
  have nep : ∀ {b : Addr}, b < s.heap.objs.size → H2 b = H b := fun {b} hb => by rw [hH2]; exact upd_ne (by rw [hp]; exact Nat.ne_of_lt hb)
  have e2 : Env0 P w C.K mg base A outer s2 H2 := by
    refine ⟨e0.frames, e0.mod, fun b o e => ⟨kp b o (e0.bs b o e).1, ?_⟩, Nat.le_trans e0.bsz sz2, Heap.FunFrames.of_keeps (fun b o e _ => ⟨o, kp b o e, rfl⟩) e0.funs, fun b hb' => ?_, hok2, by rw [hs2]; exact e0.bare⟩
    · rw [nep (Heap.lt_size (e0.bs b o e).1)]
      exact (e0.bs b o e).2
    · obtain ⟨_, o, ho, _⟩ := e0.funs.mem hb'
      rw [nep (Heap.lt_size ho)]
      exact e0.frf b hb'
  have lim : s2.heap.NoLimit := e0.mod.nolimit.keeps fun b o e => (e2.bs b o e).1
  have hkind : ∀ y ∈ [pv].zip [Value.ref p], scope.names.lookup y.1 = some .local ∨ (scope.names.lookup y.1 = some .cell ∧ ((cellsFrom (s2.heap.objs.size + 1) scope.names []).lookup y.1).isSome = true) := fun y hy => by
    rcases S.par y.1 (List.of_mem_zip hy).1 with q | q
    · exact .inl q
    · exact .inr ⟨q, PySem.W.cellsFrom_some _ _ _ (.inl q)⟩
  obtain ⟨d', st', g', nx, b', rp, rfl, rfl⟩ : QV ⟨C, g, H⟩ g H (startE ([] : List Str).length []) (L2.start ([] : List Str) []) (fun d st' => d = .tup ds ∧ st' = st) (.ref p) H2 := by
    rw [hH2]
    exact QV.tup ck (.refl g H) (start_ok (N := []) ok Reps.nil) rs ⟨rfl, rfl⟩ hn
  refine codeAny_call_function hr.depth (KX _ _ lk) rfl S.co S.gen rfl (PySem.W.codeRec_of KX hcd) ?_
  rw [hb us hlu]
  refine wpAny_bind (wpAny_newTuple (wpAny_pure ?_) hz)
  rw [← hp, ← hs2]
  refine wpAny_newFunctionEnv_cells (s := s2) S.kind hkind fun env he s1 xx => ?_
  subst he
  refine ⟨lim.keeps xx.toInCall.keep, codeAny_func ?_⟩
  have hrd := hr.deeper (envOfC qual scope s2.heap.objs.size f cdv)
  have j : J ⟨C, g', H2⟩ (cxOf (L2.CX P w) P w C.K mg base N qual scope f cdv A outer s2 H2 E) (fun cls d _ H' => E cls d H') :=
    { ck := ck, hK := rfl, tk := takes_of rfl rfl rfl rfl, po := passes_of rfl, calm := rfl, nd := S.nd, hd := hrd.hd, hu := hrd.units, hu2 := by have h := hrd.un; show (A.deeper _).units + 150 < cLine; omega }
  have I : Inv (cxOf (L2.CX P w) P w C.K mg base N qual scope f cdv A outer s2 H2 E) [] (L2.start N [.ref p]) H2 s1 :=
    inv_start S hr.hd e2 rfl (.cons rfl .nil) xx
  have hbody := (h cdv A outer s2 H2 E g' _ (hr.deeper _) j).run [] s1 (L2.start N [.ref p]) H2 g' (startE N.length [.tup ds]) st' { nx := fun _ st' => Qg .non st', rt := Qg, bk := fun _ _ => False, ct := fun _ _ => False, ex := fun x _ st' => noX x st' } (I.wish fun _ _ => False) (start_ok b'.ok (Reps.cons rp Reps.nil)) (fun _ _ _ _ _ _ _ _ _ _ q => q.elim) hφ.2
  refine wpAny_mono hbody (fun fl s' hs => ?_) fun e s' hs => hs.elim
  have fin : ∀ {σ' : L2.St} {H' : Hp} {v' : V} {u' : Value}, Inv (cxOf (L2.CX P w) P w C.K mg base N qual scope f cdv A outer s2 H2 E).nox [] σ' H' s' → RelV v' u' → Q v' H' → CE outer P w H s Q u' s' :=
    fun {σ' H' v' u'} J rv' q => ⟨v', H', by rw [J.os, hs2]; rfl, J.bare, un.trans J.base, J.hok, rv', q⟩
  cases fl with
  | ret u' =>
    obtain ⟨v', σ', H', J', rv', d, st2, g2, l2, ok2, nx2, r2, q2⟩ := hs
    exact fin J' rv' (hQ v' H' ⟨d, st2, g2, nx.le.trans nx2.le, ok2, nx.trans nx2, r2, q2⟩)
  | next =>
    obtain ⟨σ', H', J', env', st2, g2, l2, b2, q2⟩ := hs
    exact fin (v' := V.non) (u' := Value.none) J' rfl (hQ .non H' ⟨.non, st2, g2, nx.le.trans b2.nx.le, b2.ok, nx.trans b2.nx, rep_non, q2⟩)
  | brk =>
    obtain ⟨_, _, _, _, _, _, _, _, q⟩ := hs
    exact q.elim
  | cont =>
    obtain ⟨_, _, _, _, _, _, _, _, q⟩ := hs
    exact q.elim
structure DefAtV (C : Con) (mg : Str → Option Value) (x : Str) (params : Arguments) (body : List Stmt) (scope : Scope) (pv : Str) : Prop where
  ex : ∃ f fd, FunD C.K x x params body scope [] [] f fd ∧ mg x = some (.ref f) ∧ BindsV fd pv
/-- such a def whose promise is kept -/
structure FnpV (P : Program) (w : World) (C : Con) (mg : Str → Option Value) (base : Heap) (x : Str) (k : Nat) (φ : WF) : Prop where
  ex : ∃ f, L2.FnR P w C.K mg base (L2.CX P w) k f (spOfV C φ) ∧ mg x = some (.ref f) ∧ PySem.W.keepIn C.K (.ref f) = true
theorem FnpV.of {x : Str} (ck : ConOk C) (D : DefAtV C mg x params body scope pv) (S : FnScope N [pv] scope)
    (h : ∀ (f : Addr) (cdv : Value) (A : Around) (outer : List Env) (s : Shared) (H : Hp) (E : XK) (g : Gh) (W : WX), Room k (A.deeper (envOfC x scope s.heap.objs.size f cdv)) → J ⟨C, g, H⟩ (cxOf (L2.CX P w) P w C.K mg base N x scope f cdv A outer s H E) W →
      PSsg ⟨C, g, H⟩ (cxOf (L2.CX P w) P w C.K mg base N x scope f cdv A outer s H E).nox W0 body wb) : FnpV P w C mg base x (k + 1) (wfn N.length 1 wb) := by
  obtain ⟨f, fd, F, hm, hb⟩ := D.ex
  exact ⟨f, fnV_of ck F S hb (h f), hm, F.kp⟩
end
structure FunGV (B : Bd) (X : Cx) (x : Str) (φ : WF) : Prop where
  ex : ∃ k f, Room k X.A ∧ L2.FnR X.prog X.w B.C.K X.mg X.base (L2.CX X.prog X.w) k f (spOfV B.C φ) ∧ X.mg x = some (.ref f) ∧ PySem.W.keepIn X.K (.ref f) = true
theorem FnpV.at {B : Bd} {X : Cx} {x : Str} {k m : Nat} {φ : WF} (h : FnpV X.prog X.w B.C X.mg X.base x k φ) (hK : X.K = B.C.K) (hr : Room m X.A) (hk : k ≤ m := by decide) : FunGV B X x φ := by
  obtain ⟨f, ok, hm, hk'⟩ := h.ex
  exact ⟨k, f, hr.mono hk, ok, hm, by rw [hK]; exact hk'⟩
end G
namespace G
open PySem PySem.Spec PyProof.Rows L2
end G
namespace G
open PySem PySem.Spec PyProof.Rows L2
end G
namespace L2
open PySem PySem.Spec PyProof.Rows
end L2
namespace G
open PySem PySem.Spec PyProof.Rows L2
/-- three keywords, the last for the first parameter -/
def rot3 {α : Type} : List α → List α
  | [a, b, c] => [c, a, b]
  | l => l
structure DefAtW (C : Con) (mg : Str → Option Value) (x : Str) (params : Arguments) (body : List Stmt) (scope : Scope) (ps : List Str) (dvs : List V) (n : Nat) (ks kt : List Str) : Prop where
  ex : ∃ f fd kws ds gg g3, FunD C.K x x params body scope [] kws f fd ∧ mg x = some (.ref f) ∧ Vals dvs ds ∧ L2.Binds C.K fd ps ds ∧ KBn C.K fd ps n ks gg (fun vs zs => vs ++ zs) ∧ KBn C.K fd ps 0 kt g3 (fun _ zs => rot3 zs)
structure FnpW (P : Program) (w : World) (C : Con) (mg : Str → Option Value) (base : Heap) (x : Str) (n k : Nat) (φ : WF) (dvs : List V) (m : Nat) (ks kt : List Str) : Prop where
  len : ∀ ds st Q R, φ ds st Q R → ds.length = n
  ex : ∃ f fd ps ds gg g3, FnOk P w C.K mg base (L2.CX P w) k f fd ps (spOf C φ n) ∧ ps.length = n ∧ mg x = some (.ref f) ∧ PySem.W.keepIn C.K (.ref f) = true ∧ Vals dvs ds ∧ L2.Binds C.K fd ps ds ∧ KBn C.K fd ps m ks gg (fun vs zs => vs ++ zs) ∧ KBn C.K fd ps 0 kt g3 (fun _ zs => rot3 zs)
section
variable {P : Program} {w : World} {C : Con} {mg : Str → Option Value} {base : Heap} {x : Str} {params : Arguments} {body : List Stmt} {scope : Scope} {dvs : List V} {N ps : List Str} {k m n : Nat} {wb : WS} {ks kt : List Str} {φ : WF}
theorem FnpW.of (ck : ConOk C) (D : DefAtW C mg x params body scope ps dvs m ks kt) (S : FnScope N ps scope)
    (h : ∀ (f : Addr) (cdv : Value) (A : Around) (outer : List Env) (s : Shared) (H : Hp) (E : XK) (g : Gh) (W : WX), Room k (A.deeper (envOfC x scope s.heap.objs.size f cdv)) → J ⟨C, g, H⟩ (cxOf (L2.CX P w) P w C.K mg base N x scope f cdv A outer s H E) W →
      PSsg ⟨C, g, H⟩ (cxOf (L2.CX P w) P w C.K mg base N x scope f cdv A outer s H E) W body wb) : FnpW P w C mg base x ps.length (k + 1) (wfn N.length ps.length wb) dvs m ks kt := by
  obtain ⟨f, fd, kws, ds, gg, g3, F, hm, hv, hb, hk, h3⟩ := D.ex
  exact ⟨wfn_len, f, fd, ps, ds, gg, g3, fn_ok (N := N) ck F S (h f), rfl, hm, F.kp, hv, hb, hk, h3⟩
end
structure FunGW (B : Bd) (X : Cx) (x : Str) (φ : WF) (kt : List Str) : Prop where
  len : ∀ ds st Q R, φ ds st Q R → ds.length = 3
  ex : ∃ k f fd ps gg, Room k X.A ∧ FnOk X.prog X.w X.K X.mg X.base (L2.CX X.prog X.w) k f fd ps (spOf B.C φ 3) ∧ X.mg x = some (.ref f) ∧ PySem.W.keepIn X.K (.ref f) = true ∧ KBn X.K fd ps 0 kt gg (fun _ zs => rot3 zs)
theorem FnpW.at {B : Bd} {X : Cx} {x : Str} {k m q : Nat} {φ : WF} {dvs : List V} {ks kt : List Str} (h : FnpW X.prog X.w B.C X.mg X.base x 3 k φ dvs q ks kt) (hK : X.K = B.C.K) (hr : Room m X.A) (hk : k ≤ m := by decide) : FunGW B X x φ kt := by
  obtain ⟨f, fd, ps, ds, gg, g3, ok, hn, hm, hk', hv, hb, hkb, h3⟩ := h.ex
  exact ⟨h.len, k, f, fd, ps, g3, hr.mono hk, by rw [hK]; exact ok, hm, by rw [hK]; exact hk', by rw [hK]; exact h3⟩
end G
namespace G
open PySem PySem.Spec PyProof.Rows L2
end G
namespace G
open PySem PySem.Spec PyProof.Rows L2
end G
namespace G
open PySem PySem.Spec PyProof.Rows L2
end G
namespace G
open PySem PySem.Spec PyProof.Rows L2 LamX
theorem LamAts.append {X : Cx} {H : Hp} : ∀ {ls ls2 : List LamI} {fs fs2 : List (Addr × Addr)}, LamAts X ls fs H → LamAts X ls2 fs2 H → LamAts X (ls ++ ls2) (fs ++ fs2) H
  | [], ls2, fs, fs2, h, h2 => by
    have h : fs = [] := h
    subst h
    exact h2
  | l :: ls, ls2, fs, fs2, h, h2 => by
    obtain ⟨f, c', r, e, la, las⟩ := h
    subst e
    exact ⟨f, c', r ++ fs2, rfl, la, LamAts.append las h2⟩
end G
namespace G
open PySem PySem.Spec PyProof.Rows L2
end G
namespace LamX
open PySem PySem.Spec PyProof.Rows L2
end LamX
namespace G
open PySem PySem.Spec PyProof.Rows L2 LamX
/-- what a lambda's body gives to a thing -/
abbrev LR := D → Store → QE → XQ → Prop
/-- a(b) in the def that got the lambda at f -/
def wAct (f : Addr) (i ib : Nat) (lr : LR) : WE := fun env st Q R => env[i]? = some (Slot.val (.raw f)) ∧ ∃ d, env[ib]? = some (Slot.val d) ∧ lr d st Q R
/-- a def of three parameters that calls the one in the slot i with the thing in the slot ib -/
structure LamUser (P : Program) (w : World) (C : Con) (mg : Str → Option Value) (base : Heap) (x : Str) (i ib k : Nat) (wp : Addr → LR → WF) : Prop where
  ex : ∃ (params : Arguments) (body : List Stmt) (scope : Scope) (a b : Str) (N ps : List Str) (wb : Addr → LR → WS), DefAt C mg x params body scope ps ∧ FnScope N ps scope ∧ ps.length = 3 ∧ N[i]? = some a ∧ Vis scope a ∧ N[ib]? = some b ∧ Vis scope b ∧
    (a == ("__debug__" : Str)) = false ∧ (a == ("__classdict__" : Str)) = false ∧ (b == ("__debug__" : Str)) = false ∧ (b == ("__classdict__" : Str)) = false ∧ (∀ f lr, wp f lr = wfn N.length 3 (wb f lr)) ∧
    ∀ (K : PySem.W.Frag) (f : Addr) (cdv : Value) (A : Around) (outer : List Env) (s : Shared) (H : Hp) (E : XK) (g : Gh), K = C.K → Room k (A.deeper (envOfC x scope s.heap.objs.size f cdv)) → J ⟨C, g, H⟩ (cxOf (L2.CX P w) P w K mg base N x scope f cdv A outer s H E) (fun cls d _ H' => E cls d H') →
      ∀ (fl : Addr) (lr : LR), (∀ p1 pb p2, PEg ⟨C, g, H⟩ (cxOf (L2.CX P w) P w K mg base N x scope f cdv A outer s H E) (fun cls d _ H' => E cls d H') (.Call (.Name a p1) [.Name b pb] [] p2) (wAct fl i ib lr)) →
        PSsg ⟨C, g, H⟩ (cxOf (L2.CX P w) P w K mg base N x scope f cdv A outer s H E) (fun cls d _ H' => E cls d H') body (wb fl lr)
theorem LamUser.of {P : Program} {w : World} {C : Con} {mg : Str → Option Value} {base : Heap} {x a b : Str} {i ib k : Nat} {params : Arguments} {body : List Stmt} {scope : Scope} {N ps : List Str} {wb : Addr → LR → WS} (D : DefAt C mg x params body scope ps) (S : FnScope N ps scope) (hps : ps.length = 3)
    (h1 : N[i]? = some a) (h3 : N[ib]? = some b) (h2 : Vis scope a) (h4 : Vis scope b)
    (h : ∀ (f : Addr) (cdv : Value) (A : Around) (outer : List Env) (s : Shared) (H : Hp) (E : XK) (g : Gh), Room k (A.deeper (envOfC x scope s.heap.objs.size f cdv)) → J ⟨C, g, H⟩ (cxOf (L2.CX P w) P w C.K mg base N x scope f cdv A outer s H E) (fun cls d _ H' => E cls d H') →
      ∀ (fl : Addr) (lr : LR), (∀ p1 pb p2, PEg ⟨C, g, H⟩ (cxOf (L2.CX P w) P w C.K mg base N x scope f cdv A outer s H E) (fun cls d _ H' => E cls d H') (.Call (.Name a p1) [.Name b pb] [] p2) (wAct fl i ib lr)) →
        PSsg ⟨C, g, H⟩ (cxOf (L2.CX P w) P w C.K mg base N x scope f cdv A outer s H E) (fun cls d _ H' => E cls d H') body (wb fl lr))
    (z1 : (a == ("__debug__" : Str)) = false := by decide) (z2 : (a == ("__classdict__" : Str)) = false := by decide) (z3 : (b == ("__debug__" : Str)) = false := by decide) (z4 : (b == ("__classdict__" : Str)) = false := by decide) :
    LamUser P w C mg base x i ib k (fun f lr => wfn N.length 3 (wb f lr)) :=
  ⟨params, body, scope, a, b, N, ps, wb, D, S, hps, h1, h2, h3, h4, z1, z2, z3, z4, fun _ _ => rfl, fun K f cdv A outer s H E g e hr j => by subst e; exact h f cdv A outer s H E g hr j⟩
end G
namespace G
open PySem PySem.Spec PyProof.Rows L2
end G
namespace G
open PySem PySem.Spec PyProof.Rows L2
end G
namespace G
open PySem PySem.Spec PyProof.Rows L2
end G
namespace G
open PySem PySem.Spec PyProof.Rows L2
end G
namespace G
open PySem PySem.Spec PyProof.Rows L2
variable {B : Bd} {X : Cx} {W : WX} {w : WS}
theorem J.tr (j : J B X W) {pn : List (Addr × Obj)} {xe : Value → Shared → Prop} {W' : WX} (tk : Takes (X.tr pn xe) W') (po : PassesOwn (model X.prog X.w) X.A X.env xe) : J B (X.tr pn xe) W' where
  ck := j.ck
  hK := j.hK
  tk := tk
  po := po
  calm := j.calm
  nd := j.nd
  hd := j.hd
  hu := j.hu
  hu2 := j.hu2
theorem exc_none {g : Gh} {env : Envr} {st : Store} {σ : L2.St} {H : Hp} {i : Nat} (b : BOk B g env st σ H) : BOk B g (env.set i .no) st (σ.set i none) H := by
  refine ⟨b.ok, b.nx, ⟨by rw [List.length_set, List.length_set]; exact b.en.len, fun k d h => ?_, fun k ds h => ?_, fun k m ds es a hne h1 h2 h3 => ?_⟩⟩
  · by_cases e : k = i
    · subst e
      rw [List.getElem?_set] at h
      simp only [↓reduceIte] at h
      split at h <;> cases h
    · rw [List.getElem?_set_ne (Ne.symm e)] at h ⊢
      exact b.en.val k d h
  · by_cases e : k = i
    · subst e
      rw [List.getElem?_set] at h
      simp only [↓reduceIte] at h
      split at h <;> cases h
    · rw [List.getElem?_set_ne (Ne.symm e)] at h ⊢
      exact b.en.own k ds h
  · have ek : k ≠ i := fun e => by
      subst e
      rw [List.getElem?_set] at h1
      simp only [↓reduceIte] at h1
      split at h1 <;> cases h1
    have em : m ≠ i := fun e => by
      subst e
      rw [List.getElem?_set] at h2
      simp only [↓reduceIte] at h2
      split at h2 <;> cases h2
    rw [List.getElem?_set_ne (Ne.symm ek)] at h1 h3
    rw [List.getElem?_set_ne (Ne.symm em)] at h2 ⊢
    exact b.en.dis k m ds es a hne h1 h2 h3
/-- what was seen from a later base is seen from the first one -/
theorem BOk.rebase {g g' : Gh} {env env' : Envr} {st st' : Store} {σ σ' : L2.St} {H H' : Hp} (bo : BOk B g env st σ H) (b : BOk ⟨B.C, g, H⟩ g' env' st' σ' H') : BOk B g' env' st' σ' H' :=
  ⟨b.ok, bo.nx.trans b.nx, ⟨b.en.len, b.en.val, fun i ds h => by
    obtain ⟨a, xs, h1, h2, h3, h4, h5, h6⟩ := b.en.own i ds h
    exact ⟨a, xs, h1, h2, h3, h4, h5, bo.nx.dm a h6⟩, b.en.dis⟩⟩
/-- an error of the class c, its field f nought -/
def wTryAt (c f i : Nat) (w : WS) : WS := fun env st D => w (env.map noS) st { D with ex := fun x env' st' => x.c = c ∧ x.fs.lookup f = some (.int 0) ∧ i < env'.length ∧ D.nx (env'.set i .no) st' }
section
variable {body : List Stmt} {n cn fn : Str} {tn c f i : Nat} {cl : List TellN} {p1 p2 p3 p4 p5 p6 p7 p8 p9 p10 : Pos} {k1 k2 : Nat}
theorem gs_tryAt (j : J B X W) (TK : TellK B.C tn cl) (hm : ([c], some f) ∈ cl) (hf : B.C.fn f = fn) (hs : X.stack = X.env :: X.outer) (hfr : X.env.frame = some X.env.locals) (hi : X.N[i]? = some n) (hln : X.env.kindOf n = some .local) (kn : X.env.scope.names.lookup n = some .local)
    (hg : Gl X cn) (hmg : X.mg cn = some (.ref (B.C.ca c))) (hdb : (cn == ("__debug__" : Str)) = false := by decide) (nd : (n == ("__debug__" : Str)) = false := by decide) (nc : (n == ("__classdict__" : Str)) = false := by decide)
    (hb : ∀ (g : Gh) (H : Hp) (W' : WX) (pn : List (Addr × Obj)) (xe : Value → Shared → Prop), J ⟨B.C, g, H⟩ (X.tr pn xe) W' → PSsg ⟨B.C, g, H⟩ (X.tr pn xe) W' body w) :
    PSg B X W (.Try body [.ExceptHandler (some (.Name cn p1)) (some n) [.If (.Compare (.Attribute (.Name n p2) fn p3) [.NotEq] [.Constant (.int 0) k1 p4] p5) [.Return (some (.Constant (.bool false) k2 p6)) p7] [] p8] p9] [] [] p10) (wTryAt c f i w) := by
  have T := TK.cls _ hm c (List.mem_singleton.mpr rfl)
  refine PSg.of (ps_told (Wout := W) (tb := fun W' D σ H => ∃ g0 H0, tgs ⟨B.C, g0, H0⟩ W' w D σ H) (l := [([.ref (B.C.ca c)], fun a cls d => _)]) hs hfr j.nd hi hln j.tk (fun W' pn xe tk po => ⟨fun pins s σ H D I ⟨g0, H0, h⟩ => (hb g0 H0 W' pn xe ((⟨j.ck, j.hK, tk, po, j.calm, j.nd, j.hd, j.hu, j.hu2⟩ : J ⟨B.C, g0, H0⟩ (X.tr pn xe) W'))).ps.run pins s σ H D I h⟩) (Clauses.cons (test_one ⟨hg, hdb, .inl hmg⟩) (fun a oe cls d pn hz hfs => pss_one (ps_if (pt_cmp (pc_neI (pe_xf (C := B.C.ca c) (n := fn) (by rw [j.hK]; exact T.xf) (by rw [j.hK, ← hf]; exact T.fl _ rfl) hz hfs (pe_var hi (.inl kn) nd nc)) pe_int)) (pss_one (ps_ret pe_bl)) pss_nil)) .nil)) fun σ H g env st D bo rw hw => ?_
  have nxB : ∀ {Q : Envr → Store → Prop} {σ' : L2.St} {H' : Hp}, QN ⟨B.C, g, H⟩ g Q σ' H' → QN B g Q σ' H' := fun ⟨env', st', g', l, b, q⟩ => ⟨env', st', g', l, bo.rebase b, q⟩
  refine ⟨g, H, g, env.map noS, st, { D with ex := fun x env' st' => x.c = c ∧ x.fs.lookup f = some (.int 0) ∧ i < env'.length ∧ D.nx (env'.set i .no) st' }, bo.noOwn, fun x g' env' st' σ' H' cls d b' xr hx => ?_, hw, fun _ _ z => nxB z, fun v H' ⟨d, st', g', l, o, nx, r, q⟩ => ⟨d, st', g', l, o, bo.nx.trans nx, r, q⟩, fun _ _ z => nxB z, fun _ _ z => nxB z⟩
  obtain ⟨xc, xf, le, q⟩ := hx
  obtain ⟨ec, dd, fv, ed, hdd, rf⟩ := xr
  obtain ⟨v, v1, v2⟩ := repF_look TK.inj rf xf
  have v2 := v2.intV
  subst v2
  have ex := TK.exm _ hm _ hm c (List.mem_singleton.mpr rfl)
  rw [xc] at ec
  refine ⟨true, by rw [ec, j.hK]; simpa using ex, fun _ a ha => ?_, fun z => by cases z⟩
  have li : i < σ'.length := by rw [← b'.en.len]; exact le
  have bb := exc_none (i := i) (bo.rebase b')
  refine ⟨.ref a, by rw [List.getElem?_set_self li], rfl, ec, dd, fv, .int 0, ed, hdd, by rw [← hf]; exact v1, 0, 0, rfl, rfl, ?_⟩
  refine ⟨_, rfl, ?_⟩
  show (EndsOf B g D).nx ((σ'.set i (some (V.ref a))).set i none) H'
  rw [List.set_set]
  exact ⟨_, _, _, b'.nx.le, bb, q⟩
end
end G
namespace G
open PySem PySem.Spec PyProof.Rows L2
theorem e_wNext  {env st D} : wNext  env st D = (D.nx env st) := rfl
theorem e_wBin {o : O2} {wa wb : WE} {env st Q R} : wBin o wa wb env st Q R = (wa env st (fun d1 st1 => wb env st1 (fun d2 st2 => o d1 d2 st2 Q R) R) R) := rfl
theorem e_wUn {o : O1} {wa : WE} {env st Q R} : wUn o wa env st Q R = (wa env st (fun d st1 => o d st1 Q R) R) := rfl
theorem e_wArgs {o : ON} {ta : WA} {env st Q R} : wArgs o ta env st Q R = (ta env st (fun ds st1 => o ds st1 Q R) R) := rfl
theorem e_wC {d : D} {x0 st Q x3} : wC d x0 st Q x3 = (Q d st) := rfl
theorem e_waNil  {x0 st Q x3} : waNil  x0 st Q x3 = (Q [] st) := rfl
theorem e_waCons {wa : WE} {ta : WA} {env st Q R} : waCons wa ta env st Q R = (wa env st (fun d st1 => ta env st1 (fun ds st2 => Q (d :: ds) st2) R) R) := rfl
theorem e_wTup {ta : WA} {env st Q R} : wTup ta env st Q R = (ta env st (fun ds st1 => ds.length ≤ sizeLine ∧ Q (.tup ds) st1) R) := rfl
theorem e_wLst {ta : WA} {env st Q R} : wLst ta env st Q R = (ta env st (fun ds st1 => ds.length ≤ sizeLine ∧ Q (.lst ds) st1) R) := rfl
theorem e_wCell {ta : WA} {env st Q R} : wCell ta env st Q R = (ta env st (fun ds st1 => ds.length ≤ sizeLine ∧ Q (.cel st1.length) (st1 ++ [.lst ds])) R) := rfl
theorem e_wNotT {w : WT} {env st Q R} : wNotT w env st Q R = (w env st (fun b st1 => Q (!b) st1) R) := rfl
theorem e_wIsN {w : WE} {env st Q R} : wIsN w env st Q R = (w env st (fun d st1 => Q (.bl d.isNon) st1) R) := rfl
theorem e_wNotN {w : WE} {env st Q R} : wNotN w env st Q R = (w env st (fun d st1 => Q (.bl (!d.isNon)) st1) R) := rfl
theorem e_wTru {M : MT} {w : WE} {env st Q R} : wTru M w env st Q R = (w env st (fun d st1 => oTru M d st1 Q R) R) := rfl
theorem e_wSl {wa : WE} {wl wh : WO} {env st Q R} : wSl wa wl wh env st Q R = (wa env st (fun d st1 => wl env st1 (fun l st2 => wh env st2 (fun h st3 => oSl d l h st3 Q R) R) R) R) := rfl
theorem e_woNone  {x0 st Q x3} : woNone  x0 st Q x3 = (Q none st) := rfl
theorem e_wSet {i : Nat} {wa : WE} {env st D} : wSet i wa env st D = (wa env st (fun d st1 => D.nx (env.set i (.val d)) st1) (xe D env)) := rfl
theorem e_wRet {wa : WE} {env st D} : wRet wa env st D = (wa env st D.rt (xe D env)) := rfl
theorem e_wRetN  {env st D} : wRetN  env st D = (D.rt .non st) := rfl
theorem e_wExpr {wa : WE} {env st D} : wExpr wa env st D = (wa env st (fun _ st1 => D.nx env st1) (xe D env)) := rfl
theorem e_wFrz {is : List Nat} {w : WS} {env st D} : wFrz is w env st D = (w (frz is env) st D) := rfl
theorem e_wBrk  {env st D} : wBrk  env st D = (D.bk env st) := rfl
theorem e_wCnt  {env st D} : wCnt  env st D = (D.ct env st) := rfl
theorem e_wAsg {wa : WE} {t : WG} {env st D} : wAsg wa t env st D = (wa env st (fun d st1 => t d env st1 D.nx) (xe D env)) := rfl
theorem e_wgName {i : Nat} {d env st Q} : wgName i d env st Q = (Q (env.set i (.val d)) st) := rfl
theorem e_wOwn {i : Nat} {ta : WA} {env st D} : wOwn i ta env st D = (ta env st (fun ds st1 => ds.length ≤ sizeLine ∧ D.nx (env.set i (.own ds)) st1) (xe D env)) := rfl
def seqK (D : EW) (K : Envr → Store → Prop) : EW := { D with nx := K }
theorem seqK_nx {D : EW} {K : Envr → Store → Prop} : (seqK D K).nx = K := rfl
theorem seqK_rt {D : EW} {K : Envr → Store → Prop} : (seqK D K).rt = D.rt := rfl
theorem seqK_bk {D : EW} {K : Envr → Store → Prop} : (seqK D K).bk = D.bk := rfl
theorem seqK_ct {D : EW} {K : Envr → Store → Prop} : (seqK D K).ct = D.ct := rfl
theorem seqK_ex {D : EW} {K : Envr → Store → Prop} : (seqK D K).ex = D.ex := rfl
def loopK (D : EW) (K : Envr → Store → Prop) : EW := { D with nx := K, ct := K, bk := D.nx }
theorem loopK_nx {D : EW} {K : Envr → Store → Prop} : (loopK D K).nx = K := rfl
theorem loopK_rt {D : EW} {K : Envr → Store → Prop} : (loopK D K).rt = D.rt := rfl
theorem loopK_bk {D : EW} {K : Envr → Store → Prop} : (loopK D K).bk = D.nx := rfl
theorem loopK_ct {D : EW} {K : Envr → Store → Prop} : (loopK D K).ct = K := rfl
theorem loopK_ex {D : EW} {K : Envr → Store → Prop} : (loopK D K).ex = D.ex := rfl
theorem e_wSeq {w u : WS} {env st D} : wSeq w u env st D = w env st (seqK D (fun env' st' => u env' st' D)) := rfl
theorem seq_i (P : Envr → Store → Prop) {w u : WS} {env : Envr} {st : Store} {D : EW} (h1 : ∀ K : Envr → Store → Prop, (∀ e s, P e s → K e s) → w env st (seqK D K)) (h2 : ∀ e s, P e s → u e s D) : wSeq w u env st D := h1 _ h2
inductive Shut {α : Sort _} (a : α) : Type | mk | mk2
def iteW (b : Bool) (P Q : Prop) (_ : Shut P) (_ : Shut Q) : Prop := if b = true then P else Q
theorem iteW_t {P Q : Prop} {x : Shut P} {y : Shut Q} : iteW true P Q x y = P := rfl
theorem iteW_f {P Q : Prop} {x : Shut P} {y : Shut Q} : iteW false P Q x y = Q := rfl
theorem iteW_i {b : Bool} {P Q : Prop} {x : Shut P} {y : Shut Q} (h1 : b = true → P) (h2 : b = false → Q) : iteW b P Q x y := by cases b; exact h2 rfl; exact h1 rfl
def callW (φ : WF) (ds : List D) (st : Store) (Q : QE) (R : XQ) (_ : Shut Q) (_ : Shut R) : Prop := φ ds st Q R
theorem callW_i {φ : WF} {ds : List D} {st : Store} {Q : QE} {R : XQ} {x : Shut Q} {y : Shut R} (h : φ ds st Q R) : callW φ ds st Q R x y := h
def forW (t : WG) (w : WS) (D0 : EW) (ds : List D) (env : Envr) (st : Store) (_ : Shut t) (_ : Shut w) (_ : Shut D0) : Prop := wForL t w D0 ds env st
def whileW (t : WT) (w : WS) (D0 : EW) (env : Envr) (st : Store) (_ : Shut t) (_ : Shut w) (_ : Shut D0) : Prop := wWhile t w env st D0
def lcW (vs : List Nat) (t : WG) (tt : WT) (we : WE) (Q : List D → Store → Prop) (env : Envr) (ds acc : List D) (st : Store) (_ : Shut t) (_ : Shut tt) (_ : Shut we) (_ : Shut Q) : Prop := wLcL vs t tt we env Q ds acc st
theorem e_wCall {φ : WF} {ta : WA} {env st Q R} : wCall φ ta env st Q R = ta env st (fun ds st1 => callW φ ds st1 Q R .mk .mk) R := rfl
theorem e_wIfS {t : WT} {w u : WS} {env st D} : wIfS t w u env st D = t env st (fun b st1 => iteW b (w env st1 D) (u env st1 D) .mk .mk) (xe D env) := rfl
theorem e_wIf {t : WT} {w u : WE} {env st Q R} : wIf t w u env st Q R = t env st (fun b st1 => iteW b (w env st1 Q R) (u env st1 Q R) .mk .mk) R := rfl
theorem e_wAndT {w u : WT} {env st Q R} : wAndT w u env st Q R = (w env st (fun b st1 => iteW b (u env st1 Q R) (Q false st1) .mk .mk) R) := rfl
theorem e_wOrT {w u : WT} {env st Q R} : wOrT w u env st Q R = (w env st (fun b st1 => iteW b (Q true st1) (u env st1 Q R) .mk .mk) R) := rfl
theorem e_wFor {wi : WI} {t : WG} {w : WS} {env st D} : wFor wi t w env st D = (wi env st (fun ds st1 => forW t w D ds env st1 .mk .mk .mk) (xe D env)) := rfl
theorem e_wWhile {t : WT} {w : WS} {env st D} : wWhile t w env st D = whileW t w D env st .mk .mk .mk := rfl
theorem e_wLc {wi : WI} {vs : List Nat} {t : WG} {tt : WT} {we : WE} {env st Q R} : wLc wi vs t tt we env st Q R = wi env st (fun ds st1 => lcW vs t tt we (fun acc st2 => Q (.lst acc) st2) env ds [] st1 .mk .mk .mk .mk) R := rfl
/-- a truth value taken apart -/
def blW (d : D) (P : Bool → Prop) : Prop := match d with | .bl b => P b | _ => False
theorem blW_b {b : Bool} {P : Bool → Prop} : blW (.bl b) P = P b := rfl
theorem e_wBool {w : WE} {env st Q R} : wBool w env st Q R = (w env st (fun d st1 => blW d fun b => Q b st1) R) := by
  rfl
theorem e_wAnd {w u : WE} {env st Q R} : wAnd w u env st Q R = (w env st (fun d st1 => blW d fun b => iteW b (u env st1 Q R) (Q (.bl false) st1) .mk .mk) R) := by
  unfold wAnd; congr
  funext d st1
  cases d <;> first | rfl | (rename_i b; cases b <;> rfl)
theorem e_wOr {w u : WE} {env st Q R} : wOr w u env st Q R = (w env st (fun d st1 => blW d fun b => iteW b (Q (.bl true) st1) (u env st1 Q R) .mk .mk) R) := by
  unfold wOr; congr
  funext d st1
  cases d <;> first | rfl | (rename_i b; cases b <;> rfl)
theorem e_wNot {w : WT} {env st Q R} : wNot w env st Q R = (w env st (fun b st1 => Q (.bl (!b)) st1) R) := rfl
theorem e_wChain {o o' : O2} {wa wb wc : WE} {env st Q R} : wChain o o' wa wb wc env st Q R = wa env st (fun d1 st1 => wb env st1 (fun d2 st2 => o d1 d2 st2 (fun z st3 => blW z fun b => iteW b (wc env st3 (fun d3 st4 => o' d2 d3 st4 Q R) R) (Q (.bl false) st3) .mk .mk) R) R) R := by
  unfold wChain; congr
  funext d1 st1
  congr
  funext d2 st2
  congr
  funext z st3
  cases z <;> first | rfl | (rename_i b; cases b <;> rfl)
def parW (i k : Nat) (env : Envr) (D : EW) (ds : List G.D) (st : Store) : Prop := match ds with
  | [d1, d2] => D.nx ((env.set i (.val d1)).set k (.val d2)) st
  | _ => False
def intW (d : D) (P : Int → Prop) : Prop := match d with | .int i => P i | _ => False
def lstW (d : D) (P : List D → Prop) : Prop := match d with | .lst i => P i | _ => False
def tupW (d : D) (P : List D → Prop) : Prop := match d with | .tup i => P i | _ => False
def r1W (ds : List D) (P : Int → Prop) : Prop := match ds with | [.int k] => P k | _ => False
def r2W (ds : List D) (P : Int → Int → Prop) : Prop := match ds with | [.int i, .int k] => P i k | _ => False
def zipW (ds : List D) (P : List D → Prop) : Prop := match ds with | [.lst xs, .lst ys] => P (zipD xs ys) | [.tup xs, .tup ys] => P (zipD xs ys) | _ => False
def natW (o : Option Nat) (P : Nat → Prop) (_ : Shut P) : Prop := match o with | some n => P n | none => False
def blsW (o : Option (List Bool)) (P : List Bool → Prop) (_ : Shut P) : Prop := match o with | some n => P n | none => False
def intsW (o : Option (List Int)) (P : List Int → Prop) (_ : Shut P) : Prop := match o with | some n => P n | none => False
def bo1W (o : Option Bool) (P : Bool → Prop) (_ : Shut P) : Prop := match o with | some n => P n | none => False
def bo2 (o : Option Bool) : Option Bool := match o with | some _ => some true | none => none
def putW (o : Option Slot) (i : Nat) (wk wa : WE) (env : Envr) (st : Store) (D : EW) (_ : Shut D) : Prop := match o with
  | some (Slot.own ds) => wa env st (fun d st1 => wk env st1 (fun k st2 => match k with
    | .int k => (match ixN ds.length k with | some m => D.nx (env.set i (.own (ds.set m d))) st2 | none => False)
    | _ => False) (xe D env)) (xe D env)
  | some (Slot.val (.cel n)) => wa env st (fun d st1 => wk env st1 (fun k st2 => match k with
    | .int k => (match st2[n]? with
      | some (.lst ds) => (match ixN ds.length k with | some m => D.nx env (st2.set n (.lst (ds.set m d))) | none => False)
      | _ => False)
    | _ => False) (xe D env)) (xe D env)
  | _ => False
def augW (v : Option Slot) (i : Nat) (o : O2) (wa : WE) (env : Envr) (st : Store) (D : EW) (_ : Shut D) : Prop := match v with
  | some (Slot.val d1) => wa env st (fun d2 st1 => o d1 d2 st1 (fun d st2 => D.nx (env.set i (.val d)) st2) (xe D env)) (xe D env)
  | _ => False
def appW (v : Option Slot) (i : Nat) (wa : WE) (env : Envr) (st : Store) (D : EW) (_ : Shut D) : Prop := match v with
  | some (Slot.own ds) => wa env st (fun d st1 => ds.length < sizeLine ∧ D.nx (env.set i (.own (ds ++ [d]))) st1) (xe D env)
  | _ => False
theorem e_var0 {d : D} {e : Envr} {st Q R} : wVar 0 (.val d :: e) st Q R = Q d st := rfl
theorem e_varS {i : Nat} {x : Slot} {e : Envr} {st Q R} : wVar (i + 1) (x :: e) st Q R = wVar i e st Q R := rfl
theorem e_varB0 {d : D} {e : Envr} {st Q R} : wVarB 0 (.val d :: e) st Q R = Q d st := rfl
theorem e_varB1 {ds : List D} {e : Envr} {st Q R} : wVarB 0 (.own ds :: e) st Q R = Q (.lst ds) st := rfl
theorem e_varBS {i : Nat} {x : Slot} {e : Envr} {st Q R} : wVarB (i + 1) (x :: e) st Q R = wVarB i e st Q R := rfl
theorem e_set0 {x y : Slot} {e : Envr} : List.set (x :: e) 0 y = y :: e := rfl
theorem e_setS {i : Nat} {x y : Slot} {e : Envr} : List.set (x :: e) (i + 1) y = x :: List.set e i y := rfl
section
variable {M : MT} {I : IS} {i j : Int} {xs ys : List D} {x y : Str} {st : Store} {Q : QE} {R : XQ} {c : Nat} {fs gs : List (Nat × D)}
theorem e_add : oAdd M (.int i) (.int j) st Q R = Q (.int (i + j)) st := rfl
theorem e_addS : oAdd M (.str x) (.str y) st Q R = (x.length + y.length ≤ sizeLine ∧ Q (.str (x ++ y)) st) := rfl
theorem e_addL : oAdd M (.lst xs) (.lst ys) st Q R = (xs.length + ys.length ≤ sizeLine ∧ Q (.lst (xs ++ ys)) st) := rfl
theorem e_addO : oAdd M (.ob c fs) (.ob c gs) st Q R = callM M c .add [.ob c fs, .ob c gs] st Q R := by unfold oAdd; simp
theorem e_sub : oSub M (.int i) (.int j) st Q R = Q (.int (i - j)) st := rfl
theorem e_subO : oSub M (.ob c fs) (.ob c gs) st Q R = callM M c .sub [.ob c fs, .ob c gs] st Q R := by unfold oSub; simp
theorem e_mul : oMul M (.int i) (.int j) st Q R = (MulOk i j ∧ Q (.int (i * j)) st) := rfl
theorem e_mulL : oMul M (.lst xs) (.int j) st Q R = ((0 ≤ j ∧ j < 1000 ∧ xs.length * j.toNat ≤ sizeLine) ∧ Q (.lst ((List.replicate j.toNat xs).flatten)) st) := rfl
theorem e_mulO : oMul M (.ob c fs) (.ob c gs) st Q R = callM M c .mul [.ob c fs, .ob c gs] st Q R := by unfold oMul; simp
theorem e_fdiv : oFdiv (.int i) (.int j) st Q R = (DivOk j ∧ Q (.int (Int.fdiv i j)) st) := rfl
theorem e_mod : oMod (.int i) (.int j) st Q R = (j ≠ 0 ∧ Q (.int (Int.fmod i j)) st) := rfl
theorem e_pow : oPow (.int i) (.int j) st Q R = (PowOk i j ∧ Q (.int (i ^ j.toNat)) st) := rfl
theorem e_lt : oLt (.int i) (.int j) st Q R = Q (.bl (decide (i < j))) st := rfl
theorem e_le : oLe (.int i) (.int j) st Q R = Q (.bl (decide (i ≤ j))) st := rfl
theorem e_gt : oGt (.int i) (.int j) st Q R = Q (.bl (decide (j < i))) st := rfl
theorem e_ge : oGe (.int i) (.int j) st Q R = Q (.bl (decide (j ≤ i))) st := rfl
theorem e_neg : oNeg M (.int i) st Q R = Q (.int (-i)) st := rfl
theorem e_negO : oNeg M (.ob c fs) st Q R = callM M c .neg [.ob c fs] st Q R := rfl
theorem datOk_ii : DatOk (.int i) (.int j) := ⟨rfl, rfl, by simp [D.dep], by simp [D.dep]⟩
theorem datOk_bb {b b' : Bool} : DatOk (.bl b) (.bl b') := ⟨rfl, rfl, by simp [D.dep], by simp [D.dep]⟩
theorem e_eqI : oEqD (.int i) (.int j) st Q R = Q (.bl (decide (i = j))) st := propext ⟨fun h => by have := h.2; simpa [eqD] using this, fun h => ⟨datOk_ii, by simpa [eqD] using h⟩⟩
theorem e_neI : oNeD (.int i) (.int j) st Q R = Q (.bl (decide (i ≠ j))) st := propext ⟨fun h => by have := h.2; simpa [eqD] using this, fun h => ⟨datOk_ii, by simpa [eqD] using h⟩⟩
theorem e_eqB {b b' : Bool} : oEqD (.bl b) (.bl b') st Q R = Q (.bl (b == b')) st := propext ⟨fun h => by have := h.2; simpa [eqD] using this, fun h => ⟨datOk_bb, by simpa [eqD] using h⟩⟩
theorem e_neB {b b' : Bool} : oNeD (.bl b) (.bl b') st Q R = Q (.bl (!(b == b'))) st := propext ⟨fun h => by have := h.2; simpa [eqD] using this, fun h => ⟨datOk_bb, by simpa [eqD] using h⟩⟩
theorem e_eqS : oEqD (.str x) (.str y) st Q R = (DatOk (.str x) (.str y) ∧ Q (.bl (decide (x = y))) st) := by unfold oEqD; simp [eqD]
theorem e_neS : oNeD (.str x) (.str y) st Q R = (DatOk (.str x) (.str y) ∧ Q (.bl (!decide (x = y))) st) := by unfold oNeD; simp [eqD]
/-- a list's or a store's place -/
def getW (o : Option D) (P : D → Prop) (_ : Shut P) : Prop := match o with | some d => P d | none => False
theorem getW_s {d : D} {P : D → Prop} {z : Shut P} : getW (some d) P z = P d := rfl
theorem getW_i {o : Option D} {d : D} {P : D → Prop} {z : Shut P} (h : o = some d) (p : P d) : getW o P z := by rw [h]; exact p
theorem e_ixL : oIx (.lst xs) (.int i) st Q R = getW (atI xs i) (fun d => Q d st) .mk := by
  unfold oIx getW; rfl
theorem e_ixT : oIx (.tup xs) (.int i) st Q R = getW (atI xs i) (fun d => Q d st) .mk := by
  unfold oIx getW; rfl
def celW (o : Option Cell) (P : List D → Prop) (_ : Shut P) : Prop := match o with | some (.lst xs) => P xs | _ => False
theorem celW_s {xs : List D} {P : List D → Prop} {z : Shut P} : celW (some (.lst xs)) P z = P xs := rfl
theorem e_ixC {n : Nat} : oIx (.cel n) (.int i) st Q R = celW st[n]? (fun xs => getW (atI xs i) (fun d => Q d st) .mk) .mk := by
  unfold oIx celW getW; rfl
theorem atI_0 {d : D} {r : List D} : atI (d :: r) 0 = some d := by
  have : ixN (r.length + 1) 0 = some 0 := by unfold ixN; rw [if_pos (by omega), if_pos (by omega)]; rfl
  show (ixN (r.length + 1) 0).bind _ = _
  rw [this]; rfl
theorem atI_1 {d d1 : D} {r : List D} : atI (d :: d1 :: r) 1 = some d1 := by
  have : ixN (r.length + 1 + 1) 1 = some 1 := by unfold ixN; rw [if_pos (by omega), if_pos (by omega)]; rfl
  show (ixN (r.length + 1 + 1) 1).bind _ = _
  rw [this]; rfl
theorem atI_2 {d d1 d2 : D} {r : List D} : atI (d :: d1 :: d2 :: r) 2 = some d2 := by
  have : ixN (r.length + 1 + 1 + 1) 2 = some 2 := by unfold ixN; rw [if_pos (by omega), if_pos (by omega)]; rfl
  show (ixN (r.length + 1 + 1 + 1) 2).bind _ = _
  rw [this]; rfl
theorem atI_3 {d d1 d2 d3 : D} {r : List D} : atI (d :: d1 :: d2 :: d3 :: r) 3 = some d3 := by
  have : ixN (r.length + 1 + 1 + 1 + 1) 3 = some 3 := by unfold ixN; rw [if_pos (by omega), if_pos (by omega)]; rfl
  show (ixN (r.length + 1 + 1 + 1 + 1) 3).bind _ = _
  rw [this]; rfl
theorem atI_nat {xs : List D} {k : Nat} : atI xs (k : Int) = xs[k]? := by
  unfold atI ixN
  rw [if_pos (by omega)]
  by_cases h : k < xs.length
  · rw [if_pos (by omega)]; rfl
  · rw [if_neg (by omega)]
    exact (List.getElem?_eq_none (by omega)).symm
theorem ixN_10 : ixN 1 0 = some 0 := rfl
theorem ixN_20 : ixN 2 0 = some 0 := rfl
theorem ixN_21 : ixN 2 1 = some 1 := rfl
theorem ixN_30 : ixN 3 0 = some 0 := rfl
theorem ixN_31 : ixN 3 1 = some 1 := rfl
theorem ixN_32 : ixN 3 2 = some 2 := rfl
theorem ixN_40 : ixN 4 0 = some 0 := rfl
theorem ixN_41 : ixN 4 1 = some 1 := rfl
theorem ixN_42 : ixN 4 2 = some 2 := rfl
theorem ixN_43 : ixN 4 3 = some 3 := rfl
theorem ixN_l0 {n : Nat} (h : 0 < n) : ixN n 0 = some 0 := by unfold ixN; rw [if_pos (by omega), if_pos (by omega)]; rfl
theorem e_lenL : oLen [.lst xs] st Q R = Q (.int xs.length) st := rfl
theorem e_lenT : oLen [.tup xs] st Q R = Q (.int xs.length) st := rfl
theorem e_lenS : oLen [.str y] st Q R = (y.length ≤ sizeLine ∧ Q (.int y.length) st) := rfl
theorem e_abs : oAbs [.int i] st Q R = Q (.int i.natAbs) st := by
  have : (if i < 0 then -i else i) = (i.natAbs : Int) := by omega
  unfold oAbs; simp only [this]
theorem e_intI : oInt [.int i] st Q R = Q (.int i) st := rfl
theorem e_intB {b : Bool} : oInt [.bl b] st Q R = Q (.int (if b then 1 else 0)) st := rfl
theorem e_listL : oList [.lst xs] st Q R = Q (.lst xs) st := rfl
theorem e_listT : oList [.tup xs] st Q R = Q (.lst xs) st := rfl
theorem e_tupleL : oTuple [.lst xs] st Q R = Q (.tup xs) st := rfl
theorem e_tupleT : oTuple [.tup xs] st Q R = Q (.tup xs) st := rfl
theorem e_slL {a b : Option Int} : oSl (.lst xs) a b st Q R = Q (.lst (cutD xs a b)) st := rfl
theorem intW_i {P : Int → Prop} : intW (.int i) P = P i := rfl
theorem e_woSome {w : WE} {env : Envr} {Qo : Option Int → Store → Prop} : woSome w env st Qo R = w env st (fun d st1 => intW d fun i => Qo (some i) st1) R := by
  rfl
theorem e_slR {a b : Option Int} : oSl (.scr xs) a b st Q R = Q (.lst (cutD xs a b)) st := rfl
theorem e_par {i k : Nat} {ta : WA} {env : Envr} {D : EW} : wPar i k ta env st D = ta env st (fun ds st1 => parW i k env D ds st1) (xe D env) := by
  unfold wPar; rfl
theorem e_parW {i k : Nat} {env : Envr} {D : EW} {d1 d2 : G.D} : parW i k env D [d1, d2] st = D.nx ((env.set i (.val d1)).set k (.val d2)) st := rfl
theorem e_gTup {n : Nat} {t : WGs} {ds : List D} {env : Envr} {Qe : Envr → Store → Prop} : wgTup n t (.tup ds) env st Qe = (ds.length = n ∧ t ds env st Qe) := rfl
theorem e_gTupL {n : Nat} {t : WGs} {ds : List D} {env : Envr} {Qe : Envr → Store → Prop} : wgTup n t (.lst ds) env st Qe = (ds.length = n ∧ t ds env st Qe) := rfl
theorem e_gsNil {env : Envr} {Qe : Envr → Store → Prop} : wgsNil [] env st Qe = Qe env st := rfl
theorem e_gsCons {t : WG} {u : WGs} {d : D} {r : List D} {env : Envr} {Qe : Envr → Store → Prop} : wgsCons t u (d :: r) env st Qe = t d env st (fun env' st' => u r env' st' Qe) := rfl
theorem e_iLst {wa : WE} {env : Envr} {Qi : List D → Store → Prop} : wiLst wa env st Qi R = wa env st (fun d st1 => lstW d fun ds => Qi ds st1) R := by
  rfl
theorem lstW_i {P : List D → Prop} : lstW (.lst xs) P = P xs := rfl
theorem e_iTup {wa : WE} {env : Envr} {Qi : List D → Store → Prop} : wiTup wa env st Qi R = wa env st (fun d st1 => tupW d fun ds => Qi ds st1) R := by
  rfl
theorem tupW_i {P : List D → Prop} : tupW (.tup xs) P = P xs := rfl
theorem e_iR1 {ta : WA} {env : Envr} {Qi : List D → Store → Prop} : wiR1 ta env st Qi R = ta env st (fun ds st1 => r1W ds fun k => (-(2 ^ 62) ≤ k ∧ k < 2 ^ 62) ∧ Qi (rngD 0 k.toNat) st1) R := by
  unfold wiR1; rfl
theorem r1W_i {P : Int → Prop} : r1W [.int i] P = P i := rfl
theorem e_iR2 {ta : WA} {env : Envr} {Qi : List D → Store → Prop} : wiR2 ta env st Qi R = ta env st (fun ds st1 => r2W ds fun i k => (-(2 ^ 62) ≤ i ∧ i < 2 ^ 62 ∧ -(2 ^ 62) ≤ k ∧ k < 2 ^ 62) ∧ Qi (rngD i (k - i).toNat) st1) R := by
  unfold wiR2; rfl
theorem r2W_i {P : Int → Int → Prop} : r2W [.int i, .int j] P = P i j := rfl
theorem e_iZip {ta : WA} {env : Envr} {Qi : List D → Store → Prop} : wiZip ta env st Qi R = ta env st (fun ds st1 => zipW ds fun zs => Qi zs st1) R := by
  rfl
theorem zipW_l {P : List D → Prop} : zipW [.lst xs, .lst ys] P = P (zipD xs ys) := rfl
theorem zipW_t {P : List D → Prop} : zipW [.tup xs, .tup ys] P = P (zipD xs ys) := rfl
theorem e_put {i : Nat} {wk wa : WE} {env : Envr} {D : EW} : wPut i wk wa env st D = putW env[i]? i wk wa env st D .mk := by
  unfold wPut putW; rfl
theorem e_putO {i : Nat} {wk wa : WE} {env : Envr} {D : EW} {ds : List G.D} {z : Shut D} : putW (some (.own ds)) i wk wa env st D z = wa env st (fun d st1 => wk env st1 (fun k st2 => intW k fun k => natW (ixN ds.length k) (fun m => D.nx (env.set i (.own (ds.set m d))) st2) .mk) (xe D env)) (xe D env) := rfl
theorem e_putC {i n : Nat} {wk wa : WE} {env : Envr} {D : EW} {z : Shut D} : putW (some (.val (.cel n))) i wk wa env st D z = wa env st (fun d st1 => wk env st1 (fun k st2 => intW k fun k => celW st2[n]? (fun ds => natW (ixN ds.length k) (fun m => D.nx env (st2.set n (.lst (ds.set m d)))) .mk) .mk) (xe D env)) (xe D env) := rfl
theorem natW_s {n : Nat} {P : Nat → Prop} {z : Shut P} : natW (some n) P z = P n := rfl
theorem e_aug {i : Nat} {o : O2} {wa : WE} {env : Envr} {D : EW} : wAug i o wa env st D = augW env[i]? i o wa env st D .mk := by
  unfold wAug augW; rfl
theorem e_augV {i : Nat} {o : O2} {wa : WE} {env : Envr} {D : EW} {d1 : G.D} {z : Shut D} : augW (some (.val d1)) i o wa env st D z = wa env st (fun d2 st1 => o d1 d2 st1 (fun d st2 => D.nx (env.set i (.val d)) st2) (xe D env)) (xe D env) := rfl
theorem e_app {i : Nat} {wa : WE} {env : Envr} {D : EW} : wApp i wa env st D = appW env[i]? i wa env st D .mk := by
  unfold wApp appW; rfl
theorem e_appV {i : Nat} {wa : WE} {env : Envr} {D : EW} {ds : List G.D} {z : Shut D} : appW (some (.own ds)) i wa env st D z = wa env st (fun d st1 => ds.length < sizeLine ∧ D.nx (env.set i (.own (ds ++ [d]))) st1) (xe D env) := rfl
theorem e_addI : oAddI (.int i) (.int j) st Q R = Q (.int (i + j)) st := rfl
theorem e_addIS : oAddI (.str x) (.str y) st Q R = (x.length + y.length ≤ sizeLine ∧ Q (.str (x ++ y)) st) := rfl
theorem e_subI : oSubI (.int i) (.int j) st Q R = Q (.int (i - j)) st := rfl
theorem e_mulI : oMulI (.int i) (.int j) st Q R = (((-(2 ^ 64) < i ∧ i < 2 ^ 64) ∨ (-(2 ^ 64) < j ∧ j < 2 ^ 64)) ∧ Q (.int (i * j)) st) := rfl
theorem e_fdivI : oFdivI (.int i) (.int j) st Q R = ((0 < j ∧ j < 1073741824) ∧ Q (.int (i / j)) st) := rfl
theorem e_frzN {env : Envr} : frz [] env = env := rfl
theorem e_frzO {ds : List D} {e : Envr} : frz1 (.own ds :: e) 0 = .val (.lst ds) :: e := rfl
theorem e_frzV {d : D} {e : Envr} : frz1 (.val d :: e) 0 = .val d :: e := rfl
theorem e_frzX {e : Envr} : frz1 (.no :: e) 0 = .no :: e := rfl
theorem e_frzS {i : Nat} {x : Slot} {e : Envr} : frz1 (x :: e) (i + 1) = x :: frz1 e i := by
  unfold frz1
  rw [List.getElem?_cons_succ]
  cases h : e[i]? with
  | none => rfl
  | some v => cases v <;> rfl
theorem e_frzC {i : Nat} {is : List Nat} {env : Envr} : frz (i :: is) env = frz is (frz1 env i) := rfl
theorem e_all : oAll [.lst xs] st Q R = blsW (D.bls xs) (fun bs => Q (.bl (bs.all id)) st) .mk := rfl
theorem e_any : oAny [.lst xs] st Q R = blsW (D.bls xs) (fun bs => Q (.bl (bs.any id)) st) .mk := rfl
theorem e_sum : oSum [.lst xs] st Q R = intsW (D.ints xs) (fun bs => Q (.int bs.sum) st) .mk := rfl
theorem blsW_s {bs : List Bool} {P : List Bool → Prop} {z : Shut P} : blsW (some bs) P z = P bs := rfl
theorem intsW_s {bs : List Int} {P : List Int → Prop} {z : Shut P} : intsW (some bs) P z = P bs := rfl
theorem e_truN {Qb : Bool → Store → Prop} : oTru M .non st Qb R = Qb false st := rfl
theorem e_truB {b : Bool} {Qb : Bool → Store → Prop} : oTru M (.bl b) st Qb R = Qb b st := rfl
theorem e_truI {Qb : Bool → Store → Prop} : oTru M (.int i) st Qb R = Qb (i != 0) st := rfl
theorem e_truL {Qb : Bool → Store → Prop} : oTru M (.lst xs) st Qb R = Qb (!xs.isEmpty) st := rfl
theorem e_truT {Qb : Bool → Store → Prop} : oTru M (.tup xs) st Qb R = Qb (!xs.isEmpty) st := rfl
theorem e_isiT {d : D} {cs : List D} : oIsi I [d, .tup cs] st Q R = bo1W (isiDs I d cs) (fun r => cs ≠ [] ∧ Q (.bl r) st) .mk := rfl
theorem e_isiC {d : D} {c : Nat} : oIsi I [d, .cls c] st Q R = bo1W (isiD I d (.cls c)) (fun r => Q (.bl r) st) .mk := rfl
theorem e_isiY {d : D} {s : String} : oIsi I [d, .ty s] st Q R = bo1W (isiD I d (.ty s)) (fun r => Q (.bl r) st) .mk := rfl
theorem bo1W_s {b : Bool} {P : Bool → Prop} {z : Shut P} : bo1W (some b) P z = P b := rfl
theorem isi_ii : isiD I (.int i) (.ty "int") = some true := rfl
theorem isi_is : isiD I (.int i) (.ty "str") = some false := rfl
theorem isi_ib : isiD I (.int i) (.ty "bool") = some false := rfl
theorem isi_it : isiD I (.int i) (.ty "tuple") = some false := rfl
theorem isi_il : isiD I (.int i) (.ty "list") = some false := rfl
theorem isi_bi {b : Bool} : isiD I (.bl b) (.ty "int") = some true := rfl
theorem isi_bs {b : Bool} : isiD I (.bl b) (.ty "str") = some false := rfl
theorem isi_bb {b : Bool} : isiD I (.bl b) (.ty "bool") = some true := rfl
theorem isi_bt {b : Bool} : isiD I (.bl b) (.ty "tuple") = some false := rfl
theorem isi_bll {b : Bool} : isiD I (.bl b) (.ty "list") = some false := rfl
theorem isi_ni : isiD I .non (.ty "int") = some false := rfl
theorem isi_ns : isiD I .non (.ty "str") = some false := rfl
theorem isi_nb : isiD I .non (.ty "bool") = some false := rfl
theorem isi_nt : isiD I .non (.ty "tuple") = some false := rfl
theorem isi_nl : isiD I .non (.ty "list") = some false := rfl
theorem isi_si : isiD I (.str x) (.ty "int") = some false := rfl
theorem isi_ss : isiD I (.str x) (.ty "str") = some true := rfl
theorem isi_sb : isiD I (.str x) (.ty "bool") = some false := rfl
theorem isi_st : isiD I (.str x) (.ty "tuple") = some false := rfl
theorem isi_sl : isiD I (.str x) (.ty "list") = some false := rfl
theorem isi_ti : isiD I (.tup xs) (.ty "int") = some false := rfl
theorem isi_ts : isiD I (.tup xs) (.ty "str") = some false := rfl
theorem isi_tb : isiD I (.tup xs) (.ty "bool") = some false := rfl
theorem isi_tt : isiD I (.tup xs) (.ty "tuple") = some true := rfl
theorem isi_tl : isiD I (.tup xs) (.ty "list") = some false := rfl
theorem isi_li : isiD I (.lst xs) (.ty "int") = some false := rfl
theorem isi_ls : isiD I (.lst xs) (.ty "str") = some false := rfl
theorem isi_lb : isiD I (.lst xs) (.ty "bool") = some false := rfl
theorem isi_lt : isiD I (.lst xs) (.ty "tuple") = some false := rfl
theorem isi_ll : isiD I (.lst xs) (.ty "list") = some true := rfl
theorem isi_ds0 {d : D} : isiDs I d [] = some false := rfl
theorem isi_dsT {d c : D} {cs : List D} (h : isiD I d c = some true) : isiDs I d (c :: cs) = bo2 (isiDs I d cs) := by
  unfold bo2; rw [isiDs, h] <;> rfl
theorem isi_isI : isiDs I (.int i) [.ty "int", .ty "str"] = some true := rfl
theorem isi_isS : isiDs I (.str x) [.ty "int", .ty "str"] = some true := rfl
theorem isi_isB {b : Bool} : isiDs I (.bl b) [.ty "int", .ty "str"] = some true := rfl
theorem isi_isN : isiDs I (.non) [.ty "int", .ty "str"] = some false := rfl
theorem isi_isT : isiDs I (.tup xs) [.ty "int", .ty "str"] = some false := rfl
theorem isi_isL : isiDs I (.lst xs) [.ty "int", .ty "str"] = some false := rfl
theorem ixZ_0 : (0 ≤ sizeLine) = True := eq_true (by decide)
theorem ixZ_1 : (1 ≤ sizeLine) = True := eq_true (by decide)
theorem ixZ_2 : (2 ≤ sizeLine) = True := eq_true (by decide)
theorem ixZ_3 : (3 ≤ sizeLine) = True := eq_true (by decide)
theorem ixZ_4 : (4 ≤ sizeLine) = True := eq_true (by decide)
theorem ixZ_5 : (5 ≤ sizeLine) = True := eq_true (by decide)
theorem ixZ_6 : (6 ≤ sizeLine) = True := eq_true (by decide)
theorem ixZ_7 : (7 ≤ sizeLine) = True := eq_true (by decide)
theorem ixZ_8 : (8 ≤ sizeLine) = True := eq_true (by decide)
theorem ixZ_9 : (9 ≤ sizeLine) = True := eq_true (by decide)
theorem ixZ_10 : (10 ≤ sizeLine) = True := eq_true (by decide)
theorem ixZ_11 : (11 ≤ sizeLine) = True := eq_true (by decide)
theorem ixZ_12 : (12 ≤ sizeLine) = True := eq_true (by decide)
theorem ixZ_13 : (13 ≤ sizeLine) = True := eq_true (by decide)
theorem ixZ_14 : (14 ≤ sizeLine) = True := eq_true (by decide)
theorem ixZ_15 : (15 ≤ sizeLine) = True := eq_true (by decide)
theorem ixZ_16 : (16 ≤ sizeLine) = True := eq_true (by decide)
theorem bo2_s {b : Bool} : bo2 (some b) = some true := rfl
theorem isi_dsF {d c : D} {cs : List D} (h : isiD I d c = some false) : isiDs I d (c :: cs) = isiDs I d cs := by
  rw [isiDs, h]
theorem e_nonN : D.isNon .non = true := rfl
theorem e_nonI : D.isNon (.int i) = false := rfl
theorem e_nonB {b : Bool} : D.isNon (.bl b) = false := rfl
theorem e_nonS : D.isNon (.str x) = false := rfl
theorem e_nonT : D.isNon (.tup xs) = false := rfl
theorem e_nonL : D.isNon (.lst xs) = false := rfl
theorem e_nonO : D.isNon (.ob c fs) = false := rfl
end
/-- a def's ends -/
def fnW (Q : QE) (R : XQ) : EW := { nx := fun _ st' => Q .non st', rt := Q, bk := fun _ _ => False, ct := fun _ _ => False, ex := fun x _ st' => R x st' }
theorem fnW_rt {Q : QE} {R : XQ} : (fnW Q R).rt = Q := rfl
theorem fnW_nx {Q : QE} {R : XQ} {env : Envr} {st : Store} : (fnW Q R).nx env st = Q .non st := rfl
theorem fnW_ex {Q : QE} {R : XQ} {x : Exc} {env : Envr} {st : Store} : (fnW Q R).ex x env st = R x st := rfl
theorem forW_i {t : WG} {w : WS} {D0 : EW} {z1 z2 z3} (I : Nat → Envr → Store → Prop) : ∀ {ds : List D} {env : Envr} {st : Store}, I 0 env st →
    (∀ i d env st, ds[i]? = some d → I i env st → ∀ K : Envr → Store → Prop, (∀ e s, I (i + 1) e s → K e s) → t d env st (fun env1 st1 => w env1 st1 (loopK D0 K))) →
    (∀ env st, I ds.length env st → D0.nx env st) → forW t w D0 ds env st z1 z2 z3 := by
  intro ds
  induction ds generalizing I with
  | nil => intro env st h0 _ he; exact he _ _ h0
  | cons d ds ih =>
    intro env st h0 hs he
    show wForL t w D0 (d :: ds) env st
    unfold wForL
    exact hs 0 d env st rfl h0 _ fun e s h => ih (fun i => I (i + 1)) h (fun i d' env st hd hi K hK => hs (i + 1) d' env st (by simpa using hd) hi K hK) fun env st hx => he env st hx
theorem lcW_i {vs : List Nat} {t : WG} {tt : WT} {we : WE} {Q : List D → Store → Prop} {env : Envr} {z1 z2 z3 z4} (I : Nat → List D → Store → Prop) : ∀ {ds acc : List D} {st : Store}, I 0 acc st →
    (∀ i d acc st, ds[i]? = some d → I i acc st → ∀ K : List D → Store → Prop, (∀ a s, I (i + 1) a s → K a s) → t d (wipeE env vs) st (fun env1 st1 => tt env1 st1 (fun b st2 => iteW b (we env1 st2 (fun y st3 => acc.length < sizeLine ∧ K (acc ++ [y]) st3) noX) (K acc st2) .mk .mk) noX)) →
    (∀ acc st, I ds.length acc st → Q acc st) → lcW vs t tt we Q env ds acc st z1 z2 z3 z4 := by
  intro ds
  induction ds generalizing I with
  | nil => intro acc st h0 _ he; exact he _ _ h0
  | cons d ds ih =>
    intro acc st h0 hs he
    show wLcL vs t tt we env Q (d :: ds) acc st
    unfold wLcL
    exact hs 0 d acc st rfl h0 _ fun e s h => ih (fun i => I (i + 1)) h (fun i d' env st hd hi K hK => hs (i + 1) d' env st (by simpa using hd) hi K hK) fun env st hx => he env st hx
theorem e_wipe0 {env : Envr} : wipeE env [] = env := rfl
theorem e_wipe1 {env : Envr} {v : Nat} {vs : List Nat} : wipeE env (v :: vs) = (wipeE env vs).set v Slot.no := rfl
theorem e_wYes {env : Envr} {st : Store} {Qb : Bool → Store → Prop} {R : XQ} : wYes env st Qb R = Qb true st := rfl
end G
namespace G
open PySem PySem.Spec PyProof.Rows L2
def mW (o : Option WF) (ds : List D) (st : Store) (Q : QE) (R : XQ) (_ : Shut Q) (_ : Shut R) : Prop := match o with
  | some φ => callW φ ds st Q R .mk .mk
  | none => False
theorem mW_s {φ : WF} {ds : List D} {st : Store} {Q : QE} {R : XQ} {x : Shut Q} {y : Shut R} : mW (some φ) ds st Q R x y = callW φ ds st Q R .mk .mk := rfl
theorem e_callM {M : MT} {c : Nat} {m : Mn} {ds : List D} {st : Store} {Q : QE} {R : XQ} : callM M c m ds st Q R = mW (M c m) ds st Q R .mk .mk := by
  unfold callM mW
  cases M c m <;> rfl
def attW (o : Option WF) (b : Bool) (v : Option D) (d : D) (st : Store) (Q : QE) (_ : Shut Q) : Prop := match o with
  | some φ => callW φ [d] st Q noX .mk .mk
  | none => b = true ∧ (match v with | some x => Q x st | none => False)
theorem attW_p {φ : WF} {b : Bool} {v : Option D} {d : D} {st : Store} {Q : QE} {z : Shut Q} : attW (some φ) b v d st Q z = callW φ [d] st Q noX .mk .mk := rfl
theorem attW_f {x d : D} {st : Store} {Q : QE} {z : Shut Q} : attW none true (some x) d st Q z = Q x st := by unfold attW; simp
theorem e_attO {F : Nat → Nat → Bool} {T : Nat → Nat → Option WF} {i c : Nat} {fs : List (Nat × D)} {st : Store} {Q : QE} {R : XQ} : oAtt F T i (.ob c fs) st Q R = attW (T c i) (F c i) (getD' i fs) (.ob c fs) st Q .mk := by
  unfold oAtt attOb attW
  dsimp only
  cases T c i <;> rfl
def insW (o : Option Cell) (P : Nat → List (Nat × D) → Prop) (_ : Shut P) : Prop := match o with
  | some (.ins c fs) => P c fs
  | _ => False
theorem insW_s {c : Nat} {fs : List (Nat × D)} {P : Nat → List (Nat × D) → Prop} {z : Shut P} : insW (some (.ins c fs)) P z = P c fs := rfl
theorem e_attC {F : Nat → Nat → Bool} {T : Nat → Nat → Option WF} {i n : Nat} {st : Store} {Q : QE} {R : XQ} : oAtt F T i (.cel n) st Q R = insW st[n]? (fun c fs => attW (T c i) (F c i) (getD' i fs) (.cel n) st Q .mk) .mk := by
  have at_ : ∀ c fs, attOb F T i (.cel n) c fs st Q = attW (T c i) (F c i) (getD' i fs) (.cel n) st Q .mk := fun c fs => by
    unfold attOb attW
    cases T c i <;> rfl
  unfold oAtt insW
  dsimp only
  cases st[n]? with
  | none => rfl
  | some cl =>
    cases cl with
    | lst xs => rfl
    | ins c fs => exact at_ c fs
    | dct kvs => rfl
theorem e_getC {i k : Nat} {x : D} {r : List (Nat × D)} : getD' i ((k, x) :: r) = if k = i then some x else getD' i r := rfl
theorem e_getN {i : Nat} : getD' i [] = none := rfl
theorem e_putC' {i k : Nat} {x d : D} {r : List (Nat × D)} : putD i d ((k, x) :: r) = if k = i then (k, d) :: r else (k, x) :: putD i d r := rfl
theorem e_putN {i : Nat} {d : D} : putD i d [] = [(i, d)] := rfl
def mthW (o : Option (Nat × List (Nat × D))) (M : MT) (i : Nat) (d : D) (ta : WA) (env : Envr) (st : Store) (Q : QE) (R : XQ) (_ : Shut Q) (_ : Shut R) : Prop := match o with
  | some (c, fs) => getD' i fs = none ∧ (match M c (.nm i) with
    | some φ => ta env st (fun ds st2 => φ (d :: ds) st2 Q R) R
    | none => False)
  | none => False
theorem e_wMeth {M : MT} {i : Nat} {wa : WE} {ta : WA} {env : Envr} {st : Store} {Q : QE} {R : XQ} : wMeth M i wa ta env st Q R = wa env st (fun d st1 => mthW (clsOf d st1) M i d ta env st1 Q R .mk .mk) R := by
  unfold wMeth mthW; rfl
theorem e_clsO {c : Nat} {fs : List (Nat × D)} {st : Store} : clsOf (.ob c fs) st = some (c, fs) := rfl
theorem e_clsC {n : Nat} {st : Store} : clsOf (.cel n) st = (match st[n]? with | some (.ins c fs) => some (c, fs) | _ => none) := rfl
def mthZW (o : Option WF) (d : D) (ta : WA) (env : Envr) (st : Store) (Q : QE) (R : XQ) (_ : Shut Q) (_ : Shut R) : Prop := match o with
  | some φ => ta env st (fun ds st2 => callW φ (d :: ds) st2 Q R .mk .mk) R
  | none => False
theorem mthW_s {c : Nat} {fs : List (Nat × D)} {M : MT} {i : Nat} {d : D} {ta : WA} {env : Envr} {st : Store} {Q : QE} {R : XQ} {x : Shut Q} {y : Shut R} : mthW (some (c, fs)) M i d ta env st Q R x y = (getD' i fs = none ∧ mthZW (M c (.nm i)) d ta env st Q R .mk .mk) := by
  unfold mthW mthZW
  dsimp only
  cases M c (.nm i) <;> rfl
theorem mthZW_s {φ : WF} {d : D} {ta : WA} {env : Envr} {st : Store} {Q : QE} {R : XQ} {x : Shut Q} {y : Shut R} : mthZW (some φ) d ta env st Q R x y = ta env st (fun ds st2 => callW φ (d :: ds) st2 Q R .mk .mk) R := rfl
def ownW (o : Option WF) (neg : Bool) (c : Nat) (fs gs : List (Nat × D)) (st : Store) (Q : QE) (R : XQ) (_ : Shut Q) (_ : Shut R) : Prop := match o with
  | some φ => callW φ [.ob c fs, .ob c gs] st (fun r st1 => blW r fun b => Q (.bl (b != neg)) st1) R .mk .mk
  | none => False
theorem ownW_s {φ : WF} {neg : Bool} {c : Nat} {fs gs : List (Nat × D)} {st : Store} {Q : QE} {R : XQ} {x : Shut Q} {y : Shut R} : ownW (some φ) neg c fs gs st Q R x y = callW φ [.ob c fs, .ob c gs] st (fun r st1 => blW r fun b => Q (.bl (b != neg)) st1) R .mk .mk := rfl
theorem own_eq {T : Nat → Option WF} {neg : Bool} {c : Nat} {fs gs : List (Nat × D)} {st : Store} {Q : QE} {R : XQ} : ownEq T neg c fs gs st Q R = ownW (T c) neg c fs gs st Q R .mk .mk := by
  unfold ownEq ownW
  cases T c with
  | none => rfl
  | some φ => rfl
theorem e_eqOO {T : Nat → Option WF} {c : Nat} {fs gs : List (Nat × D)} {st : Store} {Q : QE} {R : XQ} : oEqO T (.ob c fs) (.ob c gs) st Q R = ownW (T c) false c fs gs st Q R .mk .mk := by
  rw [← own_eq]; unfold oEqO; simp
theorem e_neOO {T : Nat → Option WF} {c : Nat} {fs gs : List (Nat × D)} {st : Store} {Q : QE} {R : XQ} : oNeO T (.ob c fs) (.ob c gs) st Q R = ownW (T c) true c fs gs st Q R .mk .mk := by
  rw [← own_eq]; unfold oNeO; simp
theorem e_eqOI {T : Nat → Option WF} {i j : Int} {st : Store} {Q : QE} {R : XQ} : oEqO T (.int i) (.int j) st Q R = Q (.bl (decide (i = j))) st := e_eqI (R := R)
theorem e_neOI {T : Nat → Option WF} {i j : Int} {st : Store} {Q : QE} {R : XQ} : oNeO T (.int i) (.int j) st Q R = Q (.bl (decide (i ≠ j))) st := e_neI (R := R)
theorem e_eqOT {T : Nat → Option WF} {xs ys : List D} {st : Store} {Q : QE} {R : XQ} : oEqO T (.tup xs) (.tup ys) st Q R = oEqD (.tup xs) (.tup ys) st Q R := rfl
theorem e_neOT {T : Nat → Option WF} {xs ys : List D} {st : Store} {Q : QE} {R : XQ} : oNeO T (.tup xs) (.tup ys) st Q R = oNeD (.tup xs) (.tup ys) st Q R := rfl
theorem e_eqOL {T : Nat → Option WF} {xs ys : List D} {st : Store} {Q : QE} {R : XQ} : oEqO T (.lst xs) (.lst ys) st Q R = oEqD (.lst xs) (.lst ys) st Q R := rfl
theorem e_neOL {T : Nat → Option WF} {xs ys : List D} {st : Store} {Q : QE} {R : XQ} : oNeO T (.lst xs) (.lst ys) st Q R = oNeD (.lst xs) (.lst ys) st Q R := rfl
theorem e_eqTT {xs ys : List D} {st : Store} {Q : QE} {R : XQ} : oEqD (.tup xs) (.tup ys) st Q R = (DatOk (.tup xs) (.tup ys) ∧ Q (.bl (eqDs xs ys)) st) := by unfold oEqD; simp [eqD]
theorem e_neTT {xs ys : List D} {st : Store} {Q : QE} {R : XQ} : oNeD (.tup xs) (.tup ys) st Q R = (DatOk (.tup xs) (.tup ys) ∧ Q (.bl (!eqDs xs ys)) st) := by unfold oNeD; simp [eqD]
theorem e_eqLL {xs ys : List D} {st : Store} {Q : QE} {R : XQ} : oEqD (.lst xs) (.lst ys) st Q R = (DatOk (.lst xs) (.lst ys) ∧ Q (.bl (eqDs xs ys)) st) := by unfold oEqD; simp [eqD]
theorem e_neLL {xs ys : List D} {st : Store} {Q : QE} {R : XQ} : oNeD (.lst xs) (.lst ys) st Q R = (DatOk (.lst xs) (.lst ys) ∧ Q (.bl (!eqDs xs ys)) st) := by unfold oNeD; simp [eqD]
def mkW (v : Bool) (c : Nat) (φ : WF) (ds : List D) (st : Store) (Q : QE) (R : XQ) (_ : Shut Q) (_ : Shut R) : Prop := (if v = true then mkV c φ else mkC c φ) ds st Q R
theorem e_wMk {v : Bool} {c : Nat} {φ : WF} {ta : WA} {env : Envr} {st : Store} {Q : QE} {R : XQ} : wMk v c φ ta env st Q R = ta env st (fun ds st1 => mkW v c φ ds st1 Q R .mk .mk) R := rfl
def sqW (d : D) (P : List D → Prop) : Prop := match d with | .tup xs => P xs | .lst xs => P xs | _ => False
theorem sqW_t {xs : List D} {P : List D → Prop} : sqW (.tup xs) P = P xs := rfl
theorem sqW_l {xs : List D} {P : List D → Prop} : sqW (.lst xs) P = P xs := rfl
theorem e_wMkS {v : Bool} {c : Nat} {φ : WF} {wa : WE} {env : Envr} {st : Store} {Q : QE} {R : XQ} : wMkS v c φ wa env st Q R = wa env st (fun d st1 => sqW d fun ds => mkW v c φ ds st1 Q R .mk .mk) R := by
  rfl
theorem mkW_v {c : Nat} {φ : WF} {ds : List D} {st : Store} {Q : QE} {R : XQ} {x : Shut Q} {y : Shut R} (h : φ (.cel st.length :: ds) (st ++ [.ins c []]) (fun r st2 => r = .non ∧ ∃ fs, st2 = st ++ [.ins c fs] ∧ D.nocF st.length fs ∧ Q (.ob c fs) st) (fun x st2 => ∃ fs, st2 = st ++ [.ins c fs] ∧ D.nocF st.length x.fs ∧ R x st)) : mkW true c φ ds st Q R x y := h
def fldW (F : Nat → Nat → Bool) (i : Nat) (y x : D) (env : Envr) (st : Store) (D0 : EW) (_ : Shut D0) : Prop := match x with
  | .cel n => insW st[n]? (fun c fs => F c i = true ∧ fs.length < 1000 ∧ D0.nx env (st.set n (.ins c (putD i y fs)))) .mk
  | _ => False
theorem fldW_c {F : Nat → Nat → Bool} {i n : Nat} {y : D} {env : Envr} {st : Store} {D0 : EW} {z : Shut D0} : fldW F i y (.cel n) env st D0 z = insW st[n]? (fun c fs => F c i = true ∧ fs.length < 1000 ∧ D0.nx env (st.set n (.ins c (putD i y fs)))) .mk := rfl
theorem e_wFld {F : Nat → Nat → Bool} {i : Nat} {wo wv : WE} {env : Envr} {st : Store} {D0 : EW} : wFld F i wo wv env st D0 = wv env st (fun y st1 => wo env st1 (fun x st2 => fldW F i y x env st2 D0 .mk) (xe D0 env)) (xe D0 env) := by
  rfl
theorem st_last {st : Store} {c : Cell} : (st ++ [c])[st.length]? = some c := by simp
theorem st_setL {st : Store} {c c' : Cell} : (st ++ [c]).set st.length c' = st ++ [c'] := by
  rw [List.set_append_right _ _ (Nat.le_refl _)]; simp
def isW (vs : List Nat) (t : WG) (we : WE) (Q : List Int → Store → Prop) (env : Envr) (ds : List D) (acc : List Int) (st : Store) (_ : Shut t) (_ : Shut we) (_ : Shut Q) : Prop := wIsL vs t we env Q ds acc st
theorem e_wLenIs {wi : WI} {vs : List Nat} {t : WG} {we : WE} {env : Envr} {st : Store} {Q : QE} {R : XQ} : wLenIs wi vs t we env st Q R = wi env st (fun ds st1 => isW vs t we (fun acc st2 => (acc.length : Int) < 2 ^ 63 ∧ Q (.int acc.length) st2) env ds [] st1 .mk .mk .mk) R := rfl
theorem isW_i {vs : List Nat} {t : WG} {we : WE} {Q : List Int → Store → Prop} {env : Envr} {z1 z2 z3} (I : Nat → List Int → Store → Prop) : ∀ {ds : List D} {acc : List Int} {st : Store}, I 0 acc st →
    (∀ i d acc st, ds[i]? = some d → I i acc st → ∀ K : List Int → Store → Prop, (∀ a s, I (i + 1) a s → K a s) → t d (wipeE env vs) st (fun env1 st1 => we env1 st1 (fun y st2 => intW y fun k => acc.length + 1 < scanBound ∧ K (if k ∈ acc then acc else acc ++ [k]) st2) noX)) →
    (∀ acc st, I ds.length acc st → Q acc st) → isW vs t we Q env ds acc st z1 z2 z3 := by
  intro ds
  induction ds generalizing I with
  | nil => intro acc st h0 _ he; exact he _ _ h0
  | cons d ds ih =>
    intro acc st h0 hs he
    show wIsL vs t we env Q (d :: ds) acc st
    unfold wIsL
    exact hs 0 d acc st rfl h0 _ fun e s h => ih (fun i => I (i + 1)) h (fun i d' acc st hd hi K hK => hs (i + 1) d' acc st (by simpa using hd) hi K hK) fun acc st hx => he acc st hx
theorem e_addT {c i c' i' : Nat} {φ : WF} {T : Nat → Nat → Option WF} : addT c i φ T c' i' = if c' = c ∧ i' = i then some φ else T c' i' := rfl
theorem e_addF {c i c' i' : Nat} {F : Nat → Nat → Bool} : addF c i F c' i' = ((decide (c' = c) && decide (i' = i)) || F c' i') := rfl
theorem e_addM {c c' : Nat} {m m' : Mn} {φ : WF} {M : MT} : addM c m φ M c' m' = if c' = c ∧ m' = m then some φ else M c' m' := rfl
theorem e_addE {c c' : Nat} {φ : WF} {T : Nat → Option WF} : addE c φ T c' = if c' = c then some φ else T c' := rfl
theorem e_F0 {c i : Nat} : F0 c i = false := rfl
theorem e_P0 {c i : Nat} : P0 c i = none := rfl
theorem e_T0 {c : Nat} : T0 c = none := rfl
theorem e_M0 {c : Nat} {m : Mn} : M0 c m = none := rfl
theorem e_lcN {vs : List Nat} {t : WG} {tt : WT} {we : WE} {Q : List D → Store → Prop} {env : Envr} {acc : List D} {st : Store} {z1 z2 z3 z4} : lcW vs t tt we Q env [] acc st z1 z2 z3 z4 = Q acc st := rfl
theorem e_lcC {vs : List Nat} {t : WG} {tt : WT} {we : WE} {Q : List D → Store → Prop} {env : Envr} {d : D} {ds acc : List D} {st : Store} {z1 z2 z3 z4} : lcW vs t tt we Q env (d :: ds) acc st z1 z2 z3 z4 =
    t d (wipeE env vs) st (fun env1 st1 => tt env1 st1 (fun b st2 => iteW b (we env1 st2 (fun y st3 => acc.length < sizeLine ∧ lcW vs t tt we Q env ds (acc ++ [y]) st3 .mk .mk .mk .mk) noX) (lcW vs t tt we Q env ds acc st2 .mk .mk .mk .mk) .mk .mk) noX) := rfl
theorem e_zipC {x y : D} {xs ys : List D} : zipD (x :: xs) (y :: ys) = .tup [x, y] :: zipD xs ys := rfl
theorem e_zipN {ys : List D} : zipD [] ys = [] := rfl
theorem e_intsN : D.ints [] = some [] := rfl
theorem e_intsC {i : Int} {ds : List D} : D.ints (.int i :: ds) = (D.ints ds).map (i :: ·) := rfl
theorem e_blsN : D.bls [] = some [] := rfl
theorem e_blsC {i : Bool} {ds : List D} : D.bls (.bl i :: ds) = (D.bls ds).map (i :: ·) := rfl
theorem e_ltz0 : (0 < sizeLine) = True := eq_true (by decide)
theorem e_ltz1 : (1 < sizeLine) = True := eq_true (by decide)
theorem e_ltz2 : (2 < sizeLine) = True := eq_true (by decide)
theorem e_ltz3 : (3 < sizeLine) = True := eq_true (by decide)
theorem e_ltz4 : (4 < sizeLine) = True := eq_true (by decide)
theorem e_ltz5 : (5 < sizeLine) = True := eq_true (by decide)
theorem e_ltz6 : (6 < sizeLine) = True := eq_true (by decide)
theorem e_ltz7 : (7 < sizeLine) = True := eq_true (by decide)
theorem e_ltz8 : (8 < sizeLine) = True := eq_true (by decide)
theorem e_ltz9 : (9 < sizeLine) = True := eq_true (by decide)
theorem e_ltz10 : (10 < sizeLine) = True := eq_true (by decide)
theorem e_ltz11 : (11 < sizeLine) = True := eq_true (by decide)
theorem e_ltz12 : (12 < sizeLine) = True := eq_true (by decide)
theorem e_ltz13 : (13 < sizeLine) = True := eq_true (by decide)
theorem e_ltz14 : (14 < sizeLine) = True := eq_true (by decide)
theorem e_ltz15 : (15 < sizeLine) = True := eq_true (by decide)
theorem e_ltz16 : (16 < sizeLine) = True := eq_true (by decide)
theorem e_ltz17 : (17 < sizeLine) = True := eq_true (by decide)
theorem e_ltz18 : (18 < sizeLine) = True := eq_true (by decide)
theorem e_ltz19 : (19 < sizeLine) = True := eq_true (by decide)
theorem e_ltz20 : (20 < sizeLine) = True := eq_true (by decide)
theorem e_ltz21 : (21 < sizeLine) = True := eq_true (by decide)
theorem e_ltz22 : (22 < sizeLine) = True := eq_true (by decide)
theorem e_ltz23 : (23 < sizeLine) = True := eq_true (by decide)
theorem e_ltz24 : (24 < sizeLine) = True := eq_true (by decide)
theorem e_cst0 : ((0 : Nat) : Int) = 0 := rfl
theorem e_cst1 : ((1 : Nat) : Int) = 1 := rfl
theorem e_cst2 : ((2 : Nat) : Int) = 2 := rfl
theorem e_cst3 : ((3 : Nat) : Int) = 3 := rfl
theorem e_cst4 : ((4 : Nat) : Int) = 4 := rfl
theorem e_cst5 : ((5 : Nat) : Int) = 5 := rfl
theorem e_cst6 : ((6 : Nat) : Int) = 6 := rfl
theorem e_cst7 : ((7 : Nat) : Int) = 7 := rfl
theorem e_cst8 : ((8 : Nat) : Int) = 8 := rfl
theorem e_cst9 : ((9 : Nat) : Int) = 9 := rfl
theorem e_cst10 : ((10 : Nat) : Int) = 10 := rfl
theorem e_cst11 : ((11 : Nat) : Int) = 11 := rfl
theorem e_cst12 : ((12 : Nat) : Int) = 12 := rfl
theorem e_cst13 : ((13 : Nat) : Int) = 13 := rfl
theorem e_cst14 : ((14 : Nat) : Int) = 14 := rfl
theorem e_cst15 : ((15 : Nat) : Int) = 15 := rfl
theorem e_cst16 : ((16 : Nat) : Int) = 16 := rfl
theorem e_cst17 : ((17 : Nat) : Int) = 17 := rfl
theorem e_cst18 : ((18 : Nat) : Int) = 18 := rfl
theorem e_cst19 : ((19 : Nat) : Int) = 19 := rfl
theorem e_cst20 : ((20 : Nat) : Int) = 20 := rfl
theorem e_cst21 : ((21 : Nat) : Int) = 21 := rfl
theorem e_cst22 : ((22 : Nat) : Int) = 22 := rfl
theorem e_cst23 : ((23 : Nat) : Int) = 23 := rfl
theorem e_cst24 : ((24 : Nat) : Int) = 24 := rfl
end G
namespace G
open PySem PySem.Spec PyProof.Rows L2
theorem e_wiSeq {wa : WE} {env st Q R} : wiSeq wa env st Q R = wa env st (fun d st1 => sqW d fun ds => Q ds st1) R := by
  unfold wiSeq
  congr
  funext d st1
  cases d <;> rfl
def extW (v : Option Slot) (i : Nat) (wa : WE) (env : Envr) (st : Store) (D : EW) (_ : Shut D) : Prop := match v with
  | some (Slot.own ds) => wa env st (fun d st1 => lstW d fun fs => ds.length + fs.length ≤ sizeLine ∧ D.nx (env.set i (.own (ds ++ fs))) st1) (xe D env)
  | _ => False
theorem e_ext {i : Nat} {wa : WE} {env : Envr} {st : Store} {D0 : EW} : wExt i wa env st D0 = extW env[i]? i wa env st D0 .mk := by
  unfold wExt extW
  split <;> first | rfl | (rename_i h; rw [h]; rfl) | (rename_i h; split <;> first | rfl | (rename_i h2; exact absurd h2 (h _)))
theorem e_extO {ds : List D} {i : Nat} {wa : WE} {env : Envr} {st : Store} {D0 : EW} {z : Shut D0} : extW (some (Slot.own ds)) i wa env st D0 z = wa env st (fun d st1 => lstW d fun fs => ds.length + fs.length ≤ sizeLine ∧ D0.nx (env.set i (.own (ds ++ fs))) st1) (xe D0 env) := rfl
def gfldW (F : Nat → Nat → Bool) (i : Nat) (y x : D) (env : Envr) (st : Store) (Q : Envr → Store → Prop) (_ : Shut Q) : Prop := match x with
  | .cel n => insW st[n]? (fun c fs => F c i = true ∧ fs.length < 1000 ∧ Q env (st.set n (.ins c (putD i y fs)))) .mk
  | _ => False
theorem gfldW_c {F : Nat → Nat → Bool} {i n : Nat} {y : D} {env : Envr} {st : Store} {Q : Envr → Store → Prop} {z : Shut Q} : gfldW F i y (.cel n) env st Q z = insW st[n]? (fun c fs => F c i = true ∧ fs.length < 1000 ∧ Q env (st.set n (.ins c (putD i y fs)))) .mk := rfl
theorem e_wgFld {F : Nat → Nat → Bool} {i : Nat} {wo : WE} {d : D} {env : Envr} {st : Store} {Q : Envr → Store → Prop} : wgFld F i wo d env st Q = wo env st (fun x st2 => gfldW F i d x env st2 Q .mk) noX := by
  unfold wgFld
  show wo env st _ _ = wo env st _ _
  rfl
def lpW (t : WG) (tt : WT) (vs : List Nat) (env : Envr) (cs : List CG) (we : WE) (Q : List D → Store → Prop) (ds acc : List D) (st : Store) (_ : Shut t) (_ : Shut tt) (_ : Shut we) (_ : Shut cs) (_ : Shut Q) : Prop := wLpN t tt vs env (fun e a s k => wTaskN we cs e a s k) Q ds acc st
theorem e_wLcN {wi : WI} {t : WG} {tt : WT} {vs sl : List Nat} {cs : List CG} {we : WE} {env st Q R} : wLcN ⟨wi, t, tt, vs, sl⟩ cs we env st Q R = wi env st (fun ds st1 => lpW t tt vs env cs we (fun acc st2 => Q (.lst acc) st2) ds [] st1 .mk .mk .mk .mk .mk) R := rfl
def tskW (we : WE) (cs : List CG) (env : Envr) (acc : List D) (st : Store) (Q : List D → Store → Prop) (_ : Shut we) (_ : Shut cs) (_ : Shut Q) : Prop := wTaskN we cs env acc st Q
theorem e_tskN {we : WE} {env : Envr} {acc : List D} {st : Store} {Q : List D → Store → Prop} {x y z} : tskW we [] env acc st Q x y z = we env st (fun y st3 => acc.length < sizeLine ∧ Q (acc ++ [y]) st3) noX := rfl
theorem e_tskC {wi : WI} {t : WG} {tt : WT} {vs sl : List Nat} {cs : List CG} {we : WE} {env : Envr} {acc : List D} {st : Store} {Q : List D → Store → Prop} {x y z} : tskW we (⟨wi, t, tt, vs, sl⟩ :: cs) env acc st Q x y z = wi env st (fun ds st1 => lpW t tt vs env cs we Q ds acc st1 .mk .mk .mk .mk .mk) noX := rfl
theorem e_lpN {t : WG} {tt : WT} {vs : List Nat} {env : Envr} {cs : List CG} {we : WE} {Q : List D → Store → Prop} {acc : List D} {st : Store} {a b c d e} : lpW t tt vs env cs we Q [] acc st a b c d e = Q acc st := rfl
theorem e_lpC {t : WG} {tt : WT} {vs : List Nat} {env : Envr} {cs : List CG} {we : WE} {Q : List D → Store → Prop} {d0 : D} {ds acc : List D} {st : Store} {a b c d e} : lpW t tt vs env cs we Q (d0 :: ds) acc st a b c d e =
    t d0 (wipeE env vs) st (fun env1 st1 => tt env1 st1 (fun b st2 => iteW b (tskW we cs env1 acc st2 (fun acc' st3 => lpW t tt vs env cs we Q ds acc' st3 .mk .mk .mk .mk .mk) .mk .mk .mk) (lpW t tt vs env cs we Q ds acc st2 .mk .mk .mk .mk .mk) .mk .mk) noX) := rfl
theorem lcW_map {α : Type} {xs : List α} {g f : α → D} {vs : List Nat} {t : WG} {tt : WT} {we : WE} {Q : List D → Store → Prop} {env : Envr} {st : Store} {z1 z2 z3 z4} (hz : xs.length ≤ sizeLine)
    (h : ∀ x ∈ xs, ∀ (acc : List D) (K : List D → Store → Prop), acc.length < sizeLine → K (acc ++ [f x]) st → t (g x) (wipeE env vs) st (fun env1 st1 => tt env1 st1 (fun b st2 => iteW b (we env1 st2 (fun y st3 => acc.length < sizeLine ∧ K (acc ++ [y]) st3) noX) (K acc st2) .mk .mk) noX))
    (q : Q (xs.map f) st) : lcW vs t tt we Q env (xs.map g) [] st z1 z2 z3 z4 := by
  refine lcW_i (fun i acc s => i ≤ xs.length ∧ s = st ∧ acc = (xs.take i).map f) ⟨Nat.zero_le _, rfl, rfl⟩ ?_ ?_
  · rintro i d acc s hd ⟨hi, rfl, rfl⟩ K hK
    rw [List.getElem?_map, Option.map_eq_some_iff] at hd
    obtain ⟨x, hx, rfl⟩ := hd
    have hlt := (List.getElem?_eq_some_iff.mp hx).1
    refine h x (List.mem_of_getElem? hx) _ K (by simp; omega) (hK _ _ ⟨hlt, rfl, ?_⟩)
    rw [List.take_add_one, hx]; simp
  · rintro acc s ⟨_, rfl, rfl⟩
    rw [List.length_map, List.take_length]
    exact q
def calW (o : Option WF) (c : Nat) (fs : List (Nat × D)) (ds : List D) (st : Store) (Q : QE) (R : XQ) (_ : Shut Q) (_ : Shut R) : Prop := match o with
  | some φ => callW φ (.ob c fs :: ds) st Q R .mk .mk
  | none => False
theorem calW_s {φ : WF} {c : Nat} {fs : List (Nat × D)} {ds : List D} {st : Store} {Q : QE} {R : XQ} {x : Shut Q} {y : Shut R} : calW (some φ) c fs ds st Q R x y = callW φ (.ob c fs :: ds) st Q R .mk .mk := rfl
def obW (d : D) (P : Nat → List (Nat × D) → Prop) : Prop := match d with | .ob c fs => P c fs | _ => False
theorem obW_o {c : Nat} {fs : List (Nat × D)} {P : Nat → List (Nat × D) → Prop} : obW (.ob c fs) P = P c fs := rfl
theorem e_wCal {T : Nat → Option WF} {wf : WE} {ta : WA} {env st Q R} : wCal T wf ta env st Q R = wf env st (fun d st1 => obW d fun c fs => ta env st1 (fun ds st2 => calW (T c) c fs ds st2 Q R .mk .mk) R) R := by
  rfl
def srtW (xs : List D) (st : Store) (Q : QE) (R : XQ) (_ : Shut Q) : Prop := oSorted [.lst xs] st Q R
theorem e_srt {xs : List D} {st : Store} {Q : QE} {R : XQ} : oSorted [.lst xs] st Q R = srtW xs st Q R .mk := rfl
def maxW (ds : List D) (st : Store) (Q : QE) (R : XQ) (_ : Shut Q) : Prop := oMax ds st Q R
theorem e_max {ds : List D} {st : Store} {Q : QE} {R : XQ} : oMax ds st Q R = maxW ds st Q R .mk := rfl
theorem max_2 {i j : Int} {st : Store} {Q : QE} {R : XQ} {x} : maxW [.int i, .int j] st Q R x = Q (.int (if j > i then j else i)) st := rfl
def minW (ds : List D) (st : Store) (Q : QE) (R : XQ) (_ : Shut Q) : Prop := oMin ds st Q R
theorem e_min {ds : List D} {st : Store} {Q : QE} {R : XQ} : oMin ds st Q R = minW ds st Q R .mk := rfl
theorem min_2 {i j : Int} {st : Store} {Q : QE} {R : XQ} {x} : minW [.int i, .int j] st Q R x = Q (.int (if j < i then j else i)) st := rfl
def optW (o : Option Bool) (P : Bool → Prop) (_ : Shut P) : Prop := match o with | some n => P n | none => False
theorem optW_s {n : Bool} {P : Bool → Prop} {x : Shut P} : optW (some n) P x = P n := rfl
theorem e_gtA {i j : Int} {st : Store} {Q : QE} {R : XQ} : oGtA (.int i) (.int j) st Q R = Q (.bl (decide (j < i))) st := rfl
theorem e_ltA {i j : Int} {st : Store} {Q : QE} {R : XQ} : oLtA (.int i) (.int j) st Q R = Q (.bl (decide (i < j))) st := rfl
theorem e_gtT {xs ys : List D} {st : Store} {Q : QE} {R : XQ} : oGtA (.tup xs) (.tup ys) st Q R = optW (lexD ys xs) (fun b => Q (.bl b) st) .mk := by
  show (match lexD ys xs with | some b => Q (.bl b) st | none => False) = _
  unfold optW; cases lexD ys xs <;> rfl
theorem e_ltT {xs ys : List D} {st : Store} {Q : QE} {R : XQ} : oLtA (.tup xs) (.tup ys) st Q R = optW (lexD xs ys) (fun b => Q (.bl b) st) .mk := by
  show (match lexD xs ys with | some b => Q (.bl b) st | none => False) = _
  unfold optW; cases lexD xs ys <;> rfl
theorem lexD_4 {a b c d x y z w : Int} : lexD [.int a, .int b, .int c, .int d] [.int x, .int y, .int z, .int w] = some (HT.lexLt [a, b, c, d] [x, y, z, w]) := rfl
theorem e_inL {neg : Bool} {M : MT} {d : D} {es : List D} {st : Store} {Q : QE} {R : XQ} : oIn neg M d (.lst es) st Q R = (DatOk d (.lst es) ∧ Q (.bl ((es.any fun z => eqD z d) != neg)) st) := rfl
theorem e_inT {neg : Bool} {M : MT} {d : D} {es : List D} {st : Store} {Q : QE} {R : XQ} : oIn neg M d (.tup es) st Q R = (d.flat = true ∧ es.all D.flat = true ∧ Q (.bl ((es.any fun z => eqD z d) != neg)) st) := rfl
theorem e_inO {neg : Bool} {M : MT} {ds : List D} {c : Nat} {fs : List (Nat × D)} {st : Store} {Q : QE} {R : XQ} : oIn neg M (.tup ds) (.ob c fs) st Q R = callM M c .contains [.ob c fs, .tup ds] st (fun r st1 => blW r fun b => Q (.bl (b != neg)) st1) R := by
  unfold oIn
  have : (∀ es, D.tup ds ≠ .lst es) := fun es h => by cases h
  simp only [this, implies_true, true_and, ne_eq, not_false_eq_true, reduceCtorEq]
  rfl
theorem e_isBB {neg a b : Bool} {st : Store} {Q : QE} {R : XQ} : oIsB neg (.bl a) (.bl b) st Q R = Q (.bl (decide (a = b) != neg)) st := rfl
theorem bneF {b : Bool} : (b != false) = b := by cases b <;> rfl
theorem bneT {b : Bool} : (b != true) = !b := by cases b <;> rfl
theorem e_isiOb {I : IS} {c k : Nat} {fs : List (Nat × D)} : isiD I (.ob c fs) (.cls k) = if I c c = some true then I c k else none := rfl
theorem e_isiIc {I : IS} {k : Nat} {i : Int} : isiD I (.int i) (.cls k) = if I k k = some true then some false else none := by
  show (if I k k = some true ∧ tyN (.int i) ≠ none then some false else none) = _
  simp [tyN]
theorem e_isiTc {I : IS} {k : Nat} {xs : List D} : isiD I (.tup xs) (.cls k) = if I k k = some true then some false else none := by
  show (if I k k = some true ∧ tyN (.tup xs) ≠ none then some false else none) = _
  simp [tyN]
theorem e_isOf {c k a b : Nat} {v : Bool} {L : IsL} : isOf (((a, b), v) :: L) c k = if c = a ∧ k = b then some v else isOf L c k := by
  show (List.lookup (c, k) (((a, b), v) :: L)) = _
  by_cases h : c = a ∧ k = b
  · obtain ⟨rfl, rfl⟩ := h
    rw [if_pos ⟨rfl, rfl⟩]
    simp [List.lookup]
  · rw [if_neg h]
    have : ((c, k) == (a, b)) = false := by
      apply beq_false_of_ne
      intro z
      cases z
      exact h ⟨rfl, rfl⟩
    show (match (c, k) == (a, b) with | true => some v | false => List.lookup (c, k) L) = List.lookup (c, k) L
    rw [this]
theorem e_addAi {M : MT} {i j : Int} {st : Store} {Q : QE} {R : XQ} : oAddA M (.int i) (.int j) st Q R = Q (.int (i + j)) st := rfl
theorem e_addAs {M : MT} {x y : Str} {st : Store} {Q : QE} {R : XQ} : oAddA M (.str x) (.str y) st Q R = (x.length + y.length ≤ sizeLine ∧ Q (.str (x ++ y)) st) := rfl
theorem e_addAl {M : MT} {xs ys : List D} {st : Store} {Q : QE} {R : XQ} : oAddA M (.lst xs) (.lst ys) st Q R = (xs.length + ys.length ≤ sizeLine ∧ Q (.lst (xs ++ ys)) st) := rfl
theorem e_addAt {M : MT} {xs ys : List D} {st : Store} {Q : QE} {R : XQ} : oAddA M (.tup xs) (.tup ys) st Q R = (xs.length + ys.length ≤ sizeLine ∧ Q (.tup (xs ++ ys)) st) := rfl
theorem e_addAo {M : MT} {c : Nat} {fs gs : List (Nat × D)} {st : Store} {Q : QE} {R : XQ} : oAddA M (.ob c fs) (.ob c gs) st Q R = callM M c .add [.ob c fs, .ob c gs] st Q R := e_addO
theorem e_mulAi {M : MT} {i j : Int} {st : Store} {Q : QE} {R : XQ} : oMulA M (.int i) (.int j) st Q R = (MulOk i j ∧ Q (.int (i * j)) st) := rfl
theorem e_mulAl {M : MT} {xs : List D} {j : Int} {st : Store} {Q : QE} {R : XQ} : oMulA M (.lst xs) (.int j) st Q R = ((0 ≤ j ∧ j < 1000 ∧ xs.length * j.toNat ≤ sizeLine) ∧ Q (.lst ((List.replicate j.toNat xs).flatten)) st) := rfl
theorem e_mulAt {M : MT} {xs : List D} {j : Int} {st : Store} {Q : QE} {R : XQ} : oMulA M (.tup xs) (.int j) st Q R = ((xs ≠ [] ∧ j ≤ 1000 ∧ -1000 ≤ j ∧ xs.length ≤ 1000) ∧ Q (.tup ((List.replicate j.toNat xs).flatten)) st) := rfl
theorem e_mulAo {M : MT} {c : Nat} {fs gs : List (Nat × D)} {st : Store} {Q : QE} {R : XQ} : oMulA M (.ob c fs) (.ob c gs) st Q R = callM M c .mul [.ob c fs, .ob c gs] st Q R := e_mulO
theorem e_forN {t : WG} {w : WS} {D0 : EW} {env : Envr} {st : Store} {z1 z2 z3} : forW t w D0 [] env st z1 z2 z3 = D0.nx env st := rfl
theorem e_forC {t : WG} {w : WS} {D0 : EW} {d : D} {ds : List D} {env : Envr} {st : Store} {z1 z2 z3} : forW t w D0 (d :: ds) env st z1 z2 z3 = t d env st (fun env1 st1 => w env1 st1 (loopK D0 (fun e s => forW t w D0 ds e s .mk .mk .mk))) := rfl
def zipAW (ds : List D) (P : List D → Prop) : Prop := match ds with | [.lst xs, .lst ys] => P (zipD xs ys) | [.tup xs, .tup ys] => P (zipD xs ys) | [.tup xs, .lst ys] => P (zipD xs ys) | [.tup xs, .wtp ys] => P (zipD xs ys) | _ => False
theorem e_iZipA {ta : WA} {env : Envr} {st : Store} {R : XQ} {Qi : List D → Store → Prop} : wiZipA ta env st Qi R = ta env st (fun ds st1 => zipAW ds fun zs => Qi zs st1) R := by
  unfold wiZipA zipAW
  congr 1
theorem zipAW_l {xs ys : List D} {P : List D → Prop} : zipAW [.lst xs, .lst ys] P = P (zipD xs ys) := rfl
theorem zipAW_t {xs ys : List D} {P : List D → Prop} : zipAW [.tup xs, .tup ys] P = P (zipD xs ys) := rfl
theorem zipAW_w {xs ys : List D} {P : List D → Prop} : zipAW [.tup xs, .wtp ys] P = P (zipD xs ys) := rfl
theorem zipAW_m {xs ys : List D} {P : List D → Prop} : zipAW [.tup xs, .lst ys] P = P (zipD xs ys) := rfl
theorem e_truO {M : MT} {c : Nat} {fs : List (Nat × D)} {st : Store} {Q : Bool → Store → Prop} {R : XQ} : oTru M (.ob c fs) st Q R = callM M c .bool [.ob c fs] st (fun r st1 => blW r fun b => Q b st1) R := by
  show callM M c .bool [.ob c fs] st _ R = _
  congr 1
theorem e_wParO {i k : Nat} {ta : WA} {n : Int} {env st D} : wParO i k ta n env st D = (ta env st (fun ds st1 => ds.length ≤ sizeLine ∧ D.nx ((env.set i (.own ds)).set k (.val (.int n))) st1) (xe D env)) := rfl
def par3W (i k l : Nat) (env : Envr) (D : EW) (ds : List G.D) (st : Store) : Prop := match ds with
  | [d1, d2, d3] => D.nx (((env.set i (.val d1)).set k (.val d2)).set l (.val d3)) st
  | _ => False
theorem e_par3 {i k l : Nat} {ta : WA} {env st} {D : EW} : wPar3 i k l ta env st D = ta env st (fun ds st1 => par3W i k l env D ds st1) (xe D env) := by
  unfold wPar3; rfl
theorem e_par3W {i k l : Nat} {env : Envr} {st} {D : EW} {d1 d2 d3 : G.D} : par3W i k l env D [d1, d2, d3] st = D.nx (((env.set i (.val d1)).set k (.val d2)).set l (.val d3)) st := rfl
theorem e_eqLl {T : Nat → Option WF} {xs ys : List D} {st : Store} {Q : QE} {R : XQ} : oEqL T (.lst xs) (.lst ys) st Q R = (ownAll T st xs ys ∧ Q (.bl true) st) := rfl
theorem e_neLl {T : Nat → Option WF} {xs ys : List D} {st : Store} {Q : QE} {R : XQ} : oNeL T (.lst xs) (.lst ys) st Q R = (ownAll T st xs ys ∧ Q (.bl false) st) := rfl
theorem e_oaN {T : Nat → Option WF} {st : Store} : ownAll T st [] [] = True := by simp [ownAll]
theorem e_oaC {T : Nat → Option WF} {c : Nat} {fs gs : List (Nat × D)} {xs ys : List D} {st : Store} : ownAll T st (.ob c fs :: xs) (.ob c gs :: ys) = (ownW (T c) false c fs gs st (fun r st1 => r = .bl true ∧ st1 = st) (fun _ _ => False) .mk .mk ∧ ownAll T st xs ys) := by
  rw [← own_eq]; simp [ownAll]
end G
namespace G
open PySem PySem.Spec PyProof.Rows L2
end G
namespace G
open PySem PySem.Spec PyProof.Rows L2
section
variable {env : Envr} {st : Store} {Q : QE} {R : XQ} {M : MT}
def strW (d : D) (P : Str → Prop) : Prop := match d with | .str x => P x | _ => False
theorem strW_i {x : Str} {P : Str → Prop} : strW (.str x) P = P x := rfl
theorem e_fmtS {y : Str} : oFmt (.str y) st Q R = (y.length ≤ sizeLine ∧ Q (.str y) st) := rfl
theorem e_fmtI {i : Int} : oFmt (.int i) st Q R = (i.natAbs.log2 < 1920 ∧ Q (.str (toString i)) st) := rfl
theorem e_wJsN {acc : Str} : wJs [] acc env st Q R = Q (.str acc) st := rfl
theorem e_wJsC {w : WE} {ws : List WE} {acc : Str} : wJs (w :: ws) acc env st Q R = w env st (fun d st1 => strW d fun y => (acc ++ y).length ≤ sizeLine ∧ wJs ws (acc ++ y) env st1 Q R) R := rfl
theorem e_wTx {o : Str → O1} {wa wb : WE} : wTx o wa wb env st Q R = wa env st (fun d st1 => strW d fun x => wb env st1 (fun d2 st2 => o x d2 st2 Q R) R) R := rfl
def strsW (o : Option (List Str)) (P : List Str → Prop) (_ : Shut P) : Prop := match o with | some n => P n | none => False
theorem strsW_s {ss : List Str} {P : List Str → Prop} {z : Shut P} : strsW (some ss) P z = P ss := rfl
theorem e_joinL {x : Str} {ds : List D} : oJoin x (.lst ds) st Q R = strsW (D.strs ds) (fun ys => joinOk x ys ∧ Q (.str (Txt.join x ys)) st) .mk := rfl
theorem e_joinT {x : Str} {ds : List D} : oJoin x (.tup ds) st Q R = strsW (D.strs ds) (fun ys => joinOk x ys ∧ Q (.str (Txt.join x ys)) st) .mk := rfl
theorem e_strI {i : Int} : oStr [.int i] st Q R = (i.natAbs.log2 < 1920 ∧ Q (.str (toString i)) st) := rfl
theorem e_strS {x : Str} : oStr [.str x] st Q R = Q (.str x) st := rfl
theorem e_repr {c : Nat} {fs : List (Nat × D)} : oRepr M (.ob c fs) st Q R = callM M c .repr [.ob c fs] st (fun r st1 => strW r fun y => Q (.str y) st1) R := rfl
theorem e_boolc {c : Nat} {fs : List (Nat × D)} : oBoolc M (.ob c fs) st Q R = callM M c .bool [.ob c fs] st (fun r st1 => blW r fun b => Q (.bl b) st1) R := rfl
def eqxW (o : Option WF) (ds : List D) (st : Store) (Q : QE) (R : XQ) (_ : Shut Q) (_ : Shut R) : Prop := match o with
  | some φ => callW φ ds st (fun r st1 => blW r fun b => Q (.bl b) st1) R .mk .mk
  | none => False
theorem eqxW_s {φ : WF} {ds : List D} {x : Shut Q} {y : Shut R} : eqxW (some φ) ds st Q R x y = callW φ ds st (fun r st1 => blW r fun b => Q (.bl b) st1) R .mk .mk := rfl
theorem own_eqX {T : Nat → Nat → Option WF} {c i : Nat} {fs : List (Nat × D)} {d : D} : ownEqX T c i fs d st Q R = eqxW (T c i) [.ob c fs, d] st Q R .mk .mk := by
  unfold ownEqX eqxW
  cases T c i <;> rfl
theorem e_eqXO {T : Nat → Nat → Option WF} {c c' : Nat} {fs gs : List (Nat × D)} : oEqX T (.ob c fs) (.ob c' gs) st Q R = eqxW (T c (c' + 2)) [.ob c fs, .ob c' gs] st Q R .mk .mk := own_eqX
theorem e_eqXT {T : Nat → Nat → Option WF} {c : Nat} {fs : List (Nat × D)} {xs : List D} : oEqX T (.ob c fs) (.tup xs) st Q R = eqxW (T c 0) [.ob c fs, .tup xs] st Q R .mk .mk := own_eqX
theorem e_eqXI {T : Nat → Nat → Option WF} {c : Nat} {fs : List (Nat × D)} {i : Int} : oEqX T (.ob c fs) (.int i) st Q R = eqxW (T c 1) [.ob c fs, .int i] st Q R .mk .mk := own_eqX
theorem e_wAsksD {tn : Nat} {cl : List TellN} {i kd : Nat} {wes : List WE} {wd wr : WE} {wth : WS} {D0 : EW} : wAsksD tn cl i kd wes wd wr wth env st D0 = wd (env.set i .no) st (fun d st0 => wRunL tn cl wes ((env.set i .no).set kd (.val d)) [] st0 fun ds st1 =>
    wr ((env.set i .no).set kd (.val d)) st1 (fun r st2 => oNeD (.lst ds) r st2 (fun z st3 => blW z fun b => iteW b (wth ((env.set i .no).set kd (.val d)) st3 D0) (D0.nx ((env.set i .no).set kd (.val d)) st3) .mk .mk) (xe D0 ((env.set i .no).set kd (.val d)))) (xe D0 ((env.set i .no).set kd (.val d)))) (xe D0 (env.set i .no)) := by
  unfold wAsksD
  congr 1
end
end G
namespace G
open PySem PySem.Spec PyProof.Rows L2
end G
namespace G
open PySem PySem.Spec PyProof.Rows L2
end G
namespace G
open PySem PySem.Spec PyProof.Rows L2
section
variable {env : Envr} {st : Store} {Q : QE} {R : XQ} {wa wb wk : WE} {ta : WA} {w : WE} {D0 : EW}
theorem e_oneS {x : Str} {P : Str → Prop} : oneS (.str x) P = P x := rfl
theorem e_wSq {f : Str → Bool} : wSq f wa env st Q R = wa env st (fun d st1 => oneS d fun x => Q (.bl (f x)) st1) R := rfl
theorem e_wSq1 {f : Str → Str → Bool} : wSq1 f wa wb env st Q R = wa env st (fun d st1 => oneS d fun x => wb env st1 (fun d2 st2 => oneS d2 fun y => Q (.bl (f x y)) st2) R) R := rfl
theorem e_wSt1 {f : Str → Str → Str} : wSt1 f wa wb env st Q R = wa env st (fun d st1 => oneS d fun x => wb env st1 (fun d2 st2 => oneS d2 fun y => x.length ≤ sizeLine ∧ Q (.str (f x y)) st2) R) R := rfl
theorem e_wSpl : wSpl wa wb env st Q R = wa env st (fun d st1 => oneS d fun x => wb env st1 (fun d2 st2 => oneS d2 fun y => (y.length == 0) = false ∧ x.length + 2 ≤ sizeLine ∧ Q (.lst ((Txt.split x y).map D.str)) st2) R) R := rfl
theorem e_wRpl {y z : Str} : wRpl y z wa env st Q R = wa env st (fun d st1 => oneS d fun x => x.length + (x.length + 1) * z.length ≤ 16777216 ∧ Q (.str (Txt.replace x y z)) st1) R := rfl
theorem e_wSlS {wl wh : WO} : wSlS wa wl wh env st Q R = wa env st (fun d st1 => wl env st1 (fun l st2 => wh env st2 (fun h st3 => oneS d fun z => z.length ≤ sizeLine ∧ Q (.str (cutS z l h)) st3) R) R) R := rfl
theorem e_wTix {ss : List Str} : wTix ss wa env st Q R = wa env st (fun d st1 => oneS d fun z => ∃ k, ss[k]? = some z ∧ (∀ m, m < k → ss[m]? ≠ some z) ∧ Q (.int (k : Nat)) st1) R := rfl
theorem e_wAtC {i c : Nat} : wAtC i c w env st Q R = (env[i]? = some (Slot.val (.cls c)) ∧ w env st Q R) := rfl
theorem e_wCallC {c : Nat} {φ : WF} : wCallC c φ ta env st Q R = ta env st (fun ds st1 => callW φ (.cls c :: ds) st1 Q R .mk .mk) R := rfl
theorem e_intT {a : Str} : oIntT [.str a] st Q R = ∃ n, PySem.intText? a = some n ∧ a.length ≤ 640 ∧ Q (.int n) st := rfl
def enW (ds : List D) (P : List D → Prop) : Prop := match ds with | [.lst xs] => P (enumD 0 xs) | _ => False
theorem enW_l {xs : List D} {P : List D → Prop} : enW [.lst xs] P = P (enumD 0 xs) := rfl
theorem e_wiEnum {P : List D → Store → Prop} : wiEnum ta env st P R = ta env st (fun ds st1 => enW ds fun xs => P xs st1) R := by
  unfold wiEnum
  congr 1
def agW (o : Option Slot) (P : List D → Prop) : Prop := match o with | some (Slot.own ds) => P ds | _ => False
theorem agW_o {ds : List D} {P : List D → Prop} : agW (some (.own ds)) P = P ds := rfl
theorem e_wAugAt {i : Nat} : wAugAt i wk wa env st D0 = agW env[i]? fun ds => wk env st (fun k st1 => ∃ (n : Nat) (x : Int), k = .int n ∧ ds[n]? = some (.int x) ∧ n < 1000000 ∧ wa env st1 (fun d st2 => ∃ y : Int, d = .int y ∧ D0.nx (env.set i (.own (ds.set n (.int (x + y))))) st2) (xe D0 env)) (xe D0 env) := by
  unfold wAugAt agW
  cases env[i]? with
  | none => rfl
  | some x => cases x <;> rfl
end
end G
namespace G
open PySem PySem.Builtin PySem.Builtin.Str SX TL
theorem spl_ne (S0 : List Nat) : ∀ (l : List Nat) (k : Nat) (acc : List Nat), spl S0 k acc l ≠ []
  | [], k, acc, h => by rw [spl_nil] at h; cases h
  | c :: r, 0, acc, h => by
    by_cases z : pre S0 (c :: r) = true
    · rw [spl_hit z] at h; cases h
    · rw [spl_miss (Bool.eq_false_iff.mpr z)] at h
      exact spl_ne S0 r 0 _ h
  | c :: r, k + 1, acc, h => spl_ne S0 r k acc h
def dash (c : Nat) : List Nat := if c = 45 then [43, 45] else [c]
theorem join_dash : ∀ (a acc : List Nat), joinL [43, 45] (spl [45] 0 acc a) = acc ++ a.flatMap dash
  | [], acc => by rw [spl_nil]; simp [joinL]
  | c :: r, acc => by
    rw [List.flatMap_cons]
    by_cases hc : c = 45
    · subst hc
      rw [spl_hit (by simp [pre])]
      have ih := join_dash r []
      cases hs : spl [45] 0 [] r with
      | nil => exact absurd hs (spl_ne _ _ _ _)
      | cons q qs =>
        rw [hs] at ih
        show acc ++ ([43, 45] ++ joinL [43, 45] (q :: qs)) = _
        rw [ih]
        rfl
    · rw [spl_miss (by simp [pre, hc]), join_dash r (acc ++ [c])]
      unfold dash
      rw [if_neg hc, List.append_assoc]
theorem s_dash : (("-" : Str)) = S [45] := by decide +kernel
theorem s_plus : (("+" : Str)) = S [43] := by decide +kernel
theorem s_pd : (("+-" : Str)) = S [43, 45] := by decide +kernel
theorem s_half : (("/2" : Str)) = S [47, 50] := by decide +kernel
theorem s_nil : (("" : Str)) = S [] := by decide +kernel
theorem s_nil2 : Str.empty = S [] := rfl
theorem s_i : (("i" : Str)) = S [105] := by decide +kernel
theorem s_j : (("j" : Str)) = S [106] := by decide +kernel
theorem s_k : (("k" : Str)) = S [107] := by decide +kernel
theorem s_0 : (("0" : Str)) = S [48] := by decide +kernel
theorem replace_dash (a : List Nat) : Txt.replace (S a) "-" "+-" = S (a.flatMap dash) := by
  rw [s_dash, s_pd]
  have sp := split_S (a := a) (b := [45]) (by simp) (by decide)
  have jo : S (joinL [43, 45] (spl [45] 0 [] a)) = S (a.flatMap dash) := by rw [join_dash, List.nil_append]
  rw [← jo, ← join_S, ← sp]
  unfold Txt.replace Txt.split Txt.join
  have z2 : ((S [45]).length == 0 && (S [43, 45]).length == 0) = false := by decide
  have kd : decide (strKind (S a) < strKind (S [45])) = false := decide_eq_false (TL.kind_ok (all256 (by decide)))
  rw [z2, kd, Bool.or_false, Bool.or_false]
  by_cases ho : (occurrences (S a) (S [45]) 0 (S a).length ((S a).length + 1)).isEmpty = true
  · rw [if_pos ho, if_pos ho]
    have e : ∀ t : List Str, t = [S a] → S a = glued (S [43, 45]) t := fun t ht => by
      rw [ht]
      have := join_S [43, 45] [a]
      exact this.symm
    exact e _ (by split <;> rfl)
  · rw [if_neg ho, if_neg ho]
    by_cases hl : (S a).length < (S [45]).length
    · exfalso
      have : a = [] := by
        rw [S_len, S_len] at hl
        exact List.length_eq_zero_iff.mp (by simpa using hl)
      subst this
      exact ho (by decide +kernel)
    · rw [decide_eq_false hl, if_neg Bool.false_ne_true]
theorem split_plus {parts : List (List Nat)} (hne : parts ≠ []) (h : ∀ p ∈ parts, 43 ∉ p) : Txt.split (S (joinL [43] parts)) "+" = parts.map S := by
  rw [s_plus, split_S (by simp) (by decide), SX.spl_join hne h]
theorem sub_at0 (a b : List Nat) : subAt (S a) (S b) 0 = decide (a.take b.length = b) := by
  unfold subAt
  have e : ((S a).cps.extract 0 (0 + (S b).length)) = (a.take b.length).toArray := by
    rw [S_len, Nat.zero_add]
    show a.toArray.extract 0 b.length = _
    rw [List.extract_toArray]
    simp
  rw [e]
  show ((a.take b.length).toArray == b.toArray) = _
  rw [Bool.eq_iff_iff, beq_iff_eq, decide_eq_true_eq]
  exact ⟨fun h => by simpa using h, fun h => by rw [h]⟩
theorem starts_S (a b : List Nat) : Txt.startswith (S a) (S b) = decide (a.take b.length = b) := by
  unfold Txt.startswith
  rw [sub_at0, S_len, S_len]
  by_cases h : a.take b.length = b
  · rw [decide_eq_true h, Bool.and_true, decide_eq_true_eq]
    have := congrArg List.length h
    rw [List.length_take] at this
    omega
  · rw [decide_eq_false h, Bool.and_false]
theorem drop_prefix (b r : List Nat) : Txt.removeprefix (S (b ++ r)) (S b) = S r := by
  unfold Txt.removeprefix
  rw [sub_at0, decide_eq_true (by simp), if_pos rfl]
  unfold Txt.affix
  simp only [S_len]
  split
  · rename_i h
    have h : (b ++ r).length - b.length = (b ++ r).length := by simpa using h
    have : b = [] ∨ r = r := .inr rfl
    rw [List.length_append] at h
    by_cases hb : b.length = 0
    · rw [List.length_eq_zero_iff.mp hb]; rfl
    · have : r.length = 0 ∨ 0 < r.length := by omega
      omega
  · refine TL.ext_tl ?_
    have e := TL.tl_strSub_end (S (b ++ r)) b.length
    rw [S_len] at e
    rw [e]
    show (b ++ r).drop b.length = r
    simp
theorem keep_prefix {a b : List Nat} (h : a.take b.length ≠ b) : Txt.removeprefix (S a) (S b) = S a := by
  unfold Txt.removeprefix
  rw [sub_at0, decide_eq_false h, if_neg Bool.false_ne_true]
  rfl
theorem ends_S (a b : List Nat) : Txt.endswith (S (a ++ b)) (S b) = true := by
  unfold Txt.endswith subAt
  rw [S_len, S_len, List.length_append]
  have e : ((S (a ++ b)).cps.extract (a.length + b.length - b.length) (a.length + b.length - b.length + b.length)) = b.toArray := by
    show (a ++ b).toArray.extract _ _ = _
    rw [List.extract_toArray]
    simp
  rw [e]
  simp
theorem ends_no {a b : List Nat} (h : ¬ b <:+ a) : Txt.endswith (S a) (S b) = false := by
  rw [Bool.eq_false_iff]
  intro z
  unfold Txt.endswith subAt at z
  rw [S_len, S_len, Bool.and_eq_true, decide_eq_true_eq, beq_iff_eq] at z
  obtain ⟨z1, z2⟩ := z
  have z2 : a.toArray.extract (a.length - b.length) (a.length - b.length + b.length) = b.toArray := z2
  rw [List.extract_toArray] at z2
  apply h
  have z3 : (a.drop (a.length - b.length)).take (a.length - b.length + b.length - (a.length - b.length)) = b := by
    have := congrArg Array.toList z2
    simpa using this
  rw [List.take_of_length_le (by rw [List.length_drop]; omega)] at z3
  rw [← z3]
  exact List.drop_suffix _ _
end G
namespace HQ
def par (a b c d : Int) : Prop := a % 2 = b % 2 ∧ b % 2 = c % 2 ∧ c % 2 = d % 2
instance (a b c d : Int) : Decidable (par a b c d) := by unfold par; infer_instance
structure Hur where
  a : Int
  b : Int
  c : Int
  d : Int
  h : par a b c d
theorem Hur.ext {p q : Hur} (h1 : p.a = q.a) (h2 : p.b = q.b) (h3 : p.c = q.c) (h4 : p.d = q.d) : p = q := by
  cases p; cases q; simp at *; exact ⟨h1, h2, h3, h4⟩
theorem Hur.ext_iff {p q : Hur} : p = q ↔ p.a = q.a ∧ p.b = q.b ∧ p.c = q.c ∧ p.d = q.d := ⟨fun e => by subst e; exact ⟨rfl, rfl, rfl, rfl⟩, fun ⟨a, b, c, d⟩ => Hur.ext a b c d⟩
instance : DecidableEq Hur := fun p q => decidable_of_iff _ (Hur.ext_iff (p := p) (q := q)).symm
namespace Hur
def whole (n : Int) : Hur := ⟨2 * n, 0, 0, 0, by unfold par; omega⟩
instance : Add Hur := ⟨fun p q => ⟨p.a + q.a, p.b + q.b, p.c + q.c, p.d + q.d, by have := p.h; have := q.h; unfold par at *; omega⟩⟩
instance : Sub Hur := ⟨fun p q => ⟨p.a - q.a, p.b - q.b, p.c - q.c, p.d - q.d, by have := p.h; have := q.h; unfold par at *; omega⟩⟩
instance : Neg Hur := ⟨fun p => ⟨-p.a, -p.b, -p.c, -p.d, by have := p.h; unfold par at *; omega⟩⟩
def bar (p : Hur) : Hur := ⟨p.a, -p.b, -p.c, -p.d, by have := p.h; unfold par at *; omega⟩
def mA (p q : Hur) : Int := p.a * q.a - p.b * q.b - p.c * q.c - p.d * q.d
def mB (p q : Hur) : Int := p.a * q.b + p.b * q.a + p.c * q.d - p.d * q.c
def mC (p q : Hur) : Int := p.a * q.c - p.b * q.d + p.c * q.a + p.d * q.b
def mD (p q : Hur) : Int := p.a * q.d + p.b * q.c - p.c * q.b + p.d * q.a
theorem mul_par (p q : Hur) : mA p q % 2 = 0 ∧ mB p q % 2 = 0 ∧ mC p q % 2 = 0 ∧ mD p q % 2 = 0 ∧ par (mA p q / 2) (mB p q / 2) (mC p q / 2) (mD p q / 2) := by
  obtain ⟨a, b, c, d, h⟩ := p
  obtain ⟨x, y, z, w, k⟩ := q
  unfold par at h k
  obtain ⟨b', rfl⟩ : ∃ b', b = a + 2 * b' := ⟨(b - a) / 2, by omega⟩
  obtain ⟨c', rfl⟩ : ∃ c', c = a + 2 * c' := ⟨(c - a) / 2, by omega⟩
  obtain ⟨d', rfl⟩ : ∃ d', d = a + 2 * d' := ⟨(d - a) / 2, by omega⟩
  obtain ⟨y', rfl⟩ : ∃ y', y = x + 2 * y' := ⟨(y - x) / 2, by omega⟩
  obtain ⟨z', rfl⟩ : ∃ z', z = x + 2 * z' := ⟨(z - x) / 2, by omega⟩
  obtain ⟨w', rfl⟩ : ∃ w', w = x + 2 * w' := ⟨(w - x) / 2, by omega⟩
  have e1 : mA ⟨a, a + 2 * b', a + 2 * c', a + 2 * d', h⟩ ⟨x, x + 2 * y', x + 2 * z', x + 2 * w', k⟩ = 2 * (-(a * x) - a * (y' + z' + w') - x * (b' + c' + d') - 2 * (b' * y' + c' * z' + d' * w')) := by simp only [mA]; grind
  have e2 : mB ⟨a, a + 2 * b', a + 2 * c', a + 2 * d', h⟩ ⟨x, x + 2 * y', x + 2 * z', x + 2 * w', k⟩ = 2 * (a * x + a * (y' + w' - z') + x * (b' + c' - d') + 2 * (c' * w' - d' * z')) := by simp only [mB]; grind
  have e3 : mC ⟨a, a + 2 * b', a + 2 * c', a + 2 * d', h⟩ ⟨x, x + 2 * y', x + 2 * z', x + 2 * w', k⟩ = 2 * (a * x + a * (z' + y' - w') + x * (c' + d' - b') + 2 * (d' * y' - b' * w')) := by simp only [mC]; grind
  have e4 : mD ⟨a, a + 2 * b', a + 2 * c', a + 2 * d', h⟩ ⟨x, x + 2 * y', x + 2 * z', x + 2 * w', k⟩ = 2 * (a * x + a * (w' + z' - y') + x * (b' + d' - c') + 2 * (b' * z' - c' * y')) := by simp only [mD]; grind
  rw [e1, e2, e3, e4]
  have f : ∀ n : Int, 2 * n / 2 = n := fun n => by omega
  rw [f, f, f, f]
  refine ⟨by omega, by omega, by omega, by omega, ?_⟩
  generalize a * x = t
  have g1 : -t - a * (y' + z' + w') - x * (b' + c' + d') - 2 * (b' * y' + c' * z' + d' * w') = (t + a * (y' + w' - z') + x * (b' + c' - d') + 2 * (c' * w' - d' * z')) + 2 * (-t - a * (y' + w') - x * (b' + c') - (b' * y' + c' * z' + d' * w') - (c' * w' - d' * z')) := by grind
  have g2 : (t + a * (y' + w' - z') + x * (b' + c' - d') + 2 * (c' * w' - d' * z')) = (t + a * (z' + y' - w') + x * (c' + d' - b') + 2 * (d' * y' - b' * w')) + 2 * (a * (w' - z') + x * (b' - d') + (c' * w' - d' * z') - (d' * y' - b' * w')) := by grind
  have g3 : (t + a * (z' + y' - w') + x * (c' + d' - b') + 2 * (d' * y' - b' * w')) = (t + a * (w' + z' - y') + x * (b' + d' - c') + 2 * (b' * z' - c' * y')) + 2 * (a * (y' - w') + x * (c' - b') + (d' * y' - b' * w') - (b' * z' - c' * y')) := by grind
  generalize -t - a * (y' + z' + w') - x * (b' + c' + d') - 2 * (b' * y' + c' * z' + d' * w') = r1 at *
  generalize (t + a * (y' + w' - z') + x * (b' + c' - d') + 2 * (c' * w' - d' * z')) = r2 at *
  generalize (t + a * (z' + y' - w') + x * (c' + d' - b') + 2 * (d' * y' - b' * w')) = r3 at *
  generalize (t + a * (w' + z' - y') + x * (b' + d' - c') + 2 * (b' * z' - c' * y')) = r4 at *
  unfold par
  omega
instance : Mul Hur := ⟨fun p q => ⟨mA p q / 2, mB p q / 2, mC p q / 2, mD p q / 2, (mul_par p q).2.2.2.2⟩⟩
@[simp] theorem add_a (p q : Hur) : (p + q).a = p.a + q.a := rfl
@[simp] theorem add_b (p q : Hur) : (p + q).b = p.b + q.b := rfl
@[simp] theorem add_c (p q : Hur) : (p + q).c = p.c + q.c := rfl
@[simp] theorem add_d (p q : Hur) : (p + q).d = p.d + q.d := rfl
@[simp] theorem sub_a (p q : Hur) : (p - q).a = p.a - q.a := rfl
@[simp] theorem sub_b (p q : Hur) : (p - q).b = p.b - q.b := rfl
@[simp] theorem sub_c (p q : Hur) : (p - q).c = p.c - q.c := rfl
@[simp] theorem sub_d (p q : Hur) : (p - q).d = p.d - q.d := rfl
@[simp] theorem neg_a (p : Hur) : (-p).a = -p.a := rfl
@[simp] theorem neg_b (p : Hur) : (-p).b = -p.b := rfl
@[simp] theorem neg_c (p : Hur) : (-p).c = -p.c := rfl
@[simp] theorem neg_d (p : Hur) : (-p).d = -p.d := rfl
@[simp] theorem bar_a (p : Hur) : (bar p).a = p.a := rfl
@[simp] theorem bar_b (p : Hur) : (bar p).b = -p.b := rfl
@[simp] theorem bar_c (p : Hur) : (bar p).c = -p.c := rfl
@[simp] theorem bar_d (p : Hur) : (bar p).d = -p.d := rfl
@[simp] theorem whole_a (n : Int) : (whole n).a = 2 * n := rfl
@[simp] theorem whole_b (n : Int) : (whole n).b = 0 := rfl
@[simp] theorem whole_c (n : Int) : (whole n).c = 0 := rfl
@[simp] theorem whole_d (n : Int) : (whole n).d = 0 := rfl
theorem mul_a (p q : Hur) : 2 * (p * q).a = p.a * q.a - p.b * q.b - p.c * q.c - p.d * q.d := by
  have h := (mul_par p q).1; show 2 * (mA p q / 2) = _; unfold mA at *; omega
theorem mul_b (p q : Hur) : 2 * (p * q).b = p.a * q.b + p.b * q.a + p.c * q.d - p.d * q.c := by
  have h := (mul_par p q).2.1; show 2 * (mB p q / 2) = _; unfold mB at *; omega
theorem mul_c (p q : Hur) : 2 * (p * q).c = p.a * q.c - p.b * q.d + p.c * q.a + p.d * q.b := by
  have h := (mul_par p q).2.2.1; show 2 * (mC p q / 2) = _; unfold mC at *; omega
theorem mul_d (p q : Hur) : 2 * (p * q).d = p.a * q.d + p.b * q.c - p.c * q.b + p.d * q.a := by
  have h := (mul_par p q).2.2.2.1; show 2 * (mD p q / 2) = _; unfold mD at *; omega
theorem mul_assoc (p q r : Hur) : (p * q) * r = p * (q * r) := by
  have a1 := mul_a p q; have a2 := mul_b p q; have a3 := mul_c p q; have a4 := mul_d p q
  have b1 := mul_a q r; have b2 := mul_b q r; have b3 := mul_c q r; have b4 := mul_d q r
  have c1 := mul_a (p * q) r; have c2 := mul_b (p * q) r; have c3 := mul_c (p * q) r; have c4 := mul_d (p * q) r
  have d1 := mul_a p (q * r); have d2 := mul_b p (q * r); have d3 := mul_c p (q * r); have d4 := mul_d p (q * r)
  generalize p * q = u at *
  generalize q * r = v at *
  generalize u * r = s at *
  generalize p * v = t at *
  have l1 : 2 * (2 * s.a) = (2 * u.a) * r.a - (2 * u.b) * r.b - (2 * u.c) * r.c - (2 * u.d) * r.d := by rw [c1]; grind (splits := 0)
  have m1 : 2 * (2 * t.a) = p.a * (2 * v.a) - p.b * (2 * v.b) - p.c * (2 * v.c) - p.d * (2 * v.d) := by rw [d1]; grind (splits := 0)
  rw [a1, a2, a3, a4] at l1; rw [b1, b2, b3, b4] at m1
  have e1 : 2 * (2 * s.a) = 2 * (2 * t.a) := by rw [l1, m1]; grind (splits := 0)
  have l2 : 2 * (2 * s.b) = (2 * u.a) * r.b + (2 * u.b) * r.a + (2 * u.c) * r.d - (2 * u.d) * r.c := by rw [c2]; grind (splits := 0)
  have m2 : 2 * (2 * t.b) = p.a * (2 * v.b) + p.b * (2 * v.a) + p.c * (2 * v.d) - p.d * (2 * v.c) := by rw [d2]; grind (splits := 0)
  rw [a1, a2, a3, a4] at l2; rw [b1, b2, b3, b4] at m2
  have e2 : 2 * (2 * s.b) = 2 * (2 * t.b) := by rw [l2, m2]; grind (splits := 0)
  have l3 : 2 * (2 * s.c) = (2 * u.a) * r.c - (2 * u.b) * r.d + (2 * u.c) * r.a + (2 * u.d) * r.b := by rw [c3]; grind (splits := 0)
  have m3 : 2 * (2 * t.c) = p.a * (2 * v.c) - p.b * (2 * v.d) + p.c * (2 * v.a) + p.d * (2 * v.b) := by rw [d3]; grind (splits := 0)
  rw [a1, a2, a3, a4] at l3; rw [b1, b2, b3, b4] at m3
  have e3 : 2 * (2 * s.c) = 2 * (2 * t.c) := by rw [l3, m3]; grind (splits := 0)
  have l4 : 2 * (2 * s.d) = (2 * u.a) * r.d + (2 * u.b) * r.c - (2 * u.c) * r.b + (2 * u.d) * r.a := by rw [c4]; grind (splits := 0)
  have m4 : 2 * (2 * t.d) = p.a * (2 * v.d) + p.b * (2 * v.c) - p.c * (2 * v.b) + p.d * (2 * v.a) := by rw [d4]; grind (splits := 0)
  rw [a1, a2, a3, a4] at l4; rw [b1, b2, b3, b4] at m4
  have e4 : 2 * (2 * s.d) = 2 * (2 * t.d) := by rw [l4, m4]; grind (splits := 0)
  exact Hur.ext (by omega) (by omega) (by omega) (by omega)
theorem mul_add (p q r : Hur) : p * (q + r) = p * q + p * r := by
  have a1 := mul_a p (q + r); have a2 := mul_b p (q + r); have a3 := mul_c p (q + r); have a4 := mul_d p (q + r)
  have b1 := mul_a p q; have b2 := mul_b p q; have b3 := mul_c p q; have b4 := mul_d p q
  have c1 := mul_a p r; have c2 := mul_b p r; have c3 := mul_c p r; have c4 := mul_d p r
  simp only [add_a, add_b, add_c, add_d] at *
  refine Hur.ext ?_ ?_ ?_ ?_ <;> simp only [add_a, add_b, add_c, add_d] <;> grind
theorem add_mul (p q r : Hur) : (p + q) * r = p * r + q * r := by
  have a1 := mul_a (p + q) r; have a2 := mul_b (p + q) r; have a3 := mul_c (p + q) r; have a4 := mul_d (p + q) r
  have b1 := mul_a p r; have b2 := mul_b p r; have b3 := mul_c p r; have b4 := mul_d p r
  have c1 := mul_a q r; have c2 := mul_b q r; have c3 := mul_c q r; have c4 := mul_d q r
  simp only [add_a, add_b, add_c, add_d] at *
  refine Hur.ext ?_ ?_ ?_ ?_ <;> simp only [add_a, add_b, add_c, add_d] <;> grind
end Hur
end HQ
namespace HQ
namespace Hur
def N (p : Hur) : Int := (p.a * p.a + p.b * p.b + p.c * p.c + p.d * p.d) / 4
theorem four_N (p : Hur) : 4 * N p = p.a * p.a + p.b * p.b + p.c * p.c + p.d * p.d := by
  obtain ⟨a, b, c, d, h⟩ := p
  unfold par at h
  obtain ⟨b', rfl⟩ : ∃ b', b = a + 2 * b' := ⟨(b - a) / 2, by omega⟩
  obtain ⟨c', rfl⟩ : ∃ c', c = a + 2 * c' := ⟨(c - a) / 2, by omega⟩
  obtain ⟨d', rfl⟩ : ∃ d', d = a + 2 * d' := ⟨(d - a) / 2, by omega⟩
  have e : a * a + (a + 2 * b') * (a + 2 * b') + (a + 2 * c') * (a + 2 * c') + (a + 2 * d') * (a + 2 * d') = 4 * (a * a + a * (b' + c' + d') + b' * b' + c' * c' + d' * d') := by grind
  simp only [N, e]
  omega
theorem sq_nonneg (x : Int) : 0 ≤ x * x := by
  rcases Int.le_total 0 x with h | h
  · exact Int.mul_nonneg h h
  · exact Int.mul_nonneg_of_nonpos_of_nonpos h h
theorem N_nonneg (p : Hur) : 0 ≤ N p := by
  have := four_N p; have := sq_nonneg p.a; have := sq_nonneg p.b; have := sq_nonneg p.c; have := sq_nonneg p.d; omega
theorem sq_zero {x : Int} (h : x * x ≤ 0) : x = 0 := by
  rcases Int.lt_trichotomy x 0 with z | z | z
  · have := Int.mul_pos_of_neg_of_neg z z; omega
  · exact z
  · have := Int.mul_pos z z; omega
def zero : Hur := whole 0
def one : Hur := whole 1
theorem N_zero_iff {p : Hur} : N p = 0 ↔ p = zero := by
  constructor
  · intro h
    have e := four_N p; have := sq_nonneg p.a; have := sq_nonneg p.b; have := sq_nonneg p.c; have := sq_nonneg p.d
    exact Hur.ext (sq_zero (by omega)) (sq_zero (by omega)) (sq_zero (by omega)) (sq_zero (by omega))
  · rintro rfl; rfl
theorem N_pos {p : Hur} (h : p ≠ zero) : 0 < N p := by
  have := N_nonneg p
  have : N p ≠ 0 := fun e => h (N_zero_iff.mp e)
  omega
theorem N_mul (p q : Hur) : N (p * q) = N p * N q := by
  have a1 := mul_a p q; have a2 := mul_b p q; have a3 := mul_c p q; have a4 := mul_d p q
  have h := four_N (p * q); have hp := four_N p; have hq := four_N q
  generalize p * q = u at *
  have e : 4 * (4 * N u) = (2 * u.a) * (2 * u.a) + (2 * u.b) * (2 * u.b) + (2 * u.c) * (2 * u.c) + (2 * u.d) * (2 * u.d) := by rw [h]; grind (splits := 0)
  rw [a1, a2, a3, a4] at e
  have e2 : (4 * N p) * (4 * N q) = (p.a * p.a + p.b * p.b + p.c * p.c + p.d * p.d) * (q.a * q.a + q.b * q.b + q.c * q.c + q.d * q.d) := by rw [hp, hq]
  have e3 : 4 * (4 * N u) = (4 * N p) * (4 * N q) := by rw [e, e2]; grind (splits := 0)
  have e4 : (4 * N p) * (4 * N q) = 16 * (N p * N q) := by grind (splits := 0)
  omega
@[simp] theorem N_whole (n : Int) : N (whole n) = n * n := by
  have h := four_N (whole n); simp only [whole_a, whole_b, whole_c, whole_d] at h
  have : 2 * n * (2 * n) = 4 * (n * n) := by grind (splits := 0)
  omega
@[simp] theorem N_one : N one = 1 := rfl
@[simp] theorem N_zero : N zero = 0 := rfl
@[simp] theorem N_neg (p : Hur) : N (-p) = N p := by
  have h := four_N (-p); have k := four_N p; simp only [neg_a, neg_b, neg_c, neg_d, Int.neg_mul_neg] at h; omega
@[simp] theorem N_bar (p : Hur) : N (bar p) = N p := by
  have h := four_N (bar p); have k := four_N p; simp only [bar_a, bar_b, bar_c, bar_d, Int.neg_mul_neg] at h; omega
@[simp] theorem bar_bar (p : Hur) : bar (bar p) = p := by refine Hur.ext ?_ ?_ ?_ ?_ <;> simp
def sm (n : Int) (p : Hur) : Hur := ⟨n * p.a, n * p.b, n * p.c, n * p.d, by
  have h := p.h; unfold par at *; obtain ⟨h1, h2, h3⟩ := h
  refine ⟨?_, ?_, ?_⟩ <;> rw [Int.mul_emod] <;> conv => rhs; rw [Int.mul_emod]
  · rw [h1]
  · rw [h2]
  · rw [h3]⟩
@[simp] theorem sm_a (n : Int) (p : Hur) : (sm n p).a = n * p.a := rfl
@[simp] theorem sm_b (n : Int) (p : Hur) : (sm n p).b = n * p.b := rfl
@[simp] theorem sm_c (n : Int) (p : Hur) : (sm n p).c = n * p.c := rfl
@[simp] theorem sm_d (n : Int) (p : Hur) : (sm n p).d = n * p.d := rfl
theorem whole_mul (n : Int) (p : Hur) : whole n * p = sm n p := by
  have a1 := mul_a (whole n) p; have a2 := mul_b (whole n) p; have a3 := mul_c (whole n) p; have a4 := mul_d (whole n) p
  simp only [whole_a, whole_b, whole_c, whole_d] at *
  refine Hur.ext ?_ ?_ ?_ ?_ <;> simp only [sm_a, sm_b, sm_c, sm_d] <;> grind (splits := 0)
theorem mul_whole (n : Int) (p : Hur) : p * whole n = sm n p := by
  have a1 := mul_a p (whole n); have a2 := mul_b p (whole n); have a3 := mul_c p (whole n); have a4 := mul_d p (whole n)
  simp only [whole_a, whole_b, whole_c, whole_d] at *
  refine Hur.ext ?_ ?_ ?_ ?_ <;> simp only [sm_a, sm_b, sm_c, sm_d] <;> grind (splits := 0)
theorem sm_mul (n : Int) (p q : Hur) : sm n p * q = sm n (p * q) := by rw [← whole_mul, ← whole_mul, mul_assoc]
theorem mul_sm (n : Int) (p q : Hur) : p * sm n q = sm n (p * q) := by rw [← mul_whole, ← mul_whole, mul_assoc]
@[simp] theorem sm_one (p : Hur) : sm 1 p = p := by refine Hur.ext ?_ ?_ ?_ ?_ <;> simp
@[simp] theorem sm_zero (p : Hur) : sm 0 p = zero := by refine Hur.ext ?_ ?_ ?_ ?_ <;> simp [zero]
@[simp] theorem N_sm (n : Int) (p : Hur) : N (sm n p) = n * n * N p := by rw [← whole_mul, N_mul, N_whole]
@[simp] theorem bar_sm (n : Int) (p : Hur) : bar (sm n p) = sm n (bar p) := by refine Hur.ext ?_ ?_ ?_ ?_ <;> simp [Int.mul_neg]
@[simp] theorem bar_whole (n : Int) : bar (whole n) = whole n := by refine Hur.ext ?_ ?_ ?_ ?_ <;> simp
theorem mul_bar (p : Hur) : p * bar p = whole (N p) := by
  have a1 := mul_a p (bar p); have a2 := mul_b p (bar p); have a3 := mul_c p (bar p); have a4 := mul_d p (bar p)
  have h := four_N p
  simp only [bar_a, bar_b, bar_c, bar_d] at *
  refine Hur.ext ?_ ?_ ?_ ?_ <;> simp only [whole_a, whole_b, whole_c, whole_d] <;> grind (splits := 0)
theorem bar_mul_self (p : Hur) : bar p * p = whole (N p) := by
  have := mul_bar (bar p); rwa [bar_bar, N_bar] at this
@[simp] theorem one_mul (p : Hur) : one * p = p := by rw [one, whole_mul, sm_one]
@[simp] theorem mul_one (p : Hur) : p * one = p := by rw [one, mul_whole, sm_one]
@[simp] theorem zero_mul (p : Hur) : zero * p = zero := by rw [zero, whole_mul, sm_zero]; rfl
@[simp] theorem mul_zero (p : Hur) : p * zero = zero := by rw [zero, mul_whole, sm_zero]; rfl
@[simp] theorem add_zero (p : Hur) : p + zero = p := by refine Hur.ext ?_ ?_ ?_ ?_ <;> simp [zero]
@[simp] theorem zero_add (p : Hur) : zero + p = p := by refine Hur.ext ?_ ?_ ?_ ?_ <;> simp [zero]
@[simp] theorem sub_zero (p : Hur) : p - zero = p := by refine Hur.ext ?_ ?_ ?_ ?_ <;> simp [zero]
@[simp] theorem bar_zero : bar zero = zero := rfl
@[simp] theorem bar_one : bar one = one := rfl
theorem add_sub_cancel (p q : Hur) : p + (q - p) = q := by refine Hur.ext ?_ ?_ ?_ ?_ <;> simp <;> omega
theorem add_comm (p q : Hur) : p + q = q + p := by refine Hur.ext ?_ ?_ ?_ ?_ <;> simp <;> omega
theorem neg_eq_sm (p : Hur) : -p = sm (-1) p := by refine Hur.ext ?_ ?_ ?_ ?_ <;> simp
theorem sub_eq (p q : Hur) : p - q = p + sm (-1) q := by refine Hur.ext ?_ ?_ ?_ ?_ <;> simp <;> omega
theorem mul_neg (p q : Hur) : p * -q = -(p * q) := by rw [neg_eq_sm, mul_sm, neg_eq_sm]
theorem mul_sub (p q r : Hur) : p * (q - r) = p * q - p * r := by rw [sub_eq, mul_add, mul_sm, sub_eq]
theorem sub_mul (p q r : Hur) : (p - q) * r = p * r - q * r := by rw [sub_eq, add_mul, sm_mul, sub_eq]
theorem mul_eq_zero {p q : Hur} (h : p * q = zero) : p = zero ∨ q = zero := by
  have e : N p * N q = 0 := by rw [← N_mul, h]; rfl
  rcases Int.mul_eq_zero.mp e with z | z
  · exact .inl (N_zero_iff.mp z)
  · exact .inr (N_zero_iff.mp z)
theorem whole_inj {m n : Int} (h : whole m = whole n) : m = n := by have := congrArg Hur.a h; simp at this; omega
theorem whole_ne {n : Int} (h : n ≠ 0) : whole n ≠ zero := fun e => h (whole_inj e)
instance : Dvd Hur := ⟨fun g f => ∃ x, f = g * x⟩
theorem dvd_refl (p : Hur) : p ∣ p := ⟨one, (mul_one p).symm⟩
theorem dvd_trans {p q r : Hur} (h : p ∣ q) (k : q ∣ r) : p ∣ r := by
  obtain ⟨x, rfl⟩ := h; obtain ⟨y, rfl⟩ := k; exact ⟨x * y, mul_assoc _ _ _⟩
theorem dvd_zero (p : Hur) : p ∣ zero := ⟨zero, (mul_zero p).symm⟩
theorem dvd_mul_of {p q : Hur} (h : p ∣ q) (r : Hur) : p ∣ q * r := dvd_trans h ⟨r, rfl⟩
theorem dvd_add {p q r : Hur} (h : p ∣ q) (k : p ∣ r) : p ∣ q + r := by
  obtain ⟨x, rfl⟩ := h; obtain ⟨y, rfl⟩ := k; exact ⟨x + y, (mul_add _ _ _).symm⟩
def IsU (u : Hur) : Prop := N u = 1
end Hur
end HQ
namespace HQ
namespace Hur
def mk4 (t : Int × Int × Int × Int) : Hur := if h : par t.1 t.2.1 t.2.2.1 t.2.2.2 then ⟨t.1, t.2.1, t.2.2.1, t.2.2.2, h⟩ else zero
def unitRows : List (Int × Int × Int × Int) := [(-2,0,0,0),(-1,-1,-1,-1),(-1,-1,-1,1),(-1,-1,1,-1),(-1,-1,1,1),(-1,1,-1,-1),(-1,1,-1,1),(-1,1,1,-1),(-1,1,1,1),(0,-2,0,0),(0,0,-2,0),(0,0,0,-2),(0,0,0,2),(0,0,2,0),(0,2,0,0),(1,-1,-1,-1),(1,-1,-1,1),(1,-1,1,-1),(1,-1,1,1),(1,1,-1,-1),(1,1,-1,1),(1,1,1,-1),(1,1,1,1),(2,0,0,0)]
def units : List Hur := unitRows.map mk4
def lt4 (p q : Hur) : Bool := decide (p.a < q.a) || (decide (p.a = q.a) && (decide (p.b < q.b) || (decide (p.b = q.b) && (decide (p.c < q.c) || (decide (p.c = q.c) && decide (p.d < q.d))))))
theorem unit_small {u : Hur} (h : IsU u) : u.a.natAbs ≤ 2 ∧ u.b.natAbs ≤ 2 ∧ u.c.natAbs ≤ 2 ∧ u.d.natAbs ≤ 2 := by
  have e := four_N u; unfold IsU at h; rw [h] at e
  have h1 := sq_nonneg u.a; have h2 := sq_nonneg u.b; have h3 := sq_nonneg u.c; have h4 := sq_nonneg u.d
  have key : ∀ x : Int, x * x ≤ 4 → x.natAbs ≤ 2 := fun x hx => by
    rcases Nat.lt_or_ge 2 x.natAbs with z | z
    · have : 3 * 3 ≤ x.natAbs * x.natAbs := Nat.mul_le_mul z z
      have e : x * x = ((x.natAbs * x.natAbs : Nat) : Int) := by rw [Int.natAbs_mul_self]
      omega
    · exact z
  exact ⟨key _ (by omega), key _ (by omega), key _ (by omega), key _ (by omega)⟩
theorem unit_check : ∀ a ∈ [-2, -1, 0, 1, 2], ∀ b ∈ [-2, -1, 0, 1, 2], ∀ c ∈ [-2, -1, 0, 1, 2], ∀ d ∈ [(-2 : Int), -1, 0, 1, 2], a * a + b * b + c * c + d * d = 4 → par a b c d → (a, b, c, d) ∈ unitRows := by decide +kernel
theorem mem_units {u : Hur} : u ∈ units ↔ IsU u := by
  constructor
  · have : ∀ u ∈ units, N u = 1 := by decide +kernel
    exact this u
  · intro h
    obtain ⟨h1, h2, h3, h4⟩ := unit_small h
    have e := four_N u; unfold IsU at h; rw [h] at e
    have l : ∀ x : Int, x.natAbs ≤ 2 → x ∈ [(-2 : Int), -1, 0, 1, 2] := fun x hx => by
      have : x = -2 ∨ x = -1 ∨ x = 0 ∨ x = 1 ∨ x = 2 := by omega
      simpa using this
    have m := unit_check u.a (l _ h1) u.b (l _ h2) u.c (l _ h3) u.d (l _ h4) e.symm u.h
    refine List.mem_map.mpr ⟨_, m, ?_⟩
    unfold mk4
    rw [dif_pos u.h]
/-- the best of a list -/
def best (p : Hur) : List Hur → Hur := List.foldl (fun b x => if lt4 b x then x else b) p
def assoc (q : Hur) : Hur := best q (units.map (q * ·))
/-- nearest even and odd halves -/
def evenOf (p : Hur) (n : Int) : Hur := ⟨2 * ((p.a + n) / (2 * n)), 2 * ((p.b + n) / (2 * n)), 2 * ((p.c + n) / (2 * n)), 2 * ((p.d + n) / (2 * n)), by unfold par; omega⟩
def oddOf (p : Hur) (n : Int) : Hur := ⟨2 * (p.a / (2 * n)) + 1, 2 * (p.b / (2 * n)) + 1, 2 * (p.c / (2 * n)) + 1, 2 * (p.d / (2 * n)) + 1, by unfold par; omega⟩
def far (p : Hur) (n : Int) (q : Hur) : Int := (p.a - n * q.a) * (p.a - n * q.a) + (p.b - n * q.b) * (p.b - n * q.b) + (p.c - n * q.c) * (p.c - n * q.c) + (p.d - n * q.d) * (p.d - n * q.d)
theorem far_eq (p : Hur) (n : Int) (q : Hur) : far p n q = 4 * N (p - sm n q) := by rw [four_N]; rfl
def near (p : Hur) (n : Int) : Hur := if far p n (evenOf p n) ≤ far p n (oddOf p n) then evenOf p n else oddOf p n
/-- one coordinate: with e = x - n * even, o = x - n * odd: |e| + |o| = n, so e² + o² ≤ n² -/
theorem coord {x n : Int} (h : 0 < n) : ∃ e o : Int, x - n * (2 * ((x + n) / (2 * n))) = e ∧ x - n * (2 * (x / (2 * n)) + 1) = o ∧ e * e + o * o ≤ n * n ∧ (e * e + o * o = n * n → e * e = 0 ∨ o * o = 0) := by
  refine ⟨_, _, rfl, rfl, ?_⟩
  have h2 : 0 < 2 * n := by omega
  have d1 := Int.emod_add_mul_ediv (x + n) (2 * n); have m1 := Int.emod_nonneg (x + n) (b := 2 * n) (by omega); have l1 := Int.emod_lt_of_pos (x + n) h2
  have d2 := Int.emod_add_mul_ediv x (2 * n); have m2 := Int.emod_nonneg x (b := 2 * n) (by omega); have l2 := Int.emod_lt_of_pos x h2
  generalize (x + n) / (2 * n) = q1 at *
  generalize x / (2 * n) = q2 at *
  generalize (x + n) % (2 * n) = r1 at *
  generalize x % (2 * n) = r2 at *
  have a1 : 2 * n * q1 = n * (2 * q1) := by grind (splits := 0)
  have a2 : 2 * n * q2 = n * (2 * q2) := by grind (splits := 0)
  have a3 : n * (2 * q2 + 1) = n * (2 * q2) + n := by grind (splits := 0)
  rw [a1] at d1; rw [a2] at d2; rw [a3]
  -- q1 = q2 or q1 = q2 + 1
  have hq : q1 = q2 ∨ q1 = q2 + 1 := by
    have e : n * (2 * q1) - n * (2 * q2) = 2 * (n * (q1 - q2)) := by grind (splits := 0)
    have b1 : 2 * (n * (q1 - q2)) < 4 * n := by omega
    have b2 : -(2 * n) < 2 * (n * (q1 - q2)) := by omega
    have c1 : q1 - q2 < 2 := by
      rcases Int.lt_or_le (q1 - q2) 2 with z | z
      · exact z
      · have := Int.mul_le_mul_of_nonneg_left z (Int.le_of_lt h); omega
    have c2 : -1 < q1 - q2 := by
      rcases Int.lt_or_le (-1) (q1 - q2) with z | z
      · exact z
      · have := Int.mul_le_mul_of_nonneg_left z (Int.le_of_lt h); omega
    omega
  have hs : ∀ e f : Int, 0 ≤ e → 0 ≤ f → e + f = n → e * e + f * f ≤ n * n ∧ (e * e + f * f = n * n → e * e = 0 ∨ f * f = 0) := fun e f he hf hn => by
    have : n * n = e * e + f * f + 2 * (e * f) := by rw [← hn]; grind (splits := 0)
    have p := Int.mul_nonneg he hf
    refine ⟨by omega, fun z => ?_⟩
    have : e * f = 0 := by omega
    rcases Int.mul_eq_zero.mp this with z | z
    · exact .inl (by rw [z]; rfl)
    · exact .inr (by rw [z]; rfl)
  have neg : ∀ z : Int, z * z = (-z) * (-z) := fun z => by rw [Int.neg_mul_neg]
  rcases hq with rfl | rfl
  · -- e = x - 2nq = r2 = r1 - n.. , o = r2 - n ≤ 0
    have h1 : x - n * (2 * q1) = r2 := by omega
    have h3 : x - (n * (2 * q1) + n) = -(n - r2) := by omega
    rw [h1, h3, ← neg]
    exact hs _ _ m2 (by omega) (by omega)
  · have a4 : n * (2 * (q2 + 1)) = n * (2 * q2) + 2 * n := by grind (splits := 0)
    rw [a4] at d1 ⊢
    have h1 : x - (n * (2 * q2) + 2 * n) = -(2 * n - r2) := by omega
    have h3 : x - (n * (2 * q2) + n) = r2 - n := by omega
    rw [h1, h3, ← neg]
    exact hs _ _ (by omega) (by omega) (by omega)
theorem near_lt (p : Hur) {n : Int} (h : 0 < n) : N (p - sm n (near p n)) < n * n := by
  have key : far p n (near p n) < 4 * (n * n) := by
    obtain ⟨e1, o1, h1, k1, l1, s1⟩ := coord (x := p.a) h
    obtain ⟨e2, o2, h2, k2, l2, s2⟩ := coord (x := p.b) h
    obtain ⟨e3, o3, h3, k3, l3, s3⟩ := coord (x := p.c) h
    obtain ⟨e4, o4, h4, k4, l4, s4⟩ := coord (x := p.d) h
    have fe : far p n (evenOf p n) = e1 * e1 + e2 * e2 + e3 * e3 + e4 * e4 := by simp only [far, evenOf, h1, h2, h3, h4]
    have fo : far p n (oddOf p n) = o1 * o1 + o2 * o2 + o3 * o3 + o4 * o4 := by simp only [far, oddOf, k1, k2, k3, k4]
    have nn : 0 < n * n := Int.mul_pos h h
    have z1 := sq_nonneg e1; have z2 := sq_nonneg e2; have z3 := sq_nonneg e3; have z4 := sq_nonneg e4
    have y1 := sq_nonneg o1; have y2 := sq_nonneg o2; have y3 := sq_nonneg o3; have y4 := sq_nonneg o4
    unfold near
    split
    · rw [fe]; rw [fe, fo] at *; omega
    · rw [fo]; rw [fe, fo] at *; omega
  rw [far_eq] at key; omega
def quo (p q : Hur) : Hur := near (bar q * p) (N q)
def rem (p q : Hur) : Hur := p - q * quo p q
theorem quo_rem (p q : Hur) : q * quo p q + rem p q = p := add_sub_cancel _ _
theorem rem_lt (p : Hur) {q : Hur} (h : q ≠ zero) : N (rem p q) < N q := by
  have hn := N_pos h
  have k := near_lt (bar q * p) hn
  have e : bar q * rem p q = bar q * p - sm (N q) (quo p q) := by
    unfold rem; rw [mul_sub, ← mul_assoc, bar_mul_self, whole_mul]
  have e2 : N q * N (rem p q) = N (bar q * p - sm (N q) (quo p q)) := by rw [← e, N_mul, N_bar]
  have : N q * N (rem p q) < N q * N q := by rw [e2]; exact k
  exact Int.lt_of_mul_lt_mul_left this (Int.le_of_lt hn)
structure IsG (g p q : Hur) : Prop where
  l : g ∣ p
  r : g ∣ q
  lin : ∃ x y, g = p * x + q * y
theorem IsG.symm {g p q : Hur} (h : IsG g p q) : IsG g q p := by
  obtain ⟨x, y, e⟩ := h.lin; exact ⟨h.r, h.l, y, x, by rw [e, add_comm]⟩
theorem IsG.base (p : Hur) : IsG p p zero := ⟨dvd_refl p, dvd_zero p, one, zero, by rw [mul_one, mul_zero, add_zero]⟩
theorem IsG.step {g p q : Hur} (h : IsG g q (rem p q)) : IsG g p q := by
  obtain ⟨x, y, e⟩ := h.lin
  have hp : g ∣ p := by have := dvd_add (dvd_mul_of h.l (quo p q)) h.r; rwa [quo_rem] at this
  refine ⟨hp, h.l, y, x - quo p q * y, ?_⟩
  rw [e]; unfold rem; rw [sub_mul, mul_sub, mul_assoc]
  refine Hur.ext ?_ ?_ ?_ ?_ <;> simp <;> omega
theorem exG (p q : Hur) : ∃ g, IsG g p q := by
  suffices H : ∀ (n : Nat) (p q : Hur), (N q).toNat = n → ∃ g, IsG g p q from H _ p q rfl
  intro n
  induction n using Nat.strongRecOn with
  | _ n ih =>
    intro p q e
    by_cases h : q = zero
    · subst h; exact ⟨p, IsG.base p⟩
    · have l := rem_lt p h
      have := N_nonneg (rem p q)
      obtain ⟨g, hg⟩ := ih (N (rem p q)).toNat (by omega) q (rem p q) rfl
      exact ⟨g, hg.step⟩
noncomputable def cl (p q : Hur) : Hur := assoc (exG p q).choose
end Hur
end HQ
namespace LK
open PySem PySem.Spec PyProof.Rows L2 G
abbrev Names : List Str := (["given", "tag", "number", "prime", "most", "name", "point", "first", "at", "kept", "whole", "units", "read", "halves", "size", "mirrored", "content", "divided", "text", "columns", "under", "still", "cube", "four", "spread", "rows", "image", "power", "own_turn", "plain"] : List Str) ++ (["of_ring", "turn", "coordinates", "ring", "turned", "steps", "one_in", "basis", "within", "narrowed", "points", "words", "word", "step", "either", "both", "single", "product", "factor", "table", "spots", "done", "past", "future", "held", "busy", "widest", "share", "limit", "change_limit"] : List Str) ++ (["names", "grain", "grains", "marks", "homes", "spread_of", "commands", "history", "set_grain", "check_new", "add_mark", "drop_mark", "execute", "state", "become", "apply", "apply_all", "undo", "redo", "twin", "blank", "tried", "running", "place", "block", "ask", "named", "long"] : List Str)
def w__law_feed : WS := (wSeq (wSet 1 (wArgs oList (waCons (wSl (wVarB 0) woNone (woSome (wC (.int 63)))) waNil))) (wSeq (wSet 2 (wBin (oAddA M0) (wC (.int 3819)) (wBin (oMulA M0) (wC (.int 7)) (wArgs oLen (waCons (wVarB 1) waNil))))) (wSeq (wFor (wiSeq (wVar 1)) (wgName 3) (wSet 2 (wBin (oMod) (wBin (oAddA M0) (wBin (oAddA M0) (wBin (oMulA M0) (wVarB 2) (wC (.int 16807))) (wBin (oMod) (wArgs oInt (waCons (wVarB 3) waNil)) (wC (.int 1000003)))) (wC (.int 5))) (wC (.int 2147483629))))) (wRet (wCell (waCons (wVar 1) (waCons (wC (.int 0)) (waCons (wC (.int 0)) (waCons (wVar 2) waNil)))))))))
def p__law_feed : WF := wfn 4 1 w__law_feed
theorem i__law_feed {a0 : D} {st : Store} {Q : QE} {R : XQ} (h : w__law_feed [.val a0, .no, .no, .no] st (fnW Q R)) : p__law_feed [a0] st Q R := ⟨rfl, h⟩
def w__law_take : WS := (wSeq (wIfS (wAndT (wBool (wBin oEqD (wBin oIx (wVarB 0) (wC (.int 2))) (wC (.int 0)))) (wBool (wBin oLtA (wBin oIx (wVarB 0) (wC (.int 1))) (wArgs oLen (waCons (wBin oIx (wVarB 0) (wC (.int 0))) waNil))))) (wSeq (wSet 2 (wBin oIx (wBin oIx (wVarB 0) (wC (.int 0))) (wBin oIx (wVarB 0) (wC (.int 1))))) (wSeq (wPut 0 (wC (.int 1)) (wBin (oAddA M0) (wBin oIx (wVarB 0) (wC (.int 1))) (wC (.int 1)))) (wIfS (wBool (wBin oGe (wVarB 2) (wBin (oPow) (wC (.int 10)) (wC (.int 18))))) (wPut 0 (wC (.int 2)) (wVar 2)) (wSeq (wSet 3 (wBin (oAddA M0) (wBin (oMulA M0) (wBin oIx (wVarB 0) (wC (.int 3))) (wC (.int 48271))) (wBin (oMod) (wArgs oInt (waCons (wVarB 2) waNil)) (wC (.int 2147483563))))) (wPut 0 (wC (.int 3)) (wBin (oMod) (wBin (oAddA M0) (wVarB 3) (wBin (oMulA M0) (wBin oIx (wVarB 0) (wC (.int 1))) (wC (.int 911)))) (wC (.int 2147483647)))))))) wNext) (wSeq (wIfS (wBool (wBin oGtA (wBin oIx (wVarB 0) (wC (.int 2))) (wC (.int 0)))) (wSeq (wSet 4 (wBin (oMod) (wArgs oInt (waCons (wBin oIx (wVarB 0) (wC (.int 2))) waNil)) (wVarB 1))) (wSeq (wPut 0 (wC (.int 2)) (wBin (oFdiv) (wBin oIx (wVarB 0) (wC (.int 2))) (wVarB 1))) (wRet (wVar 4)))) wNext) (wSeq (wPut 0 (wC (.int 3)) (wBin (oMod) (wBin (oAddA M0) (wBin (oMulA M0) (wBin oIx (wVarB 0) (wC (.int 3))) (wC (.int 69621))) (wC (.int 13))) (wC (.int 2147483647)))) (wRet (wBin (oMod) (wBin (oFdiv) (wBin (oMod) (wBin (oMulA M0) (wBin oIx (wVarB 0) (wC (.int 3))) (wArgs oInt (waCons (wBin oIx (wVarB 0) (wC (.int 3))) waNil))) (wC (.int 998244353))) (wC (.int 17))) (wVarB 1))))))
def p__law_take : WF := wfn 5 2 w__law_take
theorem i__law_take {a0 a1 : D} {st : Store} {Q : QE} {R : XQ} (h : w__law_take [.val a0, .val a1, .no, .no, .no] st (fnW Q R)) : p__law_take [a0, a1] st Q R := ⟨rfl, h⟩
def w_common : WS := (wSeq (wPar 0 1 (waCons (wArgs oAbs (waCons (wVarB 0) waNil)) (waCons (wArgs oAbs (waCons (wVarB 1) waNil)) waNil))) (wSeq (wWhile (wBool (wBin oNeD (wVarB 1) (wC (.int 0)))) (wPar 0 1 (waCons (wVar 1) (waCons (wBin (oMod) (wVarB 0) (wVarB 1)) waNil)))) (wRet (wVar 0))))
def p_common : WF := wfn 2 2 w_common
def w_is_halves : WS := (wRet (wAnd (wBin oEqD (wArgs oLen (waCons (wVarB 0) waNil)) (wC (.int 4))) (wBin oEqD (wLenIs (wiSeq (wVar 0)) [1] (wgName 1) (wBin (oMod) (wVarB 1) (wC (.int 2)))) (wC (.int 1)))))
def p_is_halves : WF := wfn 2 1 w_is_halves
theorem i_is_halves {a0 : D} {st : Store} {Q : QE} {R : XQ} (h : w_is_halves [.val a0, .no] st (fnW Q R)) : p_is_halves [a0] st Q R := ⟨rfl, h⟩
def F_Four___init__ : Nat → Nat → Bool := addF 18 9 (F0)
def w_Four___init__ : WS := (wSeq (wIfS (wNotT (wBool (wCall p_is_halves (waCons (wVar 1) waNil)))) wNever wNext) (wFld F_Four___init__ 9 (wVar 0) (wVar 1)))
def p_Four___init__ : WF := wstar 2 1 w_Four___init__
theorem i_Four___init__ {a0 : D} {rest : List D} {st : Store} {Q : QE} {R : XQ} (hz : rest.length ≤ sizeLine) (h : w_Four___init__ [.val a0, .val (.tup rest)] st (fnW Q R)) : p_Four___init__ (a0 :: rest) st Q R := ⟨[a0], rest, rfl, rfl, hz, rfl, h⟩
def T_Four___add__ : Nat → Nat → Option WF := P0
def F_Four___add__ : Nat → Nat → Bool := addF 18 9 (F0)
def w_Four___add__ : WS := (wSeq (wSet 2 (wLc (wiZipA (waCons (wUn (oAtt F_Four___add__ T_Four___add__ 9) (wVarB 0)) (waCons (wUn (oAtt F_Four___add__ T_Four___add__ 9) (wVarB 1)) waNil))) [3, 4] (wgTup 2 (wgsCons (wgName 3) (wgsCons (wgName 4) wgsNil))) wYes (wBin (oAddA M0) (wVarB 3) (wVarB 4)))) (wRet (wMkS true 18 p_Four___init__ (wVarB 2))))
def p_Four___add__ : WF := wfn 5 2 w_Four___add__
theorem i_Four___add__ {a0 a1 : D} {st : Store} {Q : QE} {R : XQ} (h : w_Four___add__ [.val a0, .val a1, .no, .no, .no] st (fnW Q R)) : p_Four___add__ [a0, a1] st Q R := ⟨rfl, h⟩
def IL_Four___eq__ : IsL := [((18, 18), true)]
def T_Four___eq__ : Nat → Nat → Option WF := P0
def F_Four___eq__ : Nat → Nat → Bool := addF 18 9 (F0)
def w_Four___eq__ : WS := (wRet (wAnd (wArgs (oIsi (isOf IL_Four___eq__)) (waCons (wVarB 1) (waCons (wC (.cls 18)) waNil))) (wBin oEqD (wUn (oAtt F_Four___eq__ T_Four___eq__ 9) (wVarB 0)) (wUn (oAtt F_Four___eq__ T_Four___eq__ 9) (wVarB 1)))))
def p_Four___eq__ : WF := wfn 2 2 w_Four___eq__
theorem i_Four___eq__ {a0 a1 : D} {st : Store} {Q : QE} {R : XQ} (h : w_Four___eq__ [.val a0, .val a1] st (fnW Q R)) : p_Four___eq__ [a0, a1] st Q R := ⟨rfl, h⟩
def T_Four___mul__ : Nat → Nat → Option WF := P0
def F_Four___mul__ : Nat → Nat → Bool := addF 18 9 (F0)
def w_Four___mul__ : WS := (wSeq (wAsg (wUn (oAtt F_Four___mul__ T_Four___mul__ 9) (wVarB 0)) (wgTup 4 (wgsCons (wgName 2) (wgsCons (wgName 3) (wgsCons (wgName 4) (wgsCons (wgName 5) wgsNil)))))) (wSeq (wAsg (wUn (oAtt F_Four___mul__ T_Four___mul__ 9) (wVarB 1)) (wgTup 4 (wgsCons (wgName 6) (wgsCons (wgName 7) (wgsCons (wgName 8) (wgsCons (wgName 9) wgsNil)))))) (wSeq (wSet 10 (wLst (waCons (wBin (oSub M0) (wBin (oSub M0) (wBin (oSub M0) (wBin (oMulA M0) (wVarB 2) (wVarB 6)) (wBin (oMulA M0) (wVarB 3) (wVarB 7))) (wBin (oMulA M0) (wVarB 4) (wVarB 8))) (wBin (oMulA M0) (wVarB 5) (wVarB 9))) (waCons (wBin (oSub M0) (wBin (oAddA M0) (wBin (oAddA M0) (wBin (oMulA M0) (wVarB 2) (wVarB 7)) (wBin (oMulA M0) (wVarB 3) (wVarB 6))) (wBin (oMulA M0) (wVarB 4) (wVarB 9))) (wBin (oMulA M0) (wVarB 5) (wVarB 8))) (waCons (wBin (oAddA M0) (wBin (oAddA M0) (wBin (oSub M0) (wBin (oMulA M0) (wVarB 2) (wVarB 8)) (wBin (oMulA M0) (wVarB 3) (wVarB 9))) (wBin (oMulA M0) (wVarB 4) (wVarB 6))) (wBin (oMulA M0) (wVarB 5) (wVarB 7))) (waCons (wBin (oAddA M0) (wBin (oSub M0) (wBin (oAddA M0) (wBin (oMulA M0) (wVarB 2) (wVarB 9)) (wBin (oMulA M0) (wVarB 3) (wVarB 8))) (wBin (oMulA M0) (wVarB 4) (wVarB 7))) (wBin (oMulA M0) (wVarB 5) (wVarB 6))) waNil)))))) (wSeq (wSet 10 (wLc (wiSeq (wVar 10)) [11] (wgName 11) wYes (wBin (oFdiv) (wVarB 11) (wC (.int 2))))) (wRet (wMkS true 18 p_Four___init__ (wVarB 10)))))))
def p_Four___mul__ : WF := wfn 12 2 w_Four___mul__
theorem i_Four___mul__ {a0 a1 : D} {st : Store} {Q : QE} {R : XQ} (h : w_Four___mul__ [.val a0, .val a1, .no, .no, .no, .no, .no, .no, .no, .no, .no, .no] st (fnW Q R)) : p_Four___mul__ [a0, a1] st Q R := ⟨rfl, h⟩
def T_Four___neg__ : Nat → Nat → Option WF := P0
def F_Four___neg__ : Nat → Nat → Bool := addF 18 9 (F0)
def w_Four___neg__ : WS := (wSeq (wSet 1 (wLc (wiSeq (wUn (oAtt F_Four___neg__ T_Four___neg__ 9) (wVarB 0))) [2] (wgName 2) wYes (wUn (oNeg M0) (wVarB 2)))) (wRet (wMkS true 18 p_Four___init__ (wVarB 1))))
def p_Four___neg__ : WF := wfn 3 1 w_Four___neg__
theorem i_Four___neg__ {a0 : D} {st : Store} {Q : QE} {R : XQ} (h : w_Four___neg__ [.val a0, .no, .no] st (fnW Q R)) : p_Four___neg__ [a0] st Q R := ⟨rfl, h⟩
def T_Four___sub__ : Nat → Nat → Option WF := P0
def F_Four___sub__ : Nat → Nat → Bool := addF 18 9 (F0)
def w_Four___sub__ : WS := (wSeq (wSet 2 (wLc (wiZipA (waCons (wUn (oAtt F_Four___sub__ T_Four___sub__ 9) (wVarB 0)) (waCons (wUn (oAtt F_Four___sub__ T_Four___sub__ 9) (wVarB 1)) waNil))) [3, 4] (wgTup 2 (wgsCons (wgName 3) (wgsCons (wgName 4) wgsNil))) wYes (wBin (oSub M0) (wVarB 3) (wVarB 4)))) (wRet (wMkS true 18 p_Four___init__ (wVarB 2))))
def p_Four___sub__ : WF := wfn 5 2 w_Four___sub__
theorem i_Four___sub__ {a0 a1 : D} {st : Store} {Q : QE} {R : XQ} (h : w_Four___sub__ [.val a0, .val a1, .no, .no, .no] st (fnW Q R)) : p_Four___sub__ [a0, a1] st Q R := ⟨rfl, h⟩
def T_Four_halves : Nat → Nat → Option WF := P0
def F_Four_halves : Nat → Nat → Bool := addF 18 9 (F0)
def w_Four_halves : WS := (wRet (wUn (oAtt F_Four_halves T_Four_halves 9) (wVarB 0)))
def p_Four_halves : WF := wfn 1 1 w_Four_halves
theorem i_Four_halves {a0 : D} {st : Store} {Q : QE} {R : XQ} (h : w_Four_halves [.val a0] st (fnW Q R)) : p_Four_halves [a0] st Q R := ⟨rfl, h⟩
def T_Four_mirrored : Nat → Nat → Option WF := P0
def F_Four_mirrored : Nat → Nat → Bool := addF 18 9 (F0)
def w_Four_mirrored : WS := (wSeq (wAsg (wUn (oAtt F_Four_mirrored T_Four_mirrored 9) (wVarB 0)) (wgTup 4 (wgsCons (wgName 1) (wgsCons (wgName 2) (wgsCons (wgName 3) (wgsCons (wgName 4) wgsNil)))))) (wRet (wMk true 18 p_Four___init__ (waCons (wVar 1) (waCons (wUn (oNeg M0) (wVarB 2)) (waCons (wUn (oNeg M0) (wVarB 3)) (waCons (wUn (oNeg M0) (wVarB 4)) waNil)))))))
def p_Four_mirrored : WF := wfn 5 1 w_Four_mirrored
theorem i_Four_mirrored {a0 : D} {st : Store} {Q : QE} {R : XQ} (h : w_Four_mirrored [.val a0, .no, .no, .no, .no] st (fnW Q R)) : p_Four_mirrored [a0] st Q R := ⟨rfl, h⟩
def w__law_back : WS := (wRet (wTup (waCons (wBin oIx (wVarB 0) (wC (.int 0))) (waCons (wUn (oNeg M0) (wBin oIx (wVarB 0) (wC (.int 1)))) (waCons (wUn (oNeg M0) (wBin oIx (wVarB 0) (wC (.int 2)))) (waCons (wUn (oNeg M0) (wBin oIx (wVarB 0) (wC (.int 3)))) waNil))))))
def p__law_back : WF := wfn 1 1 w__law_back
theorem i__law_back {a0 : D} {st : Store} {Q : QE} {R : XQ} (h : w__law_back [.val a0] st (fnW Q R)) : p__law_back [a0] st Q R := ⟨rfl, h⟩
def w__law_four : WS := (wSeq (wAsg (wVar 0) (wgTup 4 (wgsCons (wgName 1) (wgsCons (wgName 2) (wgsCons (wgName 3) (wgsCons (wgName 4) wgsNil)))))) (wRet (wMk true 18 p_Four___init__ (waCons (wVar 1) (waCons (wVar 2) (waCons (wVar 3) (waCons (wVar 4) waNil)))))))
def p__law_four : WF := wfn 5 1 w__law_four
theorem i__law_four {a0 : D} {st : Store} {Q : QE} {R : XQ} (h : w__law_four [.val a0, .no, .no, .no, .no] st (fnW Q R)) : p__law_four [a0] st Q R := ⟨rfl, h⟩
def w__law_halves : WS := (wSeq (wSet 2 (wCall p__law_take (waCons (wVar 0) (waCons (wC (.int 2)) waNil)))) (wSeq (wOwn 3 waNil) (wSeq (wFor (wiR1 (waCons (wC (.int 4)) waNil)) (wgName 4) (wApp 3 (wBin (oAddA M0) (wBin (oMulA M0) (wC (.int 2)) (wBin (oSub M0) (wCall p__law_take (waCons (wVar 0) (waCons (wBin (oAddA M0) (wBin (oMulA M0) (wC (.int 2)) (wVarB 1)) (wC (.int 1))) waNil))) (wVarB 1))) (wVarB 2)))) (wSeq (wIfS (wBool (wBin oEqD (wVarB 3) (wLst (waCons (wC (.int 0)) (waCons (wC (.int 0)) (waCons (wC (.int 0)) (waCons (wC (.int 0)) waNil))))))) (wOwn 3 (waCons (wC (.int 2)) (waCons (wC (.int 0)) (waCons (wC (.int 0)) (waCons (wC (.int 0)) waNil))))) wNext) (wRet (wArgs oTuple (waCons (wVarB 3) waNil)))))))
def p__law_halves : WF := wfn 5 2 w__law_halves
theorem i__law_halves {a0 a1 : D} {st : Store} {Q : QE} {R : XQ} (h : w__law_halves [.val a0, .val a1, .no, .no, .no] st (fnW Q R)) : p__law_halves [a0, a1] st Q R := ⟨rfl, h⟩
def w__law_times : WS := (wSeq (wAsg (wVar 0) (wgTup 4 (wgsCons (wgName 2) (wgsCons (wgName 3) (wgsCons (wgName 4) (wgsCons (wgName 5) wgsNil)))))) (wSeq (wAsg (wVar 1) (wgTup 4 (wgsCons (wgName 6) (wgsCons (wgName 7) (wgsCons (wgName 8) (wgsCons (wgName 9) wgsNil)))))) (wSeq (wSet 10 (wBin (oFdiv) (wBin (oSub M0) (wBin (oSub M0) (wBin (oSub M0) (wBin (oMulA M0) (wVarB 2) (wVarB 6)) (wBin (oMulA M0) (wVarB 3) (wVarB 7))) (wBin (oMulA M0) (wVarB 4) (wVarB 8))) (wBin (oMulA M0) (wVarB 5) (wVarB 9))) (wC (.int 2)))) (wSeq (wSet 11 (wBin (oFdiv) (wBin (oSub M0) (wBin (oAddA M0) (wBin (oAddA M0) (wBin (oMulA M0) (wVarB 2) (wVarB 7)) (wBin (oMulA M0) (wVarB 3) (wVarB 6))) (wBin (oMulA M0) (wVarB 4) (wVarB 9))) (wBin (oMulA M0) (wVarB 5) (wVarB 8))) (wC (.int 2)))) (wSeq (wSet 12 (wBin (oFdiv) (wBin (oAddA M0) (wBin (oAddA M0) (wBin (oSub M0) (wBin (oMulA M0) (wVarB 2) (wVarB 8)) (wBin (oMulA M0) (wVarB 3) (wVarB 9))) (wBin (oMulA M0) (wVarB 4) (wVarB 6))) (wBin (oMulA M0) (wVarB 5) (wVarB 7))) (wC (.int 2)))) (wRet (wTup (waCons (wVar 10) (waCons (wVar 11) (waCons (wVar 12) (waCons (wBin (oFdiv) (wBin (oAddA M0) (wBin (oSub M0) (wBin (oAddA M0) (wBin (oMulA M0) (wVarB 2) (wVarB 9)) (wBin (oMulA M0) (wVarB 3) (wVarB 8))) (wBin (oMulA M0) (wVarB 4) (wVarB 7))) (wBin (oMulA M0) (wVarB 5) (wVarB 6))) (wC (.int 2))) waNil)))))))))))
def p__law_times : WF := wfn 13 2 w__law_times
theorem i__law_times {a0 a1 : D} {st : Store} {Q : QE} {R : XQ} (h : w__law_times [.val a0, .val a1, .no, .no, .no, .no, .no, .no, .no, .no, .no, .no, .no] st (fnW Q R)) : p__law_times [a0, a1] st Q R := ⟨rfl, h⟩
def T_Four_size : Nat → Nat → Option WF := P0
def F_Four_size : Nat → Nat → Bool := addF 18 9 (F0)
def w_Four_size : WS := (wRet (wBin (oFdiv) (wArgs oSum (waCons (wLc (wiSeq (wUn (oAtt F_Four_size T_Four_size 9) (wVarB 0))) [1] (wgName 1) wYes (wBin (oMulA M0) (wVarB 1) (wVarB 1))) waNil)) (wC (.int 4))))
def p_Four_size : WF := wfn 2 1 w_Four_size
theorem i_Four_size {a0 : D} {st : Store} {Q : QE} {R : XQ} (h : w_Four_size [.val a0, .no] st (fnW Q R)) : p_Four_size [a0] st Q R := ⟨rfl, h⟩
def w_Four_whole : WS := (wRet (wMk true 18 p_Four___init__ (waCons (wBin (oMulA M0) (wC (.int 2)) (wVarB 0)) (waCons (wC (.int 0)) (waCons (wC (.int 0)) (waCons (wC (.int 0)) waNil))))))
def p_Four_whole : WF := wfn 1 1 w_Four_whole
theorem i_Four_whole {a0 : D} {st : Store} {Q : QE} {R : XQ} (h : w_Four_whole [.val a0] st (fnW Q R)) : p_Four_whole [a0] st Q R := ⟨rfl, h⟩
def w__law_size : WS := (wRet (wBin (oFdiv) (wArgs oSum (waCons (wLc (wiSeq (wVar 0)) [1] (wgName 1) wYes (wBin (oMulA M0) (wVarB 1) (wVarB 1))) waNil)) (wC (.int 4))))
def p__law_size : WF := wfn 2 1 w__law_size
theorem i__law_size {a0 : D} {st : Store} {Q : QE} {R : XQ} (h : w__law_size [.val a0, .no] st (fnW Q R)) : p__law_size [a0] st Q R := ⟨rfl, h⟩
def w__law_pick : WS := (wRet (wBin oIx (wVarB 1) (wCall p__law_take (waCons (wVar 0) (waCons (wArgs oLen (waCons (wVarB 1) waNil)) waNil)))))
def p__law_pick : WF := wfn 2 2 w__law_pick
theorem i__law_pick {a0 a1 : D} {st : Store} {Q : QE} {R : XQ} (h : w__law_pick [.val a0, .val a1] st (fnW Q R)) : p__law_pick [a0, a1] st Q R := ⟨rfl, h⟩
def M_associate : MT := addM 18 .mul p_Four___mul__ (M0)
def T_associate : Nat → Nat → Option WF := addT 18 13 p_Four_halves (P0)
def F_associate : Nat → Nat → Bool := F0
def T_Four___bool__ : Nat → Nat → Option WF := P0
def F_Four___bool__ : Nat → Nat → Bool := addF 18 9 (F0)
def w_Four___bool__ : WS := (wRet (wArgs oAny (waCons (wLc (wiSeq (wUn (oAtt F_Four___bool__ T_Four___bool__ 9) (wVarB 0))) [1] (wgName 1) wYes (wBin oNeD (wVarB 1) (wC (.int 0)))) waNil)))
def p_Four___bool__ : WF := wfn 2 1 w_Four___bool__
def T_nearest : Nat → Nat → Option WF := addT 18 13 p_Four_halves (P0)
def F_nearest : Nat → Nat → Bool := F0
def M_divide_left : MT := addM 18 .bool p_Four___bool__ (addM 18 .mul p_Four___mul__ (addM 18 (.nm 15) p_Four_mirrored (addM 18 .sub p_Four___sub__ (M0))))
def T_divide_left : Nat → Nat → Option WF := addT 18 14 p_Four_size (P0)
def F_divide_left : Nat → Nat → Bool := F0
def M_common_left : MT := addM 18 .bool p_Four___bool__ (M0)
def M_divides_left : MT := addM 18 .bool p_Four___bool__ (M0)
def T_Turn_rows : Nat → Nat → Option WF := P0
def F_Turn_rows : Nat → Nat → Bool := addF 19 19 (F0)
def w_Turn_rows : WS := (wRet (wLc (wiR1 (waCons (wC (.int 3)) waNil)) [1] (wgName 1) wYes (wArgs oTuple (waCons (wLc (wiSeq (wUn (oAtt F_Turn_rows T_Turn_rows 19) (wVarB 0))) [2] (wgName 2) wYes (wBin oIx (wVarB 2) (wVarB 1))) waNil))))
def p_Turn_rows : WF := wfn 3 1 w_Turn_rows
def w_in_lowest : WS := (wSeq (wSet 2 (wVar 1)) (wSeq (wFor (wiSeq (wVar 0)) (wgName 3) (wSet 2 (wCall p_common (waCons (wVar 2) (waCons (wVar 3) waNil))))) (wRet (wTup (waCons (wArgs oTuple (waCons (wLc (wiSeq (wVar 0)) [3] (wgName 3) wYes (wBin (oFdiv) (wVarB 3) (wVarB 2))) waNil)) (waCons (wBin (oFdiv) (wVarB 1) (wVarB 2)) waNil))))))
def p_in_lowest : WF := wfn 4 2 w_in_lowest
def M_Turn_image : MT := addM 19 (.nm 25) p_Turn_rows (M0)
def T_Turn_image : Nat → Nat → Option WF := P0
def F_Turn_image : Nat → Nat → Bool := addF 19 20 (F0)
def w_Turn_image : WS := (wSeq (wSet 2 (wLc (wiSeq (wMeth M_Turn_image 25 (wVar 0) waNil)) [3] (wgName 3) wYes (wArgs oSum (waCons (wLc (wiZipA (waCons (wVar 3) (waCons (wVar 1) waNil))) [4, 5] (wgTup 2 (wgsCons (wgName 4) (wgsCons (wgName 5) wgsNil))) wYes (wBin (oMulA M_Turn_image) (wVarB 4) (wVarB 5))) waNil)))) (wRet (wCall p_in_lowest (waCons (wVar 2) (waCons (wUn (oAtt F_Turn_image T_Turn_image 20) (wVarB 0)) waNil)))))
def p_Turn_image : WF := wfn 6 2 w_Turn_image
def M_Turn___call__ : MT := addM 19 (.nm 26) p_Turn_image (M0)
def IL_Turn___eq__ : IsL := [((19, 19), true)]
def T_Turn___eq__ : Nat → Nat → Option WF := P0
def F_Turn___eq__ : Nat → Nat → Bool := addF 19 9 (F0)
def E_Turn___eq__ : Nat → Option WF := addE 18 p_Four___eq__ (T0)
def T_Four_content : Nat → Nat → Option WF := P0
def F_Four_content : Nat → Nat → Bool := addF 18 9 (F0)
def w_Four_content : WS := (wSeq (wSet 1 (wC (.int 0))) (wSeq (wFor (wiSeq (wUn (oAtt F_Four_content T_Four_content 9) (wVarB 0))) (wgName 2) (wSet 1 (wCall p_common (waCons (wVar 1) (waCons (wVar 2) waNil))))) (wSeq (wIfS (wBool (wBin oEqD (wVarB 1) (wC (.int 0)))) (wRet (wC (.int 0))) wNext) (wSeq (wSet 3 (wLc (wiSeq (wUn (oAtt F_Four_content T_Four_content 9) (wVarB 0))) [2] (wgName 2) wYes (wBin (oFdiv) (wVarB 2) (wVarB 1)))) (wRet (wIf (wBool (wCall p_is_halves (waCons (wArgs oTuple (waCons (wVarB 3) waNil)) waNil))) (wVar 1) (wBin (oFdiv) (wVarB 1) (wC (.int 2)))))))))
def p_Four_content : WF := wfn 4 1 w_Four_content
def M_Four_divided : MT := addM 18 (.nm 16) p_Four_content (M0)
def T_Four_divided : Nat → Nat → Option WF := P0
def F_Four_divided : Nat → Nat → Bool := addF 18 9 (F0)
def w_Four_divided : WS := (wSeq (wIfS (wOrT (wBool (wBin oEqD (wVarB 1) (wC (.int 0)))) (wBool (wBin oNeD (wBin (oMod) (wMeth M_Four_divided 16 (wVar 0) waNil) (wVarB 1)) (wC (.int 0))))) wNever wNext) (wSeq (wSet 2 (wLc (wiSeq (wUn (oAtt F_Four_divided T_Four_divided 9) (wVarB 0))) [3] (wgName 3) wYes (wBin (oFdiv) (wVarB 3) (wVarB 1)))) (wRet (wMkS true 18 p_Four___init__ (wVarB 2)))))
def p_Four_divided : WF := wfn 4 2 w_Four_divided
def M_lowest : MT := addM 18 (.nm 17) p_Four_divided (addM 18 (.nm 16) p_Four_content (addM 18 .neg p_Four___neg__ (M0)))
def T_lowest : Nat → Nat → Option WF := addT 18 13 p_Four_halves (P0)
def F_lowest : Nat → Nat → Bool := F0
def w_lowest : WS := (wSeq (wSet 1 (wMeth M_lowest 17 (wVar 0) (waCons (wMeth M_lowest 16 (wVar 0) waNil) waNil))) (wSeq (wFor (wiSeq (wUn (oAtt F_lowest T_lowest 13) (wVarB 1))) (wgName 2) (wIfS (wBool (wBin oNeD (wVarB 2) (wC (.int 0)))) (wRet (wIf (wBool (wBin oGtA (wVarB 2) (wC (.int 0)))) (wVar 1) (wUn (oNeg M_lowest) (wVarB 1)))) wNext)) (wRet (wVar 1))))
def p_lowest : WF := wfn 3 1 w_lowest
def M_table_of : MT := addM 18 .mul p_Four___mul__ (addM 18 (.nm 15) p_Four_mirrored (M0))
def T_table_of : Nat → Nat → Option WF := addT 18 13 p_Four_halves (addT 18 14 p_Four_size (P0))
def F_table_of : Nat → Nat → Bool := F0
def w_table_of : WS := (wSeq (wOwn 1 waNil) (wSeq (wFor (wiR2 (waCons (wC (.int 1)) (waCons (wC (.int 4)) waNil))) (wgName 2) (wSeq (wOwn 3 (waCons (wC (.int 0)) (waCons (wC (.int 0)) (waCons (wC (.int 0)) (waCons (wC (.int 0)) waNil))))) (wSeq (wPut 3 (wVarB 2) (wC (.int 2))) (wSeq (wFrz [3] (wSet 4 (wBin (oMulA M_table_of) (wBin (oMulA M_table_of) (wVarB 0) (wMkS true 18 p_Four___init__ (wVarB 3))) (wMeth M_table_of 15 (wVar 0) waNil)))) (wApp 1 (wArgs oTuple (waCons (wLc (wiSeq (wSl (wUn (oAtt F_table_of T_table_of 13) (wVarB 4)) (woSome (wC (.int 1))) woNone)) [6] (wgName 6) wYes (wBin (oFdiv) (wVarB 6) (wC (.int 2)))) waNil))))))) (wSeq (wSet 5 (wUn (oAtt F_table_of T_table_of 14) (wVarB 0))) (wSeq (wIfS (wBool (wBin oEqD (wBin (oMod) (wVarB 5) (wC (.int 2))) (wC (.int 0)))) (wFrz [1] (wRet (wTup (waCons (wLc (wiSeq (wVar 1)) [7] (wgName 7) wYes (wArgs oTuple (waCons (wLc (wiSeq (wVar 7)) [8] (wgName 8) wYes (wBin (oFdiv) (wVarB 8) (wC (.int 2)))) waNil))) (waCons (wBin (oFdiv) (wVarB 5) (wC (.int 2))) waNil))))) wNext) (wFrz [1] (wRet (wTup (waCons (wVar 1) (waCons (wVar 5) waNil)))))))))
def p_table_of : WF := wfn 9 1 w_table_of
def M_Turn___init__ : MT := addM 18 .bool p_Four___bool__ (M0)
def T_Turn___init__ : Nat → Nat → Option WF := P0
def F_Turn___init__ : Nat → Nat → Bool := addF 19 9 (addF 19 20 (addF 19 19 (F0)))
def w_Turn___init__ : WS := (wSeq (wIfS (wNotT (wTru M_Turn___init__ (wVarB 1))) wNever wNext) (wSeq (wFld F_Turn___init__ 9 (wVar 0) (wCall p_lowest (waCons (wVar 1) waNil))) (wAsg (wCall p_table_of (waCons (wUn (oAtt F_Turn___init__ T_Turn___init__ 9) (wVarB 0)) waNil)) (wgTup 2 (wgsCons (wgFld F_Turn___init__ 19 (wVar 0)) (wgsCons (wgFld F_Turn___init__ 20 (wVar 0)) wgsNil))))))
def p_Turn___init__ : WF := wfn 2 2 w_Turn___init__
def M_Turn___mul__ : MT := addM 18 .mul p_Four___mul__ (M0)
def T_Turn___mul__ : Nat → Nat → Option WF := P0
def F_Turn___mul__ : Nat → Nat → Bool := addF 19 9 (F0)
def w_Turn___mul__ : WS := (wRet (wMk true 19 p_Turn___init__ (waCons (wBin (oMulA M_Turn___mul__) (wUn (oAtt F_Turn___mul__ T_Turn___mul__ 9) (wVarB 0)) (wUn (oAtt F_Turn___mul__ T_Turn___mul__ 9) (wVarB 1))) waNil)))
def p_Turn___mul__ : WF := wfn 2 2 w_Turn___mul__
def M_Turn___neg__ : MT := addM 18 (.nm 15) p_Four_mirrored (M0)
def T_Turn___neg__ : Nat → Nat → Option WF := P0
def F_Turn___neg__ : Nat → Nat → Bool := addF 19 9 (F0)
def w_Turn___neg__ : WS := (wRet (wMk true 19 p_Turn___init__ (waCons (wMeth M_Turn___neg__ 15 (wUn (oAtt F_Turn___neg__ T_Turn___neg__ 9) (wVarB 0)) waNil) waNil)))
def p_Turn___neg__ : WF := wfn 1 1 w_Turn___neg__
def M_Turn_power : MT := addM 19 .neg p_Turn___neg__ (addM 19 .mul p_Turn___mul__ (M0))
def M_Grain_coordinates : MT := addM 19 .neg p_Turn___neg__ (addM 19 (.nm 26) p_Turn_image (M0))
def T_Grain_coordinates : Nat → Nat → Option WF := P0
def F_Grain_coordinates : Nat → Nat → Bool := addF 20 28 (F0)
def w_Grain_coordinates : WS := (wSeq (wSet 2 (wUn (oNeg M_Grain_coordinates) (wUn (oAtt F_Grain_coordinates T_Grain_coordinates 28) (wVarB 0)))) (wSeq (wAsg (wMeth M_Grain_coordinates 26 (wVar 2) (waCons (wVar 1) waNil)) (wgTup 2 (wgsCons (wgName 3) (wgsCons (wgName 4) wgsNil)))) (wRet (wIf (wBool (wBin oEqD (wVarB 4) (wC (.int 1)))) (wVar 3) (wC .non)))))
def p_Grain_coordinates : WF := wfn 5 2 w_Grain_coordinates
def M_Grain___contains__ : MT := addM 20 (.nm 32) p_Grain_coordinates (M0)
def T_Turn_four : Nat → Nat → Option WF := P0
def F_Turn_four : Nat → Nat → Bool := addF 19 9 (F0)
def w_Turn_four : WS := (wRet (wUn (oAtt F_Turn_four T_Turn_four 9) (wVarB 0)))
def p_Turn_four : WF := wfn 1 1 w_Turn_four
def M_odd_four : MT := addM 18 (.nm 17) p_Four_divided (addM 18 .mul p_Four___mul__ (M0))
def T_odd_four : Nat → Nat → Option WF := addT 19 23 p_Turn_four (addT 18 14 p_Four_size (P0))
def F_odd_four : Nat → Nat → Bool := F0
def T_Grain___init__ : Nat → Nat → Option WF := P0
def F_Grain___init__ : Nat → Nat → Bool := addF 20 9 (addF 20 28 (F0))
def T_Grain_turn : Nat → Nat → Option WF := P0
def F_Grain_turn : Nat → Nat → Bool := addF 20 28 (F0)
def w_Grain_turn : WS := (wRet (wUn (oAtt F_Grain_turn T_Grain_turn 28) (wVarB 0)))
def p_Grain_turn : WF := wfn 1 1 w_Grain_turn
def T_Grain_spread : Nat → Nat → Option WF := addT 18 14 p_Four_size (P0)
def F_Grain_spread : Nat → Nat → Bool := addF 20 9 (F0)
def w_Grain_spread : WS := (wRet (wUn (oAtt F_Grain_spread T_Grain_spread 14) (wUn (oAtt F_Grain_spread T_Grain_spread 9) (wVarB 0))))
def p_Grain_spread : WF := wfn 1 1 w_Grain_spread
def IL_Grain___eq__ : IsL := [((20, 20), true)]
def T_Grain___eq__ : Nat → Nat → Option WF := P0
def F_Grain___eq__ : Nat → Nat → Bool := addF 20 9 (F0)
def E_Grain___eq__ : Nat → Option WF := addE 18 p_Four___eq__ (T0)
def T_Grain_four : Nat → Nat → Option WF := P0
def F_Grain_four : Nat → Nat → Bool := addF 20 9 (F0)
def w_Grain_four : WS := (wRet (wUn (oAtt F_Grain_four T_Grain_four 9) (wVarB 0)))
def p_Grain_four : WF := wfn 1 1 w_Grain_four
def M_Grain_turned : MT := addM 19 .mul p_Turn___mul__ (M0)
def T_Grain_turned : Nat → Nat → Option WF := P0
def F_Grain_turned : Nat → Nat → Bool := addF 20 28 (F0)
def M_relative : MT := addM 19 .mul p_Turn___mul__ (addM 19 .neg p_Turn___neg__ (M0))
def T_relative : Nat → Nat → Option WF := addT 20 31 p_Grain_turn (P0)
def F_relative : Nat → Nat → Bool := F0
def T_spread : Nat → Nat → Option WF := addT 20 24 p_Grain_spread (P0)
def F_spread : Nat → Nat → Bool := F0
def M_midst : MT := addM 19 .mul p_Turn___mul__ (M0)
def T_midst : Nat → Nat → Option WF := addT 20 23 p_Grain_four (addT 20 31 p_Grain_turn (P0))
def F_midst : Nat → Nat → Bool := F0
end LK
namespace LK
open PySem PySem.Spec PyProof.Rows L2 G
local macro_rules | `(tactic| f_lean) => `(tactic| simp (config := { dsimp := false, failIfUnchanged := false, implicitDefEqProofs := false }) only [↓e_wNext, ↓e_wBin, ↓e_wUn, ↓e_wArgs, ↓e_wC, ↓e_waNil, ↓e_waCons, ↓e_wTup, ↓e_wLst, ↓e_wCell, ↓e_wNotT, ↓e_wIsN, ↓e_wNotN, ↓e_wTru, ↓e_wSl, ↓e_woNone, ↓e_wSet, ↓e_wRet, ↓e_wRetN, ↓e_wExpr, ↓e_wFrz, ↓e_wBrk, ↓e_wCnt, ↓e_wAsg, ↓e_wgName, ↓e_wOwn, ↓seqK_nx, ↓seqK_rt, ↓seqK_bk, ↓seqK_ct, ↓seqK_ex, ↓loopK_nx, ↓loopK_rt, ↓loopK_bk, ↓loopK_ct, ↓loopK_ex, ↓e_wSeq, iteW_t, iteW_f, ↓e_wCall, ↓e_wIfS, ↓e_wIf, ↓e_wAndT, ↓e_wOrT, ↓e_wFor, ↓e_wWhile, ↓e_wLc, ↓blW_b, ↓e_wBool, ↓e_wAnd, ↓e_wOr, ↓e_wNot, ↓e_wChain, ↓e_var0, ↓e_varS, ↓e_varB0, ↓e_varB1, ↓e_varBS, e_set0, e_setS, ↓e_add, ↓e_addS, ↓e_addL, ↓e_addO, ↓e_sub, ↓e_subO, ↓e_mul, ↓e_mulL, ↓e_mulO, ↓e_fdiv, ↓e_mod, ↓e_pow, ↓e_lt, ↓e_le, ↓e_gt, ↓e_ge, ↓e_neg, ↓e_negO, ↓e_eqI, ↓e_neI, ↓e_eqB, ↓e_neB, ↓e_eqS, ↓e_neS, getW_s, ↓e_ixL, ↓e_ixT, celW_s, ↓e_ixC, atI_0, atI_1, atI_2, atI_3, ixN_10, ixN_20, ixN_21, ixN_30, ixN_31, ixN_32, ixN_40, ixN_41, ixN_42, ixN_43, ixN_l0, ↓e_lenL, ↓e_lenT, ↓e_lenS, ↓e_abs, ↓e_intI, ↓e_intB, ↓e_listL, ↓e_listT, ↓e_tupleL, ↓e_tupleT, ↓e_slL, ↓intW_i, ↓e_woSome, ↓e_slR, ↓e_par, ↓e_parW, ↓e_gTup, ↓e_gTupL, ↓e_gsNil, ↓e_gsCons, ↓e_iLst, ↓lstW_i, ↓e_iTup, ↓tupW_i, ↓e_iR1, ↓r1W_i, ↓e_iR2, ↓r2W_i, ↓e_iZip, ↓zipW_l, ↓zipW_t, ↓e_put, e_putO, e_putC, natW_s, ↓e_aug, e_augV, ↓e_app, e_appV, ↓e_addI, ↓e_addIS, ↓e_subI, ↓e_mulI, ↓e_fdivI, e_frzN, e_frzO, e_frzV, e_frzX, e_frzS, e_frzC, ↓e_all, ↓e_any, ↓e_sum, blsW_s, intsW_s, ↓e_truN, ↓e_truB, ↓e_truI, ↓e_truL, ↓e_truT, ↓e_isiT, ↓e_isiC, ↓e_isiY, bo1W_s, isi_ii, isi_is, isi_ib, isi_it, isi_il, isi_bi, isi_bs, isi_bb, isi_bt, isi_bll, isi_ni, isi_ns, isi_nb, isi_nt, isi_nl, isi_si, isi_ss, isi_sb, isi_st, isi_sl, isi_ti, isi_ts, isi_tb, isi_tt, isi_tl, isi_li, isi_ls, isi_lb, isi_lt, isi_ll, isi_ds0, isi_dsT, isi_isI, isi_isS, isi_isB, isi_isN, isi_isT, isi_isL, ixZ_0, ixZ_1, ixZ_2, ixZ_3, ixZ_4, ixZ_5, ixZ_6, ixZ_7, ixZ_8, ixZ_9, ixZ_10, ixZ_11, ixZ_12, ixZ_13, ixZ_14, ixZ_15, ixZ_16, bo2_s, isi_dsF, ↓e_nonN, ↓e_nonI, ↓e_nonB, ↓e_nonS, ↓e_nonT, ↓e_nonL, ↓e_nonO, ↓fnW_rt, ↓fnW_nx, ↓fnW_ex, ↓e_wipe0, ↓e_wipe1, ↓e_wYes, mW_s, ↓e_callM, attW_p, attW_f, ↓e_attO, insW_s, ↓e_attC, e_getC, e_getN, e_putC', e_putN, ↓e_wMeth, ↓e_clsO, ↓e_clsC, mthW_s, mthZW_s, ownW_s, ↓e_eqOO, ↓e_neOO, ↓e_eqOI, ↓e_neOI, ↓e_eqOT, ↓e_neOT, ↓e_eqOL, ↓e_neOL, ↓e_eqTT, ↓e_neTT, ↓e_eqLL, ↓e_neLL, ↓e_wMk, ↓sqW_t, ↓sqW_l, ↓e_wMkS, ↓fldW_c, ↓e_wFld, st_last, st_setL, ↓e_wLenIs, e_addT, e_addF, e_addM, e_addE, e_F0, e_P0, e_T0, e_M0, e_lcN, e_lcC, e_zipC, e_zipN, e_intsN, e_intsC, e_blsN, e_blsC, e_ltz0, e_ltz1, e_ltz2, e_ltz3, e_ltz4, e_ltz5, e_ltz6, e_ltz7, e_ltz8, e_ltz9, e_ltz10, e_ltz11, e_ltz12, e_ltz13, e_ltz14, e_ltz15, e_ltz16, e_ltz17, e_ltz18, e_ltz19, e_ltz20, e_ltz21, e_ltz22, e_ltz23, e_ltz24, e_cst0, e_cst1, e_cst2, e_cst3, e_cst4, e_cst5, e_cst6, e_cst7, e_cst8, e_cst9, e_cst10, e_cst11, e_cst12, e_cst13, e_cst14, e_cst15, e_cst16, e_cst17, e_cst18, e_cst19, e_cst20, e_cst21, e_cst22, e_cst23, e_cst24, ↓e_wiSeq, ↓e_ext, e_extO, ↓gfldW_c, ↓e_wgFld, ↓e_wLcN, e_tskN, e_tskC, e_lpN, e_lpC, calW_s, ↓obW_o, ↓e_wCal, ↓e_srt, ↓e_max, max_2, ↓e_min, min_2, optW_s, ↓e_gtA, ↓e_ltA, ↓e_gtT, ↓e_ltT, lexD_4, ↓e_inL, ↓e_inT, ↓e_inO, ↓e_isBB, bneF, bneT, e_isiOb, e_isiIc, e_isiTc, e_isOf, ↓e_addAi, ↓e_addAs, ↓e_addAl, ↓e_addAt, ↓e_addAo, ↓e_mulAi, ↓e_mulAl, ↓e_mulAt, ↓e_mulAo, e_forN, e_forC, ↓e_iZipA, ↓zipAW_l, ↓zipAW_t, ↓zipAW_w, ↓zipAW_m, ↓e_truO, ↓e_wParO, ↓e_par3, ↓e_par3W, ↓e_eqLl, ↓e_neLl, e_oaN, e_oaC, F_Four___init__, T_Four___add__, F_Four___add__, IL_Four___eq__, T_Four___eq__, F_Four___eq__, T_Four___mul__, F_Four___mul__, T_Four___neg__, F_Four___neg__, T_Four___sub__, F_Four___sub__, T_Four_halves, F_Four_halves, T_Four_mirrored, F_Four_mirrored, T_Four_size, F_Four_size, M_associate, T_associate, F_associate, T_Four___bool__, F_Four___bool__, T_nearest, F_nearest, M_divide_left, T_divide_left, F_divide_left, M_common_left, M_divides_left, T_Turn_rows, F_Turn_rows, M_Turn_image, T_Turn_image, F_Turn_image, M_Turn___call__, IL_Turn___eq__, T_Turn___eq__, F_Turn___eq__, E_Turn___eq__, T_Four_content, F_Four_content, M_Four_divided, T_Four_divided, F_Four_divided, M_lowest, T_lowest, F_lowest, M_table_of, T_table_of, F_table_of, M_Turn___init__, T_Turn___init__, F_Turn___init__, M_Turn___mul__, T_Turn___mul__, F_Turn___mul__, M_Turn___neg__, T_Turn___neg__, F_Turn___neg__, M_Turn_power, M_Grain_coordinates, T_Grain_coordinates, F_Grain_coordinates, M_Grain___contains__, T_Turn_four, F_Turn_four, M_odd_four, T_odd_four, F_odd_four, T_Grain___init__, F_Grain___init__, T_Grain_turn, F_Grain_turn, T_Grain_spread, F_Grain_spread, IL_Grain___eq__, T_Grain___eq__, F_Grain___eq__, E_Grain___eq__, T_Grain_four, F_Grain_four, M_Grain_turned, T_Grain_turned, F_Grain_turned, M_relative, T_relative, F_relative, T_spread, F_spread, M_midst, T_midst, F_midst, List.reduceReplicate, List.flatten_cons, List.flatten_nil, List.append_nil, decide_true, decide_false, Bool.not_true, Bool.not_false, List.length_cons, List.length_nil, List.getElem?_cons_zero, List.getElem?_cons_succ, List.set_cons_zero, List.set_cons_succ, true_and, and_true, ne_eq, not_false_eq_true, not_true_eq_false, Nat.zero_add, reduceCtorEq, Mn.nm.injEq, and_self, and_false, false_and, Bool.true_or, Bool.or_true, Bool.or_false, Bool.false_or, Bool.and_self, Bool.and_true, Bool.true_and, Bool.and_false, Bool.false_and, List.nil_append, List.cons_append, Option.map_some, List.sum_cons, List.sum_nil, if_true, if_false, ↓reduceIte, beq_self_eq_true, eq_self, Nat.reduceAdd, Nat.reduceMul, Nat.reduceSub, Nat.reduceLT, Nat.reduceLeDiff, Nat.reduceEqDiff, Int.reduceAdd, Int.reduceMul, Int.reduceSub, Int.reduceNeg, Int.reducePow, Int.reduceLT, Int.reduceLE, Int.reduceEq, Int.reduceNe, Int.reduceToNat, Nat.reducePow])
/-- the feed's cell -/
def FC (c : Cell) : Prop := ∃ (ns : List Int) (i : Nat) (big mark : Int), c = .lst [.lst (ns.map D.int), .int i, .int big, .int mark] ∧ i ≤ ns.length ∧ ns.length ≤ 63 ∧ 0 ≤ big ∧ 0 ≤ mark ∧ mark < 2147483648
theorem FC.mk {ns : List Int} {i big mark : Int} (hi : 0 ≤ i) (hn : ns.length ≤ 63) (hi2 : i ≤ ns.length) (hb : 0 ≤ big) (h0 : 0 ≤ mark) (h1 : mark < 2147483648) : FC (.lst [.lst (ns.map D.int), .int i, .int big, .int mark]) := by
  obtain ⟨k, rfl⟩ := Int.eq_ofNat_of_zero_le hi
  exact ⟨ns, k, big, mark, rfl, by omega, hn, hb, h0, h1⟩
theorem log2_lt {i : Int} {k : Nat} (hk : 0 < k) (h : i.natAbs < 2 ^ k) : i.natAbs.log2 < k := by
  by_cases e : i.natAbs = 0
  · rw [e]; simpa using hk
  · exact (Nat.log2_lt e).mpr h
theorem mulOk {i j : Int} (k l : Nat) (hk : 0 < k) (hl : 0 < l) (hi : i.natAbs < 2 ^ k) (hj : j.natAbs < 2 ^ l) (h : k + l < 1000000) : G.MulOk i j := by
  have := log2_lt hk hi; have := log2_lt hl hj
  unfold G.MulOk; omega
theorem mulOk_of {i j : Int} (hi : -2147483648 ≤ i) (hi2 : i ≤ 2147483648) (hj : -2147483648 ≤ j) (hj2 : j ≤ 2147483648) : G.MulOk i j :=
  mulOk 32 32 (by decide) (by decide) (by omega) (by omega) (by decide)
theorem fmod_pos {i j : Int} (h : 0 < j) : Int.fmod i j = i % j := Int.fmod_eq_emod_of_nonneg i (by omega)
theorem fdiv_pos {i j : Int} (h : 0 < j) : Int.fdiv i j = i / j := Int.fdiv_eq_ediv_of_nonneg i (by omega)
theorem take_ok {c : Cell} {rest : Store} {many : Int} {Q : QE} {R : XQ} (hc : FC c) (hm : 0 < many) (hm2 : many < 2 ^ 200) (h : ∀ r c', FC c' → 0 ≤ r → r < many → Q (.int r) (c' :: rest)) : p__law_take [.cel 0, .int many] (c :: rest) Q R := by
  obtain ⟨ns, i, big, mark, rfl, hi, hn, hb, h0, h1⟩ := hc
  refine i__law_take ?_
  unfold w__law_take
  refine seq_i (fun e s => ∃ (ns : List Int) (i : Nat) (big mark : Int) (x y z : Slot), e = [.val (.cel 0), .val (.int many), x, y, z] ∧ s = .lst [.lst (ns.map D.int), .int i, .int big, .int mark] :: rest ∧ i ≤ ns.length ∧ ns.length ≤ 63 ∧ 0 ≤ big ∧ 0 ≤ mark ∧ mark < 2147483648) (fun K hK => ?_) ?_
  · f_lean
    refine iteW_i (fun hb0 => ?_) (fun hb0 => ?_)
    · f_lean
      refine iteW_i (fun hb1 => ?_) (fun hb1 => ?_)
      · have hlt : i < ns.length := by simpa using hb1
        f_lean
        refine getW_i (d := .int ns[i]) (by rw [G.atI_nat]; simp [hlt]) ?_
        f_lean
        refine ⟨⟨by omega, by omega, by decide⟩, iteW_i (fun hb2 => ?_) (fun hb2 => ?_)⟩
        · f_lean
          exact hK _ _ ⟨ns, i + 1, ns[i], mark, _, _, _, rfl, rfl, hlt, hn, by have := of_decide_eq_true hb2; omega, h0, h1⟩
        · f_lean
          refine ⟨mulOk_of (by omega) (by omega) (by omega) (by omega), ?_⟩
          f_lean
          rw [fmod_pos (i := ns[i]) (by omega)]
          refine ⟨mulOk_of (by omega) (by omega) (by omega) (by omega), ?_⟩
          rw [fmod_pos (by omega)]
          exact hK _ _ ⟨ns, i + 1, big, _, _, _, _, rfl, rfl, hlt, hn, hb, Int.emod_nonneg _ (by omega), Int.lt_trans (Int.emod_lt_of_pos _ (by omega)) (by decide)⟩
      · f_lean
        exact hK _ _ ⟨ns, i, big, mark, _, _, _, rfl, rfl, hi, hn, hb, h0, h1⟩
    · f_lean
      exact hK _ _ ⟨ns, i, big, mark, _, _, _, rfl, rfl, hi, hn, hb, h0, h1⟩
  · rintro _ _ ⟨ns, i, big, mark, x, y, z, rfl, rfl, hi, hn, hb, h0, h1⟩
    f_lean
    refine iteW_i (fun hb0 => ?_) (fun hb0 => ?_)
    · f_lean
      have hbp : 0 < big := of_decide_eq_true hb0
      refine ⟨by omega, ⟨by omega, .inr ⟨hm, ?_⟩⟩, ?_⟩
      · exact log2_lt (by decide) (show many.natAbs < 2 ^ 9000 from Nat.lt_trans (m := 2 ^ 200) (by omega) (Nat.pow_lt_pow_right (by decide) (by decide)))
      · rw [fmod_pos hm, fdiv_pos hm]
        exact h _ _ (FC.mk (by omega) hn (by omega) (Int.ediv_nonneg hb (by omega)) h0 h1) (Int.emod_nonneg _ (by omega)) (Int.emod_lt_of_pos _ hm)
    · f_lean
      refine ⟨mulOk_of (by omega) (by omega) (by omega) (by omega), ?_⟩
      rw [fmod_pos (i := mark * 69621 + 13) (by omega)]
      have e0 : 0 ≤ (mark * 69621 + 13) % 2147483647 := Int.emod_nonneg _ (by omega)
      have e1 : (mark * 69621 + 13) % 2147483647 < 2147483647 := Int.emod_lt_of_pos _ (by omega)
      refine ⟨mulOk_of (by omega) (by omega) (by omega) (by omega), ⟨by omega, .inl (by omega)⟩, by omega, ?_⟩
      rw [fmod_pos hm]
      exact h _ _ (FC.mk (by omega) hn (by omega) hb e0 (by omega)) (Int.emod_nonneg _ (by omega)) (Int.emod_lt_of_pos _ hm)
theorem cut63 (ns : List Int) : G.cutD (ns.map D.int) none (some 63) = (ns.take 63).map D.int := by
  unfold G.cutD
  rw [HT.sIx_none, show (some 63 : Option Int) = some ((63 : Nat) : Int) from rfl, HT.sIx_nat]
  simp [List.map_take]
theorem feed_ok {ns : List Int} {Q : QE} {R : XQ} (h : ∀ c, FC c → Q (.cel 0) [c]) : p__law_feed [.scr (ns.map D.int)] [] Q R := by
  refine i__law_feed ?_
  unfold w__law_feed
  f_lean
  rw [cut63]
  have hl : (List.map D.int (List.take 63 ns)).length ≤ 63 := by simp; omega
  refine ⟨mulOk_of (by omega) (by omega) (by omega) (by omega), ?_⟩
  refine forW_i (fun i e s => ∃ (mark : Int) (x y : Slot), e = [x, .val (.lst ((ns.take 63).map D.int)), .val (.int mark), y] ∧ s = [] ∧ 0 ≤ mark ∧ mark < 2147483629) ⟨_, _, _, rfl, rfl, by omega, by omega⟩ ?_ ?_
  · rintro i d _ _ hd ⟨mark, x, y, rfl, rfl, h0, h1⟩ K hK
    rw [List.getElem?_map] at hd
    obtain ⟨n, hn, rfl⟩ := Option.map_eq_some_iff.mp hd
    f_lean
    refine ⟨mulOk_of (by omega) (by omega) (by omega) (by omega), hK _ _ ⟨_, _, _, rfl, rfl, ?_, ?_⟩⟩
    · rw [fmod_pos (i := _ + _) (by omega)]; exact Int.emod_nonneg _ (by omega)
    · rw [fmod_pos (i := _ + _) (by omega)]; exact Int.emod_lt_of_pos _ (by omega)
  · rintro _ _ ⟨mark, x, y, rfl, rfl, h0, h1⟩
    f_lean
    refine h _ (FC.mk (by omega) ?_ (by omega) (by omega) h0 (by omega))
    simp; omega
end LK
namespace LK
open PySem PySem.Spec PyProof.Rows L2 G
local macro_rules | `(tactic| f_lean) => `(tactic| simp (config := { dsimp := false, failIfUnchanged := false, implicitDefEqProofs := false }) only [↓e_wNext, ↓e_wBin, ↓e_wUn, ↓e_wArgs, ↓e_wC, ↓e_waNil, ↓e_waCons, ↓e_wTup, ↓e_wLst, ↓e_wCell, ↓e_wNotT, ↓e_wIsN, ↓e_wNotN, ↓e_wTru, ↓e_wSl, ↓e_woNone, ↓e_wSet, ↓e_wRet, ↓e_wRetN, ↓e_wExpr, ↓e_wFrz, ↓e_wBrk, ↓e_wCnt, ↓e_wAsg, ↓e_wgName, ↓e_wOwn, ↓seqK_nx, ↓seqK_rt, ↓seqK_bk, ↓seqK_ct, ↓seqK_ex, ↓loopK_nx, ↓loopK_rt, ↓loopK_bk, ↓loopK_ct, ↓loopK_ex, ↓e_wSeq, iteW_t, iteW_f, ↓e_wCall, ↓e_wIfS, ↓e_wIf, ↓e_wAndT, ↓e_wOrT, ↓e_wFor, ↓e_wWhile, ↓e_wLc, ↓blW_b, ↓e_wBool, ↓e_wAnd, ↓e_wOr, ↓e_wNot, ↓e_wChain, ↓e_var0, ↓e_varS, ↓e_varB0, ↓e_varB1, ↓e_varBS, e_set0, e_setS, ↓e_add, ↓e_addS, ↓e_addL, ↓e_addO, ↓e_sub, ↓e_subO, ↓e_mul, ↓e_mulL, ↓e_mulO, ↓e_fdiv, ↓e_mod, ↓e_pow, ↓e_lt, ↓e_le, ↓e_gt, ↓e_ge, ↓e_neg, ↓e_negO, ↓e_eqI, ↓e_neI, ↓e_eqB, ↓e_neB, ↓e_eqS, ↓e_neS, getW_s, ↓e_ixL, ↓e_ixT, celW_s, ↓e_ixC, atI_0, atI_1, atI_2, atI_3, ixN_10, ixN_20, ixN_21, ixN_30, ixN_31, ixN_32, ixN_40, ixN_41, ixN_42, ixN_43, ixN_l0, ↓e_lenL, ↓e_lenT, ↓e_lenS, ↓e_abs, ↓e_intI, ↓e_intB, ↓e_listL, ↓e_listT, ↓e_tupleL, ↓e_tupleT, ↓e_slL, ↓intW_i, ↓e_woSome, ↓e_slR, ↓e_par, ↓e_parW, ↓e_gTup, ↓e_gTupL, ↓e_gsNil, ↓e_gsCons, ↓e_iLst, ↓lstW_i, ↓e_iTup, ↓tupW_i, ↓e_iR1, ↓r1W_i, ↓e_iR2, ↓r2W_i, ↓e_iZip, ↓zipW_l, ↓zipW_t, ↓e_put, e_putO, e_putC, natW_s, ↓e_aug, e_augV, ↓e_app, e_appV, ↓e_addI, ↓e_addIS, ↓e_subI, ↓e_mulI, ↓e_fdivI, e_frzN, e_frzO, e_frzV, e_frzX, e_frzS, e_frzC, ↓e_all, ↓e_any, ↓e_sum, blsW_s, intsW_s, ↓e_truN, ↓e_truB, ↓e_truI, ↓e_truL, ↓e_truT, ↓e_isiT, ↓e_isiC, ↓e_isiY, bo1W_s, isi_ii, isi_is, isi_ib, isi_it, isi_il, isi_bi, isi_bs, isi_bb, isi_bt, isi_bll, isi_ni, isi_ns, isi_nb, isi_nt, isi_nl, isi_si, isi_ss, isi_sb, isi_st, isi_sl, isi_ti, isi_ts, isi_tb, isi_tt, isi_tl, isi_li, isi_ls, isi_lb, isi_lt, isi_ll, isi_ds0, isi_dsT, isi_isI, isi_isS, isi_isB, isi_isN, isi_isT, isi_isL, ixZ_0, ixZ_1, ixZ_2, ixZ_3, ixZ_4, ixZ_5, ixZ_6, ixZ_7, ixZ_8, ixZ_9, ixZ_10, ixZ_11, ixZ_12, ixZ_13, ixZ_14, ixZ_15, ixZ_16, bo2_s, isi_dsF, ↓e_nonN, ↓e_nonI, ↓e_nonB, ↓e_nonS, ↓e_nonT, ↓e_nonL, ↓e_nonO, ↓fnW_rt, ↓fnW_nx, ↓fnW_ex, ↓e_wipe0, ↓e_wipe1, ↓e_wYes, mW_s, ↓e_callM, attW_p, attW_f, ↓e_attO, insW_s, ↓e_attC, e_getC, e_getN, e_putC', e_putN, ↓e_wMeth, ↓e_clsO, ↓e_clsC, mthW_s, mthZW_s, ownW_s, ↓e_eqOO, ↓e_neOO, ↓e_eqOI, ↓e_neOI, ↓e_eqOT, ↓e_neOT, ↓e_eqOL, ↓e_neOL, ↓e_eqTT, ↓e_neTT, ↓e_eqLL, ↓e_neLL, ↓e_wMk, ↓sqW_t, ↓sqW_l, ↓e_wMkS, ↓fldW_c, ↓e_wFld, st_last, st_setL, ↓e_wLenIs, e_addT, e_addF, e_addM, e_addE, e_F0, e_P0, e_T0, e_M0, e_lcN, e_lcC, e_zipC, e_zipN, e_intsN, e_intsC, e_blsN, e_blsC, e_ltz0, e_ltz1, e_ltz2, e_ltz3, e_ltz4, e_ltz5, e_ltz6, e_ltz7, e_ltz8, e_ltz9, e_ltz10, e_ltz11, e_ltz12, e_ltz13, e_ltz14, e_ltz15, e_ltz16, e_ltz17, e_ltz18, e_ltz19, e_ltz20, e_ltz21, e_ltz22, e_ltz23, e_ltz24, e_cst0, e_cst1, e_cst2, e_cst3, e_cst4, e_cst5, e_cst6, e_cst7, e_cst8, e_cst9, e_cst10, e_cst11, e_cst12, e_cst13, e_cst14, e_cst15, e_cst16, e_cst17, e_cst18, e_cst19, e_cst20, e_cst21, e_cst22, e_cst23, e_cst24, ↓e_wiSeq, ↓e_ext, e_extO, ↓gfldW_c, ↓e_wgFld, ↓e_wLcN, e_tskN, e_tskC, e_lpN, e_lpC, calW_s, ↓obW_o, ↓e_wCal, ↓e_srt, ↓e_max, max_2, ↓e_min, min_2, optW_s, ↓e_gtA, ↓e_ltA, ↓e_gtT, ↓e_ltT, lexD_4, ↓e_inL, ↓e_inT, ↓e_inO, ↓e_isBB, bneF, bneT, e_isiOb, e_isiIc, e_isiTc, e_isOf, ↓e_addAi, ↓e_addAs, ↓e_addAl, ↓e_addAt, ↓e_addAo, ↓e_mulAi, ↓e_mulAl, ↓e_mulAt, ↓e_mulAo, e_forN, e_forC, ↓e_iZipA, ↓zipAW_l, ↓zipAW_t, ↓zipAW_w, ↓zipAW_m, ↓e_truO, ↓e_wParO, ↓e_par3, ↓e_par3W, ↓e_eqLl, ↓e_neLl, e_oaN, e_oaC, F_Four___init__, T_Four___add__, F_Four___add__, IL_Four___eq__, T_Four___eq__, F_Four___eq__, T_Four___mul__, F_Four___mul__, T_Four___neg__, F_Four___neg__, T_Four___sub__, F_Four___sub__, T_Four_halves, F_Four_halves, T_Four_mirrored, F_Four_mirrored, T_Four_size, F_Four_size, M_associate, T_associate, F_associate, T_Four___bool__, F_Four___bool__, T_nearest, F_nearest, M_divide_left, T_divide_left, F_divide_left, M_common_left, M_divides_left, T_Turn_rows, F_Turn_rows, M_Turn_image, T_Turn_image, F_Turn_image, M_Turn___call__, IL_Turn___eq__, T_Turn___eq__, F_Turn___eq__, E_Turn___eq__, T_Four_content, F_Four_content, M_Four_divided, T_Four_divided, F_Four_divided, M_lowest, T_lowest, F_lowest, M_table_of, T_table_of, F_table_of, M_Turn___init__, T_Turn___init__, F_Turn___init__, M_Turn___mul__, T_Turn___mul__, F_Turn___mul__, M_Turn___neg__, T_Turn___neg__, F_Turn___neg__, M_Turn_power, M_Grain_coordinates, T_Grain_coordinates, F_Grain_coordinates, M_Grain___contains__, T_Turn_four, F_Turn_four, M_odd_four, T_odd_four, F_odd_four, T_Grain___init__, F_Grain___init__, T_Grain_turn, F_Grain_turn, T_Grain_spread, F_Grain_spread, IL_Grain___eq__, T_Grain___eq__, F_Grain___eq__, E_Grain___eq__, T_Grain_four, F_Grain_four, M_Grain_turned, T_Grain_turned, F_Grain_turned, M_relative, T_relative, F_relative, T_spread, F_spread, M_midst, T_midst, F_midst, List.reduceReplicate, List.flatten_cons, List.flatten_nil, List.append_nil, decide_true, decide_false, Bool.not_true, Bool.not_false, List.length_cons, List.length_nil, List.getElem?_cons_zero, List.getElem?_cons_succ, List.set_cons_zero, List.set_cons_succ, true_and, and_true, ne_eq, not_false_eq_true, not_true_eq_false, Nat.zero_add, reduceCtorEq, Mn.nm.injEq, and_self, and_false, false_and, Bool.true_or, Bool.or_true, Bool.or_false, Bool.false_or, Bool.and_self, Bool.and_true, Bool.true_and, Bool.and_false, Bool.false_and, List.nil_append, List.cons_append, Option.map_some, List.sum_cons, List.sum_nil, if_true, if_false, ↓reduceIte, beq_self_eq_true, eq_self, Nat.reduceAdd, Nat.reduceMul, Nat.reduceSub, Nat.reduceLT, Nat.reduceLeDiff, Nat.reduceEqDiff, Int.reduceAdd, Int.reduceMul, Int.reduceSub, Int.reduceNeg, Int.reducePow, Int.reduceLT, Int.reduceLE, Int.reduceEq, Int.reduceNe, Int.reduceToNat, Nat.reducePow])
open HQ HQ.Hur
/-- the object of a four; the tuple of its halves -/
abbrev fob (q : Hur) : D := .ob 18 [(9, .tup [.int q.a, .int q.b, .int q.c, .int q.d])]
abbrev hv (q : Hur) : D := .tup [.int q.a, .int q.b, .int q.c, .int q.d]
/-- halves of less than k bits -/
structure Sm (q : Hur) (k : Nat) : Prop where
  a : q.a.natAbs < 2 ^ k
  b : q.b.natAbs < 2 ^ k
  c : q.c.natAbs < 2 ^ k
  d : q.d.natAbs < 2 ^ k
theorem pow_mono {k m : Nat} (h : k ≤ m) : 2 ^ k ≤ 2 ^ m := Nat.pow_le_pow_right (by decide) h
theorem Sm.mono {q : Hur} {k m : Nat} (h : Sm q k) (hk : k ≤ m) : Sm q m := by
  have := pow_mono hk
  exact ⟨by have := h.a; omega, by have := h.b; omega, by have := h.c; omega, by have := h.d; omega⟩
theorem Sm.neg {q : Hur} {k : Nat} (h : Sm q k) : Sm (-q) k := ⟨by have := h.a; simp; omega, by have := h.b; simp; omega, by have := h.c; simp; omega, by have := h.d; simp; omega⟩
theorem Sm.bar {q : Hur} {k : Nat} (h : Sm q k) : Sm (Hur.bar q) k := ⟨by have := h.a; simp; omega, by have := h.b; simp; omega, by have := h.c; simp; omega, by have := h.d; simp; omega⟩
theorem Sm.add {p q : Hur} {k l m : Nat} (h : Sm p k) (g : Sm q l) (hm : max k l + 1 ≤ m) : Sm (p + q) m := by
  have h1 := pow_mono hm; have h2 := pow_mono (Nat.le_max_left k l); have h3 := pow_mono (Nat.le_max_right k l)
  rw [Nat.pow_succ] at h1
  have := h.a; have := h.b; have := h.c; have := h.d; have := g.a; have := g.b; have := g.c; have := g.d
  exact ⟨by simp; omega, by simp; omega, by simp; omega, by simp; omega⟩
theorem Sm.sub {p q : Hur} {k l m : Nat} (h : Sm p k) (g : Sm q l) (hm : max k l + 1 ≤ m) : Sm (p - q) m := by
  have h1 := pow_mono hm; have h2 := pow_mono (Nat.le_max_left k l); have h3 := pow_mono (Nat.le_max_right k l)
  rw [Nat.pow_succ] at h1
  have := h.a; have := h.b; have := h.c; have := h.d; have := g.a; have := g.b; have := g.c; have := g.d
  exact ⟨by simp; omega, by simp; omega, by simp; omega, by simp; omega⟩
theorem mul_small {x y : Int} {k l : Nat} (h : x.natAbs < 2 ^ k) (g : y.natAbs < 2 ^ l) : (x * y).natAbs < 2 ^ (k + l) := by
  rw [Int.natAbs_mul, Nat.pow_add]
  exact Nat.lt_of_le_of_lt (Nat.mul_le_mul_left _ (Nat.le_of_lt g)) ((Nat.mul_lt_mul_right (Nat.two_pow_pos l)).mpr h)
theorem h4a {x y z w r : Int} {P M : Nat} (h1 : x.natAbs < P) (h2 : y.natAbs < P) (h3 : z.natAbs < P) (h4 : w.natAbs < P) (hM : P * 2 ≤ M) (e : 2 * r = x - y - z - w) : r.natAbs < M := by omega
theorem h4b {x y z w r : Int} {P M : Nat} (h1 : x.natAbs < P) (h2 : y.natAbs < P) (h3 : z.natAbs < P) (h4 : w.natAbs < P) (hM : P * 2 ≤ M) (e : 2 * r = x + y + z - w) : r.natAbs < M := by omega
theorem h4c {x y z w r : Int} {P M : Nat} (h1 : x.natAbs < P) (h2 : y.natAbs < P) (h3 : z.natAbs < P) (h4 : w.natAbs < P) (hM : P * 2 ≤ M) (e : 2 * r = x - y + z + w) : r.natAbs < M := by omega
theorem h4d {x y z w r : Int} {P M : Nat} (h1 : x.natAbs < P) (h2 : y.natAbs < P) (h3 : z.natAbs < P) (h4 : w.natAbs < P) (hM : P * 2 ≤ M) (e : 2 * r = x + y - z + w) : r.natAbs < M := by omega
theorem Sm.mul {p q : Hur} {k l m : Nat} (h : Sm p k) (g : Sm q l) (hm : k + l + 1 ≤ m) : Sm (p * q) m := by
  have h1 := pow_mono hm
  rw [Nat.pow_succ] at h1
  exact ⟨h4a (mul_small h.a g.a) (mul_small h.b g.b) (mul_small h.c g.c) (mul_small h.d g.d) h1 (Hur.mul_a p q), h4b (mul_small h.a g.b) (mul_small h.b g.a) (mul_small h.c g.d) (mul_small h.d g.c) h1 (Hur.mul_b p q),
    h4c (mul_small h.a g.c) (mul_small h.b g.d) (mul_small h.c g.a) (mul_small h.d g.b) h1 (Hur.mul_c p q), h4d (mul_small h.a g.d) (mul_small h.b g.c) (mul_small h.c g.b) (mul_small h.d g.a) h1 (Hur.mul_d p q)⟩
theorem Sm.whole {n : Int} {k m : Nat} (h : n.natAbs < 2 ^ k) (hm : k + 1 ≤ m) : Sm (Hur.whole n) m := by
  have h1 := pow_mono hm
  rw [Nat.pow_succ] at h1
  have : 0 < 2 ^ k := Nat.two_pow_pos k
  exact ⟨by simp; omega, by simp; omega, by simp; omega, by simp; omega⟩
theorem Sm.N {q : Hur} {k : Nat} (h : Sm q k) : (Hur.N q).natAbs < 2 ^ (k + k) := by
  have e := four_N q
  have a1 := mul_small h.a h.a; have a2 := mul_small h.b h.b; have a3 := mul_small h.c h.c; have a4 := mul_small h.d h.d
  omega
theorem mulB {x y : Int} {k l : Nat} (h : x.natAbs < 2 ^ k) (g : y.natAbs < 2 ^ l) (hk : k ≤ 400000) (hl : l ≤ 400000) : G.MulOk x y := by
  refine mulOk (k + 1) (l + 1) (by omega) (by omega) ?_ ?_ (by omega)
  · have := pow_mono (show k ≤ k + 1 by omega); omega
  · have := pow_mono (show l ≤ l + 1 by omega); omega
theorem dv2 : DivOk 2 := ⟨by omega, .inl (by omega)⟩
/-- x has at most k bits; shut, so that no step looks into the power -/
structure Bt (x : Int) (k : Nat) : Prop where
  h : x.natAbs < 2 ^ k
theorem Bt.mono {x : Int} {k m : Nat} (h : Bt x k) (hm : k ≤ m) : Bt x m := ⟨Nat.lt_of_lt_of_le h.h (pow_mono hm)⟩
theorem bLit {x : Int} (h : x.natAbs < 2 ^ 40) : Bt x 40 := ⟨h⟩
theorem bAdd {x y : Int} {k l m : Nat} (h : Bt x k) (g : Bt y l) (hm : k + l + 1 ≤ m) : Bt (x + y) m := by
  have h := h.h; have g := g.h
  have h1 := pow_mono hm
  rw [Nat.pow_succ] at h1
  have h2 := pow_mono (show k ≤ k + l by omega); have h3 := pow_mono (show l ≤ k + l by omega)
  exact ⟨by omega⟩
theorem bSub {x y : Int} {k l m : Nat} (h : Bt x k) (g : Bt y l) (hm : k + l + 1 ≤ m) : Bt (x - y) m := by
  have h := h.h; have g := g.h
  have h1 := pow_mono hm
  rw [Nat.pow_succ] at h1
  have h2 := pow_mono (show k ≤ k + l by omega); have h3 := pow_mono (show l ≤ k + l by omega)
  exact ⟨by omega⟩
theorem bMul {x y : Int} {k l m : Nat} (h : Bt x k) (g : Bt y l) (hm : k + l ≤ m) : Bt (x * y) m := ⟨Nat.lt_of_lt_of_le (mul_small h.h g.h) (pow_mono hm)⟩
theorem bNeg {x : Int} {k : Nat} (h : Bt x k) : Bt (-x) k := ⟨by rw [Int.natAbs_neg]; exact h.h⟩
theorem bDiv {x y : Int} {k : Nat} (h : Bt x k) : Bt (x / y) k := ⟨Nat.lt_of_le_of_lt (Int.natAbs_ediv_le_natAbs x y) h.h⟩
theorem bFdiv {x y : Int} {k : Nat} (hy : 0 < y) (h : Bt x k) : Bt (x.fdiv y) k := by rw [fdiv_pos hy]; exact bDiv h
theorem bMod {x y : Int} {k : Nat} (h : Bt y k) (h0 : 0 < y) : Bt (x % y) k := by
  have h := h.h
  have := Int.emod_nonneg x (show y ≠ 0 by omega); have := Int.emod_lt_of_pos x h0; exact ⟨by omega⟩
theorem divB {j : Int} {k : Nat} (h0 : 0 < j) (h : Bt j k) (hk : k ≤ 8990) : DivOk j := by
  refine ⟨by omega, .inr ⟨h0, ?_⟩⟩
  have := log2_lt (i := j) (k := k + 1) (by omega) (Nat.lt_of_lt_of_le h.h (pow_mono (by omega)))
  omega
theorem Sm.le {p : Hur} {k l : Nat} (h : Sm p k) (hk : k ≤ l) : Sm p l := h.mono hk
theorem Sm.units {u : Hur} (h : u ∈ Hur.units) : Sm u 2 := by
  obtain ⟨h1, h2, h3, h4⟩ := unit_small (mem_units.mp h)
  exact ⟨by omega, by omega, by omega, by omega⟩
theorem Sm.ba {p : Hur} {k : Nat} (h : Sm p k) : Bt p.a k := ⟨h.a⟩
theorem Sm.bb {p : Hur} {k : Nat} (h : Sm p k) : Bt p.b k := ⟨h.b⟩
theorem Sm.bc {p : Hur} {k : Nat} (h : Sm p k) : Bt p.c k := ⟨h.c⟩
theorem Sm.bd {p : Hur} {k : Nat} (h : Sm p k) : Bt p.d k := ⟨h.d⟩
theorem Sm.bN {q : Hur} {k : Nat} (h : Sm q k) : Bt (Hur.N q) (k + k) := ⟨h.N⟩
theorem Sm.bwhole {n : Int} {k m : Nat} (h : Bt n k) (hm : k + 1 ≤ m) : Sm (Hur.whole n) m := Sm.whole h.h hm
theorem mulBt {x y : Int} {k l : Nat} (h : Bt x k) (g : Bt y l) (hk : k ≤ 400000) (hl : l ≤ 400000) : G.MulOk x y := mulB h.h g.h hk hl
theorem is_halves_ok {a b c d : Int} {st : Store} {Q : QE} {R : XQ} (q : Q (.bl (decide (par a b c d))) st) : p_is_halves [.tup [.int a, .int b, .int c, .int d]] st Q R := by
  refine i_is_halves ?_
  unfold w_is_halves
  f_lean
  refine isW_i (fun i acc s => s = st ∧ i ≤ 4 ∧ acc = (if i = 0 then [] else if i = 1 then [a % 2] else if i = 2 then (if b % 2 = a % 2 then [a % 2] else [a % 2, b % 2]) else if i = 3 then (if b % 2 = a % 2 ∧ c % 2 = a % 2 then [a % 2] else [a % 2, 1 - a % 2]) else (if par a b c d then [a % 2] else [a % 2, 1 - a % 2]))) ⟨rfl, by omega, rfl⟩ ?_ ?_
  · rintro i x acc s hx ⟨rfl, hi, rfl⟩ K hK
    have m : ∀ z : Int, z % 2 = 0 ∨ z % 2 = 1 := fun z => by omega
    match i, hx with
    | 0, hx =>
      simp at hx; subst hx
      f_lean
      rw [fmod_pos (by omega)]
      exact ⟨by simp [scanBound], hK _ _ ⟨rfl, by omega, by simp⟩⟩
    | 1, hx =>
      simp at hx; subst hx
      f_lean
      rw [fmod_pos (by omega)]
      refine ⟨by simp [scanBound], hK _ _ ⟨rfl, by omega, ?_⟩⟩
      by_cases h : b % 2 = a % 2 <;> simp [h]
    | 2, hx =>
      simp at hx; subst hx
      f_lean
      rw [fmod_pos (by omega)]
      refine ⟨by split <;> simp [scanBound], hK _ _ ⟨rfl, by omega, ?_⟩⟩
      by_cases h : b % 2 = a % 2
      · by_cases h2 : c % 2 = a % 2
        · simp [h, h2]
        · have : c % 2 = 1 - a % 2 := by have := m a; have := m c; omega
          simp [h, h2, this]
      · have e : b % 2 = 1 - a % 2 := by have := m a; have := m b; omega
        have : c % 2 = a % 2 ∨ c % 2 = b % 2 := by have := m a; have := m b; have := m c; omega
        rcases this with h2 | h2
        · simp [h, h2]; exact e
        · simp [h, h2]; exact e
    | 3, hx =>
      simp at hx; subst hx
      f_lean
      rw [fmod_pos (by omega)]
      refine ⟨by split <;> simp [scanBound], hK _ _ ⟨rfl, by omega, ?_⟩⟩
      by_cases h : b % 2 = a % 2 ∧ c % 2 = a % 2
      · by_cases h2 : d % 2 = a % 2
        · have : par a b c d := by unfold par; omega
          simp [h, h2, this]
        · have e : d % 2 = 1 - a % 2 := by have := m a; have := m d; omega
          have : ¬ par a b c d := by unfold par; omega
          simp [h, h2, this]; exact e
      · have hp : ¬ par a b c d := by unfold par; omega
        have : d % 2 = a % 2 ∨ d % 2 = 1 - a % 2 := by have := m a; have := m d; omega
        rcases this with h2 | h2 <;> simp [h, h2, hp]
    | n + 4, hx => simp at hx
  · rintro acc s ⟨rfl, _, rfl⟩
    f_lean
    by_cases h : par a b c d
    · simp [h] at q ⊢; simpa using q
    · simp [h] at q ⊢; simpa using q
theorem make_ok {a b c d : Int} (q : Hur) {st : Store} {Q : QE} {R : XQ} {x y} (k : Q (fob q) st) (ha : q.a = a := by rfl) (hb : q.b = b := by rfl) (hc : q.c = c := by rfl) (hd : q.d = d := by rfl) : mkW true 18 p_Four___init__ [.int a, .int b, .int c, .int d] st Q R x y := by
  subst ha hb hc hd
  refine mkW_v (i_Four___init__ (by show 4 ≤ sizeLine; decide) ?_)
  unfold w_Four___init__
  f_lean
  refine callW_i (is_halves_ok ?_)
  rw [decide_eq_true q.h]
  f_lean
  exact ⟨_, rfl, by simp [D.nocF, D.noc, D.nocs], k⟩
theorem add_ok {p q : Hur} {st : Store} {Q : QE} {R : XQ} (k : Q (fob (p + q)) st) : p_Four___add__ [fob p, fob q] st Q R := by
  refine i_Four___add__ ?_
  unfold w_Four___add__
  f_lean
  exact make_ok (p + q) k
theorem sub_ok {p q : Hur} {st : Store} {Q : QE} {R : XQ} (k : Q (fob (p - q)) st) : p_Four___sub__ [fob p, fob q] st Q R := by
  refine i_Four___sub__ ?_
  unfold w_Four___sub__
  f_lean
  exact make_ok (p - q) k
theorem neg_ok {p : Hur} {st : Store} {Q : QE} {R : XQ} (k : Q (fob (-p)) st) : p_Four___neg__ [fob p] st Q R := by
  refine i_Four___neg__ ?_
  unfold w_Four___neg__
  f_lean
  exact make_ok (-p) k
theorem halves_ok {p : Hur} {st : Store} {Q : QE} {R : XQ} (k : Q (hv p) st) : p_Four_halves [fob p] st Q R := by
  refine i_Four_halves ?_
  unfold w_Four_halves
  f_lean
  exact k
theorem mirrored_ok {p : Hur} {st : Store} {Q : QE} {R : XQ} (k : Q (fob (Hur.bar p)) st) : p_Four_mirrored [fob p] st Q R := by
  refine i_Four_mirrored ?_
  unfold w_Four_mirrored
  f_lean
  exact make_ok (Hur.bar p) k
theorem whole_ok {n : Int} {st : Store} {Q : QE} {R : XQ} {l : Nat} (hs : Bt n l) (hl : l ≤ 400000) (k : Q (fob (Hur.whole n)) st) : p_Four_whole [.int n] st Q R := by
  refine i_Four_whole ?_
  unfold w_Four_whole
  f_lean
  exact ⟨mulB (k := 10) (by decide) hs.h (by decide) hl, make_ok (Hur.whole n) k⟩
theorem eq_ok {p q : Hur} {st : Store} {Q : QE} {R : XQ} (k : Q (.bl (decide (p = q))) st) : p_Four___eq__ [fob p, fob q] st Q R := by
  refine i_Four___eq__ ?_
  unfold w_Four___eq__
  f_lean
  refine ⟨⟨rfl, rfl, by simp [D.dep, D.deps], by simp [D.dep, D.deps]⟩, ?_⟩
  have e : eqDs [.int p.a, .int p.b, .int p.c, .int p.d] [.int q.a, .int q.b, .int q.c, .int q.d] = decide (p = q) := by
    by_cases h : p = q
    · subst h; simp [eqDs, eqD]
    · rw [decide_eq_false h]
      have := mt Hur.ext_iff.mpr h
      simp [eqDs, eqD]
      intro h1 h2 h3 h4
      exact this ⟨h1, h2, h3, h4⟩
  rw [e]; exact k
theorem size_ok {p : Hur} {st : Store} {Q : QE} {R : XQ} {k : Nat} (h : Sm p k) (hk : k ≤ 400000) (q : Q (.int (Hur.N p)) st) : p_Four_size [fob p] st Q R := by
  refine i_Four_size ?_
  unfold w_Four_size
  f_lean
  refine ⟨mulB h.a h.a hk hk, mulB h.b h.b hk hk, mulB h.c h.c hk hk, mulB h.d h.d hk hk, ⟨by omega, .inl (by omega)⟩, ?_⟩
  rw [fdiv_pos (by omega), show p.a * p.a + (p.b * p.b + (p.c * p.c + (p.d * p.d + 0))) = p.a * p.a + p.b * p.b + p.c * p.c + p.d * p.d by omega]
  exact q
theorem mul_ok {p q : Hur} {st : Store} {Q : QE} {R : XQ} {k l : Nat} (h : Sm p k) (g : Sm q l) (hk : k ≤ 400000) (hl : l ≤ 400000) (c : Q (fob (p * q)) st) : p_Four___mul__ [fob p, fob q] st Q R := by
  refine i_Four___mul__ ?_
  unfold w_Four___mul__
  f_lean
  refine ⟨mulB h.a g.a hk hl, mulB h.b g.b hk hl, mulB h.c g.c hk hl, mulB h.d g.d hk hl, mulB h.a g.b hk hl, mulB h.b g.a hk hl, mulB h.c g.d hk hl, mulB h.d g.c hk hl, mulB h.a g.c hk hl, mulB h.b g.d hk hl, mulB h.c g.a hk hl, mulB h.d g.b hk hl, mulB h.a g.d hk hl, mulB h.b g.c hk hl, mulB h.c g.b hk hl, mulB h.d g.a hk hl, dv2, dv2, dv2, dv2, ?_⟩
  exact make_ok (p * q) c (by rw [fdiv_pos (by omega)]; rfl) (by rw [fdiv_pos (by omega)]; rfl) (by rw [fdiv_pos (by omega)]; rfl) (by rw [fdiv_pos (by omega)]; rfl)
end LK
namespace LK
open PySem PySem.Spec PyProof.Rows L2 G
local macro_rules | `(tactic| f_lean) => `(tactic| simp (config := { dsimp := false, failIfUnchanged := false, implicitDefEqProofs := false }) only [↓e_wNext, ↓e_wBin, ↓e_wUn, ↓e_wArgs, ↓e_wC, ↓e_waNil, ↓e_waCons, ↓e_wTup, ↓e_wLst, ↓e_wCell, ↓e_wNotT, ↓e_wIsN, ↓e_wNotN, ↓e_wTru, ↓e_wSl, ↓e_woNone, ↓e_wSet, ↓e_wRet, ↓e_wRetN, ↓e_wExpr, ↓e_wFrz, ↓e_wBrk, ↓e_wCnt, ↓e_wAsg, ↓e_wgName, ↓e_wOwn, ↓seqK_nx, ↓seqK_rt, ↓seqK_bk, ↓seqK_ct, ↓seqK_ex, ↓loopK_nx, ↓loopK_rt, ↓loopK_bk, ↓loopK_ct, ↓loopK_ex, ↓e_wSeq, iteW_t, iteW_f, ↓e_wCall, ↓e_wIfS, ↓e_wIf, ↓e_wAndT, ↓e_wOrT, ↓e_wFor, ↓e_wWhile, ↓e_wLc, ↓blW_b, ↓e_wBool, ↓e_wAnd, ↓e_wOr, ↓e_wNot, ↓e_wChain, ↓e_var0, ↓e_varS, ↓e_varB0, ↓e_varB1, ↓e_varBS, e_set0, e_setS, ↓e_add, ↓e_addS, ↓e_addL, ↓e_addO, ↓e_sub, ↓e_subO, ↓e_mul, ↓e_mulL, ↓e_mulO, ↓e_fdiv, ↓e_mod, ↓e_pow, ↓e_lt, ↓e_le, ↓e_gt, ↓e_ge, ↓e_neg, ↓e_negO, ↓e_eqI, ↓e_neI, ↓e_eqB, ↓e_neB, ↓e_eqS, ↓e_neS, getW_s, ↓e_ixL, ↓e_ixT, celW_s, ↓e_ixC, atI_0, atI_1, atI_2, atI_3, ixN_10, ixN_20, ixN_21, ixN_30, ixN_31, ixN_32, ixN_40, ixN_41, ixN_42, ixN_43, ixN_l0, ↓e_lenL, ↓e_lenT, ↓e_lenS, ↓e_abs, ↓e_intI, ↓e_intB, ↓e_listL, ↓e_listT, ↓e_tupleL, ↓e_tupleT, ↓e_slL, ↓intW_i, ↓e_woSome, ↓e_slR, ↓e_par, ↓e_parW, ↓e_gTup, ↓e_gTupL, ↓e_gsNil, ↓e_gsCons, ↓e_iLst, ↓lstW_i, ↓e_iTup, ↓tupW_i, ↓e_iR1, ↓r1W_i, ↓e_iR2, ↓r2W_i, ↓e_iZip, ↓zipW_l, ↓zipW_t, ↓e_put, e_putO, e_putC, natW_s, ↓e_aug, e_augV, ↓e_app, e_appV, ↓e_addI, ↓e_addIS, ↓e_subI, ↓e_mulI, ↓e_fdivI, e_frzN, e_frzO, e_frzV, e_frzX, e_frzS, e_frzC, ↓e_all, ↓e_any, ↓e_sum, blsW_s, intsW_s, ↓e_truN, ↓e_truB, ↓e_truI, ↓e_truL, ↓e_truT, ↓e_isiT, ↓e_isiC, ↓e_isiY, bo1W_s, isi_ii, isi_is, isi_ib, isi_it, isi_il, isi_bi, isi_bs, isi_bb, isi_bt, isi_bll, isi_ni, isi_ns, isi_nb, isi_nt, isi_nl, isi_si, isi_ss, isi_sb, isi_st, isi_sl, isi_ti, isi_ts, isi_tb, isi_tt, isi_tl, isi_li, isi_ls, isi_lb, isi_lt, isi_ll, isi_ds0, isi_dsT, isi_isI, isi_isS, isi_isB, isi_isN, isi_isT, isi_isL, ixZ_0, ixZ_1, ixZ_2, ixZ_3, ixZ_4, ixZ_5, ixZ_6, ixZ_7, ixZ_8, ixZ_9, ixZ_10, ixZ_11, ixZ_12, ixZ_13, ixZ_14, ixZ_15, ixZ_16, bo2_s, isi_dsF, ↓e_nonN, ↓e_nonI, ↓e_nonB, ↓e_nonS, ↓e_nonT, ↓e_nonL, ↓e_nonO, ↓fnW_rt, ↓fnW_nx, ↓fnW_ex, ↓e_wipe0, ↓e_wipe1, ↓e_wYes, mW_s, ↓e_callM, attW_p, attW_f, ↓e_attO, insW_s, ↓e_attC, e_getC, e_getN, e_putC', e_putN, ↓e_wMeth, ↓e_clsO, ↓e_clsC, mthW_s, mthZW_s, ownW_s, ↓e_eqOO, ↓e_neOO, ↓e_eqOI, ↓e_neOI, ↓e_eqOT, ↓e_neOT, ↓e_eqOL, ↓e_neOL, ↓e_eqTT, ↓e_neTT, ↓e_eqLL, ↓e_neLL, ↓e_wMk, ↓sqW_t, ↓sqW_l, ↓e_wMkS, ↓fldW_c, ↓e_wFld, st_last, st_setL, ↓e_wLenIs, e_addT, e_addF, e_addM, e_addE, e_F0, e_P0, e_T0, e_M0, e_lcN, e_lcC, e_zipC, e_zipN, e_intsN, e_intsC, e_blsN, e_blsC, e_ltz0, e_ltz1, e_ltz2, e_ltz3, e_ltz4, e_ltz5, e_ltz6, e_ltz7, e_ltz8, e_ltz9, e_ltz10, e_ltz11, e_ltz12, e_ltz13, e_ltz14, e_ltz15, e_ltz16, e_ltz17, e_ltz18, e_ltz19, e_ltz20, e_ltz21, e_ltz22, e_ltz23, e_ltz24, e_cst0, e_cst1, e_cst2, e_cst3, e_cst4, e_cst5, e_cst6, e_cst7, e_cst8, e_cst9, e_cst10, e_cst11, e_cst12, e_cst13, e_cst14, e_cst15, e_cst16, e_cst17, e_cst18, e_cst19, e_cst20, e_cst21, e_cst22, e_cst23, e_cst24, ↓e_wiSeq, ↓e_ext, e_extO, ↓gfldW_c, ↓e_wgFld, ↓e_wLcN, e_tskN, e_tskC, e_lpN, e_lpC, calW_s, ↓obW_o, ↓e_wCal, ↓e_srt, ↓e_max, max_2, ↓e_min, min_2, optW_s, ↓e_gtA, ↓e_ltA, ↓e_gtT, ↓e_ltT, lexD_4, ↓e_inL, ↓e_inT, ↓e_inO, ↓e_isBB, bneF, bneT, e_isiOb, e_isiIc, e_isiTc, e_isOf, ↓e_addAi, ↓e_addAs, ↓e_addAl, ↓e_addAt, ↓e_addAo, ↓e_mulAi, ↓e_mulAl, ↓e_mulAt, ↓e_mulAo, e_forN, e_forC, ↓e_iZipA, ↓zipAW_l, ↓zipAW_t, ↓zipAW_w, ↓zipAW_m, ↓e_truO, ↓e_wParO, ↓e_par3, ↓e_par3W, ↓e_eqLl, ↓e_neLl, e_oaN, e_oaC, F_Four___init__, T_Four___add__, F_Four___add__, IL_Four___eq__, T_Four___eq__, F_Four___eq__, T_Four___mul__, F_Four___mul__, T_Four___neg__, F_Four___neg__, T_Four___sub__, F_Four___sub__, T_Four_halves, F_Four_halves, T_Four_mirrored, F_Four_mirrored, T_Four_size, F_Four_size, M_associate, T_associate, F_associate, T_Four___bool__, F_Four___bool__, T_nearest, F_nearest, M_divide_left, T_divide_left, F_divide_left, M_common_left, M_divides_left, T_Turn_rows, F_Turn_rows, M_Turn_image, T_Turn_image, F_Turn_image, M_Turn___call__, IL_Turn___eq__, T_Turn___eq__, F_Turn___eq__, E_Turn___eq__, T_Four_content, F_Four_content, M_Four_divided, T_Four_divided, F_Four_divided, M_lowest, T_lowest, F_lowest, M_table_of, T_table_of, F_table_of, M_Turn___init__, T_Turn___init__, F_Turn___init__, M_Turn___mul__, T_Turn___mul__, F_Turn___mul__, M_Turn___neg__, T_Turn___neg__, F_Turn___neg__, M_Turn_power, M_Grain_coordinates, T_Grain_coordinates, F_Grain_coordinates, M_Grain___contains__, T_Turn_four, F_Turn_four, M_odd_four, T_odd_four, F_odd_four, T_Grain___init__, F_Grain___init__, T_Grain_turn, F_Grain_turn, T_Grain_spread, F_Grain_spread, IL_Grain___eq__, T_Grain___eq__, F_Grain___eq__, E_Grain___eq__, T_Grain_four, F_Grain_four, M_Grain_turned, T_Grain_turned, F_Grain_turned, M_relative, T_relative, F_relative, T_spread, F_spread, M_midst, T_midst, F_midst, List.reduceReplicate, List.flatten_cons, List.flatten_nil, List.append_nil, decide_true, decide_false, Bool.not_true, Bool.not_false, List.length_cons, List.length_nil, List.getElem?_cons_zero, List.getElem?_cons_succ, List.set_cons_zero, List.set_cons_succ, true_and, and_true, ne_eq, not_false_eq_true, not_true_eq_false, Nat.zero_add, reduceCtorEq, Mn.nm.injEq, and_self, and_false, false_and, Bool.true_or, Bool.or_true, Bool.or_false, Bool.false_or, Bool.and_self, Bool.and_true, Bool.true_and, Bool.and_false, Bool.false_and, List.nil_append, List.cons_append, Option.map_some, List.sum_cons, List.sum_nil, if_true, if_false, ↓reduceIte, beq_self_eq_true, eq_self, Nat.reduceAdd, Nat.reduceMul, Nat.reduceSub, Nat.reduceLT, Nat.reduceLeDiff, Nat.reduceEqDiff, Int.reduceAdd, Int.reduceMul, Int.reduceSub, Int.reduceNeg, Int.reducePow, Int.reduceLT, Int.reduceLE, Int.reduceEq, Int.reduceNe, Int.reduceToNat, Nat.reducePow])
local macro_rules | `(tactic| one_place) => `(tactic| first | ((with_reducible assumption)) | ((with_reducible apply Sm.mul (hm := Nat.le_refl _)); (focus one_place); (focus one_place)) | ((with_reducible apply Sm.add (hm := Nat.le_refl _)); (focus one_place); (focus one_place)) | ((with_reducible apply Sm.sub (hm := Nat.le_refl _)); (focus one_place); (focus one_place)) | ((with_reducible apply Sm.neg); one_place) | ((with_reducible apply Sm.bar); one_place) | ((with_reducible apply Sm.bwhole (hm := Nat.le_refl _)); (focus leaf_len)))
local macro_rules | `(tactic| leaf_len) => `(tactic| first | ((with_reducible assumption)) | exact bLit (by decide) | ((with_reducible apply Sm.bN); (focus one_place)) | ((with_reducible apply bMul (hm := Nat.le_refl _)); (focus leaf_len); (focus leaf_len)) | ((with_reducible apply bAdd (hm := Nat.le_refl _)); (focus leaf_len); (focus leaf_len)) | ((with_reducible apply bSub (hm := Nat.le_refl _)); (focus leaf_len); (focus leaf_len)) | ((with_reducible apply bNeg); leaf_len) | ((with_reducible apply bFdiv); (focus omega); leaf_len) | ((with_reducible apply bDiv); leaf_len) | ((with_reducible apply bMod); (focus leaf_len); omega) | ((with_reducible apply Sm.ba); one_place) | ((with_reducible apply Sm.bb); one_place) | ((with_reducible apply Sm.bc); one_place) | ((with_reducible apply Sm.bd); one_place))
local macro_rules | `(tactic| one_item) => `(tactic| first | ((with_reducible apply mulBt); (focus leaf_len); (focus leaf_len); (focus decide); (focus decide)) | ((with_reducible exact dv2)) | ((with_reducible apply divB); (focus omega); (focus leaf_len); (focus decide)) | exact ⟨rfl, rfl, by simp [D.dep, D.deps], by simp [D.dep, D.deps]⟩)
local macro_rules | `(tactic| w_left) => `(tactic| repeat ((with_reducible refine And.intro ?_ ?_); (focus one_item)))
open HQ HQ.Hur
theorem law_times_ok {p q : Hur} {st : Store} {Q : QE} {R : XQ} {k l : Nat} (h : Sm p k) (g : Sm q l) (hk : k ≤ 400000) (hl : l ≤ 400000) (c : Q (hv (p * q)) st) : p__law_times [hv p, hv q] st Q R := by
  refine i__law_times ?_
  unfold w__law_times
  f_lean
  refine ⟨mulB h.a g.a hk hl, mulB h.b g.b hk hl, mulB h.c g.c hk hl, mulB h.d g.d hk hl, dv2, mulB h.a g.b hk hl, mulB h.b g.a hk hl, mulB h.c g.d hk hl, mulB h.d g.c hk hl, dv2, mulB h.a g.c hk hl, mulB h.b g.d hk hl, mulB h.c g.a hk hl, mulB h.d g.b hk hl, dv2, mulB h.a g.d hk hl, mulB h.b g.c hk hl, mulB h.c g.b hk hl, mulB h.d g.a hk hl, dv2, ?_⟩
  rw [fdiv_pos (by omega), fdiv_pos (by omega), fdiv_pos (by omega), fdiv_pos (by omega)]
  exact c
theorem law_back_ok {p : Hur} {st : Store} {Q : QE} {R : XQ} (c : Q (hv (Hur.bar p)) st) : p__law_back [hv p] st Q R := by
  refine i__law_back ?_
  unfold w__law_back
  f_lean
  exact c
theorem law_four_ok {p : Hur} {st : Store} {Q : QE} {R : XQ} (c : Q (fob p) st) : p__law_four [hv p] st Q R := by
  refine i__law_four ?_
  unfold w__law_four
  f_lean
  exact make_ok p c
theorem law_size_ok {p : Hur} {st : Store} {Q : QE} {R : XQ} {k : Nat} (h : Sm p k) (hk : k ≤ 400000) (q : Q (.int (Hur.N p)) st) : p__law_size [hv p] st Q R := by
  refine i__law_size ?_
  unfold w__law_size
  f_lean
  refine ⟨mulB h.a h.a hk hk, mulB h.b h.b hk hk, mulB h.c h.c hk hk, mulB h.d h.d hk hk, ⟨by omega, .inl (by omega)⟩, ?_⟩
  rw [fdiv_pos (by omega), show p.a * p.a + (p.b * p.b + (p.c * p.c + (p.d * p.d + 0))) = p.a * p.a + p.b * p.b + p.c * p.c + p.d * p.d by omega]
  exact q
theorem law_pick_ok {c : Cell} {rest : Store} {ds : List D} {Q : QE} {R : XQ} (hc : FC c) (h0 : 0 < ds.length) (h1 : ds.length < 2 ^ 200) (q : ∀ c' d, FC c' → d ∈ ds → Q d (c' :: rest)) : p__law_pick [.cel 0, .lst ds] (c :: rest) Q R := by
  refine i__law_pick ?_
  unfold w__law_pick
  f_lean
  refine callW_i (take_ok hc (by omega) (by omega) fun o c hc o0 o1 => ?_)
  obtain ⟨n, rfl⟩ := Int.eq_ofNat_of_zero_le o0
  have hn : n < ds.length := by omega
  f_lean
  refine getW_i (d := ds[n]) (by rw [G.atI_nat]; simp [hn]) ?_
  exact q _ _ hc (List.getElem_mem _)
end LK
namespace LK
open PySem PySem.Spec PyProof.Rows L2 G
theorem sc_Four_halves : FnScope N_Four_halves ["self"] (defScope s_Four_halves) := ⟨rfl, rfl, rfl, by decide +kernel, rfl, by decide +kernel, by decide +kernel⟩
theorem ok_Four_halves {P : Program} {w : World} {C : Con} {mg : Str → Option Value} {base : Heap} {f p : Addr} (ck : ConOk C) (D : DefC C f "halves" "Four.halves" (defArgs s_Four_halves) (defBody s_Four_halves) (defScope s_Four_halves) ["self"]) (cc : Cls C.K (C.ca 18)) (pp : PropOf C.K (C.ca 18) (C.fn 13) p f)
    (c_Four : Cls C.K (C.ca 18)) (n_Four_kept : NoAttr C.K (C.ca 18) (C.fn 9)) (inj : ∀ i j, C.fn i = C.fn j → i = j) (hfn : C.fn = nameOf Names) (hmn : C.mn = C.fn) : PropR P w C mg base 18 13 1 p_Four_halves := by
  refine DefC.prop (k := 0) (wb := w_Four_halves) ck D sc_Four_halves cc pp fun cdv A outer s H E g W hr j => ?_
  exact (gss_one (gs_ret (g_att j (fok_cons c_Four n_Four_kept j.hK (fok_nil inj)) pok_nil 9 (congrFun hfn 9) (gb_var 0))))
theorem sc_is_halves : FnScope N_is_halves ["given"] (defScope s_is_halves) := ⟨rfl, rfl, rfl, by decide +kernel, rfl, by decide +kernel, by decide +kernel⟩
theorem ok_is_halves {P : Program} {w : World} {C : Con} {mg : Str → Option Value} {base : Heap} (ck : ConOk C) (D : DefAt C mg "is_halves" (defArgs s_is_halves) (defBody s_is_halves) (defScope s_is_halves) ["given"])
    (ts : TS C) (fr_len : mg "len" = none) : Fnp P w C mg base "is_halves" 1 1 p_is_halves := by
  refine Fnp.of (k := 0) (N := N_is_halves) (wb := w_is_halves) ck D sc_is_halves fun f cdv A outer s H E g W hr j => ?_
  exact (gss_one (gs_ret (g_and (g_cmp (og_eqD j) (PEg.b (g_blt call_len (ov_len j.hK) (by rfl) fr_len PySem.boot_len (gab_cons (gb_var 0) gab_nil))) (PEg.b g_int)) (g_bone (g_cmp (og_eqD j) (PEg.b (g_lenIs j ts [(("one" : Str), 1)] fr_len (gi_seq j (g_var 0)) (blkOk_by (by kernel_rfl)) (fun s_ H_ C_ cl_ fp_ => (gg_name (j.blk s_ H_ _ _ fp_) 1)) (fun s_ H_ C_ cl_ fp_ => (g_binop (og_mod) (gb_var 1) (PEg.b g_int))) (by decide) (by rfl))) (PEg.b g_int))))))
theorem sc_Four___init__ : FnScope N_Four___init__ ["self", "halves"] (defScope s_Four___init__) := ⟨rfl, rfl, rfl, by decide +kernel, rfl, by decide +kernel, by decide +kernel⟩
theorem ok_Four___init__ {P : Program} {w : World} {C : Con} {mg : Str → Option Value} {base : Heap} {f : Addr} (ck : ConOk C) (D : DefS C f "__init__" "Four.__init__" (defArgs s_Four___init__) (defBody s_Four___init__) (defScope s_Four___init__) ["self"] "halves")
    (h_is_halves : Fnp P w C mg base "is_halves" 1 1 p_is_halves) (c_Four : Cls C.K (C.ca 18)) (n_Four_kept : NoAttr C.K (C.ca 18) (C.fn 9)) (inj : ∀ i j, C.fn i = C.fn j → i = j) (hfn : C.fn = nameOf Names) (hmn : C.mn = C.fn) : Fna P w C mg base 3 f p_Four___init__ := by
  refine DefS.fna (k := 2) (wb := w_Four___init__) ck D sc_Four___init__ fun cdv A outer s H E g W hr j => ?_
  exact (gss_cons (gs_if (gt_not (gt_val (g_call j (h_is_halves.at j.hK hr) (by rfl) (ga_cons (g_var 1) ga_nil)))) (gss_one gs_never) gss_nil) (gss_one (gs_fld j (fok_cons c_Four n_Four_kept j.hK (fok_nil inj)) 9 (congrFun hfn 9) (g_var 0) (g_var 1))))
def w_term_text : WS := (wSeq (wSet 2 (wArgs oAbs (waCons (wVarB 0) waNil))) (wSeq (wIfS (wBool (wBin oEqD (wBin (oMod) (wVarB 2) (wC (.int 2))) (wC (.int 1)))) (wRet (wJs [(wUn oFmt (wVarB 2)), (wC (.str "/2")), (wUn oFmt (wVarB 1))] Str.empty)) wNext) (wSeq (wIfS (wAndT (wBool (wBin oEqD (wVarB 2) (wC (.int 2)))) (wBool (wBin oNeD (wVarB 1) (wC (.str ""))))) (wRet (wVar 1)) wNext) (wRet (wJs [(wUn oFmt (wBin (oFdiv) (wVarB 2) (wC (.int 2)))), (wUn oFmt (wVarB 1))] Str.empty)))))
def p_term_text : WF := wfn 3 2 w_term_text
theorem i_term_text {a0 a1 : D} {st : Store} {Q : QE} {R : XQ} (h : w_term_text [.val a0, .val a1, .no] st (fnW Q R)) : p_term_text [a0, a1] st Q R := ⟨rfl, h⟩
theorem sc_term_text : FnScope N_term_text ["half", "letter"] (defScope s_term_text) := ⟨rfl, rfl, rfl, by decide +kernel, rfl, by decide +kernel, by decide +kernel⟩
theorem ok_term_text {P : Program} {w : World} {C : Con} {mg : Str → Option Value} {base : Heap} (ck : ConOk C) (D : DefAt C mg "term_text" (defArgs s_term_text) (defBody s_term_text) (defScope s_term_text) ["half", "letter"])
    (fr_abs : mg "abs" = none) : Fnp P w C mg base "term_text" 2 1 p_term_text := by
  refine Fnp.of (k := 0) (N := N_term_text) (wb := w_term_text) ck D sc_term_text fun f cdv A outer s H E g W hr j => ?_
  exact (gss_cons (gs_set j 2 (g_blt call_abs ov_abs (by rfl) fr_abs (by decide +kernel) (gab_cons (gb_var 0) gab_nil))) (gss_cons (gs_if (gt_cmp (og_eqD j) (PEg.b (g_binop (og_mod) (gb_var 2) (PEg.b g_int))) (PEg.b g_int)) (gss_one (gs_ret (g_joined (PJg.cons (g_fmt (gb_var 2)) (PJg.cons g_str (PJg.cons (g_fmt (gb_var 1)) PJg.nil)))))) gss_nil) (gss_cons (gs_if (PWg.pt (gw_and (gt_cmp (og_eqD j) (gb_var 2) (PEg.b g_int)) (gw_and1 (gt_cmp (og_neD j) (gb_var 1) (PEg.b g_str))))) (gss_one (gs_ret (g_var 1))) gss_nil) (gss_one (gs_ret (g_joined (PJg.cons (g_fmt (PEg.b (g_binop (og_fdiv) (gb_var 2) (PEg.b g_int)))) (PJg.cons (g_fmt (gb_var 1)) PJg.nil))))))))
def w_four_text : WS := (wSeq (wOwn 1 waNil) (wSeq (wFor (wiZipA (waCons (wVar 0) (waCons (wC (.wtp [.str "", .str "i", .str "j", .str "k"])) waNil))) (wgTup 2 (wgsCons (wgName 2) (wgsCons (wgName 3) wgsNil))) (wIfS (wBool (wBin oNeD (wVarB 2) (wC (.int 0)))) (wSeq (wSet 4 (wIf (wBool (wBin oLtA (wVarB 2) (wC (.int 0)))) (wC (.str "-")) (wIf (wBool (wBin oNeD (wVarB 1) (wLst waNil))) (wC (.str "+")) (wC (.str ""))))) (wApp 1 (wBin (oAddA M0) (wVarB 4) (wCall p_term_text (waCons (wVar 2) (waCons (wVar 3) waNil)))))) wNext)) (wFrz [1] (wRet (wIf (wBool (wBin oNeD (wVarB 1) (wLst waNil))) (wTx oJoin (wC (.str "")) (wVarB 1)) (wC (.str "0")))))))
def p_four_text : WF := wfn 5 1 w_four_text
theorem i_four_text {a0 : D} {st : Store} {Q : QE} {R : XQ} (h : w_four_text [.val a0, .no, .no, .no, .no] st (fnW Q R)) : p_four_text [a0] st Q R := ⟨rfl, h⟩
theorem sc_four_text : FnScope N_four_text ["halves"] (defScope s_four_text) := ⟨rfl, rfl, rfl, by decide +kernel, rfl, by decide +kernel, by decide +kernel⟩
theorem ok_four_text {P : Program} {w : World} {C : Con} {mg : Str → Option Value} {base : Heap} (ck : ConOk C) (D : DefAt C mg "four_text" (defArgs s_four_text) (defBody s_four_text) (defScope s_four_text) ["halves"])
    (h_term_text : Fnp P w C mg base "term_text" 2 1 p_term_text) (k_LETTERS : GTup C.K mg "LETTERS" ["", "i", "j", "k"]) (fr_zip : mg "zip" = none) : Fnp P w C mg base "four_text" 1 3 p_four_text := by
  refine Fnp.of (k := 2) (N := N_four_text) (wb := w_four_text) ck D sc_four_text fun f cdv A outer s H E g W hr j => ?_
  exact (gss_cons (gs_own j 1 ga_nil) (gss_cons (gs_for j (gi_zipA j (by rfl) fr_zip (ga_cons (g_var 0) (ga_cons (g_gloT (ss := ["", "i", "j", "k"]) j.hK (by rfl) k_LETTERS) ga_nil))) (gg_tup j (ggs_cons (gg_name j 2) (ggs_cons (gg_name j 3) ggs_nil))) (gss_one (gs_if (gt_cmp (og_neD j) (gb_var 2) (PEg.b g_int)) (gss_cons (gs_set j 4 (g_if (gt_cmp (og_ltA j) (gb_var 2) (PEg.b g_int)) g_str (g_if (gt_cmp (og_neD j) (gb_var 1) (PEg.b (g_lst j ga_nil))) g_str g_str))) (gss_one (gs_app j 1 (g_binop (og_addA j m0) (gb_var 4) (PEg.b (g_call j (h_term_text.at j.hK hr) (by rfl) (ga_cons (g_var 2) (ga_cons (g_var 3) ga_nil)))))))) gss_nil))) (gss_one (gs_frz [1] (gs_ret (g_if (gt_cmp (og_neD j) (gb_var 1) (PEg.b (g_lst j ga_nil))) (g_join j (PEg.b g_str) (gb_var 1)) g_str))))))
def T_Four_text : Nat → Nat → Option WF := P0
def F_Four_text : Nat → Nat → Bool := addF 18 9 (F0)
def w_Four_text : WS := (wRet (wCall p_four_text (waCons (wUn (oAtt F_Four_text T_Four_text 9) (wVarB 0)) waNil)))
def p_Four_text : WF := wfn 1 1 w_Four_text
theorem i_Four_text {a0 : D} {st : Store} {Q : QE} {R : XQ} (h : w_Four_text [.val a0] st (fnW Q R)) : p_Four_text [a0] st Q R := ⟨rfl, h⟩
theorem sc_Four_text : FnScope N_Four_text ["self"] (defScope s_Four_text) := ⟨rfl, rfl, rfl, by decide +kernel, rfl, by decide +kernel, by decide +kernel⟩
theorem ok_Four_text {P : Program} {w : World} {C : Con} {mg : Str → Option Value} {base : Heap} {f : Addr} (ck : ConOk C) (D : DefC C f "text" "Four.text" (defArgs s_Four_text) (defBody s_Four_text) (defScope s_Four_text) ["self"])
    (h_four_text : Fnp P w C mg base "four_text" 1 3 p_four_text) (c_Four : Cls C.K (C.ca 18)) (n_Four_kept : NoAttr C.K (C.ca 18) (C.fn 9)) (inj : ∀ i j, C.fn i = C.fn j → i = j) (hfn : C.fn = nameOf Names) (hmn : C.mn = C.fn) : Fna P w C mg base 5 f p_Four_text := by
  refine DefC.fna (k := 4) (N := N_Four_text) (wb := w_Four_text) ck D sc_Four_text fun cdv A outer s H E g W hr j => ?_
  exact (gss_one (gs_ret (g_call j (h_four_text.at j.hK hr) (by rfl) (ga_cons (g_att j (fok_cons c_Four n_Four_kept j.hK (fok_nil inj)) pok_nil 9 (congrFun hfn 9) (gb_var 0)) ga_nil))))
def w_read_term : WS := (wSeq (wSet 1 (wIf (wBool (wBin (oIn false M0) (wSlS (wVarB 0) (woSome (wUn (oNeg M0) (wC (.int 1)))) woNone) (wTup (waCons (wC (.str "i")) (waCons (wC (.str "j")) (waCons (wC (.str "k")) waNil)))))) (wSlS (wVarB 0) (woSome (wUn (oNeg M0) (wC (.int 1)))) woNone) (wC (.str "")))) (wSeq (wSet 2 (wIf (wBool (wBin oNeD (wVarB 1) (wC (.str "")))) (wSlS (wVarB 0) woNone (woSome (wUn (oNeg M0) (wC (.int 1))))) (wVar 0))) (wSeq (wSet 3 (wC (.int 2))) (wSeq (wIfS (wTru M0 (wSq1 Txt.endswith (wVarB 2) (wC (.str "/2")))) (wPar 2 3 (waCons (wSlS (wVarB 2) woNone (woSome (wUn (oNeg M0) (wC (.int 2))))) (waCons (wC (.int 1)) waNil))) (wIfS (wAndT (wBool (wBin oEqD (wVarB 2) (wC (.str "")))) (wBool (wBin oNeD (wVarB 1) (wC (.str ""))))) (wSet 2 (wC (.str "1"))) wNext)) (wSeq (wIfS (wNotT (wAndT (wTru M0 (wSq Txt.isascii (wVarB 2))) (wTru M0 (wSq Txt.isdigit (wVarB 2))))) (wRet (wC .non)) wNext) (wRet (wTup (waCons (wTix ["", "i", "j", "k"] (wVarB 1)) (waCons (wBin (oMulA M0) (wVarB 3) (wArgs oIntT (waCons (wVarB 2) waNil))) waNil)))))))))
def p_read_term : WF := wfn 4 1 w_read_term
theorem i_read_term {a0 : D} {st : Store} {Q : QE} {R : XQ} (h : w_read_term [.val a0, .no, .no, .no] st (fnW Q R)) : p_read_term [a0] st Q R := ⟨rfl, h⟩
theorem sc_read_term : FnScope N_read_term ["term"] (defScope s_read_term) := ⟨rfl, rfl, rfl, by decide +kernel, rfl, by decide +kernel, by decide +kernel⟩
theorem ok_read_term {P : Program} {w : World} {C : Con} {mg : Str → Option Value} {base : Heap} (ck : ConOk C) (D : DefAt C mg "read_term" (defArgs s_read_term) (defBody s_read_term) (defScope s_read_term) ["term"])
    (kI_LETTERS : GTupI C.K mg "LETTERS" ["", "i", "j", "k"]) (fr_int : mg "int" = none) : Fnp P w C mg base "read_term" 1 1 p_read_term := by
  refine Fnp.of (k := 0) (N := N_read_term) (wb := w_read_term) ck D sc_read_term fun f cdv A outer s H E g W hr j => ?_
  exact (gss_cons (gs_set j 1 (g_if (gt_cmp (og_in j m0) (PEg.b (g_slS (gb_var 0) (go_some (g_unop (og_neg j m0) (PEg.b g_int))) go_none)) (PEg.b (g_tup j (ga_cons g_str (ga_cons g_str (ga_cons g_str ga_nil)))))) (g_slS (gb_var 0) (go_some (g_unop (og_neg j m0) (PEg.b g_int))) go_none) g_str)) (gss_cons (gs_set j 2 (g_if (gt_cmp (og_neD j) (gb_var 1) (PEg.b g_str)) (g_slS (gb_var 0) go_none (go_some (g_unop (og_neg j m0) (PEg.b g_int)))) (g_var 0))) (gss_cons (gs_set j 3 g_int) (gss_cons (gs_if (gt_truth j m0 (PEg.b (g_endswith (gb_var 2) (PEg.b g_str)))) (gss_one (gs_par j 2 3 (ga_cons (g_slS (gb_var 2) go_none (go_some (g_unop (og_neg j m0) (PEg.b g_int)))) (ga_cons g_int ga_nil)))) (gss_one (gs_if (PWg.pt (gw_and (gt_cmp (og_eqD j) (gb_var 2) (PEg.b g_str)) (gw_and1 (gt_cmp (og_neD j) (gb_var 1) (PEg.b g_str))))) (gss_one (gs_set j 2 g_str)) gss_nil))) (gss_cons (gs_if (gt_not (PWg.pt (gw_and (gt_truth j m0 (PEg.b (g_isascii (gb_var 2)))) (gw_and1 (gt_truth j m0 (PEg.b (g_isdigit (gb_var 2)))))))) (gss_one (gs_ret g_non)) gss_nil) (gss_one (gs_ret (g_tup j (ga_cons (g_tix j (ss := ["", "i", "j", "k"]) (by rfl) kI_LETTERS (gb_var 1)) (ga_cons (g_binop (og_mulA j m0) (gb_var 3) (PEg.b (g_bty call_int_str ov_intT (by rfl) fr_int (by decide +kernel) (gab_cons (gb_var 2) gab_nil)))) ga_nil))))))))))
def w_read_halves : WS := (wSeq (wOwn 1 (waCons (wC (.int 0)) (waCons (wC (.int 0)) (waCons (wC (.int 0)) (waCons (wC (.int 0)) waNil))))) (wSeq (wSet 2 (wIf (wTru M0 (wSq1 Txt.startswith (wVarB 0) (wC (.str "-")))) (wC (.int (1))) (wC (.int (0))))) (wSeq (wSet 3 (wIf (wBool (wBin oEqD (wVarB 2) (wC (.int 1)))) (wUn (oNeg M0) (wC (.int 1))) (wC (.int 1)))) (wSeq (wSet 4 (wSpl (wRpl "-" "+-" (wSlS (wVarB 0) (woSome (wVar 2)) woNone)) (wC (.str "+")))) (wSeq (wFor (wiEnum (waCons (wVar 4) waNil)) (wgTup 2 (wgsCons (wgName 5) (wgsCons (wgName 6) wgsNil))) (wSeq (wIfS (wBool (wBin oGtA (wVarB 5) (wC (.int 0)))) (wSeq (wSet 3 (wIf (wTru M0 (wSq1 Txt.startswith (wVarB 6) (wC (.str "-")))) (wUn (oNeg M0) (wC (.int 1))) (wC (.int 1)))) (wSet 6 (wSt1 Txt.removeprefix (wVarB 6) (wC (.str "-"))))) wNext) (wSeq (wSet 7 (wCall p_read_term (waCons (wVar 6) waNil))) (wSeq (wIfS (wBool (wIsN (wVarB 7))) (wRet (wC .non)) wNext) (wAugAt 1 (wBin oIx (wVarB 7) (wC (.int 0))) (wBin (oMulA M0) (wVarB 3) (wBin oIx (wVarB 7) (wC (.int 1))))))))) (wRet (wIf (wBool (wCall p_is_halves (waCons (wArgs oTuple (waCons (wVarB 1) waNil)) waNil))) (wArgs oTuple (waCons (wVarB 1) waNil)) (wC .non))))))))
def p_read_halves : WF := wfn 8 1 w_read_halves
theorem i_read_halves {a0 : D} {st : Store} {Q : QE} {R : XQ} (h : w_read_halves [.val a0, .no, .no, .no, .no, .no, .no, .no] st (fnW Q R)) : p_read_halves [a0] st Q R := ⟨rfl, h⟩
theorem sc_read_halves : FnScope N_read_halves ["text"] (defScope s_read_halves) := ⟨rfl, rfl, rfl, by decide +kernel, rfl, by decide +kernel, by decide +kernel⟩
theorem ok_read_halves {P : Program} {w : World} {C : Con} {mg : Str → Option Value} {base : Heap} (ck : ConOk C) (D : DefAt C mg "read_halves" (defArgs s_read_halves) (defBody s_read_halves) (defScope s_read_halves) ["text"])
    (h_is_halves : Fnp P w C mg base "is_halves" 1 1 p_is_halves) (h_read_term : Fnp P w C mg base "read_term" 1 1 p_read_term) (fr_enumerate : mg "enumerate" = none) (fr_tuple : mg "tuple" = none) : Fnp P w C mg base "read_halves" 1 3 p_read_halves := by
  refine Fnp.of (k := 2) (N := N_read_halves) (wb := w_read_halves) ck D sc_read_halves fun f cdv A outer s H E g W hr j => ?_
  exact (gss_cons (gs_own j 1 (ga_cons g_int (ga_cons g_int (ga_cons g_int (ga_cons g_int ga_nil))))) (gssS_set j 2 (gS_if (gt_truth j m0 (PEg.b (g_startswith (gb_var 0) (PEg.b g_str)))) gS_int gS_int) (gssT_cons (gsT_of (gs_set j 3 (g_if (gt_cmp (og_eqD j) (gb_var 2) (PEg.b g_int)) (g_unop (og_neg j m0) (PEg.b g_int)) g_int))) (gssT_cons (gsT_set j 4 (gT_split j (gT_repl (PEg.b (g_slS (gb_var 0) (go_some (g_var 2)) go_none))) (PEg.b g_str))) (gssT_of (gss_cons (gs_for j (gi_enum j (by rfl) fr_enumerate (ga_cons (g_var 4) ga_nil)) (gg_tup j (ggs_cons (gg_name j 5) (ggs_cons (gg_name j 6) ggs_nil))) (gss_cons (gs_if (gt_cmp (og_gtA j) (gb_var 5) (PEg.b g_int)) (gss_cons (gs_set j 3 (g_if (gt_truth j m0 (PEg.b (g_startswith (gb_var 6) (PEg.b g_str)))) (g_unop (og_neg j m0) (PEg.b g_int)) g_int)) (gss_one (gs_set j 6 (g_removeprefix (gb_var 6) (PEg.b g_str))))) gss_nil) (gss_cons (gs_set j 7 (g_call j (h_read_term.at j.hK hr) (by rfl) (ga_cons (g_var 6) ga_nil))) (gss_cons (gs_if (gt_isN (gb_var 7)) (gss_one (gs_ret g_non)) gss_nil) (gss_one (gs_augAt j 1 (PEg.b (g_ix j (gb_var 7) (PEg.b g_int))) (g_binop (og_mulA j m0) (gb_var 3) (PEg.b (g_ix j (gb_var 7) (PEg.b g_int)))))))))) (gss_one (gs_ret (g_if (gt_val (g_call j (h_is_halves.at j.hK hr) (by rfl) (ga_cons (g_bty call_tuple_of (ov_tuple j) (by rfl) fr_tuple (by decide +kernel) (gab_cons (gb_var 1) gab_nil)) ga_nil))) (g_bty call_tuple_of (ov_tuple j) (by rfl) fr_tuple (by decide +kernel) (gab_cons (gb_var 1) gab_nil)) g_non)))))))))
def M_Four_readE : MT := addM 18 (.nm 18) p_Four_text (M0)
def w_Four_readE : WS := (wSeq (wSet 2 (wCall p_read_halves (waCons (wVar 1) waNil))) (wSeq (wIfS (wBool (wIsN (wVarB 2))) (wRaise 14 8 1 "ParseError" (wC (.int 0))) wNext) (wSeq (wSet 3 (wAtC 0 18 (wMkS true 18 p_Four___init__ (wVarB 2)))) (wSeq (wIfS (wBool (wBin oNeD (wMeth M_Four_readE 18 (wVar 3) waNil) (wVarB 1))) (wRaise 14 8 1 "ParseError" (wC (.int 0))) wNext) (wRet (wVar 3))))))
def p_Four_readE : WF := wfn 4 2 w_Four_readE
theorem i_Four_readE {a0 a1 : D} {st : Store} {Q : QE} {R : XQ} (h : w_Four_readE [.val a0, .val a1, .no, .no] st (fnW Q R)) : p_Four_readE [a0, a1] st Q R := ⟨rfl, h⟩
theorem sc_Four_readE : FnScope N_Four_readE ["cls", "text"] (defScope s_Four_readE) := ⟨rfl, rfl, rfl, by decide +kernel, rfl, by decide +kernel, by decide +kernel⟩
theorem ok_Four_readE {P : Program} {w : World} {C : Con} {mg : Str → Option Value} {base : Heap} {f : Addr} (ck : ConOk C) (D : DefC C f "read" "Four.read" (defArgs s_Four_readE) (defBody s_Four_readE) (defScope s_Four_readE) ["cls", "text"])
    (h_read_halves : Fnp P w C mg base "read_halves" 1 3 p_read_halves) (m_Four_text : MetR P w C mg base 18 (.nm 18) 5 p_Four_text) (k_Four : MakR P w C mg base "Four" 18 3 p_Four___init__) (E_ParseError : ErrR P w C mg base "ParseError" 14 8 1 "ParseError" 1) (inj : ∀ i j, C.fn i = C.fn j → i = j) (hfn : C.fn = nameOf Names) (hmn : C.mn = C.fn) : Fna P w C mg base 7 f p_Four_readE := by
  refine DefC.fna (k := 6) (N := N_Four_readE) (wb := w_Four_readE) ck D sc_Four_readE fun cdv A outer s H E g W hr j => ?_
  exact (gss_cons (gs_set j 2 (g_call j (h_read_halves.at j.hK hr) (by rfl) (ga_cons (g_var 1) ga_nil))) (gss_cons (gs_if (gt_isN (gb_var 2)) (gss_one (gs_raiseR j E_ParseError j.hK hr (by rfl) g_int)) gss_nil) (gss_cons (gs_set j 3 (g_makeSV true j 0 (k_Four.at j.hK hr) (gb_var 2))) (gss_cons (gs_if (gt_cmp (og_neD j) (PEg.b (g_meth0 j (mok_cons m_Four_text j.hK hr m0) inj hmn 18 (congrFun hfn 18) (g_var 3))) (gb_var 1)) (gss_one (gs_raiseR j E_ParseError j.hK hr (by rfl) g_int)) gss_nil) (gss_one (gs_ret (g_var 3)))))))
theorem sc__law_feed : FnScope N__law_feed ["_law_script"] (defScope s__law_feed) := ⟨rfl, rfl, rfl, by decide +kernel, rfl, by decide +kernel, by decide +kernel⟩
theorem ok__law_feed {P : Program} {w : World} {C : Con} {mg : Str → Option Value} {base : Heap} (ck : ConOk C) (D : DefAt C mg "_law_feed" (defArgs s__law_feed) (defBody s__law_feed) (defScope s__law_feed) ["_law_script"])
    (fr_int : mg "int" = none) (fr_len : mg "len" = none) (fr_list : mg "list" = none) : Fnp P w C mg base "_law_feed" 1 1 p__law_feed := by
  refine Fnp.of (k := 0) (N := N__law_feed) (wb := w__law_feed) ck D sc__law_feed fun f cdv A outer s H E g W hr j => ?_
  exact (gss_cons (gs_set j 1 (g_bty call_list_of (ov_list j) (by rfl) fr_list (by decide +kernel) (gab_cons (PEg.b (g_sl j (gb_var 0) go_none (go_some g_int))) gab_nil))) (gss_cons (gs_set j 2 (g_binop (og_addA j m0) (PEg.b g_int) (PEg.b (g_binop (og_mulA j m0) (PEg.b g_int) (PEg.b (g_blt call_len (ov_len j.hK) (by rfl) fr_len PySem.boot_len (gab_cons (gb_var 1) gab_nil))))))) (gss_cons (gs_for j (gi_seq j (g_var 1)) (gg_name j 3) (gss_one (gs_set j 2 (g_binop (og_mod) (PEg.b (g_binop (og_addA j m0) (PEg.b (g_binop (og_addA j m0) (PEg.b (g_binop (og_mulA j m0) (gb_var 2) (PEg.b g_int))) (PEg.b (g_binop (og_mod) (PEg.b (g_bty call_int1 ov_int (by rfl) fr_int (by decide +kernel) (gab_cons (gb_var 3) gab_nil))) (PEg.b g_int))))) (PEg.b g_int))) (PEg.b g_int))))) (gss_one (gs_ret (g_cell j (ga_cons (g_var 1) (ga_cons g_int (ga_cons g_int (ga_cons (g_var 2) ga_nil))))))))))
theorem sc__law_take : FnScope N__law_take ["_law_feed_here", "_law_many"] (defScope s__law_take) := ⟨rfl, rfl, rfl, by decide +kernel, rfl, by decide +kernel, by decide +kernel⟩
theorem ok__law_take {P : Program} {w : World} {C : Con} {mg : Str → Option Value} {base : Heap} (ck : ConOk C) (D : DefAt C mg "_law_take" (defArgs s__law_take) (defBody s__law_take) (defScope s__law_take) ["_law_feed_here", "_law_many"])
    (fr_int : mg "int" = none) (fr_len : mg "len" = none) : Fnp P w C mg base "_law_take" 2 1 p__law_take := by
  refine Fnp.of (k := 0) (N := N__law_take) (wb := w__law_take) ck D sc__law_take fun f cdv A outer s H E g W hr j => ?_
  exact (gss_cons (gs_if (PWg.pt (gw_and (gt_cmp (og_eqD j) (PEg.b (g_ix j (gb_var 0) (PEg.b g_int))) (PEg.b g_int)) (gw_and1 (gt_cmp (og_ltA j) (PEg.b (g_ix j (gb_var 0) (PEg.b g_int))) (PEg.b (g_blt call_len (ov_len j.hK) (by rfl) fr_len PySem.boot_len (gab_cons (PEg.b (g_ix j (gb_var 0) (PEg.b g_int))) gab_nil))))))) (gss_cons (gs_set j 2 (g_ix j (PEg.b (g_ix j (gb_var 0) (PEg.b g_int))) (PEg.b (g_ix j (gb_var 0) (PEg.b g_int))))) (gss_cons (gs_put j 0 (PEg.b g_int) (g_binop (og_addA j m0) (PEg.b (g_ix j (gb_var 0) (PEg.b g_int))) (PEg.b g_int))) (gss_one (gs_if (gt_cmp og_ge (gb_var 2) (PEg.b (g_binop (og_pow) (PEg.b g_int) (PEg.b g_int)))) (gss_one (gs_put j 0 (PEg.b g_int) (g_var 2))) (gss_cons (gs_set j 3 (g_binop (og_addA j m0) (PEg.b (g_binop (og_mulA j m0) (PEg.b (g_ix j (gb_var 0) (PEg.b g_int))) (PEg.b g_int))) (PEg.b (g_binop (og_mod) (PEg.b (g_bty call_int1 ov_int (by rfl) fr_int (by decide +kernel) (gab_cons (gb_var 2) gab_nil))) (PEg.b g_int))))) (gss_one (gs_put j 0 (PEg.b g_int) (g_binop (og_mod) (PEg.b (g_binop (og_addA j m0) (gb_var 3) (PEg.b (g_binop (og_mulA j m0) (PEg.b (g_ix j (gb_var 0) (PEg.b g_int))) (PEg.b g_int))))) (PEg.b g_int))))))))) gss_nil) (gss_cons (gs_if (gt_cmp (og_gtA j) (PEg.b (g_ix j (gb_var 0) (PEg.b g_int))) (PEg.b g_int)) (gss_cons (gs_set j 4 (g_binop (og_mod) (PEg.b (g_bty call_int1 ov_int (by rfl) fr_int (by decide +kernel) (gab_cons (PEg.b (g_ix j (gb_var 0) (PEg.b g_int))) gab_nil))) (gb_var 1))) (gss_cons (gs_put j 0 (PEg.b g_int) (g_binop (og_fdiv) (PEg.b (g_ix j (gb_var 0) (PEg.b g_int))) (gb_var 1))) (gss_one (gs_ret (g_var 4))))) gss_nil) (gss_cons (gs_put j 0 (PEg.b g_int) (g_binop (og_mod) (PEg.b (g_binop (og_addA j m0) (PEg.b (g_binop (og_mulA j m0) (PEg.b (g_ix j (gb_var 0) (PEg.b g_int))) (PEg.b g_int))) (PEg.b g_int))) (PEg.b g_int))) (gss_one (gs_ret (g_binop (og_mod) (PEg.b (g_binop (og_fdiv) (PEg.b (g_binop (og_mod) (PEg.b (g_binop (og_mulA j m0) (PEg.b (g_ix j (gb_var 0) (PEg.b g_int))) (PEg.b (g_bty call_int1 ov_int (by rfl) fr_int (by decide +kernel) (gab_cons (PEg.b (g_ix j (gb_var 0) (PEg.b g_int))) gab_nil))))) (PEg.b g_int))) (PEg.b g_int))) (gb_var 1)))))))
theorem sc__law_halves : FnScope N__law_halves ["_law_feed_here", "_law_most"] (defScope s__law_halves) := ⟨rfl, rfl, rfl, by decide +kernel, rfl, by decide +kernel, by decide +kernel⟩
theorem ok__law_halves {P : Program} {w : World} {C : Con} {mg : Str → Option Value} {base : Heap} (ck : ConOk C) (D : DefAt C mg "_law_halves" (defArgs s__law_halves) (defBody s__law_halves) (defScope s__law_halves) ["_law_feed_here", "_law_most"])
    (h__law_take : Fnp P w C mg base "_law_take" 2 1 p__law_take) (fr_range : mg "range" = none) (fr_tuple : mg "tuple" = none) : Fnp P w C mg base "_law_halves" 2 3 p__law_halves := by
  refine Fnp.of (k := 2) (N := N__law_halves) (wb := w__law_halves) ck D sc__law_halves fun f cdv A outer s H E g W hr j => ?_
  exact (gss_cons (gs_set j 2 (g_call j (h__law_take.at j.hK hr) (by rfl) (ga_cons (g_var 0) (ga_cons g_int ga_nil)))) (gss_cons (gs_own j 3 ga_nil) (gss_cons (gs_for j (gi_r1 (by rfl) fr_range (ga_cons g_int ga_nil)) (gg_name j 4) (gss_one (gs_app j 3 (g_binop (og_addA j m0) (PEg.b (g_binop (og_mulA j m0) (PEg.b g_int) (PEg.b (g_binop (og_sub j m0) (PEg.b (g_call j (h__law_take.at j.hK hr) (by rfl) (ga_cons (g_var 0) (ga_cons (g_binop (og_addA j m0) (PEg.b (g_binop (og_mulA j m0) (PEg.b g_int) (gb_var 1))) (PEg.b g_int)) ga_nil)))) (gb_var 1))))) (gb_var 2))))) (gss_cons (gs_if (gt_cmp (og_eqD j) (gb_var 3) (PEg.b (g_lst j (ga_cons g_int (ga_cons g_int (ga_cons g_int (ga_cons g_int ga_nil))))))) (gss_one (gs_own j 3 (ga_cons g_int (ga_cons g_int (ga_cons g_int (ga_cons g_int ga_nil)))))) gss_nil) (gss_one (gs_ret (g_bty call_tuple_of (ov_tuple j) (by rfl) fr_tuple (by decide +kernel) (gab_cons (gb_var 3) gab_nil))))))))
theorem sc__law_pick : FnScope N__law_pick ["_law_feed_here", "_law_things"] (defScope s__law_pick) := ⟨rfl, rfl, rfl, by decide +kernel, rfl, by decide +kernel, by decide +kernel⟩
theorem ok__law_pick {P : Program} {w : World} {C : Con} {mg : Str → Option Value} {base : Heap} (ck : ConOk C) (D : DefAt C mg "_law_pick" (defArgs s__law_pick) (defBody s__law_pick) (defScope s__law_pick) ["_law_feed_here", "_law_things"])
    (h__law_take : Fnp P w C mg base "_law_take" 2 1 p__law_take) (fr_len : mg "len" = none) : Fnp P w C mg base "_law_pick" 2 3 p__law_pick := by
  refine Fnp.of (k := 2) (N := N__law_pick) (wb := w__law_pick) ck D sc__law_pick fun f cdv A outer s H E g W hr j => ?_
  exact (gss_one (gs_ret (g_ix j (gb_var 1) (PEg.b (g_call j (h__law_take.at j.hK hr) (by rfl) (ga_cons (g_var 0) (ga_cons (g_blt call_len (ov_len j.hK) (by rfl) fr_len PySem.boot_len (gab_cons (gb_var 1) gab_nil)) ga_nil)))))))
def w__law_spelled : WS := (wSeq (wSet 1 (wC (.str ""))) (wSeq (wFor (wiZipA (waCons (wVar 0) (waCons (wLst (waCons (wC (.str "")) (waCons (wC (.str "i")) (waCons (wC (.str "j")) (waCons (wC (.str "k")) waNil))))) waNil))) (wgTup 2 (wgsCons (wgName 2) (wgsCons (wgName 3) wgsNil))) (wSeq (wSet 4 (wArgs oAbs (waCons (wVarB 2) waNil))) (wSeq (wSet 5 (wIf (wBool (wBin oEqD (wBin (oMod) (wArgs oInt (waCons (wVarB 4) waNil)) (wC (.int 2))) (wC (.int 1)))) (wBin (oAddA M0) (wBin (oAddA M0) (wArgs oStr (waCons (wVarB 4) waNil)) (wC (.str "/2"))) (wVarB 3)) (wBin (oAddA M0) (wArgs oStr (waCons (wBin (oFdiv) (wVarB 4) (wC (.int 2))) waNil)) (wVarB 3)))) (wSeq (wIfS (wAndT (wBool (wBin oEqD (wVarB 4) (wC (.int 2)))) (wBool (wBin oNeD (wVarB 3) (wC (.str ""))))) (wSet 5 (wVar 3)) wNext) (wIfS (wBool (wBin oNeD (wVarB 2) (wC (.int 0)))) (wSet 1 (wBin (oAddA M0) (wBin (oAddA M0) (wVarB 1) (wIf (wBool (wBin oLtA (wVarB 2) (wC (.int 0)))) (wC (.str "-")) (wIf (wBool (wBin oNeD (wVarB 1) (wC (.str "")))) (wC (.str "+")) (wC (.str ""))))) (wVarB 5))) wNext))))) (wRet (wIf (wBool (wBin oNeD (wVarB 1) (wC (.str "")))) (wVar 1) (wC (.str "0"))))))
def p__law_spelled : WF := wfn 6 1 w__law_spelled
theorem i__law_spelled {a0 : D} {st : Store} {Q : QE} {R : XQ} (h : w__law_spelled [.val a0, .no, .no, .no, .no, .no] st (fnW Q R)) : p__law_spelled [a0] st Q R := ⟨rfl, h⟩
theorem sc__law_spelled : FnScope N__law_spelled ["_law_halves_here"] (defScope s__law_spelled) := ⟨rfl, rfl, rfl, by decide +kernel, rfl, by decide +kernel, by decide +kernel⟩
theorem ok__law_spelled {P : Program} {w : World} {C : Con} {mg : Str → Option Value} {base : Heap} (ck : ConOk C) (D : DefAt C mg "_law_spelled" (defArgs s__law_spelled) (defBody s__law_spelled) (defScope s__law_spelled) ["_law_halves_here"])
    (fr_abs : mg "abs" = none) (fr_int : mg "int" = none) (fr_str : mg "str" = none) (fr_zip : mg "zip" = none) : Fnp P w C mg base "_law_spelled" 1 1 p__law_spelled := by
  refine Fnp.of (k := 0) (N := N__law_spelled) (wb := w__law_spelled) ck D sc__law_spelled fun f cdv A outer s H E g W hr j => ?_
  exact (gss_cons (gs_set j 1 g_str) (gss_cons (gs_for j (gi_zipA j (by rfl) fr_zip (ga_cons (g_var 0) (ga_cons (g_lst j (ga_cons g_str (ga_cons g_str (ga_cons g_str (ga_cons g_str ga_nil))))) ga_nil))) (gg_tup j (ggs_cons (gg_name j 2) (ggs_cons (gg_name j 3) ggs_nil))) (gss_cons (gs_set j 4 (g_blt call_abs ov_abs (by rfl) fr_abs (by decide +kernel) (gab_cons (gb_var 2) gab_nil))) (gss_cons (gs_set j 5 (g_if (gt_cmp (og_eqD j) (PEg.b (g_binop (og_mod) (PEg.b (g_bty call_int1 ov_int (by rfl) fr_int (by decide +kernel) (gab_cons (gb_var 4) gab_nil))) (PEg.b g_int))) (PEg.b g_int)) (g_binop (og_addA j m0) (PEg.b (g_binop (og_addA j m0) (PEg.b (g_bty call_strA ov_str (by rfl) fr_str (by decide +kernel) (gab_cons (gb_var 4) gab_nil))) (PEg.b g_str))) (gb_var 3)) (g_binop (og_addA j m0) (PEg.b (g_bty call_strA ov_str (by rfl) fr_str (by decide +kernel) (gab_cons (PEg.b (g_binop (og_fdiv) (gb_var 4) (PEg.b g_int))) gab_nil))) (gb_var 3)))) (gss_cons (gs_if (PWg.pt (gw_and (gt_cmp (og_eqD j) (gb_var 4) (PEg.b g_int)) (gw_and1 (gt_cmp (og_neD j) (gb_var 3) (PEg.b g_str))))) (gss_one (gs_set j 5 (g_var 3))) gss_nil) (gss_one (gs_if (gt_cmp (og_neD j) (gb_var 2) (PEg.b g_int)) (gss_one (gs_set j 1 (g_binop (og_addA j m0) (PEg.b (g_binop (og_addA j m0) (gb_var 1) (PEg.b (g_if (gt_cmp (og_ltA j) (gb_var 2) (PEg.b g_int)) g_str (g_if (gt_cmp (og_neD j) (gb_var 1) (PEg.b g_str)) g_str g_str))))) (gb_var 5)))) gss_nil)))))) (gss_one (gs_ret (g_if (gt_cmp (og_neD j) (gb_var 1) (PEg.b g_str)) (g_var 1) g_str)))))
def T_law : Nat → Nat → Option WF := addT 18 13 p_Four_halves (P0)
def F_law : Nat → Nat → Bool := F0
def w_law : WS := (wSeq (wSet 1 (wCall p__law_feed (waCons (wVar 0) waNil))) (wSeq (wSet 2 (wLst (waCons (wC (.str "")) (waCons (wC (.str "+")) (waCons (wC (.str "-")) (waCons (wC (.str "+1")) (waCons (wC (.str "1+")) (waCons (wC (.str "i+1")) (waCons (wC (.str "1+1")) (waCons (wC (.str "01")) (waCons (wC (.str "1i")) (waCons (wC (.str "0i")) (waCons (wC (.str "2/2")) (waCons (wC (.str "1/2")) (waCons (wC (.str "1/2i")) (waCons (wC (.str "-0")) (waCons (wC (.str "1 + i")) (waCons (wC (.str "1+-i")) (waCons (wC (.str "--1")) (waCons (wC (.str "ii")) (waCons (wC (.str "1/3")) waNil))))))))))))))))))))) (wSeq (wSet 2 (wBin (oAddA M0) (wVarB 2) (wLst (waCons (wC (.str "1/2+1/2i+1/2j")) (waCons (wC (.str "1/2+1/2i+1/2j+k")) (waCons (wC (.str "x")) (waCons (wC (.str "1.5")) (waCons (wC (.str "i1")) (waCons (wC (.str "k+j")) (waCons (wC (.str "1+i+j+k+1")) (waCons (wC (.str "/2")) (waCons (wC (.str "3/2+3/2i+3/2j+3/2k ")) (waCons (wC (.str " 1")) (waCons (wC (.str "0+i")) waNil)))))))))))))) (wSeq (wFor (wiR1 (waCons (wC (.int 8)) waNil)) (wgName 3) (wSeq (wSet 4 (wCall p__law_spelled (waCons (wCall p__law_halves (waCons (wVar 1) (waCons (wC (.int 2)) waNil))) waNil))) (wSeq (wSet 5 (wCall p__law_take (waCons (wVar 1) (waCons (wArgs oLen (waCons (wVarB 4) waNil)) waNil)))) (wSeq (wSet 6 (wCall p__law_pick (waCons (wVar 1) (waCons (wLst (waCons (wC (.str "+")) (waCons (wC (.str "-")) (waCons (wC (.str "i")) (waCons (wC (.str "j")) (waCons (wC (.str "0")) (waCons (wC (.str "1")) (waCons (wC (.str "2")) (waCons (wC (.str "/")) (waCons (wC (.str " ")) (waCons (wC (.str "k")) (waCons (wC (.str "")) waNil)))))))))))) waNil)))) (wSeq (wSet 7 (wBin (oAddA M0) (wBin (oAddA M0) (wSlS (wVarB 4) woNone (woSome (wVar 5))) (wVarB 6)) (wSlS (wVarB 4) (woSome (wBin (oAddA M0) (wVarB 5) (wCall p__law_take (waCons (wVar 1) (waCons (wC (.int 2)) waNil))))) woNone))) (wSeq (wIfS (wBool (wBin oEqD (wCall p__law_take (waCons (wVar 1) (waCons (wC (.int 3)) waNil))) (wC (.int 0)))) (wSet 7 (wCall p__law_pick (waCons (wVar 1) (waCons (wVar 2) waNil)))) wNext) (wSeq (wSet 8 (wC .non)) (wSeq (wTryAt 14 8 9 (wSet 8 (wCallC 18 p_Four_readE (waCons (wVar 7) waNil)))) (wSeq (wSet 10 (wBin oEqD (wVarB 7) (wVarB 4))) (wSeq (wFor (wiR2 (waCons (wUn (oNeg M0) (wC (.int 6))) (waCons (wC (.int 7)) waNil))) (wgName 11) (wSet 10 (wOr (wVar 10) (wBin oEqD (wVarB 7) (wCall p__law_spelled (waCons (wTup (waCons (wBin (oMulA M0) (wC (.int 2)) (wVarB 11)) (waCons (wC (.int 0)) (waCons (wC (.int 0)) (waCons (wC (.int 0)) waNil))))) waNil)))))) (wIfS (wOrT (wAndT (wBool (wIsN (wVarB 8))) (wTru M0 (wVarB 10))) (wAndT (wBool (wNotN (wVarB 8))) (wBool (wBin oNeD (wCall p__law_spelled (waCons (wUn (oAtt F_law T_law 13) (wVarB 8)) waNil)) (wVarB 7))))) (wRet (wC (.bl false))) wNext))))))))))) (wRet (wBin oEqD (wLc (wiSeq (wVar 2)) [4] (wgName 4) wYes (wRef 1 tcl (wCallC 18 p_Four_readE (waCons (wVar 4) waNil)))) (wBin (oMulA M0) (wLst (waCons (wTup (waCons (wC (.str "ParseError")) (waCons (wC (.int 0)) waNil))) waNil)) (wArgs oLen (waCons (wVarB 2) waNil)))))))))
def p_law : WF := wfn 12 1 w_law
theorem i_law {a0 : D} {st : Store} {Q : QE} {R : XQ} (h : w_law [.val a0, .no, .no, .no, .no, .no, .no, .no, .no, .no, .no, .no] st (fnW Q R)) : p_law [a0] st Q R := ⟨rfl, h⟩
theorem sc_law : FnScope N_law ["_law_script"] (defScope s_law) := ⟨rfl, rfl, rfl, by decide +kernel, rfl, by decide +kernel, by decide +kernel⟩
theorem ok_law {P : Program} {w : World} {C : Con} {mg : Str → Option Value} {base : Heap} {f cA pA : Addr} {fd : FuncData} (ck : ConOk C) (F : FunD C.K "law" "law" (defArgs s_law) (defBody s_law) (defScope s_law) [] [] f fd)
    (fc : fd.code = .ref cA) (h__law_feed : Fnp P w C mg base "_law_feed" 1 1 p__law_feed) (h__law_halves : Fnp P w C mg base "_law_halves" 2 3 p__law_halves) (h__law_pick : Fnp P w C mg base "_law_pick" 2 3 p__law_pick) (h__law_spelled : Fnp P w C mg base "_law_spelled" 1 1 p__law_spelled) (h__law_take : Fnp P w C mg base "_law_take" 2 1 p__law_take) (r_Four_halves : PropR P w C mg base 18 13 1 p_Four_halves) (y_Four_readE : ClsmR P w C mg base "Four" "read" 18 7 p_Four_readE) (E_ParseError : ErrR P w C mg base "ParseError" 14 8 1 "ParseError" 1) (RR_ : RefR P w C mg base "_law_refused" "_law_ask" 1 tcl) (LT_ : LamT C mg base cA pA "law.<locals>.<lambda>") (inj : ∀ i j, C.fn i = C.fn j → i = j) (hfn : C.fn = nameOf Names) (hmn : C.mn = C.fn) (fr_len : mg "len" = none) (fr_range : mg "range" = none) : FnOk P w C.K mg base (L2.CX P w) 11 f fd ["_law_script"] (spOf C p_law 1) := by
  refine fn_okC (k := 10) (N := N_law) (wb := w_law) ck F sc_law fc fun A outer s H E g W hr j => ?_
  exact (gss_cons (gs_set j 1 (g_call j (h__law_feed.at j.hK hr) (by rfl) (ga_cons (g_var 0) ga_nil))) (gss_cons (gs_set j 2 (g_lst j (ga_cons g_str (ga_cons g_str (ga_cons g_str (ga_cons g_str (ga_cons g_str (ga_cons g_str (ga_cons g_str (ga_cons g_str (ga_cons g_str (ga_cons g_str (ga_cons g_str (ga_cons g_str (ga_cons g_str (ga_cons g_str (ga_cons g_str (ga_cons g_str (ga_cons g_str (ga_cons g_str (ga_cons g_str ga_nil))))))))))))))))))))) (gss_cons (gs_set j 2 (g_binop (og_addA j m0) (gb_var 2) (PEg.b (g_lst j (ga_cons g_str (ga_cons g_str (ga_cons g_str (ga_cons g_str (ga_cons g_str (ga_cons g_str (ga_cons g_str (ga_cons g_str (ga_cons g_str (ga_cons g_str (ga_cons g_str ga_nil))))))))))))))) (gss_cons (gs_for j (gi_r1 (by rfl) fr_range (ga_cons g_int ga_nil)) (gg_name j 3) (gss_cons (gs_set j 4 (g_call j (h__law_spelled.at j.hK hr) (by rfl) (ga_cons (g_call j (h__law_halves.at j.hK hr) (by rfl) (ga_cons (g_var 1) (ga_cons g_int ga_nil))) ga_nil))) (gss_cons (gs_set j 5 (g_call j (h__law_take.at j.hK hr) (by rfl) (ga_cons (g_var 1) (ga_cons (g_blt call_len (ov_len j.hK) (by rfl) fr_len PySem.boot_len (gab_cons (gb_var 4) gab_nil)) ga_nil)))) (gss_cons (gs_set j 6 (g_call j (h__law_pick.at j.hK hr) (by rfl) (ga_cons (g_var 1) (ga_cons (g_lst j (ga_cons g_str (ga_cons g_str (ga_cons g_str (ga_cons g_str (ga_cons g_str (ga_cons g_str (ga_cons g_str (ga_cons g_str (ga_cons g_str (ga_cons g_str (ga_cons g_str ga_nil)))))))))))) ga_nil)))) (gss_cons (gs_set j 7 (g_binop (og_addA j m0) (PEg.b (g_binop (og_addA j m0) (PEg.b (g_slS (gb_var 4) go_none (go_some (g_var 5)))) (gb_var 6))) (PEg.b (g_slS (gb_var 4) (go_some (g_binop (og_addA j m0) (gb_var 5) (PEg.b (g_call j (h__law_take.at j.hK hr) (by rfl) (ga_cons (g_var 1) (ga_cons g_int ga_nil)))))) go_none)))) (gss_cons (gs_if (gt_cmp (og_eqD j) (PEg.b (g_call j (h__law_take.at j.hK hr) (by rfl) (ga_cons (g_var 1) (ga_cons g_int ga_nil)))) (PEg.b g_int)) (gss_one (gs_set j 7 (g_call j (h__law_pick.at j.hK hr) (by rfl) (ga_cons (g_var 1) (ga_cons (g_var 2) ga_nil))))) gss_nil) (gss_cons (gs_set j 8 g_non) (gss_cons (gs_tryAt (cn := "ParseError") j RR_.tk (by decide) (congrFun hfn 8) rfl rfl (by rfl) rfl rfl (by rfl) E_ParseError.hm (hb := fun g_ H_ W_ p_ x_ j => (gss_one (gs_set j 8 (g_clsm j (y_Four_readE.at j.hK hr) (by rfl) (ga_cons (g_var 7) ga_nil)))))) (gss_cons (gs_set j 10 (g_cmp (og_eqD j) (gb_var 7) (gb_var 4))) (gss_cons (gs_for j (gi_r2 (by rfl) fr_range (ga_cons (g_unop (og_neg j m0) (PEg.b g_int)) (ga_cons g_int ga_nil))) (gg_name j 11) (gss_one (gs_set j 10 (g_or (g_var 10) (g_bone (g_cmp (og_eqD j) (gb_var 7) (PEg.b (g_call j (h__law_spelled.at j.hK hr) (by rfl) (ga_cons (g_tup j (ga_cons (g_binop (og_mulA j m0) (PEg.b g_int) (gb_var 11)) (ga_cons g_int (ga_cons g_int (ga_cons g_int ga_nil))))) ga_nil))))))))) (gss_one (gs_if (PWg.pt (gw_or (PWg.pt (gw_and (gt_isN (gb_var 8)) (gw_and1 (gt_truth j m0 (gb_var 10))))) (gw_or1 (PWg.pt (gw_and (gt_notN (gb_var 8)) (gw_and1 (gt_cmp (og_neD j) (PEg.b (g_call j (h__law_spelled.at j.hK hr) (by rfl) (ga_cons (g_att j (fok_nil inj) (pok_cons r_Four_halves j.hK hr pok_nil) 13 (congrFun hfn 13) (gb_var 8)) ga_nil))) (gb_var 7)))))))) (gss_one (gs_ret g_bl)) gss_nil)))))))))))) (gss_one (gs_ret (g_cmp (og_eqD j) (PEg.b (g_lc j [(("_law_text" : Str), 4)] (gi_seq j (g_var 2)) (blkOk_by (by kernel_rfl)) (fun s_ H_ C_ cl_ fp_ => (gg_name (j.blk s_ H_ _ _ fp_) 4)) (fun s_ H_ C_ cl_ fp_ => gts_nil) (fun s_ H_ C_ cl_ fp_ => (g_ref (k := 8) (j.blk s_ H_ _ _ fp_) RR_ LT_ (by rfl) (by rfl) hr (by decide) (by rfl) (LamX.lamS_by (by kernel_rfl)) (by rfl) (fun _ _ _ _ _ => by rfl) (fun g_ H_ A_ O_ s_ Z_ E_ f_ c_ hr j => (g_clsm j (y_Four_readE.at j.hK hr) (by rfl) (ga_cons (g_var 4) ga_nil))))) (by decide))) (PEg.b (g_binop (og_mulA j m0) (PEg.b (g_lst j (ga_cons (g_tup j (ga_cons g_str (ga_cons g_int ga_nil))) ga_nil))) (PEg.b (g_blt call_len (ov_len j.hK) (by rfl) fr_len PySem.boot_len (gab_cons (gb_var 2) gab_nil))))))))))))
end LK
namespace LK
open PySem PySem.Spec PyProof.Rows L2 G
local macro_rules | `(tactic| f_lean) => `(tactic| simp (config := { dsimp := false, failIfUnchanged := false, implicitDefEqProofs := false }) only [↓e_wNext, ↓e_wBin, ↓e_wUn, ↓e_wArgs, ↓e_wC, ↓e_waNil, ↓e_waCons, ↓e_wTup, ↓e_wLst, ↓e_wCell, ↓e_wNotT, ↓e_wIsN, ↓e_wNotN, ↓e_wTru, ↓e_wSl, ↓e_woNone, ↓e_wSet, ↓e_wRet, ↓e_wRetN, ↓e_wExpr, ↓e_wFrz, ↓e_wBrk, ↓e_wCnt, ↓e_wAsg, ↓e_wgName, ↓e_wOwn, ↓seqK_nx, ↓seqK_rt, ↓seqK_bk, ↓seqK_ct, ↓seqK_ex, ↓loopK_nx, ↓loopK_rt, ↓loopK_bk, ↓loopK_ct, ↓loopK_ex, ↓e_wSeq, iteW_t, iteW_f, ↓e_wCall, ↓e_wIfS, ↓e_wIf, ↓e_wAndT, ↓e_wOrT, ↓e_wFor, ↓e_wWhile, ↓e_wLc, ↓blW_b, ↓e_wBool, ↓e_wAnd, ↓e_wOr, ↓e_wNot, ↓e_wChain, ↓e_var0, ↓e_varS, ↓e_varB0, ↓e_varB1, ↓e_varBS, e_set0, e_setS, ↓e_add, ↓e_addS, ↓e_addL, ↓e_addO, ↓e_sub, ↓e_subO, ↓e_mul, ↓e_mulL, ↓e_mulO, ↓e_fdiv, ↓e_mod, ↓e_pow, ↓e_lt, ↓e_le, ↓e_gt, ↓e_ge, ↓e_neg, ↓e_negO, ↓e_eqI, ↓e_neI, ↓e_eqB, ↓e_neB, ↓e_eqS, ↓e_neS, getW_s, ↓e_ixL, ↓e_ixT, celW_s, ↓e_ixC, atI_0, atI_1, atI_2, atI_3, ixN_10, ixN_20, ixN_21, ixN_30, ixN_31, ixN_32, ixN_40, ixN_41, ixN_42, ixN_43, ixN_l0, ↓e_lenL, ↓e_lenT, ↓e_lenS, ↓e_abs, ↓e_intI, ↓e_intB, ↓e_listL, ↓e_listT, ↓e_tupleL, ↓e_tupleT, ↓e_slL, ↓intW_i, ↓e_woSome, ↓e_slR, ↓e_par, ↓e_parW, ↓e_gTup, ↓e_gTupL, ↓e_gsNil, ↓e_gsCons, ↓e_iLst, ↓lstW_i, ↓e_iTup, ↓tupW_i, ↓e_iR1, ↓r1W_i, ↓e_iR2, ↓r2W_i, ↓e_iZip, ↓zipW_l, ↓zipW_t, ↓e_put, e_putO, e_putC, natW_s, ↓e_aug, e_augV, ↓e_app, e_appV, ↓e_addI, ↓e_addIS, ↓e_subI, ↓e_mulI, ↓e_fdivI, e_frzN, e_frzO, e_frzV, e_frzX, e_frzS, e_frzC, ↓e_all, ↓e_any, ↓e_sum, blsW_s, intsW_s, ↓e_truN, ↓e_truB, ↓e_truI, ↓e_truL, ↓e_truT, ↓e_isiT, ↓e_isiC, ↓e_isiY, bo1W_s, isi_ii, isi_is, isi_ib, isi_it, isi_il, isi_bi, isi_bs, isi_bb, isi_bt, isi_bll, isi_ni, isi_ns, isi_nb, isi_nt, isi_nl, isi_si, isi_ss, isi_sb, isi_st, isi_sl, isi_ti, isi_ts, isi_tb, isi_tt, isi_tl, isi_li, isi_ls, isi_lb, isi_lt, isi_ll, isi_ds0, isi_dsT, isi_isI, isi_isS, isi_isB, isi_isN, isi_isT, isi_isL, ixZ_0, ixZ_1, ixZ_2, ixZ_3, ixZ_4, ixZ_5, ixZ_6, ixZ_7, ixZ_8, ixZ_9, ixZ_10, ixZ_11, ixZ_12, ixZ_13, ixZ_14, ixZ_15, ixZ_16, bo2_s, isi_dsF, ↓e_nonN, ↓e_nonI, ↓e_nonB, ↓e_nonS, ↓e_nonT, ↓e_nonL, ↓e_nonO, ↓fnW_rt, ↓fnW_nx, ↓fnW_ex, ↓e_wipe0, ↓e_wipe1, ↓e_wYes, mW_s, ↓e_callM, attW_p, attW_f, ↓e_attO, insW_s, ↓e_attC, e_getC, e_getN, e_putC', e_putN, ↓e_wMeth, ↓e_clsO, ↓e_clsC, mthW_s, mthZW_s, ownW_s, ↓e_eqOO, ↓e_neOO, ↓e_eqOI, ↓e_neOI, ↓e_eqOT, ↓e_neOT, ↓e_eqOL, ↓e_neOL, ↓e_eqTT, ↓e_neTT, ↓e_eqLL, ↓e_neLL, ↓e_wMk, ↓sqW_t, ↓sqW_l, ↓e_wMkS, ↓fldW_c, ↓e_wFld, st_last, st_setL, ↓e_wLenIs, e_addT, e_addF, e_addM, e_addE, e_F0, e_P0, e_T0, e_M0, e_lcN, e_lcC, e_zipC, e_zipN, e_intsN, e_intsC, e_blsN, e_blsC, e_ltz0, e_ltz1, e_ltz2, e_ltz3, e_ltz4, e_ltz5, e_ltz6, e_ltz7, e_ltz8, e_ltz9, e_ltz10, e_ltz11, e_ltz12, e_ltz13, e_ltz14, e_ltz15, e_ltz16, e_ltz17, e_ltz18, e_ltz19, e_ltz20, e_ltz21, e_ltz22, e_ltz23, e_ltz24, e_cst0, e_cst1, e_cst2, e_cst3, e_cst4, e_cst5, e_cst6, e_cst7, e_cst8, e_cst9, e_cst10, e_cst11, e_cst12, e_cst13, e_cst14, e_cst15, e_cst16, e_cst17, e_cst18, e_cst19, e_cst20, e_cst21, e_cst22, e_cst23, e_cst24, ↓e_wiSeq, ↓e_ext, e_extO, ↓gfldW_c, ↓e_wgFld, ↓e_wLcN, e_tskN, e_tskC, e_lpN, e_lpC, calW_s, ↓obW_o, ↓e_wCal, ↓e_srt, ↓e_max, max_2, ↓e_min, min_2, optW_s, ↓e_gtA, ↓e_ltA, ↓e_gtT, ↓e_ltT, lexD_4, ↓e_inL, ↓e_inT, ↓e_inO, ↓e_isBB, bneF, bneT, e_isiOb, e_isiIc, e_isiTc, e_isOf, ↓e_addAi, ↓e_addAs, ↓e_addAl, ↓e_addAt, ↓e_addAo, ↓e_mulAi, ↓e_mulAl, ↓e_mulAt, ↓e_mulAo, e_forN, e_forC, ↓e_iZipA, ↓zipAW_l, ↓zipAW_t, ↓zipAW_w, ↓zipAW_m, ↓e_truO, ↓e_wParO, ↓e_par3, ↓e_par3W, ↓e_eqLl, ↓e_neLl, e_oaN, e_oaC, ↓e_wRaise, ↓e_wRef, noS_val, noS_no, List.map_cons, List.map_nil, ↓e_wJsN, ↓e_wJsC, strW_i, ↓e_wTx, e_joinL, e_joinT, strsW_s, e_strI, e_strS, e_fmtS, e_fmtI, e_repr, e_boolc, e_eqXO, e_eqXT, e_eqXI, eqxW_s, ↓e_wAsksD, e_oneS, ↓e_wSq, ↓e_wSq1, ↓e_wSt1, ↓e_wSpl, ↓e_wRpl, ↓e_wSlS, ↓e_wTix, ↓e_wAtC, ↓e_wCallC, e_intT, enW_l, ↓e_wiEnum, agW_o, ↓e_wAugAt, F_Four___init__, T_Four___add__, F_Four___add__, IL_Four___eq__, T_Four___eq__, F_Four___eq__, T_Four___mul__, F_Four___mul__, T_Four___neg__, F_Four___neg__, T_Four___sub__, F_Four___sub__, T_Four_halves, F_Four_halves, T_Four_mirrored, F_Four_mirrored, T_Four_size, F_Four_size, M_associate, T_associate, F_associate, T_Four___bool__, F_Four___bool__, T_nearest, F_nearest, M_divide_left, T_divide_left, F_divide_left, M_common_left, M_divides_left, T_Turn_rows, F_Turn_rows, M_Turn_image, T_Turn_image, F_Turn_image, M_Turn___call__, IL_Turn___eq__, T_Turn___eq__, F_Turn___eq__, E_Turn___eq__, T_Four_content, F_Four_content, M_Four_divided, T_Four_divided, F_Four_divided, M_lowest, T_lowest, F_lowest, M_table_of, T_table_of, F_table_of, M_Turn___init__, T_Turn___init__, F_Turn___init__, M_Turn___mul__, T_Turn___mul__, F_Turn___mul__, M_Turn___neg__, T_Turn___neg__, F_Turn___neg__, M_Turn_power, M_Grain_coordinates, T_Grain_coordinates, F_Grain_coordinates, M_Grain___contains__, T_Turn_four, F_Turn_four, M_odd_four, T_odd_four, F_odd_four, T_Grain___init__, F_Grain___init__, T_Grain_turn, F_Grain_turn, T_Grain_spread, F_Grain_spread, IL_Grain___eq__, T_Grain___eq__, F_Grain___eq__, E_Grain___eq__, T_Grain_four, F_Grain_four, M_Grain_turned, T_Grain_turned, F_Grain_turned, M_relative, T_relative, F_relative, T_spread, F_spread, M_midst, T_midst, F_midst, T_Four_text, F_Four_text, M_Four_readE, T_law, F_law, List.reduceReplicate, List.flatten_cons, List.flatten_nil, List.append_nil, decide_true, decide_false, Bool.not_true, Bool.not_false, List.length_cons, List.length_nil, List.getElem?_cons_zero, List.getElem?_cons_succ, List.set_cons_zero, List.set_cons_succ, true_and, and_true, ne_eq, not_false_eq_true, not_true_eq_false, Nat.zero_add, reduceCtorEq, Mn.nm.injEq, and_self, and_false, false_and, Bool.true_or, Bool.or_true, Bool.or_false, Bool.false_or, Bool.and_self, Bool.and_true, Bool.true_and, Bool.and_false, Bool.false_and, List.nil_append, List.cons_append, Option.map_some, List.sum_cons, List.sum_nil, if_true, if_false, ↓reduceIte, beq_self_eq_true, eq_self, Nat.reduceAdd, Nat.reduceMul, Nat.reduceSub, Nat.reduceLT, Nat.reduceLeDiff, Nat.reduceEqDiff, Int.reduceAdd, Int.reduceMul, Int.reduceSub, Int.reduceNeg, Int.reducePow, Int.reduceLT, Int.reduceLE, Int.reduceEq, Int.reduceNe, Int.reduceToNat, Nat.reducePow])
local macro_rules | `(tactic| one_place) => `(tactic| first | ((with_reducible assumption)) | ((with_reducible apply Sm.mul (hm := Nat.le_refl _)); (focus one_place); (focus one_place)) | ((with_reducible apply Sm.add (hm := Nat.le_refl _)); (focus one_place); (focus one_place)) | ((with_reducible apply Sm.sub (hm := Nat.le_refl _)); (focus one_place); (focus one_place)) | ((with_reducible apply Sm.neg); one_place) | ((with_reducible apply Sm.bar); one_place) | ((with_reducible apply Sm.bwhole (hm := Nat.le_refl _)); (focus leaf_len)))
local macro_rules | `(tactic| leaf_len) => `(tactic| first | ((with_reducible assumption)) | exact bLit (by decide) | ((with_reducible apply Sm.bN); (focus one_place)) | ((with_reducible apply bMul (hm := Nat.le_refl _)); (focus leaf_len); (focus leaf_len)) | ((with_reducible apply bAdd (hm := Nat.le_refl _)); (focus leaf_len); (focus leaf_len)) | ((with_reducible apply bSub (hm := Nat.le_refl _)); (focus leaf_len); (focus leaf_len)) | ((with_reducible apply bNeg); leaf_len) | ((with_reducible apply bFdiv); (focus omega); leaf_len) | ((with_reducible apply bDiv); leaf_len) | ((with_reducible apply bMod); (focus leaf_len); omega) | ((with_reducible apply Sm.ba); one_place) | ((with_reducible apply Sm.bb); one_place) | ((with_reducible apply Sm.bc); one_place) | ((with_reducible apply Sm.bd); one_place))
local macro_rules | `(tactic| one_item) => `(tactic| first | ((with_reducible apply mulBt); (focus leaf_len); (focus leaf_len); (focus decide); (focus decide)) | ((with_reducible exact dv2)) | ((with_reducible apply divB); (focus omega); (focus leaf_len); (focus decide)) | exact ⟨rfl, rfl, by simp [D.dep, D.deps], by simp [D.dep, D.deps]⟩)
local macro_rules | `(tactic| w_left) => `(tactic| repeat ((with_reducible refine And.intro ?_ ?_); (focus one_item)))
local macro_rules | `(tactic| x_go) => `(tactic| first | (with_reducible refine callW_i (bool_ok ?_)) | (with_reducible refine callW_i (add_ok ?_)) | (with_reducible refine callW_i (sub_ok ?_)) | (with_reducible refine callW_i (neg_ok ?_)) | (with_reducible refine callW_i (halves_ok ?_)) | (with_reducible refine callW_i (mirrored_ok ?_)) | (with_reducible refine callW_i (eq_ok ?_)) | (with_reducible refine callW_i (mul_ok (by one_place) (by one_place) (by decide) (by decide) ?_)) | (with_reducible refine callW_i (size_ok (by one_place) (by decide) ?_)) | (with_reducible refine callW_i (whole_ok (by leaf_len) (by decide) ?_)) | (with_reducible refine callW_i (law_four_ok ?_)) | (with_reducible refine callW_i (law_back_ok ?_)) | (with_reducible refine callW_i (law_times_ok (by one_place) (by one_place) (by decide) (by decide) ?_)) | (with_reducible refine callW_i (law_size_ok (by one_place) (by decide) ?_)))
local macro_rules | `(tactic| z_go) => `(tactic| (f_lean; repeat (first | x_go | ((with_reducible refine And.intro ?_ ?_); (focus one_item))) <;> f_lean))
open HQ HQ.Hur
def itx (i : Int) : Str := Str.ofString (toString i)
def termS (h : Int) (l : Str) : Str :=
  if (h.natAbs : Int) % 2 = 1 then Str.empty ++ itx (h.natAbs : Int) ++ "/2" ++ l
  else if (h.natAbs : Int) = 2 ∧ l ≠ "" then l else Str.empty ++ itx ((h.natAbs : Int) / 2) ++ l
def partS (h : Int) (l : Str) (acc : List Str) : List Str :=
  if h = 0 then acc else acc ++ [(if h < 0 then ("-" : Str) else if acc = [] then "" else "+") ++ termS h l]
def preS (q : Hur) : Nat → List Str
  | 0 => []
  | 1 => partS q.a "" []
  | 2 => partS q.b "i" (partS q.a "" [])
  | 3 => partS q.c "j" (partS q.b "i" (partS q.a "" []))
  | _ => partS q.d "k" (partS q.c "j" (partS q.b "i" (partS q.a "" [])))
def textS (q : Hur) : Str := if preS q 4 = [] then "0" else Txt.join "" (preS q 4)
theorem itx_len {i : Int} {k : Nat} (hk : 0 < k) (h : i.natAbs < 2 ^ k) : (itx i).length ≤ k + 1 := by
  unfold itx
  rw [PySem.ofString_length]
  refine int_text_length_le hk ?_
  by_cases h0 : i.natAbs = 0
  · rw [h0, Nat.log2_zero]; exact hk
  · exact (Nat.log2_lt h0).mpr h
theorem log_small {i : Int} {k : Nat} (hk : 0 < k) (h : i.natAbs < 2 ^ k) : i.natAbs.log2 < k := by
  by_cases h0 : i.natAbs = 0
  · rw [h0, Nat.log2_zero]; exact hk
  · exact (Nat.log2_lt h0).mpr h
theorem half_abs (h : Int) : ((h.natAbs : Int) / 2).natAbs ≤ h.natAbs := by omega
theorem len_e : (Str.empty).length = 0 := rfl
theorem len_lit2 : (("/2" : Str)).length = 2 := by decide +kernel
theorem termS_len {h : Int} {l : Str} {k : Nat} (hk : 0 < k) (s : h.natAbs < 2 ^ k) (hl : l.length ≤ 1) : (termS h l).length ≤ k + 4 := by
  have h1 := itx_len (i := (h.natAbs : Int)) hk s
  have h2 := itx_len (i := (h.natAbs : Int) / 2) hk (Nat.lt_of_le_of_lt (half_abs h) s)
  unfold termS
  split
  · simp only [Str.length_append, len_e, len_lit2]; omega
  · split
    · omega
    · simp only [Str.length_append, len_e]; omega
theorem partS_len {h : Int} {l : Str} {k : Nat} {acc : List Str} (hk : 0 < k) (s : h.natAbs < 2 ^ k) (hl : l.length ≤ 1) (ha : ∀ x ∈ acc, x.length ≤ k + 5) : (∀ x ∈ partS h l acc, x.length ≤ k + 5) ∧ (partS h l acc).length ≤ acc.length + 1 := by
  unfold partS
  split
  · exact ⟨ha, by omega⟩
  · refine ⟨fun x hx => ?_, by simp⟩
    rcases List.mem_append.mp hx with q | q
    · exact ha x q
    · rw [List.mem_singleton.mp q, Str.length_append]
      have h1 := termS_len (l := l) hk s hl
      have h2 : (if h < 0 then ("-" : Str) else if acc = [] then "" else "+").length ≤ 1 := by
        split
        · decide +kernel
        · split <;> decide +kernel
      omega
theorem lens : (("" : Str)).length ≤ 1 ∧ (("i" : Str)).length ≤ 1 ∧ (("j" : Str)).length ≤ 1 ∧ (("k" : Str)).length ≤ 1 := by decide +kernel
theorem preS_len {q : Hur} {k : Nat} (hk : 0 < k) (s : Sm q k) : ∀ n, (∀ x ∈ preS q n, x.length ≤ k + 5) ∧ (preS q n).length ≤ 4 := by
  obtain ⟨sa, sb, sc, sd⟩ := s
  have h1 := partS_len (acc := []) hk sa lens.1 (by simp)
  have h2 := partS_len hk sb lens.2.1 h1.1
  have h3 := partS_len hk sc lens.2.2.1 h2.1
  have h4 := partS_len hk sd lens.2.2.2 h3.1
  have l0 : ([] : List Str).length = 0 := rfl
  intro n
  match n with
  | 0 => exact ⟨by simp [preS], by simp [preS]⟩
  | 1 => exact ⟨h1.1, by have := h1.2; show (partS q.a "" []).length ≤ 4; omega⟩
  | 2 => exact ⟨h2.1, by have := h1.2; have := h2.2; show (partS q.b "i" _).length ≤ 4; omega⟩
  | 3 => exact ⟨h3.1, by have := h1.2; have := h2.2; have := h3.2; show (partS q.c "j" _).length ≤ 4; omega⟩
  | n + 4 => exact ⟨h4.1, by have := h1.2; have := h2.2; have := h3.2; have := h4.2; show (partS q.d "k" _).length ≤ 4; omega⟩
theorem sum_le {xs : List Str} {k : Nat} (h : ∀ x ∈ xs, x.length ≤ k) : (xs.map (·.length)).sum ≤ xs.length * k := by
  induction xs with
  | nil => simp
  | cons x xs ih =>
    have h1 := h x List.mem_cons_self
    have h2 := ih fun y hy => h y (List.mem_cons_of_mem _ hy)
    rw [List.map_cons, List.sum_cons, List.length_cons, Nat.succ_mul]
    omega
theorem join_len {xs : List Str} {k : Nat} (h : ∀ x ∈ xs, x.length ≤ k) : (Txt.join "" xs).length ≤ xs.length * k := by
  have e : Txt.join "" xs = Str.join "" xs := StrLaws.glued_eq_join _ _
  rw [e]
  have h1 := StrLaws.join_length_le "" xs
  have h2 := sum_le h
  have h3 : ((("" : Str)).length) = 0 := by decide +kernel
  rw [h3] at h1
  omega
theorem textS_len {q : Hur} {k : Nat} (hk : 0 < k) (s : Sm q k) : (textS q).length ≤ 4 * (k + 5) := by
  unfold textS
  obtain ⟨h1, h2⟩ := preS_len hk s 4
  split
  · have : (("0" : Str)).length = 1 := by decide +kernel
    omega
  · have := join_len h1
    exact Nat.le_trans this (Nat.mul_le_mul_right _ h2)
theorem term_text_ok {h : Int} {l : Str} {k : Nat} {st : Store} {Q : QE} {R : XQ} (hk : 0 < k) (hk2 : k ≤ 1900) (s : h.natAbs < 2 ^ k) (hl : l.length ≤ 1) (hd : DatOk (.str l) (.str "")) (q : Q (.str (termS h l)) st) : p_term_text [.int h, .str l] st Q R := by
  have sl : (3000 : Nat) ≤ sizeLine := by decide
  have h1 := itx_len (i := (h.natAbs : Int)) hk s
  have h2 := itx_len (i := (h.natAbs : Int) / 2) hk (Nat.lt_of_le_of_lt (half_abs h) s)
  have g1 : ((h.natAbs : Int)).natAbs.log2 < 1920 := Nat.lt_of_lt_of_le (log_small hk s) (by omega)
  have g2 : ((h.natAbs : Int) / 2).natAbs.log2 < 1920 := Nat.lt_of_lt_of_le (log_small hk (Nat.lt_of_le_of_lt (half_abs h) s)) (by omega)
  have l2 := len_lit2
  refine i_term_text ?_
  unfold w_term_text
  unfold termS at q
  unfold itx at h1 h2 q
  f_lean
  rw [fmod_pos (by decide)]
  refine iteW_i (fun hb => ?_) (fun hb => ?_)
  · have hb := of_decide_eq_true hb
    rw [if_pos hb] at q
    f_lean
    refine ⟨g1, ?_, ?_, by omega, ?_, q⟩
    · simp only [Str.length_append, len_e]; omega
    · simp only [Str.length_append, len_e]; omega
    · simp only [Str.length_append, len_e]; omega
  · have hb := of_decide_eq_false hb
    rw [if_neg hb] at q
    have fin : ¬ ((h.natAbs : Int) = 2 ∧ l ≠ "") → (Str.ofString (toString ((h.natAbs : Int) / 2))).length ≤ sizeLine ∧ l.length ≤ sizeLine ∧ (Str.empty ++ Str.ofString (toString ((h.natAbs : Int) / 2))).length ≤ sizeLine ∧ (Str.empty ++ Str.ofString (toString ((h.natAbs : Int) / 2)) ++ l).length ≤ sizeLine ∧ Q (.str (Str.empty ++ Str.ofString (toString ((h.natAbs : Int) / 2)) ++ l)) st := fun z => by
      rw [if_neg z] at q
      refine ⟨by omega, by omega, ?_, ?_, q⟩
      · simp only [Str.length_append, len_e]; omega
      · simp only [Str.length_append, len_e]; omega
    f_lean
    refine iteW_i (fun hb => ?_) (fun hb => ?_)
    · have h2' := of_decide_eq_true hb
      f_lean
      refine ⟨hd, ?_⟩
      by_cases hz : l = ""
      · rw [decide_eq_true hz]
        f_lean
        rw [fdiv_pos (by decide)]
        obtain ⟨f1, f2, f3, f4, f5⟩ := fin fun z => z.2 hz
        exact ⟨dv2, g2, f3, f2, f4, f5⟩
      · rw [decide_eq_false hz]
        f_lean
        rw [if_pos ⟨h2', hz⟩] at q
        exact q
    · have h2' := of_decide_eq_false hb
      f_lean
      rw [fdiv_pos (by decide)]
      obtain ⟨f1, f2, f3, f4, f5⟩ := fin fun z => h2' z.1
      exact ⟨dv2, g2, f3, f2, f4, f5⟩
theorem let_dat : ∀ l ∈ (["", "i", "j", "k"] : List Str), DatOk (.str l) (.str "") := by
  intro l hl
  have e : PyData.strOk l = true := by
    simp only [List.mem_cons, List.mem_nil_iff, or_false] at hl
    rcases hl with rfl | rfl | rfl | rfl <;> decide +kernel
  exact ⟨e, by decide +kernel, by simp [D.dep], by simp [D.dep]⟩
theorem ok_app {x y : Str} (hx : PyData.strOk x = true) (hy : PyData.strOk y = true) : PyData.strOk (x ++ y) = true := by
  unfold PyData.strOk at hx hy ⊢
  show (x.cps ++ y.cps).all _ = true
  rw [Array.all_append, hx, hy]
  rfl
theorem ok_str (s : String) : PyData.strOk (Str.ofString s) = true := by
  rw [Str.ofString_eq_toList]
  unfold PyData.strOk
  rw [List.all_toArray, List.all_eq_true]
  intro n hn
  obtain ⟨c, _, rfl⟩ := List.mem_map.mp hn
  refine decide_eq_true ?_
  have v := c.valid
  show c.val.toNat < 1114112
  have v : c.val.toNat < 0xd800 ∨ (0xdfff < c.val.toNat ∧ c.val.toNat < 0x110000) := v
  omega
theorem ok_e : PyData.strOk Str.empty = true := by decide +kernel
theorem termS_okd {h : Int} {l : Str} (hl : PyData.strOk l = true) : PyData.strOk (termS h l) = true := by
  unfold termS itx
  split
  · exact ok_app (ok_app (ok_app ok_e (ok_str _)) (ok_str _)) hl
  · split
    · exact hl
    · exact ok_app (ok_app ok_e (ok_str _)) hl
theorem partS_okd {h : Int} {l : Str} {acc : List Str} (hl : PyData.strOk l = true) (ha : ∀ x ∈ acc, PyData.strOk x = true) : ∀ x ∈ partS h l acc, PyData.strOk x = true := by
  unfold partS
  split
  · exact ha
  · intro x hx
    rcases List.mem_append.mp hx with q | q
    · exact ha x q
    · rw [List.mem_singleton.mp q]
      refine ok_app ?_ (termS_okd hl)
      split
      · exact ok_str _
      · split <;> exact ok_str _
theorem preS_okd {q : Hur} : ∀ n, ∀ x ∈ preS q n, PyData.strOk x = true := by
  have h1 := partS_okd (h := q.a) (acc := []) (ok_str "") (by simp)
  have h2 := partS_okd (h := q.b) (ok_str "i") h1
  have h3 := partS_okd (h := q.c) (ok_str "j") h2
  have h4 := partS_okd (h := q.d) (ok_str "k") h3
  intro n
  match n with
  | 0 => simp [preS]
  | 1 => exact h1
  | 2 => exact h2
  | 3 => exact h3
  | n + 4 => exact h4
theorem strs_dat {acc : List Str} (ha : ∀ x ∈ acc, PyData.strOk x = true) : DatOk (.lst (acc.map D.str)) (.lst []) := by
  have h : ∀ acc : List Str, (∀ x ∈ acc, PyData.strOk x = true) → D.dats (acc.map D.str) = true ∧ D.deps (acc.map D.str) = 0 := by
    intro acc
    induction acc with
    | nil => exact fun _ => ⟨rfl, by simp [D.deps]⟩
    | cons x xs ih =>
      intro ha
      obtain ⟨h1, h2⟩ := ih fun y hy => ha y (List.mem_cons_of_mem _ hy)
      rw [List.map_cons, D.dats, D.deps, h1, h2]
      exact ⟨by simp [D.dat, ha x List.mem_cons_self], by simp [D.dep]⟩
  obtain ⟨h1, h2⟩ := h acc ha
  exact ⟨by rw [D.dat]; exact h1, rfl, by rw [D.dep]; omega, by simp [D.dep, D.deps]⟩
theorem eqs_nil {acc : List Str} : eqDs (acc.map D.str) [] = decide (acc = []) := by cases acc <;> simp [eqDs]
theorem four_text_ok {p : Hur} {k : Nat} {st : Store} {Q : QE} {R : XQ} (hk : 0 < k) (hk2 : k ≤ 1900) (s : Sm p k) (q : Q (.str (textS p)) st) : p_four_text [hv p] st Q R := by
  refine i_four_text ?_
  unfold w_four_text
  unfold textS at q
  obtain ⟨pl1, pl2⟩ := preS_len hk s 4
  have sl : (30000 : Nat) ≤ sizeLine := by decide
  have step : ∀ (h : Int) (l : Str) (acc : List Str) (x4 : Slot) (D0 : EW) (K : Envr → Store → Prop), h.natAbs < 2 ^ k → l ∈ (["", "i", "j", "k"] : List Str) → (∀ x ∈ acc, PyData.strOk x = true) → acc.length ≤ 3 →
      (∀ x, K [.val (hv p), .own ((partS h l acc).map D.str), .val (.int h), .val (.str l), x] st) →
      iteW (decide ¬h = 0) (wSeq (wSet 4 (wIf (wBool (wBin oLtA (wVarB 2) (wC (D.int 0)))) (wC (D.str "-")) (wIf (wBool (wBin oNeD (wVarB 1) (wLst waNil))) (wC (D.str "+")) (wC (D.str "")))))
        (wApp 1 (wBin (oAddA M0) (wVarB 4) (wCall p_term_text (waCons (wVar 2) (waCons (wVar 3) waNil))))) (([Slot.val (hv p), Slot.own (acc.map D.str), .val (.int h), .val (.str l), x4])) st (loopK D0 K))
        (wNext [Slot.val (hv p), Slot.own (acc.map D.str), .val (.int h), .val (.str l), x4] st (loopK D0 K)) .mk .mk := by
    intro h l acc x4 D0 K s hl ha hn hK
    have hl1 : l.length ≤ 1 := by
      simp only [List.mem_cons, List.mem_nil_iff, or_false] at hl
      rcases hl with rfl | rfl | rfl | rfl <;> decide +kernel
    have hd := let_dat l hl
    have tlen := termS_len (l := l) hk s hl1
    unfold partS at hK
    refine iteW_i (fun hb => ?_) (fun hb => ?_)
    · have h0 := of_decide_eq_true hb
      rw [if_neg h0] at hK
      have fin : ∀ (g : Str), g.length ≤ 1 → g = (if h < 0 then ("-" : Str) else if acc = [] then "" else "+") → g.length + (termS h l).length ≤ sizeLine ∧ (acc.map D.str).length < sizeLine ∧ K [.val (hv p), .own (acc.map D.str ++ [.str (g ++ termS h l)]), .val (.int h), .val (.str l), .val (.str g)] st := by
        intro g hg e
        subst e
        refine ⟨by omega, by rw [List.length_map]; omega, ?_⟩
        have z := hK (.val (.str (if h < 0 then ("-" : Str) else if acc = [] then "" else "+")))
        rw [List.map_append] at z
        exact z
      f_lean
      refine iteW_i (fun hb => ?_) (fun hb => ?_)
      · have hb := of_decide_eq_true hb
        f_lean
        refine callW_i (term_text_ok hk hk2 s hl1 hd ?_)
        f_lean
        exact fin _ (by decide +kernel) (by rw [if_pos hb])
      · have hb := of_decide_eq_false hb
        f_lean
        refine ⟨strs_dat ha, ?_⟩
        rw [eqs_nil]
        by_cases hz : acc = []
        · rw [decide_eq_true hz]
          f_lean
          refine callW_i (term_text_ok hk hk2 s hl1 hd ?_)
          f_lean
          exact fin _ (by decide +kernel) (by rw [if_neg hb, if_pos hz])
        · rw [decide_eq_false hz]
          f_lean
          refine callW_i (term_text_ok hk hk2 s hl1 hd ?_)
          f_lean
          exact fin _ (by decide +kernel) (by rw [if_neg hb, if_neg hz])
    · have h0 := of_decide_eq_false hb
      rw [if_pos (by omega)] at hK
      f_lean
      exact hK _
  have o := preS_okd (q := p)
  obtain ⟨sa, sb, sc, sd⟩ := s
  have n1 := (partS_len (acc := []) hk sa lens.1 (by simp)).2
  have n2 := (partS_len (acc := partS p.a "" []) hk sb lens.2.1 (preS_len hk ⟨sa, sb, sc, sd⟩ 1).1).2
  have n3 := (partS_len (acc := partS p.b "i" (partS p.a "" [])) hk sc lens.2.2.1 (preS_len hk ⟨sa, sb, sc, sd⟩ 2).1).2
  have n0 : ([] : List Str).length = 0 := rfl
  f_lean
  refine step p.a "" [] _ _ _ sa (by simp) (by simp) (by simp) fun x => ?_
  f_lean
  refine step p.b "i" (partS p.a "" []) _ _ _ sb (by simp) (o 1) (by omega) fun x => ?_
  f_lean
  refine step p.c "j" (partS p.b "i" (partS p.a "" [])) _ _ _ sc (by simp) (o 2) (by omega) fun x => ?_
  f_lean
  refine step p.d "k" (partS p.c "j" (partS p.b "i" (partS p.a "" []))) _ _ _ sd (by simp) (o 3) (by omega) fun x => ?_
  f_lean
  refine ⟨strs_dat (o 4), ?_⟩
  rw [eqs_nil]
  have e4 : partS p.d "k" (partS p.c "j" (partS p.b "i" (partS p.a "" []))) = preS p 4 := rfl
  rw [e4]
  by_cases hz : preS p 4 = []
  · rw [decide_eq_true hz]
    rw [if_pos hz] at q
    f_lean
    exact q
  · rw [decide_eq_false hz]
    rw [if_neg hz] at q
    f_lean
    rw [D.strs_map]
    f_lean
    refine ⟨?_, q⟩
    unfold joinOk
    have h1 := sum_le pl1
    have h2 : (("" : Str)).length = 0 := by decide +kernel
    have h3 : (preS p 4).length * (k + 5) ≤ 4 * (k + 5) := Nat.mul_le_mul_right _ pl2
    rw [h2]
    omega
theorem text_ok {p : Hur} {k : Nat} {st : Store} {Q : QE} {R : XQ} (hk : 0 < k) (hk2 : k ≤ 1900) (s : Sm p k) (q : Q (.str (textS p)) st) : p_Four_text [fob p] st Q R := by
  refine i_Four_text ?_
  unfold w_Four_text
  f_lean
  exact callW_i (four_text_ok hk hk2 s q)
theorem textS_okd {p : Hur} : PyData.strOk (textS p) = true := by
  unfold textS
  split
  · exact ok_str _
  · have e : Txt.join "" (preS p 4) = Str.join "" (preS p 4) := StrLaws.glued_eq_join _ _
    rw [e]
    have h := preS_okd (q := p) 4
    generalize preS p 4 = xs at h
    induction xs with
    | nil => exact ok_e
    | cons x xs ih =>
      cases xs with
      | nil => exact h x List.mem_cons_self
      | cons y ys => exact ok_app (ok_app (h x List.mem_cons_self) (ok_str _)) (ih fun z hz => h z (List.mem_cons_of_mem _ hz))
theorem join_e (xs : List Str) : Txt.join "" xs = Str.join "" xs := StrLaws.glued_eq_join _ _
theorem se : (("" : Str)) = Str.empty := by decide +kernel
theorem join_snoc (x : Str) : ∀ xs : List Str, Txt.join "" (xs ++ [x]) = Txt.join "" xs ++ x := by
  intro xs
  rw [join_e, join_e, se]
  induction xs with
  | nil => rw [List.nil_append]; show x = Str.empty ++ x; rw [Str.empty_append]
  | cons y ys ih =>
    cases ys with
    | nil =>
      show y ++ Str.empty ++ x = y ++ x
      rw [Str.append_empty]
    | cons z zs =>
      show y ++ Str.empty ++ Str.join Str.empty ((z :: zs) ++ [x]) = y ++ Str.empty ++ Str.join Str.empty (z :: zs) ++ x
      rw [ih]; exact (Str.append_assoc _ _ _).symm
theorem len_ne {x : Str} (h : 0 < x.length) : x ≠ "" := fun e => by rw [e, se] at h; exact absurd h (by decide)
theorem itx_pos (i : Int) : 0 < (itx i).length := by
  unfold itx
  rw [Str.ofString_eq_toList]
  show 0 < (((toString i).toList.map Char.toNat).toArray).size
  rw [List.size_toArray, List.length_map, String.length_toList]
  cases i with
  | ofNat n =>
    show 0 < (Nat.repr n).length
    exact Nat.pos_of_ne_zero fun h => by
      have := Nat.length_repr_pos (n := n)
      omega
  | negSucc n =>
    show 0 < ("-" ++ Nat.repr (n + 1)).length
    rw [String.length_append]
    have : "-".length = 1 := by decide
    omega
theorem str_pos {l : Str} (h : l ≠ "") : 0 < l.length := Nat.pos_of_ne_zero fun e => h (by
  obtain ⟨c⟩ := l
  have : c.size = 0 := e
  rw [se, Array.eq_empty_of_size_eq_zero this]
  rfl)
theorem termS_pos (h : Int) (l : Str) : 0 < (termS h l).length := by
  unfold termS
  have h1 := itx_pos ((h.natAbs : Int) / 2)
  have l2 := len_lit2
  split
  · simp only [Str.length_append, len_e]; omega
  · split
    · rename_i q; exact str_pos q.2
    · simp only [Str.length_append, len_e]; omega
theorem partS_ne {h : Int} {l : Str} {acc : List Str} (a : Txt.join "" acc = "" ↔ acc = []) : Txt.join "" (partS h l acc) = "" ↔ partS h l acc = [] := by
  unfold partS
  split
  · exact a
  · have := termS_pos h l
    refine ⟨fun e => ?_, fun e => by simp at e⟩
    rw [join_snoc] at e
    exact absurd e (len_ne (by simp only [Str.length_append]; omega))
def spB : WS := (wSeq (wSet 4 (wArgs oAbs (waCons (wVarB 2) waNil))) (wSeq (wSet 5 (wIf (wBool (wBin oEqD (wBin (oMod) (wArgs oInt (waCons (wVarB 4) waNil)) (wC (.int 2))) (wC (.int 1)))) (wBin (oAddA M0) (wBin (oAddA M0) (wArgs oStr (waCons (wVarB 4) waNil)) (wC (.str "/2"))) (wVarB 3)) (wBin (oAddA M0) (wArgs oStr (waCons (wBin (oFdiv) (wVarB 4) (wC (.int 2))) waNil)) (wVarB 3)))) (wSeq (wIfS (wAndT (wBool (wBin oEqD (wVarB 4) (wC (.int 2)))) (wBool (wBin oNeD (wVarB 3) (wC (.str ""))))) (wSet 5 (wVar 3)) wNext) (wIfS (wBool (wBin oNeD (wVarB 2) (wC (.int 0)))) (wSet 1 (wBin (oAddA M0) (wBin (oAddA M0) (wVarB 1) (wIf (wBool (wBin oLtA (wVarB 2) (wC (.int 0)))) (wC (.str "-")) (wIf (wBool (wBin oNeD (wVarB 1) (wC (.str "")))) (wC (.str "+")) (wC (.str ""))))) (wVarB 5))) wNext))))
theorem w_spelled : w__law_spelled = (wSeq (wSet 1 (wC (.str ""))) (wSeq (wFor (wiZipA (waCons (wVar 0) (waCons (wLst (waCons (wC (.str "")) (waCons (wC (.str "i")) (waCons (wC (.str "j")) (waCons (wC (.str "k")) waNil))))) waNil))) (wgTup 2 (wgsCons (wgName 2) (wgsCons (wgName 3) wgsNil))) spB) (wRet (wIf (wBool (wBin oNeD (wVarB 1) (wC (.str "")))) (wVar 1) (wC (.str "0")))))) := rfl
theorem sp_step {p : Hur} {k : Nat} {st : Store} (hk : 0 < k) (hk2 : k ≤ 1900) (h : Int) (l : Str) (acc : List Str) (x4 x5 : Slot) (D0 : EW) (K : Envr → Store → Prop) (s : h.natAbs < 2 ^ k) (hl1 : l.length ≤ 1) (hd : DatOk (.str l) (.str "")) (ha : Txt.join "" acc = "" ↔ acc = []) (hb : (Txt.join "" acc).length ≤ 8000)
    (hda : DatOk (.str (Txt.join "" acc)) (.str ""))
    (hK : ∀ x4 x5, K [.val (hv p), .val (.str (Txt.join "" (partS h l acc))), .val (.int h), .val (.str l), x4, x5] st) :
    spB [.val (hv p), .val (.str (Txt.join "" acc)), .val (.int h), .val (.str l), x4, x5] st (loopK D0 K) := by
  have sl : (30000 : Nat) ≤ sizeLine := by decide
  have h1 := itx_len (i := (h.natAbs : Int)) hk s
  have h2 := itx_len (i := (h.natAbs : Int) / 2) hk (Nat.lt_of_le_of_lt (half_abs h) s)
  have g1 : ((h.natAbs : Int)).natAbs.log2 < 1920 := Nat.lt_of_lt_of_le (log_small hk s) (by omega)
  have g2 : ((h.natAbs : Int) / 2).natAbs.log2 < 1920 := Nat.lt_of_lt_of_le (log_small hk (Nat.lt_of_le_of_lt (half_abs h) s)) (by omega)
  have l2 := len_lit2
  have tl := termS_len (l := l) hk s hl1
  have fin : ∀ x4, (iteW (decide ¬h = 0) (wSet 1 (wBin (oAddA M0) (wBin (oAddA M0) (wVarB 1) (wIf (wBool (wBin oLtA (wVarB 2) (wC (.int 0)))) (wC (.str "-")) (wIf (wBool (wBin oNeD (wVarB 1) (wC (.str "")))) (wC (.str "+")) (wC (.str ""))))) (wVarB 5)) [.val (hv p), .val (.str (Txt.join "" acc)), .val (.int h), .val (.str l), x4, .val (.str (termS h l))] st (loopK D0 K)) (wNext [.val (hv p), .val (.str (Txt.join "" acc)), .val (.int h), .val (.str l), x4, .val (.str (termS h l))] st (loopK D0 K)) .mk .mk) := fun x4 => by
    refine iteW_i (fun hz => ?_) (fun hz => ?_)
    · have h0 := of_decide_eq_true hz
      unfold partS at hK
      rw [if_neg h0, join_snoc] at hK
      have put : ∀ (g : Str), g.length ≤ 1 → g = (if h < 0 then ("-" : Str) else if acc = [] then "" else "+") → (Txt.join "" acc).length + g.length ≤ sizeLine ∧ (Txt.join "" acc ++ g).length + (termS h l).length ≤ sizeLine ∧ K [.val (hv p), .val (.str (Txt.join "" acc ++ g ++ termS h l)), .val (.int h), .val (.str l), x4, .val (.str (termS h l))] st := by
        intro g hg e
        subst e
        refine ⟨by omega, by simp only [Str.length_append]; omega, ?_⟩
        have z := hK x4 (.val (.str (termS h l)))
        rw [← Str.append_assoc] at z
        exact z
      f_lean
      refine iteW_i (fun hb => ?_) (fun hb => ?_)
      · have hb := of_decide_eq_true hb
        f_lean
        exact put _ (by decide +kernel) (by rw [if_pos hb])
      · have hb := of_decide_eq_false hb
        f_lean
        refine ⟨hda, ?_⟩
        by_cases hy : acc = []
        · rw [decide_eq_true (ha.mpr hy)]
          f_lean
          exact put _ (by decide +kernel) (by rw [if_neg hb, if_pos hy])
        · rw [decide_eq_false (fun e => hy (ha.mp e))]
          f_lean
          exact put _ (by decide +kernel) (by rw [if_neg hb, if_neg hy])
    · have h0 := of_decide_eq_false hz
      unfold partS at hK
      rw [if_pos (by omega)] at hK
      f_lean
      exact hK _ _
  unfold spB
  unfold termS itx at fin
  unfold itx at h1 h2
  f_lean
  rw [fmod_pos (by decide)]
  refine iteW_i (fun hb => ?_) (fun hb => ?_)
  · have hb := of_decide_eq_true hb
    have hn : ¬ (h.natAbs : Int) = 2 := by omega
    rw [if_pos hb, Str.empty_append] at fin
    f_lean
    refine ⟨g1, by omega, by simp only [Str.length_append]; omega, ?_⟩
    rw [decide_eq_false hn]
    f_lean
    exact fin _
  · have hb := of_decide_eq_false hb
    rw [if_neg hb, Str.empty_append] at fin
    f_lean
    rw [fdiv_pos (by decide)]
    refine ⟨dv2, g2, by omega, ?_⟩
    refine iteW_i (fun hb => ?_) (fun hb => ?_)
    · have h2' := of_decide_eq_true hb
      f_lean
      refine ⟨hd, ?_⟩
      by_cases hz : l = ""
      · rw [decide_eq_true hz]
        rw [if_neg (fun z => z.2 hz)] at fin
        f_lean
        exact fin _
      · rw [decide_eq_false hz]
        rw [if_pos ⟨h2', hz⟩] at fin
        f_lean
        exact fin _
    · have h2' := of_decide_eq_false hb
      rw [if_neg (fun z => h2' z.1)] at fin
      f_lean
      exact fin _
theorem join_okd {xs : List Str} (h : ∀ x ∈ xs, PyData.strOk x = true) : PyData.strOk (Txt.join "" xs) = true := by
  rw [join_e]
  induction xs with
  | nil => exact ok_e
  | cons x xs ih =>
    cases xs with
    | nil => exact h x List.mem_cons_self
    | cons y ys => exact ok_app (ok_app (h x List.mem_cons_self) (ok_str _)) (ih fun z hz => h z (List.mem_cons_of_mem _ hz))
theorem str_datok {x y : Str} (hx : PyData.strOk x = true) (hy : PyData.strOk y = true) : DatOk (.str x) (.str y) := ⟨hx, hy, by simp [D.dep], by simp [D.dep]⟩
theorem spelled_ok {p : Hur} {k : Nat} {st : Store} {Q : QE} {R : XQ} (hk : 0 < k) (hk2 : k ≤ 1900) (s : Sm p k) (q : Q (.str (textS p)) st) : p__law_spelled [hv p] st Q R := by
  refine i__law_spelled ?_
  rw [w_spelled]
  have bd : ∀ n, (Txt.join "" (preS p n)).length ≤ 8000 := fun n => by
    have h1 := join_len (preS_len hk s n).1
    have h2 : (preS p n).length * (k + 5) ≤ 4 * (k + 5) := Nat.mul_le_mul_right _ (preS_len hk s n).2
    omega
  have dt : ∀ n, DatOk (.str (Txt.join "" (preS p n))) (.str "") := fun n => str_datok (join_okd (preS_okd n)) (ok_str "")
  have n0 : Txt.join "" (preS p 0) = "" ↔ preS p 0 = [] := ⟨fun _ => rfl, fun _ => show Txt.join "" [] = "" by decide +kernel⟩
  have n1 : Txt.join "" (preS p 1) = "" ↔ preS p 1 = [] := partS_ne n0
  have n2 : Txt.join "" (preS p 2) = "" ↔ preS p 2 = [] := partS_ne n1
  have n3 : Txt.join "" (preS p 3) = "" ↔ preS p 3 = [] := partS_ne n2
  have n4 : Txt.join "" (preS p 4) = "" ↔ preS p 4 = [] := partS_ne n3
  have e0 : (("" : Str)) = Txt.join "" (preS p 0) := show ("" : Str) = Txt.join "" [] by decide +kernel
  obtain ⟨sa, sb, sc, sd⟩ := s
  f_lean
  rw [show (G.Slot.val (.str "") :: [G.Slot.val (.int p.a), .val (.str ""), .no, .no]) = (G.Slot.val (.str (Txt.join "" (preS p 0))) :: [G.Slot.val (.int p.a), .val (.str ""), .no, .no]) by rw [← e0]]
  refine sp_step hk hk2 p.a "" (preS p 0) _ _ _ _ sa lens.1 (let_dat _ (by simp)) n0 (bd 0) (dt 0) fun x4 x5 => ?_
  f_lean
  refine sp_step hk hk2 p.b "i" (preS p 1) _ _ _ _ sb lens.2.1 (let_dat _ (by simp)) n1 (bd 1) (dt 1) fun x4 x5 => ?_
  f_lean
  refine sp_step hk hk2 p.c "j" (preS p 2) _ _ _ _ sc lens.2.2.1 (let_dat _ (by simp)) n2 (bd 2) (dt 2) fun x4 x5 => ?_
  f_lean
  refine sp_step hk hk2 p.d "k" (preS p 3) _ _ _ _ sd lens.2.2.2 (let_dat _ (by simp)) n3 (bd 3) (dt 3) fun x4 x5 => ?_
  f_lean
  have e4 : partS p.d "k" (preS p 3) = preS p 4 := rfl
  rw [e4]
  refine ⟨dt 4, ?_⟩
  unfold textS at q
  by_cases hz : preS p 4 = []
  · rw [decide_eq_true (n4.mpr hz)]
    rw [if_pos hz] at q
    f_lean
    exact q
  · rw [decide_eq_false (fun e => hz (n4.mp e))]
    rw [if_neg hz] at q
    f_lean
    exact q
open SX TL
def termL (h : Int) (l : List Nat) : List Nat := if h.natAbs % 2 = 1 then numL h.natAbs ++ [47, 50] ++ l else if h.natAbs = 2 ∧ l ≠ [] then l else numL (h.natAbs / 2) ++ l
theorem itx_S (n : Nat) : itx (n : Int) = S (numL n) := num_S n
theorem S_ne_nil {l : List Nat} : (S l ≠ "") = (l ≠ []) := by
  rw [s_nil]
  exact propext ⟨fun h e => h (by rw [e]), fun h e => h (S_inj e)⟩
theorem term_S (h : Int) (l : List Nat) : termS h (S l) = S (termL h l) := by
  unfold termS termL
  have e2 : (h.natAbs : Int) / 2 = ((h.natAbs / 2 : Nat) : Int) := by omega
  by_cases h1 : h.natAbs % 2 = 1
  · rw [if_pos (by omega), if_pos h1, itx_S, s_nil2, s_half, S_cat, S_cat, S_cat, List.nil_append]
  · rw [if_neg (by omega), if_neg h1]
    by_cases h2 : h.natAbs = 2 ∧ l ≠ []
    · rw [if_pos ⟨by omega, by rw [S_ne_nil]; exact h2.2⟩, if_pos h2]
    · rw [if_neg (fun z => h2 ⟨by omega, by rw [← S_ne_nil]; exact z.2⟩), if_neg h2, e2, itx_S, s_nil2, S_cat, S_cat, List.nil_append]
def sg0 (h : Int) : List Nat := if h < 0 then [45] else []
def sg1 (h : Int) : List Nat := if h < 0 then [45] else [43]
/-- the parts that are not zero -/
def raw4 (p : Hur) : List (Int × List Nat) := [(p.a, []), (p.b, [105]), (p.c, [106]), (p.d, [107])]
def parts4 (p : Hur) : List (Int × List Nat) := (raw4 p).filter fun it => decide (it.1 ≠ 0)
def prt (acc : List Str) (it : Int × List Nat) : List Str := partS it.1 (S it.2) acc
theorem pre_fold (p : Hur) : preS p 4 = (parts4 p).foldl prt [] := by
  have h : ∀ (xs : List (Int × List Nat)) (acc : List Str), (xs.filter fun it => decide (it.1 ≠ 0)).foldl prt acc = xs.foldl prt acc := by
    intro xs
    induction xs with
    | nil => intro acc; rfl
    | cons x xs ih =>
      intro acc
      rw [List.filter_cons]
      by_cases hx : x.1 = 0
      · rw [decide_eq_false (by simpa using hx), if_neg Bool.false_ne_true, ih, List.foldl_cons]
        unfold prt partS
        rw [if_pos hx]
      · rw [decide_eq_true hx, if_pos rfl, List.foldl_cons, List.foldl_cons, ih]
  unfold parts4
  rw [h]
  show partS p.d "k" (partS p.c "j" (partS p.b "i" (partS p.a "" []))) = partS p.d (S [107]) (partS p.c (S [106]) (partS p.b (S [105]) (partS p.a (S []) [])))
  rw [s_k, s_j, s_i, s_nil]
def textL : List (Int × List Nat) → List Nat
  | [] => [48]
  | it :: r => sg0 it.1 ++ termL it.1 it.2 ++ r.flatMap fun x => sg1 x.1 ++ termL x.1 x.2
theorem fold_more : ∀ (xs : List (Int × List Nat)) (acc : List Str) (a : List Nat), (∀ x ∈ xs, x.1 ≠ 0) → acc ≠ [] → Txt.join "" acc = S a → Txt.join "" (xs.foldl prt acc) = S (a ++ xs.flatMap fun x => sg1 x.1 ++ termL x.1 x.2)
  | [], acc, a, _, _, h => by rw [List.foldl_nil, h]; simp
  | x :: xs, acc, a, hx, hn, h => by
    rw [List.foldl_cons]
    have e : prt acc x = acc ++ [S (sg1 x.1 ++ termL x.1 x.2)] := by
      unfold prt partS
      rw [if_neg (hx x List.mem_cons_self), if_neg hn, term_S, ← S_cat]
      congr 3
      unfold sg1
      split
      · exact s_dash
      · exact s_plus
    rw [fold_more xs (prt acc x) (a ++ (sg1 x.1 ++ termL x.1 x.2)) (fun y hy => hx y (List.mem_cons_of_mem _ hy)) (by rw [e]; simp) (by rw [e, join_snoc, h, S_cat]), List.flatMap_cons, List.append_assoc]
theorem text_S (p : Hur) : textS p = S (textL (parts4 p)) := by
  unfold textS
  rw [pre_fold]
  have hz : ∀ x ∈ parts4 p, x.1 ≠ 0 := fun x hx => of_decide_eq_true (List.mem_filter.mp hx).2
  cases hp : parts4 p with
  | nil => rw [List.foldl_nil, if_pos rfl]; exact s_0
  | cons x xs =>
    rw [hp] at hz
    have e : prt [] x = [S (sg0 x.1 ++ termL x.1 x.2)] := by
      unfold prt partS
      rw [if_neg (hz x List.mem_cons_self), List.nil_append, term_S, ← S_cat]
      congr 2
      unfold sg0
      split
      · exact s_dash
      · rw [if_pos rfl]; exact s_nil
    have hne : (x :: xs).foldl prt [] ≠ [] := by
      have grow : ∀ (ys : List (Int × List Nat)) (acc : List Str), acc ≠ [] → ys.foldl prt acc ≠ [] := by
        intro ys
        induction ys with
        | nil => exact fun acc h => h
        | cons y ys ih =>
          intro acc h
          refine ih _ ?_
          unfold prt partS
          split
          · exact h
          · simp
      exact grow xs _ (by rw [e]; simp)
    rw [if_neg hne, List.foldl_cons, fold_more xs _ (sg0 x.1 ++ termL x.1 x.2) (fun y hy => hz y (List.mem_cons_of_mem _ hy)) (by rw [e]; simp) (by rw [e, join_e]; rfl)]
    rfl
theorem letter_free {l : List Nat} (hl : l ∈ ([[], [105], [106], [107]] : List (List Nat))) {c : Nat} (hc : c < 48) : c ∉ l := by
  simp only [List.mem_cons, List.mem_nil_iff, or_false] at hl
  rcases hl with rfl | rfl | rfl | rfl <;> simp <;> omega
theorem termL_free {h : Int} {l : List Nat} (hl : l ∈ ([[], [105], [106], [107]] : List (List Nat))) {c : Nat} (hc : c < 47) : c ∉ termL h l := by
  have f1 := numL_free (n := h.natAbs) (s := c) (.inl (by omega))
  have f2 := numL_free (n := h.natAbs / 2) (s := c) (.inl (by omega))
  have f3 := letter_free hl (c := c) (by omega)
  unfold termL
  split
  · simp only [List.mem_append, List.mem_cons, List.mem_nil_iff, or_false]
    rintro ((a | a | a) | a)
    · exact f1 a
    · omega
    · omega
    · exact f3 a
  · split
    · exact f3
    · simp only [List.mem_append]
      rintro (a | a)
      · exact f2 a
      · exact f3 a
theorem termL_ne (h : Int) (l : List Nat) : termL h l ≠ [] := by
  unfold termL
  split
  · simp
  · split
    · rename_i z; exact z.2
    · intro e
      exact numL_ne _ (List.append_eq_nil_iff.mp e).1
theorem dash_free : ∀ {l : List Nat}, 45 ∉ l → l.flatMap dash = l
  | [], _ => rfl
  | c :: r, h => by
    rw [List.flatMap_cons, dash_free fun z => h (List.mem_cons_of_mem _ z)]
    unfold dash
    rw [if_neg fun z => h (by rw [z]; exact List.mem_cons_self)]
    rfl
def ng (h : Int) : List Nat := if h < 0 then [45] else []
def tms (x : Int × List Nat) (xs : List (Int × List Nat)) : List (List Nat) := termL x.1 x.2 :: xs.map fun y => ng y.1 ++ termL y.1 y.2
theorem joinL_cons (t : List Nat) : ∀ ts : List (List Nat), joinL [43] (t :: ts) = t ++ ts.flatMap fun u => [43] ++ u
  | [] => by simp [joinL]
  | u :: us => by
    show t ++ ([43] ++ joinL [43] (u :: us)) = _
    rw [joinL_cons u us, List.flatMap_cons]
    simp
abbrev Lets : List (List Nat) := [[], [105], [106], [107]]
theorem body_dash {x : Int × List Nat} {xs : List (Int × List Nat)} (hx : x.2 ∈ Lets) (h : ∀ y ∈ xs, y.2 ∈ Lets) : (termL x.1 x.2 ++ xs.flatMap fun y => sg1 y.1 ++ termL y.1 y.2).flatMap dash = joinL [43] (tms x xs) := by
  unfold tms
  rw [joinL_cons, List.flatMap_append, dash_free (termL_free hx (by omega))]
  congr 1
  induction xs with
  | nil => rfl
  | cons y ys ih =>
    rw [List.flatMap_cons, List.flatMap_append, List.map_cons, List.flatMap_cons, ih fun z hz => h z (List.mem_cons_of_mem _ hz), List.flatMap_append, dash_free (termL_free (h y List.mem_cons_self) (by omega))]
    congr 1
    unfold sg1 ng
    split <;> rfl
theorem tms_free {x : Int × List Nat} {xs : List (Int × List Nat)} (hx : x.2 ∈ Lets) (h : ∀ y ∈ xs, y.2 ∈ Lets) : ∀ p ∈ tms x xs, 43 ∉ p := by
  intro p hp
  unfold tms at hp
  rcases List.mem_cons.mp hp with rfl | hp
  · exact termL_free hx (by omega)
  · obtain ⟨y, hy, rfl⟩ := List.mem_map.mp hp
    rw [List.mem_append]
    rintro (a | a)
    · unfold ng at a
      split at a <;> simp at a
    · exact termL_free (h y hy) (by omega) a
theorem terms_split {x : Int × List Nat} {xs : List (Int × List Nat)} (hx : x.2 ∈ Lets) (h : ∀ y ∈ xs, y.2 ∈ Lets) : Txt.split (Txt.replace (S (termL x.1 x.2 ++ xs.flatMap fun y => sg1 y.1 ++ termL y.1 y.2)) "-" "+-") "+" = (tms x xs).map S := by
  rw [replace_dash, body_dash hx h]
  exact split_plus (by unfold tms; simp) (tms_free hx h)
theorem digits_ok (n : Nat) : Txt.isascii (S (numL n)) = true ∧ Txt.isdigit (S (numL n)) = true := by
  have d := numL_digits n
  constructor
  · unfold Txt.isascii
    rw [← Array.all_toList]
    exact List.all_eq_true.mpr fun c hc => decide_eq_true (by have := d c hc; omega)
  · unfold Txt.isdigit
    rw [Bool.and_eq_true, decide_eq_true_eq]
    refine ⟨List.length_pos_iff.mpr (numL_ne n), ?_⟩
    rw [← Array.all_toList]
    refine List.all_eq_true.mpr fun c hc => ?_
    have := d c hc
    have h : ∀ c : Nat, c < 58 → 48 ≤ c → Unicode.isDigit c = true := by decide +kernel
    exact h c (by omega) (by omega)
theorem read_num {n k : Nat} (hk : 0 < k) (hk2 : k ≤ 600) (h : n < 2 ^ k) : PySem.intText? (S (numL n)) = some (n : Int) ∧ (S (numL n)).length ≤ 640 := by
  have h10 : n < 10 ^ k := Nat.lt_of_lt_of_le h (Nat.pow_le_pow_left (by decide) k)
  have hl := numL_len hk h10
  refine ⟨?_, by rw [S_len]; omega⟩
  rw [← num_S]
  exact int_num (by omega)
def ixL (l : List Nat) : Nat := if l = [] then 0 else if l = [105] then 1 else if l = [106] then 2 else 3
theorem any_let (c : Nat) : ([D.str "i", D.str "j", D.str "k"].any fun z => eqD z (D.str (S [c]))) = decide (c = 105 ∨ c = 106 ∨ c = 107) := by
  have e : ∀ d : Nat, eqD (D.str (S [d])) (D.str (S [c])) = decide (c = d) := fun d => by
    unfold eqD
    rw [decide_eq_decide]
    exact ⟨fun h => by have := S_inj h; simp at this; exact this.symm, fun h => by rw [h]⟩
  rw [s_i, s_j, s_k]
  simp only [List.any_cons, List.any_nil, Bool.or_false, e, Bool.decide_or]
theorem flats_let : [D.str "i", D.str "j", D.str "k"].all D.flat = true := by decide +kernel
theorem cut_last (a : List Nat) (c : Nat) : cutS (S (a ++ [c])) (some (-1)) none = S [c] := by
  rw [C8.cutS_slice]
  exact last_snoc a c
theorem cut_but (a : List Nat) (c : Nat) : cutS (S (a ++ [c])) none (some (-1)) = S a := by
  rw [C8.cutS_slice]
  exact butlast_snoc a c
theorem cut_half (a : List Nat) : cutS (S (a ++ [47, 50])) none (some (-2)) = S a := by
  rw [C8.cutS_slice]
  have hl : ((S (a ++ [47, 50])).length : Int) = (a.length : Int) + 2 := by rw [S_len]; simp
  have e := beq_iff_eq.mp (PyProof.Rows.slice_closes_to_neg (x := S (a ++ [47, 50])) (j := -2) (k := (a.length : Int)) (by omega) (by omega) (by omega))
  refine e.trans (TL.ext_tl ?_)
  show ((a ++ [47, 50]).drop (0 : Int).toNat).take ((a.length : Int) - 0).toNat = a
  have h0 : ((a.length : Int) - 0).toNat = a.length := by omega
  rw [h0]
  simp
def dg (h : Int) : List Nat := if h.natAbs % 2 = 1 then numL h.natAbs ++ [47, 50] else if h.natAbs = 2 then [] else numL (h.natAbs / 2)
theorem term_let (h : Int) (x : Nat) : termL h [x] = dg h ++ [x] := by
  unfold termL dg
  split
  · rfl
  · by_cases z : h.natAbs = 2
    · rw [if_pos ⟨z, by simp⟩, if_pos z]; rfl
    · rw [if_neg (fun q => z q.1), if_neg z]
def dg0 (h : Int) : List Nat := if h.natAbs % 2 = 1 then numL h.natAbs ++ [47, 50] else numL (h.natAbs / 2)
theorem term_nil (h : Int) : termL h [] = dg0 h := by
  unfold termL dg0
  split
  · rw [List.append_nil]
  · rw [if_neg (fun z => z.2 rfl), List.append_nil]
theorem numL_snoc (n : Nat) : ∃ a c, numL n = a ++ [c] ∧ 48 ≤ c ∧ c ≤ 57 := by
  have hn := numL_ne n
  refine ⟨(numL n).dropLast, (numL n).getLast hn, (List.dropLast_concat_getLast hn).symm, ?_⟩
  exact numL_digits n _ (List.getLast_mem hn)
theorem dg0_snoc (h : Int) : ∃ a c, dg0 h = a ++ [c] ∧ c < 58 := by
  unfold dg0
  split
  · exact ⟨numL h.natAbs ++ [47], 50, by simp, by omega⟩
  · obtain ⟨a, c, e, _, c2⟩ := numL_snoc (h.natAbs / 2)
    exact ⟨a, c, e, by omega⟩
theorem no_half (n : Nat) : ¬ [47, 50] <:+ numL n := by
  rintro ⟨t, e⟩
  have : (47 : Nat) ∈ numL n := by rw [← e]; simp
  have := numL_digits n 47 this
  omega
theorem okS {l : List Nat} (h : ∀ c ∈ l, c < 1114112) : PyData.strOk (S l) = true := by
  unfold PyData.strOk
  rw [List.all_toArray, List.all_eq_true]
  exact fun c hc => decide_eq_true (h c hc)
theorem ok_num (n : Nat) : PyData.strOk (S (numL n)) = true := okS fun c hc => by have := numL_digits n c hc; omega
theorem ok_let {l : List Nat} (hl : l ∈ Lets) : PyData.strOk (S l) = true := okS fun c hc => by
  simp only [List.mem_cons, List.mem_nil_iff, or_false] at hl
  rcases hl with rfl | rfl | rfl | rfl <;> simp at hc <;> omega
theorem s_1n : (("1" : Str)) = S (numL 1) := by decide +kernel
theorem mul_sm2 {h : Int} {c : Int} {n k : Nat} (hk : 0 < k) (hk2 : k ≤ 600) (s : n < 2 ^ k) (hc : c = 1 ∨ c = 2) : G.MulOk c (n : Int) := by
  refine mulOk 2 k (by decide) hk ?_ (by simpa using s) (by omega)
  rcases hc with rfl | rfl <;> decide
def rtB : WS := (wSeq (wSet 3 (wC (.int 2))) (wSeq (wIfS (wTru M0 (wSq1 Txt.endswith (wVarB 2) (wC (.str "/2")))) (wPar 2 3 (waCons (wSlS (wVarB 2) woNone (woSome (wUn (oNeg M0) (wC (.int 2))))) (waCons (wC (.int 1)) waNil))) (wIfS (wAndT (wBool (wBin oEqD (wVarB 2) (wC (.str "")))) (wBool (wBin oNeD (wVarB 1) (wC (.str ""))))) (wSet 2 (wC (.str "1"))) wNext)) (wSeq (wIfS (wNotT (wAndT (wTru M0 (wSq Txt.isascii (wVarB 2))) (wTru M0 (wSq Txt.isdigit (wVarB 2))))) (wRet (wC .non)) wNext) (wRet (wTup (waCons (wTix ["", "i", "j", "k"] (wVarB 1)) (waCons (wBin (oMulA M0) (wVarB 3) (wArgs oIntT (waCons (wVarB 2) waNil))) waNil)))))))
theorem w_rt : w_read_term = (wSeq (wSet 1 (wIf (wBool (wBin (oIn false M0) (wSlS (wVarB 0) (woSome (wUn (oNeg M0) (wC (.int 1)))) woNone) (wTup (waCons (wC (.str "i")) (waCons (wC (.str "j")) (waCons (wC (.str "k")) waNil)))))) (wSlS (wVarB 0) (woSome (wUn (oNeg M0) (wC (.int 1)))) woNone) (wC (.str "")))) (wSeq (wSet 2 (wIf (wBool (wBin oNeD (wVarB 1) (wC (.str "")))) (wSlS (wVarB 0) woNone (woSome (wUn (oNeg M0) (wC (.int 1))))) (wVar 0))) rtB)) := rfl
theorem read_tail {h : Int} {l d : List Nat} {k : Nat} {x0 : Slot} {st : Store} {Q : QE} {R : XQ} (hk : 0 < k) (hk2 : k ≤ 600) (s : h.natAbs < 2 ^ k) (hl : l ∈ Lets) (hd : (h.natAbs % 2 = 1 ∧ d = numL h.natAbs ++ [47, 50]) ∨ (h.natAbs = 2 ∧ l ≠ [] ∧ d = []) ∨ (h.natAbs % 2 = 0 ∧ d = numL (h.natAbs / 2)))
    (q : Q (.tup [.int (ixL l : Nat), .int (h.natAbs : Int)]) st) :
    rtB
      [x0, .val (.str (S l)), .val (.str (S d)), .no] st (fnW Q R) := by
  have sl : (30000 : Nat) ≤ sizeLine := by decide
  have ix : (["", "i", "j", "k"] : List Str)[ixL l]? = some (S l) ∧ ∀ m, m < ixL l → (["", "i", "j", "k"] : List Str)[m]? ≠ some (S l) := by
    have hl2 := hl
    simp only [List.mem_cons, List.mem_nil_iff, or_false] at hl2
    rcases hl2 with rfl | rfl | rfl | rfl <;> exact ⟨by decide +kernel, by decide +kernel⟩
  unfold rtB
  rcases hd with ⟨h1, rfl⟩ | ⟨h1, h2, rfl⟩ | ⟨h1, rfl⟩
  · f_lean
    rw [s_half, ends_S]
    f_lean
    refine ⟨?_, ?_⟩
    · have r := (read_num hk hk2 s).2
      rw [S_len] at r
      rw [S_len, List.length_append]
      simp only [List.length_cons, List.length_nil]
      omega
    rw [cut_half]
    f_lean
    rw [(digits_ok _).1]
    f_lean
    rw [(digits_ok _).2]
    f_lean
    refine ⟨ixL l, ix.1, ix.2, _, (read_num hk hk2 s).1, (read_num hk hk2 s).2, ?_, ?_⟩
    · exact mul_sm2 (h := h) hk hk2 s (.inl rfl)
    · rw [Int.one_mul]; exact q
  · f_lean
    rw [s_half, ends_no (by decide)]
    f_lean
    refine ⟨str_datok (okS (by simp)) (ok_str ""), ?_⟩
    rw [decide_eq_true s_nil.symm]
    f_lean
    refine ⟨str_datok (ok_let hl) (ok_str ""), ?_⟩
    rw [decide_eq_false (by have := S_ne_nil (l := l); rw [← this] at h2; exact h2)]
    f_lean
    rw [s_1n, (digits_ok _).1]
    f_lean
    rw [(digits_ok _).2]
    f_lean
    refine ⟨ixL l, ix.1, ix.2, _, (read_num (n := 1) (k := 1) (by decide) (by decide) (by decide)).1, (read_num (n := 1) (k := 1) (by decide) (by decide) (by decide)).2, mul_sm2 (h := h) (k := 1) (by decide) (by decide) (by decide) (.inr rfl), ?_⟩
    rw [show (2 : Int) * ((1 : Nat) : Int) = (h.natAbs : Int) by rw [h1]; rfl]
    exact q
  · have s2 : h.natAbs / 2 < 2 ^ k := Nat.lt_of_le_of_lt (Nat.div_le_self _ _) s
    f_lean
    rw [s_half, ends_no (no_half _)]
    f_lean
    refine ⟨str_datok (ok_num _) (ok_str ""), ?_⟩
    rw [decide_eq_false (fun e => numL_ne _ (S_inj (e.trans s_nil)))]
    f_lean
    rw [(digits_ok _).1]
    f_lean
    rw [(digits_ok _).2]
    f_lean
    refine ⟨ixL l, ix.1, ix.2, _, (read_num hk hk2 s2).1, (read_num hk hk2 s2).2, mul_sm2 (h := h) hk hk2 s2 (.inr rfl), ?_⟩
    rw [show (2 : Int) * ((h.natAbs / 2 : Nat) : Int) = (h.natAbs : Int) by omega]
    exact q
theorem read_term_ok {h : Int} {l : List Nat} {k : Nat} {st : Store} {Q : QE} {R : XQ} (hk : 0 < k) (hk2 : k ≤ 600) (s : h.natAbs < 2 ^ k) (hl : l ∈ Lets) (hz : h ≠ 0 ∨ l = []) (q : Q (.tup [.int (ixL l : Nat), .int (h.natAbs : Int)]) st) : p_read_term [.str (S (termL h l))] st Q R := by
  have sl : (30000 : Nat) ≤ sizeLine := by decide
  have s2 : h.natAbs / 2 < 2 ^ k := Nat.lt_of_le_of_lt (Nat.div_le_self _ _) s
  have n1 := (read_num hk hk2 s).2
  have n2 := (read_num hk hk2 s2).2
  rw [S_len] at n1 n2
  have tl : (termL h l).length ≤ 700 := by
    have ll : l.length ≤ 1 := by
      have hl2 := hl
      simp only [List.mem_cons, List.mem_nil_iff, or_false] at hl2
      rcases hl2 with rfl | rfl | rfl | rfl <;> simp
    unfold termL
    split
    · simp only [List.length_append, List.length_cons, List.length_nil]; omega
    · split
      · omega
      · simp only [List.length_append]; omega
  refine i_read_term ?_
  rw [w_rt]
  by_cases hn : l = []
  · subst hn
    obtain ⟨a, c, e, hc⟩ := dg0_snoc h
    rw [term_nil] at tl ⊢
    f_lean
    refine ⟨by rw [S_len]; omega, rfl, flats_let, ?_⟩
    rw [e, cut_last, any_let, decide_eq_false (by omega)]
    f_lean
    refine ⟨str_datok (ok_str "") (ok_str ""), ?_⟩
    rw [← e, show (("" : Str)) = S [] from s_nil]
    refine read_tail hk hk2 s hl ?_ q
    unfold dg0
    by_cases h1 : h.natAbs % 2 = 1
    · exact .inl ⟨h1, if_pos h1⟩
    · exact .inr (.inr ⟨by omega, if_neg h1⟩)
  · obtain ⟨x, rfl, hx⟩ : ∃ x, l = [x] ∧ (x = 105 ∨ x = 106 ∨ x = 107) := by
      have hl2 := hl
      simp only [List.mem_cons, List.mem_nil_iff, or_false] at hl2
      rcases hl2 with rfl | rfl | rfl | rfl
      · exact absurd rfl hn
      · exact ⟨_, rfl, .inl rfl⟩
      · exact ⟨_, rfl, .inr (.inl rfl)⟩
      · exact ⟨_, rfl, .inr (.inr rfl)⟩
    have nx : ¬ S [x] = "" := fun z => by rw [s_nil] at z; exact absurd (S_inj z) (by simp)
    rw [term_let] at tl ⊢
    f_lean
    refine ⟨by rw [S_len]; omega, rfl, flats_let, ?_⟩
    rw [cut_last, any_let, decide_eq_true hx]
    f_lean
    refine ⟨by rw [S_len]; omega, ?_⟩
    rw [cut_last]
    refine ⟨str_datok (ok_let hl) (ok_str ""), ?_⟩
    rw [decide_eq_false nx]
    f_lean
    refine ⟨by rw [S_len]; omega, ?_⟩
    rw [cut_but]
    refine read_tail hk hk2 s hl ?_ q
    unfold dg
    by_cases h1 : h.natAbs % 2 = 1
    · exact .inl ⟨h1, if_pos h1⟩
    · rw [if_neg h1]
      by_cases h2 : h.natAbs = 2
      · exact .inr (.inl ⟨h2, by simp, if_pos h2⟩)
      · exact .inr (.inr ⟨by omega, if_neg h2⟩)
def add4 (hs : List Int) (it : Int × List Nat) : List Int := hs.set (ixL it.2) (hs.getD (ixL it.2) 0 + it.1)
theorem add4_len (hs : List Int) (it : Int × List Nat) : (add4 hs it).length = hs.length := by unfold add4; rw [List.length_set]
theorem fold4_len : ∀ (xs : List (Int × List Nat)) (hs : List Int), (xs.foldl add4 hs).length = hs.length
  | [], _ => rfl
  | x :: xs, hs => by rw [List.foldl_cons, fold4_len, add4_len]
theorem ixL_lt {l : List Nat} : ixL l < 4 := by unfold ixL; split <;> (try split) <;> (try split) <;> omega
theorem head_dash {h : Int} {l : List Nat} {r : List Nat} (hl : l ∈ Lets) : (termL h l ++ r).take 1 ≠ [45] := by
  have f := termL_free (h := h) hl (c := 45) (by omega)
  cases e : termL h l with
  | nil => exact absurd e (termL_ne h l)
  | cons c cs =>
    intro z
    rw [e] at f
    have : c = 45 := by simpa using z
    exact f (by rw [this]; exact List.mem_cons_self)
theorem starts_no {h : Int} {l r : List Nat} (hl : l ∈ Lets) : Txt.startswith (S (termL h l ++ r)) "-" = false := by
  rw [s_dash, starts_S]
  exact decide_eq_false (head_dash hl)
theorem starts_no0 {h : Int} {l : List Nat} (hl : l ∈ Lets) : Txt.startswith (S (termL h l)) "-" = false := by
  have := starts_no (h := h) (l := l) (r := []) hl
  rw [List.append_nil] at this
  exact this
theorem starts_yes (a : List Nat) : Txt.startswith (S (45 :: a)) "-" = true := by
  rw [s_dash, starts_S]
  exact decide_eq_true (by simp)
theorem cut_one (a : List Nat) : cutS (S (45 :: a)) (some 1) none = S a := by
  rw [C8.cutS_slice]
  exact from_app [45] a rfl
theorem cut_zero (a : List Nat) : cutS (S a) (some 0) none = S a := by
  rw [C8.cutS_slice]
  exact from_app [] a rfl
def bodT (x : Int × List Nat) (xs : List (Int × List Nat)) : List Nat := termL x.1 x.2 ++ xs.flatMap fun y => sg1 y.1 ++ termL y.1 y.2
def rhB : WS := (wSeq (wIfS (wBool (wBin oGtA (wVarB 5) (wC (.int 0)))) (wSeq (wSet 3 (wIf (wTru M0 (wSq1 Txt.startswith (wVarB 6) (wC (.str "-")))) (wUn (oNeg M0) (wC (.int 1))) (wC (.int 1)))) (wSet 6 (wSt1 Txt.removeprefix (wVarB 6) (wC (.str "-"))))) wNext) (wSeq (wSet 7 (wCall p_read_term (waCons (wVar 6) waNil))) (wSeq (wIfS (wBool (wIsN (wVarB 7))) (wRet (wC .non)) wNext) (wAugAt 1 (wBin oIx (wVarB 7) (wC (.int 0))) (wBin (oMulA M0) (wVarB 3) (wBin oIx (wVarB 7) (wC (.int 1))))))))
theorem w_rh : w_read_halves = (wSeq (wOwn 1 (waCons (wC (.int 0)) (waCons (wC (.int 0)) (waCons (wC (.int 0)) (waCons (wC (.int 0)) waNil))))) (wSeq (wSet 2 (wIf (wTru M0 (wSq1 Txt.startswith (wVarB 0) (wC (.str "-")))) (wC (.int (1))) (wC (.int (0))))) (wSeq (wSet 3 (wIf (wBool (wBin oEqD (wVarB 2) (wC (.int 1)))) (wUn (oNeg M0) (wC (.int 1))) (wC (.int 1)))) (wSeq (wSet 4 (wSpl (wRpl "-" "+-" (wSlS (wVarB 0) (woSome (wVar 2)) woNone)) (wC (.str "+")))) (wSeq (wFor (wiEnum (waCons (wVar 4) waNil)) (wgTup 2 (wgsCons (wgName 5) (wgsCons (wgName 6) wgsNil))) rhB) (wRet (wIf (wBool (wCall p_is_halves (waCons (wArgs oTuple (waCons (wVarB 1) waNil)) waNil))) (wArgs oTuple (waCons (wVarB 1) waNil)) (wC .non)))))))) := rfl
theorem aug_step {hs : List Int} {it : Int × List Nat} {k : Nat} {x0 x2 x4 x5 x6 : Slot} {sg : Int} {st : Store} {D0 : EW} {K : Envr → Store → Prop} (hk : 0 < k) (hk2 : k ≤ 600) (s : it.1.natAbs < 2 ^ k) (h4 : hs.length = 4) (hsg : sg = if it.1 < 0 then -1 else 1)
    (hK : ∀ x7, K [x0, .own ((add4 hs it).map D.int), x2, .val (.int sg), x4, x5, x6, x7] st) :
    wAugAt 1 (wBin oIx (wVarB 7) (wC (.int 0))) (wBin (oMulA M0) (wVarB 3) (wBin oIx (wVarB 7) (wC (.int 1)))) [x0, .own (hs.map D.int), x2, .val (.int sg), x4, x5, x6, .val (.tup [.int (ixL it.2 : Nat), .int (it.1.natAbs : Int)])] st (loopK D0 K) := by
  have lt := ixL_lt (l := it.2)
  have hx : (hs.map D.int)[ixL it.2]? = some (.int (hs.getD (ixL it.2) 0)) := by
    rw [List.getElem?_map, List.getElem?_eq_getElem (by omega), List.getD_eq_getElem?_getD, List.getElem?_eq_getElem (by omega)]
    rfl
  f_lean
  refine ⟨ixL it.2, _, rfl, hx, by omega, ?_⟩
  f_lean
  refine ⟨?_, _, rfl, ?_⟩
  · refine mulOk 2 k (by decide) hk ?_ (by simpa using s) (by omega)
    rw [hsg]
    split <;> decide
  · have e : sg * (it.1.natAbs : Int) = it.1 := by
      rw [hsg]
      split <;> omega
    rw [e]
    have z := hK (.val (.tup [.int (ixL it.2 : Nat), .int (it.1.natAbs : Int)]))
    unfold add4 at z
    rw [List.map_set] at z
    exact z
theorem body_step {i : Nat} {u : List Nat} {hs : List Int} {it : Int × List Nat} {k : Nat} {x0 x2 x4 x5 x6 x7 : Slot} {sg : Int} {st : Store} {D0 : EW} {K : Envr → Store → Prop} (hk : 0 < k) (hk2 : k ≤ 600) (s : it.1.natAbs < 2 ^ k) (h4 : hs.length = 4) (hl : it.2 ∈ Lets) (hz : it.1 ≠ 0 ∨ it.2 = [])
    (hu : (i = 0 ∧ u = termL it.1 it.2 ∧ sg = if it.1 < 0 then -1 else 1) ∨ (0 < i ∧ u = ng it.1 ++ termL it.1 it.2))
    (hK : ∀ sg x5 x6 x7, K [x0, .own ((add4 hs it).map D.int), x2, .val (.int sg), x4, x5, x6, x7] st) :
    (wgTup 2 (wgsCons (wgName 5) (wgsCons (wgName 6) wgsNil))) (.tup [.int (i : Nat), .str (S u)]) [x0, .own (hs.map D.int), x2, .val (.int sg), x4, x5, x6, x7] st (fun env1 st1 => rhB env1 st1 (loopK D0 K)) := by
  have sl : (30000 : Nat) ≤ sizeLine := by decide
  have tl : (ng it.1 ++ termL it.1 it.2).length ≤ 1400 := by
    have s2 : it.1.natAbs / 2 < 2 ^ k := Nat.lt_of_le_of_lt (Nat.div_le_self _ _) s
    have n1 := (read_num hk hk2 s).2
    have n2 := (read_num hk hk2 s2).2
    rw [S_len] at n1 n2
    have ll : it.2.length ≤ 1 := by
      have hl2 := hl
      simp only [List.mem_cons, List.mem_nil_iff, or_false] at hl2
      rcases hl2 with e | e | e | e <;> rw [e] <;> simp
    have l1 : (ng it.1).length ≤ 1 := by unfold ng; split <;> simp
    have l2 : (termL it.1 it.2).length ≤ 700 := by
      unfold termL
      split
      · simp only [List.length_append, List.length_cons, List.length_nil]; omega
      · split
        · omega
        · simp only [List.length_append]; omega
    rw [List.length_append]; omega
  unfold rhB
  f_lean
  rcases hu with ⟨rfl, rfl, hsg⟩ | ⟨h0, rfl⟩
  · refine iteW_i (fun hb => absurd (of_decide_eq_true hb) (by decide)) (fun _ => ?_)
    f_lean
    refine callW_i (read_term_ok hk hk2 s hl hz ?_)
    f_lean
    exact aug_step (D0 := D0) hk hk2 s h4 hsg fun x7 => hK _ _ _ _
  · refine iteW_i (fun _ => ?_) (fun hb => absurd (of_decide_eq_false hb) (by omega))
    f_lean
    by_cases hn : it.1 < 0
    · have e : ng it.1 ++ termL it.1 it.2 = 45 :: termL it.1 it.2 := by unfold ng; rw [if_pos hn]; rfl
      rw [e] at tl ⊢
      rw [starts_yes]
      f_lean
      refine ⟨by rw [S_len]; omega, ?_⟩
      rw [show Txt.removeprefix (S (45 :: termL it.1 it.2)) "-" = S (termL it.1 it.2) by rw [s_dash]; exact drop_prefix [45] _]
      refine callW_i (read_term_ok hk hk2 s hl hz ?_)
      f_lean
      exact aug_step (D0 := D0) hk hk2 s h4 (by rw [if_pos hn]) fun x7 => hK _ _ _ _
    · have e : ng it.1 ++ termL it.1 it.2 = termL it.1 it.2 := by unfold ng; rw [if_neg hn, List.nil_append]
      rw [e] at tl ⊢
      rw [starts_no0 hl]
      f_lean
      refine ⟨by rw [S_len]; omega, ?_⟩
      rw [show Txt.removeprefix (S (termL it.1 it.2)) "-" = S (termL it.1 it.2) by
        rw [s_dash, keep_prefix]
        have := head_dash (h := it.1) (r := []) hl
        rw [List.append_nil] at this
        exact this]
      refine callW_i (read_term_ok hk hk2 s hl hz ?_)
      f_lean
      exact aug_step (D0 := D0) hk hk2 s h4 (by rw [if_neg hn]) fun x7 => hK _ _ _ _
theorem halves_read {p : Hur} {x : Int × List Nat} {xs : List (Int × List Nat)} {k : Nat} {st : Store} {Q : QE} {R : XQ} (hk : 0 < k) (hk2 : k ≤ 600) (hb : ∀ y ∈ x :: xs, y.1.natAbs < 2 ^ k ∧ y.2 ∈ Lets ∧ (y.1 ≠ 0 ∨ y.2 = [])) (hn : xs.length ≤ 3)
    (hf : (x :: xs).foldl add4 [0, 0, 0, 0] = [p.a, p.b, p.c, p.d]) (hlen : (bodT x xs).length ≤ 10000) (q : Q (hv p) st) : p_read_halves [.str (S (sg0 x.1 ++ bodT x xs))] st Q R := by
  have sl : (30000 : Nat) ≤ sizeLine := by decide
  have hx := hb x List.mem_cons_self
  have hxs : ∀ y ∈ xs, y.2 ∈ Lets := fun y hy => (hb y (List.mem_cons_of_mem _ hy)).2.1
  have hsp := terms_split hx.2.1 hxs
  refine i_read_halves ?_
  rw [w_rh]
  have main : ∀ (x0 x2 x4 x5 x6 x7 : Slot) (sg : Int), sg = (if x.1 < 0 then -1 else 1) →
      forW (wgTup 2 (wgsCons (wgName 5) (wgsCons (wgName 6) wgsNil))) rhB (seqK (fnW Q R) fun env' st' => wRet (wIf (wBool (wCall p_is_halves (waCons (wArgs oTuple (waCons (wVarB 1) waNil)) waNil))) (wArgs oTuple (waCons (wVarB 1) waNil)) (wC .non)) env' st' (fnW Q R))
        (enumD 0 (((tms x xs).map S).map D.str)) [x0, .own [.int 0, .int 0, .int 0, .int 0], x2, .val (.int sg), x4, x5, x6, x7] st .mk .mk .mk := by
    intro x0 x2 x4 x5 x6 x7 sg hsg
    refine forW_i (fun i e s => ∃ x5 x6 x7 sg, e = [x0, .own ((((x :: xs).take i).foldl add4 [0, 0, 0, 0]).map D.int), x2, .val (.int sg), x4, x5, x6, x7] ∧ s = st ∧ (i = 0 → sg = if x.1 < 0 then -1 else 1)) ⟨x5, x6, x7, sg, rfl, rfl, fun _ => hsg⟩ ?_ ?_
    · rintro i d _ _ hd ⟨x5, x6, x7, sg, rfl, rfl, h0⟩ K hK
      obtain ⟨t, h1, rfl⟩ := enumD_get hd
      rw [Nat.zero_add, List.map_map, List.getElem?_map, Option.map_eq_some_iff] at *
      obtain ⟨u, h1, rfl⟩ := h1
      obtain ⟨it, hit, hu⟩ : ∃ it, (x :: xs)[i]? = some it ∧ ((i = 0 ∧ u = termL it.1 it.2 ∧ it = x) ∨ (0 < i ∧ u = ng it.1 ++ termL it.1 it.2)) := by
        cases i with
        | zero =>
          unfold tms at h1
          cases h1
          exact ⟨x, rfl, .inl ⟨rfl, rfl, rfl⟩⟩
        | succ n =>
          unfold tms at h1
          rw [List.getElem?_cons_succ, List.getElem?_map, Option.map_eq_some_iff] at h1
          obtain ⟨y, h2, rfl⟩ := h1
          exact ⟨y, by rw [List.getElem?_cons_succ]; exact h2, .inr ⟨by omega, rfl⟩⟩
      have hm := hb it (List.mem_of_getElem? hit)
      refine body_step (it := it) hk hk2 hm.1 (by rw [fold4_len]; rfl) hm.2.1 hm.2.2 ?_ ?_
      · rcases hu with ⟨a, b, c⟩ | h
        · exact .inl ⟨a, b, by rw [c]; exact h0 a⟩
        · exact .inr h
      · intro sg x5 x6 x7
        refine hK _ _ ⟨x5, x6, x7, sg, ?_, rfl, fun z => by omega⟩
        rw [List.take_add_one, hit, Option.toList_some, List.foldl_append]
        rfl
    · rintro _ _ ⟨x5, x6, x7, sg, rfl, rfl, _⟩
      rw [enumD_len, List.length_map, List.length_map, List.take_of_length_le (by unfold tms; simp), hf]
      simp only [List.map_cons, List.map_nil]
      f_lean
      refine callW_i (is_halves_ok ?_)
      rw [decide_eq_true p.h]
      f_lean
      exact q
  have fin : ∀ (w : List Nat), w.length ≤ 10001 → ∀ (P : Prop), P → (S w).length ≤ sizeLine ∧ (S (bodT x xs)).length + ((S (bodT x xs)).length + 1) * (("+-" : Str)).length ≤ 16777216 ∧ ((("+" : Str)).length == 0) = false ∧ (Txt.replace (S (bodT x xs)) "-" "+-").length + 2 ≤ sizeLine ∧ P := by
    intro w hw P hP
    have s4 : (40000 : Nat) ≤ sizeLine := by decide
    have l2 : (("+-" : Str)).length = 2 := by decide +kernel
    have rl := TK.replace_len (S (bodT x xs)) "-" "+-"
    rw [l2] at rl ⊢
    rw [S_len (bodT x xs)] at rl ⊢
    rw [S_len w]
    exact ⟨by omega, by omega, by decide +kernel, by omega, hP⟩
  by_cases hneg : x.1 < 0
  · have e : sg0 x.1 ++ bodT x xs = 45 :: bodT x xs := by unfold sg0; rw [if_pos hneg]; rfl
    rw [e]
    f_lean
    rw [starts_yes]
    f_lean
    rw [cut_one]
    refine fin (45 :: bodT x xs) (by rw [List.length_cons]; omega) _ ?_
    rw [show Txt.split (Txt.replace (S (bodT x xs)) "-" "+-") "+" = (tms x xs).map S from hsp]
    exact main _ _ _ _ _ _ _ (by rw [if_pos hneg])
  · have e : sg0 x.1 ++ bodT x xs = bodT x xs := by unfold sg0; rw [if_neg hneg, List.nil_append]
    rw [e]
    f_lean
    rw [show Txt.startswith (S (bodT x xs)) "-" = false from starts_no hx.2.1]
    f_lean
    rw [cut_zero]
    refine fin (bodT x xs) (by omega) _ ?_
    rw [show Txt.split (Txt.replace (S (bodT x xs)) "-" "+-") "+" = (tms x xs).map S from hsp]
    exact main _ _ _ _ _ _ _ (by rw [if_neg hneg])
theorem parts_ok (p : Hur) {k : Nat} (hk : 0 < k) (s : Sm p k) : ∀ y ∈ parts4 p, y.1.natAbs < 2 ^ k ∧ y.2 ∈ Lets ∧ (y.1 ≠ 0 ∨ y.2 = []) := by
  intro y hy
  have hz : y.1 ≠ 0 := of_decide_eq_true (List.mem_filter.mp hy).2
  have hm := (List.mem_filter.mp hy).1
  obtain ⟨sa, sb, sc, sd⟩ := s
  unfold raw4 at hm
  simp only [List.mem_cons, List.mem_nil_iff, or_false] at hm
  rcases hm with rfl | rfl | rfl | rfl
  · exact ⟨sa, by simp, .inl hz⟩
  · exact ⟨sb, by simp, .inl hz⟩
  · exact ⟨sc, by simp, .inl hz⟩
  · exact ⟨sd, by simp, .inl hz⟩
theorem parts_fold (p : Hur) : (parts4 p).foldl add4 [0, 0, 0, 0] = [p.a, p.b, p.c, p.d] := by
  have h : ∀ (xs : List (Int × List Nat)) (acc : List Int), acc.length = 4 → (xs.filter fun it => decide (it.1 ≠ 0)).foldl add4 acc = xs.foldl add4 acc := by
    intro xs
    induction xs with
    | nil => intro acc _; rfl
    | cons x xs ih =>
      intro acc h4
      rw [List.filter_cons]
      by_cases hx : x.1 = 0
      · rw [decide_eq_false (by simpa using hx), if_neg Bool.false_ne_true, ih _ h4, List.foldl_cons]
        have e : add4 acc x = acc := by
          unfold add4
          rw [hx, Int.add_zero, List.getD_eq_getElem?_getD]
          have lt := ixL_lt (l := x.2)
          rw [List.getElem?_eq_getElem (by omega)]
          exact List.set_getElem_self (by omega)
        rw [e]
      · rw [decide_eq_true hx, if_pos rfl, List.foldl_cons, List.foldl_cons, ih _ (by rw [add4_len]; exact h4)]
  unfold parts4
  rw [h _ _ rfl]
  simp [raw4, add4, ixL]
theorem read_halves_ok {p : Hur} {k : Nat} {st : Store} {Q : QE} {R : XQ} (hk : 0 < k) (hk2 : k ≤ 600) (s : Sm p k) (q : Q (hv p) st) : p_read_halves [.str (textS p)] st Q R := by
  have hb := parts_ok p hk s
  have hf := parts_fold p
  have hl : (parts4 p).length ≤ 4 := List.length_filter_le _ _
  have tlen := textS_len hk s
  rw [text_S] at tlen ⊢
  cases hp : parts4 p with
  | nil =>
    rw [hp] at hf
    have e : textL [] = sg0 0 ++ bodT (0, []) [] := by decide +kernel
    rw [e]
    refine halves_read (x := (0, [])) (xs := []) (k := k) hk hk2 ?_ (by decide) ?_ (by decide +kernel) q
    · intro y hy
      rw [List.mem_singleton.mp hy]
      exact ⟨Nat.pow_pos (by decide), by simp, .inr rfl⟩
    · rw [← hf]
      rfl
  | cons x xs =>
    rw [hp] at hb hf hl tlen
    have e : textL (x :: xs) = sg0 x.1 ++ bodT x xs := by
      show sg0 x.1 ++ termL x.1 x.2 ++ _ = _
      rw [List.append_assoc]
      rfl
    rw [e] at tlen ⊢
    rw [S_len, List.length_append] at tlen
    exact halves_read hk hk2 hb (by simpa using hl) hf (by omega) q
open SX TL
def digs (d : List Nat) : Bool := d.all fun c => decide (48 ≤ c) && decide (c ≤ 57)
def rd2 (l d : List Nat) : Option (Nat × Int) :=
  if [47, 50] <:+ d then (if d.take (d.length - 2) ≠ [] ∧ digs (d.take (d.length - 2)) = true then some (ixL l, 1 * (NumText.digitsVal (d.take (d.length - 2)) : Int)) else none)
  else if d = [] ∧ l ≠ [] then some (ixL l, 2)
  else if d ≠ [] ∧ digs d = true then some (ixL l, 2 * (NumText.digitsVal d : Int)) else none
def isLet (c : Nat) : Bool := decide (c = 105 ∨ c = 106 ∨ c = 107)
def rdTerm (t : List Nat) : Option (Nat × Int) := match t.getLast? with
  | none => rd2 [] []
  | some c => if isLet c = true then rd2 [c] t.dropLast else rd2 [] t
def resD : Option (Nat × Int) → D
  | none => .non
  | some (i, v) => .tup [.int (i : Nat), .int v]
theorem asc_S {l : List Nat} (h : ∀ c ∈ l, c < 128) : Txt.isascii (S l) = true := by
  unfold Txt.isascii
  rw [← Array.all_toList]
  exact List.all_eq_true.mpr fun c hc => decide_eq_true (h c hc)
theorem dig_S {l : List Nat} (h : ∀ c ∈ l, c < 128) : Txt.isdigit (S l) = (decide (l ≠ []) && digs l) := by
  unfold Txt.isdigit
  have e1 : (decide ((S l).length > 0)) = decide (l ≠ []) := by
    rw [decide_eq_decide, S_len]
    exact List.length_pos_iff
  have e2 : (S l).cps.all Unicode.isDigit = digs l := by
    rw [← Array.all_toList]
    show l.all Unicode.isDigit = digs l
    unfold digs
    rw [Bool.eq_iff_iff, List.all_eq_true, List.all_eq_true]
    have key : ∀ c : Nat, c < 128 → (Unicode.isDigit c = (decide (48 ≤ c) && decide (c ≤ 57))) := by decide +kernel
    exact ⟨fun k c hc => by rw [← key c (h c hc)]; exact k c hc, fun k c hc => by rw [key c (h c hc)]; exact k c hc⟩
  rw [← e1, ← e2]
theorem val_lt : ∀ (d : List Nat), digs d = true → NumText.digitsVal d < 10 ^ d.length := by
  have key : ∀ (d : List Nat) (a : Nat), digs d = true → d.foldl (fun acc c => acc * 10 + (c - 48)) a < (a + 1) * 10 ^ d.length := by
    intro d
    induction d with
    | nil => intro a _; simp
    | cons c r ih =>
      intro a h
      unfold digs at h
      rw [List.all_cons, Bool.and_eq_true, Bool.and_eq_true, decide_eq_true_eq, decide_eq_true_eq] at h
      have := ih (a * 10 + (c - 48)) h.2
      rw [List.foldl_cons, List.length_cons, Nat.pow_succ]
      refine Nat.lt_of_lt_of_le this ?_
      have h1 : a * 10 + (c - 48) + 1 ≤ (a + 1) * 10 := by omega
      calc (a * 10 + (c - 48) + 1) * 10 ^ r.length ≤ (a + 1) * 10 * 10 ^ r.length := Nat.mul_le_mul_right _ h1
        _ = (a + 1) * (10 ^ r.length * 10) := by rw [Nat.mul_assoc, Nat.mul_comm 10]
  intro d h
  have := key d 0 h
  rw [Nat.zero_add, Nat.one_mul] at this
  exact this
theorem val_bt {d : List Nat} (h : digs d = true) (hl : d.length ≤ 100) : Bt (NumText.digitsVal d : Int) 400 := ⟨by
  have h1 := val_lt d h
  have h2 : (10 : Nat) ^ d.length ≤ 10 ^ 100 := Nat.pow_le_pow_right (by decide) hl
  have h3 : (10 : Nat) ^ 100 < 2 ^ 400 := by decide +kernel
  omega⟩
/-- what stands in a text's last place -/
theorem any_let' (s : List Nat) : ([D.str "i", D.str "j", D.str "k"].any fun z => eqD z (D.str (S s))) = decide (s = [105] ∨ s = [106] ∨ s = [107]) := by
  have e : ∀ d : Nat, eqD (D.str (S [d])) (D.str (S s)) = decide (s = [d]) := fun d => by
    unfold eqD
    rw [decide_eq_decide]
    exact ⟨fun h => (S_inj h).symm, fun h => by rw [h]⟩
  rw [s_i, s_j, s_k]
  simp only [List.any_cons, List.any_nil, Bool.or_false, e, Bool.decide_or]
/-- what is known of a value that is read -/
def okV (p : Option (Nat × Int)) : Prop := ∀ i v, p = some (i, v) → i < 4 ∧ 0 ≤ v ∧ Bt v 402
theorem rd2_ok {l d : List Nat} (hl : d.length ≤ 100) : okV (rd2 l d) := by
  have b2 : ∀ {e : List Nat}, digs e = true → e.length ≤ 100 → ∀ k : Int, (k = 1 ∨ k = 2) → 0 ≤ k * (NumText.digitsVal e : Int) ∧ Bt (k * (NumText.digitsVal e : Int)) 402 := fun {e} h h2 k hk => by
    have b := (val_bt h h2).h
    have p : (2 : Nat) ^ 402 = 2 ^ 400 * 4 := by rw [← Nat.pow_add 2 400 2]
    rcases hk with rfl | rfl
    · exact ⟨by omega, ⟨by rw [Int.one_mul]; omega⟩⟩
    · refine ⟨by omega, ⟨?_⟩⟩
      rw [Int.natAbs_mul]
      show 2 * _ < _
      omega
  intro i v h
  have i4 := ixL_lt (l := l)
  unfold rd2 at h
  split at h
  · split at h
    · rename_i h1 h2
      cases h
      have := b2 h2.2 (by rw [List.length_take]; omega) 1 (.inl rfl)
      exact ⟨i4, this.1, this.2⟩
    · cases h
  · split at h
    · cases h
      exact ⟨i4, by decide, Bt.mono (k := 4) ⟨by decide⟩ (by decide)⟩
    · split at h
      · rename_i h1
        cases h
        have := b2 h1.2 hl 2 (.inr rfl)
        exact ⟨i4, this.1, this.2⟩
      · cases h
theorem rdTerm_ok {t : List Nat} (hl : t.length ≤ 100) : okV (rdTerm t) := by
  unfold rdTerm
  split
  · exact rd2_ok (by simp)
  · split
    · exact rd2_ok (by rw [List.length_dropLast]; omega)
    · exact rd2_ok hl
theorem tail_any {l d : List Nat} {x0 : Slot} {st : Store} {Q : QE} {R : XQ} (hl : l ∈ Lets) (ha : ∀ c ∈ d, c < 128) (hn : d.length ≤ 100) (q : Q (resD (rd2 l d)) st) :
    rtB [x0, .val (.str (S l)), .val (.str (S d)), .no] st (fnW Q R) := by
  have sl : (30000 : Nat) ≤ sizeLine := by decide
  have ix : (["", "i", "j", "k"] : List Str)[ixL l]? = some (S l) ∧ ∀ m, m < ixL l → (["", "i", "j", "k"] : List Str)[m]? ≠ some (S l) := by
    have hl2 := hl
    simp only [List.mem_cons, List.mem_nil_iff, or_false] at hl2
    rcases hl2 with rfl | rfl | rfl | rfl <;> exact ⟨by decide +kernel, by decide +kernel⟩
  have okd : PyData.strOk (S d) = true := okS fun c hc => by have := ha c hc; omega
  have nm : ∀ {e : List Nat}, digs e = true → e ≠ [] → e.length ≤ 100 → PySem.intText? (S e) = some ((NumText.digitsVal e : Nat) : Int) ∧ (S e).length ≤ 640 := fun {e} h1 h2 h3 => ⟨int_S h1 h2 (by omega), by rw [S_len]; omega⟩
  have mo : ∀ {e : List Nat}, digs e = true → e.length ≤ 100 → ∀ k : Int, (k = 1 ∨ k = 2) → G.MulOk k ((NumText.digitsVal e : Nat) : Int) := fun {e} h1 h2 k hk => mulOk 2 400 (by decide) (by decide) (by rcases hk with rfl | rfl <;> decide) (val_bt h1 h2).h (by decide)
  unfold rtB
  by_cases h1 : [47, 50] <:+ d
  · obtain ⟨a, rfl⟩ := h1
    have ea : (a ++ [47, 50]).take ((a ++ [47, 50]).length - 2) = a := by simp
    have er : rd2 l (a ++ [47, 50]) = if a ≠ [] ∧ digs a = true then some (ixL l, 1 * (NumText.digitsVal a : Int)) else none := by
      unfold rd2
      rw [if_pos ⟨a, rfl⟩, ea]
    rw [er] at q
    have ha2 : ∀ c ∈ a, c < 128 := fun c hc => ha c (List.mem_append_left _ hc)
    rw [List.length_append] at hn
    have hn2 : a.length ≤ 100 := by omega
    f_lean
    rw [s_half, ends_S]
    f_lean
    refine ⟨by rw [S_len, List.length_append]; simp only [List.length_cons, List.length_nil] at hn ⊢; omega, ?_⟩
    rw [cut_half]
    f_lean
    rw [asc_S ha2]
    f_lean
    rw [dig_S ha2]
    by_cases hd : a ≠ [] ∧ digs a = true
    · rw [if_pos hd] at q
      rw [decide_eq_true hd.1, hd.2]
      f_lean
      refine ⟨ixL l, ix.1, ix.2, _, (nm hd.2 hd.1 hn2).1, (nm hd.2 hd.1 hn2).2, mo hd.2 hn2 1 (.inl rfl), q⟩
    · rw [if_neg hd] at q
      have e0 : (decide (a ≠ []) && digs a) = false := by
        rw [Bool.eq_false_iff]
        intro z
        rw [Bool.and_eq_true, decide_eq_true_eq] at z
        exact hd z
      rw [e0]
      f_lean
      exact q
  · f_lean
    rw [s_half, ends_no h1]
    f_lean
    refine ⟨str_datok okd (ok_str ""), ?_⟩
    by_cases h2 : d = []
    · subst h2
      rw [decide_eq_true s_nil.symm]
      f_lean
      refine ⟨str_datok (ok_let hl) (ok_str ""), ?_⟩
      by_cases h3 : l = []
      · have er : rd2 l [] = none := by
          unfold rd2
          rw [if_neg h1, if_neg fun z => z.2 h3, if_neg fun z => z.1 rfl]
        rw [er] at q
        rw [decide_eq_true (by rw [h3]; exact s_nil.symm)]
        f_lean
        rw [asc_S ha]
        f_lean
        rw [dig_S ha]
        f_lean
        exact q
      · have er : rd2 l [] = some (ixL l, 2) := by
          unfold rd2
          rw [if_neg h1, if_pos ⟨rfl, h3⟩]
        rw [er] at q
        rw [decide_eq_false (fun e => h3 (S_inj (e.trans s_nil)))]
        f_lean
        rw [s_1n, (digits_ok _).1]
        f_lean
        rw [(digits_ok _).2]
        f_lean
        refine ⟨ixL l, ix.1, ix.2, _, (read_num (n := 1) (k := 1) (by decide) (by decide) (by decide)).1, (read_num (n := 1) (k := 1) (by decide) (by decide) (by decide)).2, mul_sm2 (h := 1) (k := 1) (by decide) (by decide) (by decide) (.inr rfl), ?_⟩
        exact q
    · have er : rd2 l d = if d ≠ [] ∧ digs d = true then some (ixL l, 2 * (NumText.digitsVal d : Int)) else none := by
        unfold rd2
        rw [if_neg h1, if_neg fun z => h2 z.1]
      rw [er] at q
      rw [decide_eq_false (fun e => h2 (S_inj (e.trans s_nil)))]
      f_lean
      rw [asc_S ha]
      f_lean
      rw [dig_S ha]
      by_cases hd : d ≠ [] ∧ digs d = true
      · rw [if_pos hd] at q
        rw [decide_eq_true hd.1, hd.2]
        f_lean
        refine ⟨ixL l, ix.1, ix.2, _, (nm hd.2 hd.1 hn).1, (nm hd.2 hd.1 hn).2, mo hd.2 hn 2 (.inr rfl), q⟩
      · rw [if_neg hd] at q
        have e0 : (decide (d ≠ []) && digs d) = false := by
          rw [Bool.eq_false_iff]
          intro z
          rw [Bool.and_eq_true, decide_eq_true_eq] at z
          exact hd z
        rw [e0]
        f_lean
        exact q
theorem term_any {t : List Nat} {st : Store} {Q : QE} {R : XQ} (ha : ∀ c ∈ t, c < 128) (hn : t.length ≤ 100) (q : Q (resD (rdTerm t)) st) : p_read_term [.str (S t)] st Q R := by
  have sl : (30000 : Nat) ≤ sizeLine := by decide
  refine i_read_term ?_
  rw [w_rt]
  have cn : cutS (S []) (some (-1)) none = S [] := by rw [C8.cutS_slice]; decide +kernel
  f_lean
  refine ⟨by rw [S_len]; omega, rfl, flats_let, ?_⟩
  rcases List.eq_nil_or_concat t with rfl | ⟨a, c, e⟩
  · rw [cn, any_let', decide_eq_false (by simp)]
    f_lean
    refine ⟨str_datok (ok_str "") (ok_str ""), ?_⟩
    rw [show (("" : Str)) = S [] from s_nil]
    exact tail_any (by simp) (by simp) (by simp) q
  · rw [List.concat_eq_append] at e
    subst e
    have eT : rdTerm (a ++ [c]) = if isLet c = true then rd2 [c] a else rd2 [] (a ++ [c]) := by
      unfold rdTerm
      rw [List.getLast?_concat, List.dropLast_concat]
    rw [eT] at q
    rw [cut_last, any_let]
    by_cases hx : c = 105 ∨ c = 106 ∨ c = 107
    · have hl : [c] ∈ Lets := by simp; omega
      have nx : ¬ S [c] = "" := fun z => by rw [s_nil] at z; exact absurd (S_inj z) (by simp)
      rw [decide_eq_true hx]
      f_lean
      refine ⟨by rw [S_len]; omega, ?_⟩
      rw [cut_last]
      refine ⟨str_datok (ok_let hl) (ok_str ""), ?_⟩
      rw [decide_eq_false nx]
      f_lean
      refine ⟨by rw [S_len]; omega, ?_⟩
      rw [cut_but]
      rw [List.length_append] at hn
      refine tail_any hl (fun z hz => ha z (List.mem_append_left _ hz)) (by omega) ?_
      rwa [if_pos (show isLet c = true from decide_eq_true hx)] at q
    · rw [decide_eq_false hx]
      f_lean
      refine ⟨str_datok (ok_str "") (ok_str ""), ?_⟩
      rw [show (("" : Str)) = S [] from s_nil]
      refine tail_any (by simp) ha hn ?_
      rwa [if_neg (show ¬ isLet c = true from fun z => hx (of_decide_eq_true z))] at q
theorem spl_bd : ∀ (l acc : List Nat), (∀ p ∈ spl [43] 0 acc l, p.length ≤ acc.length + l.length ∧ ∀ c ∈ p, c ∈ acc ∨ c ∈ l) ∧ (spl [43] 0 acc l).length ≤ l.length + 1
  | [], acc => by
    rw [spl_nil]
    exact ⟨fun p hp => by rw [List.mem_singleton.mp hp]; exact ⟨by simp, fun c hc => .inl hc⟩, by simp⟩
  | c :: r, acc => by
    cases h : pre [43] (c :: r) with
    | true =>
      rw [spl_hit h]
      obtain ⟨h1, h2⟩ := spl_bd r []
      refine ⟨fun p hp => ?_, by simp only [List.length_cons]; exact Nat.succ_le_succ h2⟩
      rcases List.mem_cons.mp hp with rfl | hp
      · exact ⟨by omega, fun c hc => .inl hc⟩
      · obtain ⟨a, b⟩ := h1 p hp
        rw [List.length_nil] at a
        rw [List.length_cons]
        exact ⟨by omega, fun z hz => (b z hz).elim (fun k => by cases k) fun k => .inr (List.mem_cons_of_mem _ k)⟩
    | false =>
      rw [spl_miss h]
      obtain ⟨h1, h2⟩ := spl_bd r (acc ++ [c])
      refine ⟨fun p hp => ?_, by rw [List.length_cons]; omega⟩
      obtain ⟨a, b⟩ := h1 p hp
      rw [List.length_append, List.length_singleton] at a
      rw [List.length_cons]
      refine ⟨by omega, fun z hz => ?_⟩
      rcases b z hz with k | k
      · rcases List.mem_append.mp k with k | k
        · exact .inl k
        · exact .inr (by rw [List.mem_singleton.mp k]; exact List.mem_cons_self)
      · exact .inr (List.mem_cons_of_mem _ k)
def stepH (i : Nat) (sg : Int) (u : List Nat) : Int × List Nat := if 0 < i then (if u.take 1 = [45] then (-1, u.drop 1) else (1, u)) else (sg, u)
def rdLoop : Nat → Int → List Int → List (List Nat) → Option (List Int)
  | _, _, hs, [] => some hs
  | i, sg, hs, u :: r => match rdTerm (stepH i sg u).2 with
    | none => none
    | some (k, v) => rdLoop (i + 1) (stepH i sg u).1 (hs.set k (hs.getD k 0 + (stepH i sg u).1 * v)) r
def termsL (l : List Nat) : List (List Nat) := spl [43] 0 [] ((if l.take 1 = [45] then l.drop 1 else l).flatMap dash)
def rdAll (l : List Nat) : Option (List Int) := rdLoop 0 (if l.take 1 = [45] then -1 else 1) [0, 0, 0, 0] (termsL l)
theorem body_any {i : Nat} {u : List Nat} {hs : List Int} {x0 x2 x4 x5 x6 x7 : Slot} {sg : Int} {st : Store} {D0 : EW} {K : Envr → Store → Prop} (ha : ∀ c ∈ u, c < 128) (hn : u.length ≤ 100) (h4 : hs.length = 4) (hsg : sg = 1 ∨ sg = -1)
    (h0 : rdTerm (stepH i sg u).2 = none → D0.rt .non st)
    (h1 : ∀ k v, rdTerm (stepH i sg u).2 = some (k, v) → ∀ x5 x6 x7, K [x0, .own ((hs.set k (hs.getD k 0 + (stepH i sg u).1 * v)).map D.int), x2, .val (.int (stepH i sg u).1), x4, x5, x6, x7] st) :
    (wgTup 2 (wgsCons (wgName 5) (wgsCons (wgName 6) wgsNil))) (.tup [.int (i : Nat), .str (S u)]) [x0, .own (hs.map D.int), x2, .val (.int sg), x4, x5, x6, x7] st (fun env1 st1 => rhB env1 st1 (loopK D0 K)) := by
  have sl : (30000 : Nat) ≤ sizeLine := by decide
  have tail : ∀ (sg : Int) (u : List Nat) (x5 x6 : Slot), (sg = 1 ∨ sg = -1) → (∀ c ∈ u, c < 128) → u.length ≤ 100 → (rdTerm u = none → D0.rt .non st) → (∀ k v, rdTerm u = some (k, v) → ∀ x5 x6 x7, K [x0, .own ((hs.set k (hs.getD k 0 + sg * v)).map D.int), x2, .val (.int sg), x4, x5, x6, x7] st) → ∀ d : D, d = resD (rdTerm u) →
      wSeq (wIfS (wBool (wIsN (wVarB 7))) (wRet (wC .non)) wNext) (wAugAt 1 (wBin oIx (wVarB 7) (wC (.int 0))) (wBin (oMulA M0) (wVarB 3) (wBin oIx (wVarB 7) (wC (.int 1))))) [x0, .own (hs.map D.int), x2, .val (.int sg), x4, x5, x6, .val d] st (loopK D0 K) := by
    intro sg u x5 x6 hsg ha hn h0 h1 d hd
    have ok := rdTerm_ok hn
    cases hr : rdTerm u with
    | none =>
      rw [hr] at hd
      subst hd
      unfold resD
      f_lean
      exact h0 hr
    | some p =>
      obtain ⟨k, v⟩ := p
      rw [hr] at hd
      subst hd
      obtain ⟨k4, v0, bv⟩ := ok k v hr
      have hx : (hs.map D.int)[k]? = some (.int (hs.getD k 0)) := by
        rw [List.getElem?_map, List.getElem?_eq_getElem (by omega), List.getD_eq_getElem?_getD, List.getElem?_eq_getElem (by omega)]
        rfl
      unfold resD
      f_lean
      refine ⟨k, _, rfl, hx, by omega, ?_⟩
      f_lean
      refine ⟨mulOk 2 402 (by decide) (by decide) (by rcases hsg with rfl | rfl <;> decide) bv.h (by decide), _, rfl, ?_⟩
      have z := h1 k v hr x5 x6 (.val (.tup [.int k, .int v]))
      rw [List.map_set] at z
      exact z
  unfold rhB
  f_lean
  by_cases hi : 0 < i
  · refine iteW_i (fun _ => ?_) (fun hb => absurd (of_decide_eq_false hb) (by omega))
    f_lean
    by_cases hd : u.take 1 = [45]
    · have es : stepH i sg u = (-1, u.drop 1) := by unfold stepH; rw [if_pos hi, if_pos hd]
      rw [es] at h0 h1
      obtain ⟨v, rfl⟩ : ∃ v, u = 45 :: v := by
        cases u with
        | nil => simp at hd
        | cons c r =>
          simp at hd
          exact ⟨r, by rw [hd]⟩
      rw [starts_yes]
      f_lean
      refine ⟨by rw [S_len]; omega, ?_⟩
      rw [show Txt.removeprefix (S (45 :: v)) "-" = S v by rw [s_dash]; exact drop_prefix [45] _]
      rw [List.length_cons] at hn
      refine callW_i (term_any (fun c hc => ha c (List.mem_cons_of_mem _ hc)) (by omega) ?_)
      exact tail (-1) v _ _ (.inr rfl) (fun c hc => ha c (List.mem_cons_of_mem _ hc)) (by omega) h0 h1 _ rfl
    · have es : stepH i sg u = (1, u) := by unfold stepH; rw [if_pos hi, if_neg hd]
      rw [es] at h0 h1
      rw [show Txt.startswith (S u) "-" = false by rw [s_dash, starts_S]; exact decide_eq_false hd]
      f_lean
      refine ⟨by rw [S_len]; omega, ?_⟩
      rw [show Txt.removeprefix (S u) "-" = S u by rw [s_dash, keep_prefix]; exact hd]
      refine callW_i (term_any ha hn ?_)
      exact tail 1 u _ _ (.inl rfl) ha hn h0 h1 _ rfl
  · refine iteW_i (fun hb => absurd (of_decide_eq_true hb) (by omega)) (fun _ => ?_)
    have es : stepH i sg u = (sg, u) := by unfold stepH; rw [if_neg hi]
    rw [es] at h0 h1
    f_lean
    refine callW_i (term_any ha hn ?_)
    exact tail sg u _ _ hsg ha hn h0 h1 _ rfl
theorem dash_len (l : List Nat) : (l.flatMap dash).length ≤ 2 * l.length := by
  induction l with
  | nil => simp
  | cons c r ih =>
    rw [List.flatMap_cons, List.length_append, List.length_cons]
    have : (dash c).length ≤ 2 := by unfold dash; split <;> simp
    omega
theorem dash_asc {l : List Nat} (h : ∀ c ∈ l, c < 128) : ∀ c ∈ l.flatMap dash, c < 128 := by
  intro c hc
  obtain ⟨d, hd, hc⟩ := List.mem_flatMap.mp hc
  unfold dash at hc
  have := h d hd
  split at hc
  · simp at hc; omega
  · rw [List.mem_singleton.mp hc]; exact this
theorem terms_ok {l : List Nat} (ha : ∀ c ∈ l, c < 128) (hn : l.length ≤ 50) : (∀ u ∈ termsL l, (∀ c ∈ u, c < 128) ∧ u.length ≤ 100) ∧ (termsL l).length ≤ 101 := by
  unfold termsL
  have b : ∀ m : List Nat, (∀ c ∈ m, c < 128) → m.length ≤ 50 → (∀ u ∈ spl [43] 0 [] (m.flatMap dash), (∀ c ∈ u, c < 128) ∧ u.length ≤ 100) ∧ (spl [43] 0 [] (m.flatMap dash)).length ≤ 101 := fun m hm hl => by
    obtain ⟨h1, h2⟩ := spl_bd (m.flatMap dash) []
    have := dash_len m
    refine ⟨fun u hu => ?_, by omega⟩
    obtain ⟨a, c⟩ := h1 u hu
    rw [List.length_nil] at a
    exact ⟨fun z hz => (c z hz).elim (fun k => by cases k) (dash_asc hm z), by omega⟩
  split
  · exact b _ (fun c hc => ha c (List.mem_of_mem_drop hc)) (by rw [List.length_drop]; omega)
  · exact b _ ha hn
theorem halves_any {l : List Nat} {st : Store} {Q : QE} {R : XQ} (ha : ∀ c ∈ l, c < 128) (hn : l.length ≤ 50) (h0 : rdAll l = none → Q .non st) (h1 : ∀ a b c d, rdAll l = some [a, b, c, d] → ¬ par a b c d → Q .non st)
    (h2 : ∀ q : Hur, rdAll l = some [q.a, q.b, q.c, q.d] → Sm q 412 → Q (hv q) st) : p_read_halves [.str (S l)] st Q R := by
  have sl : (30000 : Nat) ≤ sizeLine := by decide
  obtain ⟨to, tn⟩ := terms_ok ha hn
  refine i_read_halves ?_
  rw [w_rh]
  have main : ∀ (x0 x2 x4 x5 x6 x7 : Slot) (sg : Int), sg = (if l.take 1 = [45] then -1 else 1) →
      forW (wgTup 2 (wgsCons (wgName 5) (wgsCons (wgName 6) wgsNil))) rhB (seqK (fnW Q R) fun env' st' => wRet (wIf (wBool (wCall p_is_halves (waCons (wArgs oTuple (waCons (wVarB 1) waNil)) waNil))) (wArgs oTuple (waCons (wVarB 1) waNil)) (wC .non)) env' st' (fnW Q R))
        (enumD 0 (((termsL l).map S).map D.str)) [x0, .own [.int 0, .int 0, .int 0, .int 0], x2, .val (.int sg), x4, x5, x6, x7] st .mk .mk .mk := by
    intro x0 x2 x4 x5 x6 x7 sg hsg
    refine forW_i (fun i e s => ∃ (hs : List Int) (sg : Int) (x5 x6 x7 : Slot), e = [x0, .own (hs.map D.int), x2, .val (.int sg), x4, x5, x6, x7] ∧ s = st ∧ hs.length = 4 ∧ (sg = 1 ∨ sg = -1) ∧ rdLoop i sg hs ((termsL l).drop i) = rdAll l ∧ ∀ x ∈ hs, x.natAbs ≤ i * 2 ^ 402) ⟨[0, 0, 0, 0], sg, x5, x6, x7, rfl, rfl, rfl, by rw [hsg]; split <;> simp, by unfold rdAll; rw [List.drop_zero, hsg], fun x hx => by simp at hx; subst hx; exact Nat.zero_le _⟩ ?_ ?_
    · rintro i d _ _ hd ⟨hs, sg, x5, x6, x7, rfl, rfl, h4, hsg, hL, hB⟩ K hK
      obtain ⟨t, g1, rfl⟩ := enumD_get hd
      rw [Nat.zero_add, List.map_map, List.getElem?_map, Option.map_eq_some_iff] at *
      obtain ⟨u, g1, rfl⟩ := g1
      obtain ⟨u1, u2⟩ := to u (List.mem_of_getElem? g1)
      have ed : (termsL l).drop i = u :: (termsL l).drop (i + 1) := by
        have hlt := (List.getElem?_eq_some_iff.mp g1).1
        rw [List.drop_eq_getElem_cons hlt, (List.getElem?_eq_some_iff.mp g1).2]
      rw [ed] at hL
      have u3 : (stepH i sg u).2.length ≤ 100 := by
        unfold stepH
        split
        · split
          · show (u.drop 1).length ≤ 100
            rw [List.length_drop]; omega
          · exact u2
        · exact u2
      have sg2 : (stepH i sg u).1 = 1 ∨ (stepH i sg u).1 = -1 := by
        unfold stepH
        split
        · split
          · exact .inr rfl
          · exact .inl rfl
        · exact hsg
      refine body_any u1 u2 h4 hsg (fun e => ?_) (fun k v e x5 x6 x7 => ?_)
      · refine h0 ?_
        rw [← hL]
        show (match rdTerm (stepH i sg u).2 with | none => none | some (k, v) => _) = none
        rw [e]
      · refine hK _ _ ⟨_, _, _, _, _, rfl, rfl, by rw [List.length_set]; exact h4, sg2, ?_, fun x hx => ?_⟩
        · rw [← hL]
          show _ = (match rdTerm (stepH i sg u).2 with | none => none | some (k, v) => _)
          rw [e]
        · obtain ⟨k4, v0, bv⟩ := rdTerm_ok u3 k v e
          have bv := bv.h
          have hg : (hs.getD k 0).natAbs ≤ i * 2 ^ 402 := by
            rw [List.getD_eq_getElem?_getD, List.getElem?_eq_getElem (by omega)]
            exact hB _ (List.getElem_mem _)
          rw [Nat.succ_mul]
          rcases List.mem_or_eq_of_mem_set hx with hx | rfl
          · exact Nat.le_trans (hB x hx) (Nat.le_add_right _ _)
          · generalize (2 : Nat) ^ 402 = P at *
            generalize i * P = M at *
            rcases sg2 with e2 | e2 <;> rw [e2] <;> omega
    · rintro _ _ ⟨hs, sg, x5, x6, x7, rfl, rfl, h4, hsg, hL, hB⟩
      rw [enumD_len, List.length_map, List.length_map] at hL hB
      rw [List.drop_length] at hL
      have hL : some hs = rdAll l := hL
      obtain ⟨a, b, c, d, rfl⟩ : ∃ a b c d, hs = [a, b, c, d] := by
        match hs, h4 with
        | [a, b, c, d], _ => exact ⟨a, b, c, d, rfl⟩
      simp only [List.map_cons, List.map_nil]
      f_lean
      refine callW_i (is_halves_ok ?_)
      by_cases hp : par a b c d
      · rw [decide_eq_true hp]
        f_lean
        have bd : ∀ x : Int, x ∈ [a, b, c, d] → x.natAbs < 2 ^ 412 := fun x hx => by
          have := hB x hx
          have p : (2 : Nat) ^ 412 = 1024 * 2 ^ 402 := by rw [show (1024 : Nat) = 2 ^ 10 from rfl, ← Nat.pow_add]
          have q : 0 < (2 : Nat) ^ 402 := Nat.pow_pos (by decide)
          rw [p]
          exact Nat.lt_of_le_of_lt (Nat.le_trans this (Nat.mul_le_mul_right _ tn)) (Nat.mul_lt_mul_of_pos_right (by decide) q)
        exact h2 ⟨a, b, c, d, hp⟩ hL.symm ⟨bd a (by simp), bd b (by simp), bd c (by simp), bd d (by simp)⟩
      · rw [decide_eq_false hp]
        f_lean
        exact h1 a b c d hL.symm hp
  have fin : ∀ (w m : List Nat), w.length ≤ 50 → m.length ≤ 50 → ∀ (P : Prop), P → (S w).length ≤ sizeLine ∧ (S m).length + ((S m).length + 1) * (("+-" : Str)).length ≤ 16777216 ∧ ((("+" : Str)).length == 0) = false ∧ (Txt.replace (S m) "-" "+-").length + 2 ≤ sizeLine ∧ P := by
    intro w m hw hm P hP
    have l2 : (("+-" : Str)).length = 2 := by decide +kernel
    have rl := TK.replace_len (S m) "-" "+-"
    rw [l2] at rl ⊢
    rw [S_len m] at rl ⊢
    rw [S_len w]
    exact ⟨by omega, by omega, by decide +kernel, by omega, hP⟩
  have sp : ∀ m : List Nat, Txt.split (Txt.replace (S m) "-" "+-") "+" = (spl [43] 0 [] (m.flatMap dash)).map S := fun m => by
    rw [replace_dash, s_plus, split_S (by simp) (by decide)]
  by_cases hneg : l.take 1 = [45]
  · obtain ⟨v, rfl⟩ : ∃ v, l = 45 :: v := by
      cases l with
      | nil => simp at hneg
      | cons c r =>
        simp at hneg
        exact ⟨r, by rw [hneg]⟩
    have et : termsL (45 :: v) = spl [43] 0 [] (v.flatMap dash) := by unfold termsL; rw [if_pos hneg]; rfl
    f_lean
    rw [starts_yes]
    f_lean
    rw [cut_one]
    refine fin (45 :: v) v hn (by rw [List.length_cons] at hn; omega) _ ?_
    rw [sp v, ← et]
    exact main _ _ _ _ _ _ _ (by rw [if_pos hneg])
  · have et : termsL l = spl [43] 0 [] (l.flatMap dash) := by unfold termsL; rw [if_neg hneg]
    f_lean
    rw [show Txt.startswith (S l) "-" = false by rw [s_dash, starts_S]; exact decide_eq_false hneg]
    f_lean
    rw [cut_zero]
    refine fin l l hn hn _ ?_
    rw [sp l, ← et]
    exact main _ _ _ _ _ _ _ (by rw [if_neg hneg])
theorem read_anyE {l : List Nat} {st : Store} {Q : QE} {R : XQ} (ha : ∀ c ∈ l, c < 128) (hn : l.length ≤ 50) (h0 : (∀ q : Hur, rdAll l = some [q.a, q.b, q.c, q.d] → textS q ≠ S l) → R ⟨14, [(1, .str "ParseError"), (8, .int 0)]⟩ st)
    (h1 : ∀ q : Hur, rdAll l = some [q.a, q.b, q.c, q.d] → Sm q 412 → textS q = S l → Q (fob q) st) : p_Four_readE [.cls 18, .str (S l)] st Q R := by
  refine i_Four_readE ?_
  unfold w_Four_readE
  f_lean
  have no : (∀ q : Hur, rdAll l ≠ some [q.a, q.b, q.c, q.d]) → R ⟨14, [(1, .str "ParseError"), (8, .int 0)]⟩ st := fun h => h0 fun q e => absurd e (h q)
  refine callW_i (halves_any ha hn (fun e => ?_) (fun a b c d e hp => ?_) (fun q e sq => ?_))
  · f_lean
    exact no fun q z => by rw [e] at z; cases z
  · f_lean
    refine no fun q z => hp ?_
    rw [e] at z
    cases z
    exact q.h
  · f_lean
    refine make_ok q ?_
    f_lean
    refine callW_i (text_ok (by decide) (by decide) sq ?_)
    f_lean
    have okl : PyData.strOk (S l) = true := okS fun c hc => by have := ha c hc; omega
    refine ⟨str_datok textS_okd okl, ?_⟩
    by_cases ht : textS q = S l
    · rw [decide_eq_true ht]
      f_lean
      exact h1 q e sq ht
    · rw [decide_eq_false ht]
      f_lean
      refine h0 fun q2 e2 z => ht ?_
      rw [e] at e2
      have : q2 = q := Hur.ext (by have := (List.cons.inj (Option.some.inj e2)).1; exact this.symm) (by have := (List.cons.inj (List.cons.inj (Option.some.inj e2)).2).1; exact this.symm) (by have := (List.cons.inj (List.cons.inj (List.cons.inj (Option.some.inj e2)).2).2).1; exact this.symm) (by have := (List.cons.inj (List.cons.inj (List.cons.inj (List.cons.inj (Option.some.inj e2)).2).2).2).1; exact this.symm)
      rw [← this]
      exact z
theorem read_okE {p : Hur} {k : Nat} {st : Store} {Q : QE} {R : XQ} (hk : 0 < k) (hk2 : k ≤ 600) (s : Sm p k) (q : Q (fob p) st) : p_Four_readE [.cls 18, .str (textS p)] st Q R := by
  refine i_Four_readE ?_
  unfold w_Four_readE
  f_lean
  refine callW_i (read_halves_ok hk hk2 s ?_)
  f_lean
  refine make_ok p ?_
  f_lean
  refine callW_i (text_ok hk (by omega) s ?_)
  f_lean
  refine ⟨str_datok textS_okd textS_okd, ?_⟩
  f_lean
  exact q
abbrev OddL : List (List Nat) := [[], [43], [45], [43, 49], [49, 43], [105, 43, 49], [49, 43, 49], [48, 49], [49, 105], [48, 105], [50, 47, 50], [49, 47, 50], [49, 47, 50, 105], [45, 48], [49, 32, 43, 32, 105], [49, 43, 45, 105], [45, 45, 49], [105, 105], [49, 47, 51], [49, 47, 50, 43, 49, 47, 50, 105, 43, 49, 47, 50, 106], [49, 47, 50, 43, 49, 47, 50, 105, 43, 49, 47, 50, 106, 43, 107], [120], [49, 46, 53], [105, 49], [107, 43, 106], [49, 43, 105, 43, 106, 43, 107, 43, 49], [47, 50], [51, 47, 50, 43, 51, 47, 50, 105, 43, 51, 47, 50, 106, 43, 51, 47, 50, 107, 32], [32, 49], [48, 43, 105]]
abbrev oddD : List D := [.str "", .str "+", .str "-", .str "+1", .str "1+", .str "i+1", .str "1+1", .str "01", .str "1i", .str "0i", .str "2/2", .str "1/2", .str "1/2i", .str "-0", .str "1 + i", .str "1+-i", .str "--1", .str "ii", .str "1/3", .str "1/2+1/2i+1/2j", .str "1/2+1/2i+1/2j+k", .str "x", .str "1.5", .str "i1", .str "k+j", .str "1+i+j+k+1", .str "/2", .str "3/2+3/2i+3/2j+3/2k ", .str " 1", .str "0+i"]
theorem odd_S : oddD = OddL.map fun l => D.str (S l) := by
  have e : ∀ (s : String) (l : List Nat), (Str.ofString s) = S l → D.str (Str.ofString s) = D.str (S l) := fun s l h => by rw [h]
  simp only [OddL, List.map_cons, List.map_nil]
  refine List.cons_eq_cons.mpr ⟨e _ _ (by decide +kernel), ?_⟩
  refine List.cons_eq_cons.mpr ⟨e _ _ (by decide +kernel), ?_⟩
  refine List.cons_eq_cons.mpr ⟨e _ _ (by decide +kernel), ?_⟩
  refine List.cons_eq_cons.mpr ⟨e _ _ (by decide +kernel), ?_⟩
  refine List.cons_eq_cons.mpr ⟨e _ _ (by decide +kernel), ?_⟩
  refine List.cons_eq_cons.mpr ⟨e _ _ (by decide +kernel), ?_⟩
  refine List.cons_eq_cons.mpr ⟨e _ _ (by decide +kernel), ?_⟩
  refine List.cons_eq_cons.mpr ⟨e _ _ (by decide +kernel), ?_⟩
  refine List.cons_eq_cons.mpr ⟨e _ _ (by decide +kernel), ?_⟩
  refine List.cons_eq_cons.mpr ⟨e _ _ (by decide +kernel), ?_⟩
  refine List.cons_eq_cons.mpr ⟨e _ _ (by decide +kernel), ?_⟩
  refine List.cons_eq_cons.mpr ⟨e _ _ (by decide +kernel), ?_⟩
  refine List.cons_eq_cons.mpr ⟨e _ _ (by decide +kernel), ?_⟩
  refine List.cons_eq_cons.mpr ⟨e _ _ (by decide +kernel), ?_⟩
  refine List.cons_eq_cons.mpr ⟨e _ _ (by decide +kernel), ?_⟩
  refine List.cons_eq_cons.mpr ⟨e _ _ (by decide +kernel), ?_⟩
  refine List.cons_eq_cons.mpr ⟨e _ _ (by decide +kernel), ?_⟩
  refine List.cons_eq_cons.mpr ⟨e _ _ (by decide +kernel), ?_⟩
  refine List.cons_eq_cons.mpr ⟨e _ _ (by decide +kernel), ?_⟩
  refine List.cons_eq_cons.mpr ⟨e _ _ (by decide +kernel), ?_⟩
  refine List.cons_eq_cons.mpr ⟨e _ _ (by decide +kernel), ?_⟩
  refine List.cons_eq_cons.mpr ⟨e _ _ (by decide +kernel), ?_⟩
  refine List.cons_eq_cons.mpr ⟨e _ _ (by decide +kernel), ?_⟩
  refine List.cons_eq_cons.mpr ⟨e _ _ (by decide +kernel), ?_⟩
  refine List.cons_eq_cons.mpr ⟨e _ _ (by decide +kernel), ?_⟩
  refine List.cons_eq_cons.mpr ⟨e _ _ (by decide +kernel), ?_⟩
  refine List.cons_eq_cons.mpr ⟨e _ _ (by decide +kernel), ?_⟩
  refine List.cons_eq_cons.mpr ⟨e _ _ (by decide +kernel), ?_⟩
  refine List.cons_eq_cons.mpr ⟨e _ _ (by decide +kernel), ?_⟩
  refine List.cons_eq_cons.mpr ⟨e _ _ (by decide +kernel), ?_⟩
  rfl
/-- a text of halves, by its signs -/
def txL (a b c d : Int) : List Nat := textL ([(a, []), (b, [105]), (c, [106]), (d, [107])].filter fun it => decide (it.1 ≠ 0))
theorem tx_q (q : Hur) : textS q = S (txL q.a q.b q.c q.d) := text_S q
def oddOk (l : List Nat) : Bool := match rdAll l with
  | some [a, b, c, d] => !decide (par a b c d) || decide (txL a b c d ≠ l)
  | _ => true
theorem oddL_ok : ∀ l ∈ OddL, oddOk l = true := by decide +kernel
theorem odd_no {l : List Nat} (h : l ∈ OddL) : ∀ q : Hur, rdAll l = some [q.a, q.b, q.c, q.d] → textS q ≠ S l := fun q e z => by
  have k := oddL_ok l h
  unfold oddOk at k
  rw [e] at k
  rw [tx_q] at z
  have k : (!decide (par q.a q.b q.c q.d) || decide (txL q.a q.b q.c q.d ≠ l)) = true := k
  rw [decide_eq_true q.h, Bool.not_true, Bool.false_or] at k
  exact of_decide_eq_true k (S_inj z)
theorem law_halves_sm {c : Cell} {rest : Store} {most : Int} {Q : QE} {R : XQ} (hc : FC c) (h0 : 0 < most) (h1 : most ≤ 2)
    (q : ∀ (c' : Cell) (p : Hur), FC c' → p ≠ zero → Sm p 3 → Q (hv p) (c' :: rest)) : p__law_halves [.cel 0, .int most] (c :: rest) Q R := by
  refine i__law_halves ?_
  unfold w__law_halves
  f_lean
  refine callW_i (take_ok hc (by omega) (by omega) fun o c hc o0 o1 => ?_)
  f_lean
  refine forW_i (fun i e s => ∃ (c : Cell) (vs : List Int) (z : Slot), e = [.val (.cel 0), .val (.int most), .val (.int o), .own (vs.map D.int), z] ∧ s = c :: rest ∧ FC c ∧ vs.length = i ∧ ∀ v ∈ vs, v % 2 = o ∧ v.natAbs ≤ 5) ⟨c, [], _, rfl, rfl, hc, rfl, by simp⟩ ?_ ?_
  · rintro i d _ _ hd ⟨c, vs, z, rfl, rfl, hc, hl, hv⟩ K hK
    obtain ⟨hi, rfl⟩ := rngD_get hd
    f_lean
    refine ⟨mulOk_of (by omega) (by omega) (by omega) (by omega), callW_i (take_ok hc (by omega) (by omega) fun r c hc r0 r1 => ?_)⟩
    f_lean
    refine ⟨mulOk_of (by omega) (by omega) (by omega) (by omega), ?_, hK _ _ ⟨c, vs ++ [2 * (r - most) + o], .val (.int i), by simp, rfl, hc, by simp [hl], ?_⟩⟩
    · have : (vs.map D.int).length < 4 := by simp; omega
      exact Nat.lt_trans this (by decide)
    · intro v hm
      rcases List.mem_append.mp hm with h | h
      · exact hv v h
      · simp at h
        subst h
        omega
  · rintro _ _ ⟨c, vs, z, rfl, rfl, hc, hl, hv⟩
    have hl4 : vs.length = 4 := by rw [hl]; rfl
    match vs, hl4, hv with
    | [a, b, x, y], _, hv =>
      have ha := hv a (by simp)
      have hb := hv b (by simp)
      have hx := hv x (by simp)
      have hy := hv y (by simp)
      simp only [List.map_cons, List.map_nil]
      f_lean
      refine ⟨⟨rfl, rfl, by simp [D.dep, D.deps], by simp [D.dep, D.deps]⟩, iteW_i (fun _ => ?_) (fun hz => ?_)⟩
      · f_lean
        exact q _ (Hur.whole 1) hc (whole_ne (by decide)) (Sm.whole (n := 1) (k := 1) (by decide) (by decide))
      · f_lean
        refine q _ ⟨a, b, x, y, by unfold HQ.par; omega⟩ hc (fun e => ?_) ⟨by show a.natAbs < 2 ^ 3; omega, by show b.natAbs < 2 ^ 3; omega, by show x.natAbs < 2 ^ 3; omega, by show y.natAbs < 2 ^ 3; omega⟩
        have e1 := congrArg Hur.a e; have e2 := congrArg Hur.b e; have e3 := congrArg Hur.c e; have e4 := congrArg Hur.d e
        simp only [zero, whole_a, whole_b, whole_c, whole_d] at e1 e2 e3 e4
        subst e2 e3 e4
        simp [eqDs, eqD] at hz
        omega
theorem txL_asc (a b c d : Int) : ∀ z ∈ txL a b c d, z < 128 := by
  have num : ∀ n : Nat, ∀ z ∈ numL n, z < 128 := fun n z hz => by have := numL_digits n z hz; omega
  have tm : ∀ (h : Int) (l : List Nat), (∀ z ∈ l, z < 128) → ∀ z ∈ termL h l, z < 128 := fun h l hl z hz => by
    unfold termL at hz
    split at hz
    · rw [List.mem_append, List.mem_append] at hz
      rcases hz with (hz | hz) | hz
      · exact num _ z hz
      · simp at hz; omega
      · exact hl z hz
    · split at hz
      · exact hl z hz
      · rcases List.mem_append.mp hz with hz | hz
        · exact num _ z hz
        · exact hl z hz
  have lets : ∀ y ∈ ([(a, []), (b, [105]), (c, [106]), (d, [107])] : List (Int × List Nat)).filter (fun it => decide (it.1 ≠ 0)), ∀ z ∈ y.2, z < 128 := fun y hy z hz => by
    have := (List.mem_filter.mp hy).1
    simp only [List.mem_cons, List.not_mem_nil, or_false] at this
    rcases this with rfl | rfl | rfl | rfl <;> simp at hz <;> omega
  unfold txL
  generalize ([(a, []), (b, [105]), (c, [106]), (d, [107])] : List (Int × List Nat)).filter (fun it => decide (it.1 ≠ 0)) = ps at lets
  cases ps with
  | nil => intro z hz; simp [textL] at hz; omega
  | cons x xs =>
    intro z hz
    have hz : z ∈ sg0 x.1 ++ termL x.1 x.2 ++ xs.flatMap fun y => sg1 y.1 ++ termL y.1 y.2 := hz
    rw [List.mem_append, List.mem_append] at hz
    rcases hz with (hz | hz) | hz
    · unfold sg0 at hz; split at hz <;> simp at hz; omega
    · exact tm _ _ (lets x List.mem_cons_self) z hz
    · obtain ⟨y, hy, hz⟩ := List.mem_flatMap.mp hz
      rcases List.mem_append.mp hz with hz | hz
      · unfold sg1 at hz; split at hz <;> simp at hz <;> omega
      · exact tm _ _ (lets y (List.mem_cons_of_mem _ hy)) z hz
theorem txL_ne (a b c d : Int) : txL a b c d ≠ [] := by
  unfold txL
  generalize ([(a, []), (b, [105]), (c, [106]), (d, [107])] : List (Int × List Nat)).filter (fun it => decide (it.1 ≠ 0)) = ps
  cases ps with
  | nil => simp [textL]
  | cons x xs =>
    intro e
    have e : sg0 x.1 ++ termL x.1 x.2 ++ (xs.flatMap fun y => sg1 y.1 ++ termL y.1 y.2) = [] := e
    exact termL_ne _ _ (List.append_eq_nil_iff.mp (List.append_eq_nil_iff.mp e).1).2
/-- a text that may be read -/
structure Tx (B : List Nat) : Prop where
  a : ∀ c ∈ B, c < 128
  n : B.length ≤ 50
theorem odd_tx : ∀ l ∈ OddL, Tx l := fun l h => ⟨(by decide : ∀ l ∈ OddL, ∀ c ∈ l, c < 128) l h, (by decide : ∀ l ∈ OddL, l.length ≤ 50) l h⟩
def w_end : WS := (wSeq (wSet 10 (wBin oEqD (wVarB 7) (wVarB 4))) (wSeq (wFor (wiR2 (waCons (wUn (oNeg M0) (wC (.int 6))) (waCons (wC (.int 7)) waNil))) (wgName 11) (wSet 10 (wOr (wVar 10) (wBin oEqD (wVarB 7) (wCall p__law_spelled (waCons (wTup (waCons (wBin (oMulA M0) (wC (.int 2)) (wVarB 11)) (waCons (wC (.int 0)) (waCons (wC (.int 0)) (waCons (wC (.int 0)) waNil))))) waNil)))))) (wIfS (wOrT (wAndT (wBool (wIsN (wVarB 8))) (wTru M0 (wVarB 10))) (wAndT (wBool (wNotN (wVarB 8))) (wBool (wBin oNeD (wCall p__law_spelled (waCons (wUn (oAtt F_law T_law 13) (wVarB 8)) waNil)) (wVarB 7))))) (wRet (wC (.bl false))) wNext)))
def w_rest : WS := (wSeq (wSet 8 (wC .non)) (wSeq (wTryAt 14 8 9 (wSet 8 (wCallC 18 p_Four_readE (waCons (wVar 7) waNil)))) w_end))
theorem whole_hv (a : Int) : D.tup [.int (2 * a), .int 0, .int 0, .int 0] = hv (Hur.whole a) := rfl
theorem end08 {B : List Nat} (hB : Tx B) {q : Hur} (sq : Sm q 18) {c : Cell} {odd F : D} {x0 x3 x5 x6 x9 x10 x11 : Slot} {D0 : EW} (hF : (F = .non ∧ ¬ ∃ p : Hur, Sm p 18 ∧ textS p = S B) ∨ ∃ p : Hur, F = fob p ∧ Sm p 412 ∧ textS p = S B)
    (hn : ∀ x8 x9 x10 x11 : Slot, D0.nx [x0, .val (.cel 0), .val odd, x3, .val (.str (textS q)), x5, x6, .val (.str (S B)), x8, x9, x10, x11] [c]) :
    w_end [x0, .val (.cel 0), .val odd, x3, .val (.str (textS q)), x5, x6, .val (.str (S B)), .val F, x9, x10, x11] [c] D0 := by
  have okB : PyData.strOk (S B) = true := okS fun c hc => by have := hB.a c hc; omega
  unfold w_end
  f_lean
  refine ⟨str_datok okB textS_okd, ?_⟩
  refine forW_i (fun i e s => ∃ (g : Bool) (x11 : Slot), e = [x0, .val (.cel 0), .val odd, x3, .val (.str (textS q)), x5, x6, .val (.str (S B)), .val F, x9, .val (.bl g), x11] ∧ s = [c] ∧ (g = true → ∃ p : Hur, Sm p 18 ∧ textS p = S B)) ⟨_, _, rfl, rfl, fun h => ⟨q, sq, (of_decide_eq_true h).symm⟩⟩ ?_ ?_
  · rintro i d _ _ hd ⟨g, x11, rfl, rfl, hg⟩ K hK
    obtain ⟨hi, rfl⟩ := rngD_get hd
    f_lean
    cases g with
    | true =>
      f_lean
      exact hK _ _ ⟨_, _, rfl, rfl, hg⟩
    | false =>
      f_lean
      refine ⟨mulOk 4 8 (by decide) (by decide) (by decide) (by omega) (by decide), ?_⟩
      have p17 : (2 : Nat) ^ 17 = 131072 := by decide
      have sw : Sm (Hur.whole (-6 + (i : Int))) 18 := Sm.whole (n := -6 + (i : Int)) (k := 17) (by omega) (by decide)
      refine callW_i ?_
      rw [whole_hv]
      refine spelled_ok (by decide) (by decide) sw ?_
      f_lean
      refine ⟨str_datok okB textS_okd, ?_⟩
      exact hK _ _ ⟨_, _, rfl, rfl, fun h => ⟨_, sw, (of_decide_eq_true h).symm⟩⟩
  · rintro _ _ ⟨g, x11, rfl, rfl, hg⟩
    rcases hF with ⟨rfl, no⟩ | ⟨p, rfl, sp, tp⟩
    · have g0 : g = false := by
        cases g with
        | false => rfl
        | true => exact absurd (hg rfl) no
      subst g0
      f_lean
      exact hn _ _ _ _
    · f_lean
      refine callW_i (halves_ok ?_)
      f_lean
      refine callW_i (spelled_ok (by decide) (by decide) sp ?_)
      rw [tp]
      f_lean
      refine ⟨str_datok okB okB, ?_⟩
      exact hn _ _ _ _
theorem rest08 {B : List Nat} (hB : Tx B) {q : Hur} (sq : Sm q 18) {c : Cell} {odd : D} {x0 x3 x5 x6 x8 x9 x10 x11 : Slot} {D0 : EW}
    (hn : ∀ x8 x9 x10 x11 : Slot, D0.nx [x0, .val (.cel 0), .val odd, x3, .val (.str (textS q)), x5, x6, .val (.str (S B)), x8, x9, x10, x11] [c]) (n0 : noS x0 = x0) (n3 : noS x3 = x3) (n5 : noS x5 = x5) (n6 : noS x6 = x6) :
    w_rest [x0, .val (.cel 0), .val odd, x3, .val (.str (textS q)), x5, x6, .val (.str (S B)), x8, x9, x10, x11] [c] D0 := by
  unfold w_rest
  f_lean
  unfold wTryAt
  simp only [List.map_cons, List.map_nil, n0, n3, n5, n6]
  by_cases hs : ∃ p : Hur, Sm p 18 ∧ textS p = S B
  · obtain ⟨p, sp, tp⟩ := hs
    f_lean
    refine callW_i ?_
    rw [← tp]
    refine read_okE (by decide) (by decide) sp ?_
    rw [tp]
    exact end08 hB sq (.inr ⟨p, rfl, sp.mono (by decide), tp⟩) hn
  · f_lean
    refine callW_i (read_anyE hB.a hB.n (fun _ => ?_) (fun p _ sp tp => ?_))
    · refine ⟨rfl, rfl, by show 9 < 12; decide, ?_⟩
      exact end08 hB sq (.inl ⟨rfl, hs⟩) hn
    · exact end08 hB sq (.inr ⟨p, rfl, sp, tp⟩) hn
theorem law_true (ns : List Int) : p_law [.scr (ns.map D.int)] [] (fun d _ => d = .bl true) (fun _ _ => False) := by
  refine i_law ?_
  unfold w_law
  rw [show (wSeq (wSet 8 (wC .non)) (wSeq (wTryAt 14 8 9 (wSet 8 (wCallC 18 p_Four_readE (waCons (wVar 7) waNil)))) (wSeq (wSet 10 (wBin oEqD (wVarB 7) (wVarB 4))) (wSeq (wFor (wiR2 (waCons (wUn (oNeg M0) (wC (.int 6))) (waCons (wC (.int 7)) waNil))) (wgName 11) (wSet 10 (wOr (wVar 10) (wBin oEqD (wVarB 7) (wCall p__law_spelled (waCons (wTup (waCons (wBin (oMulA M0) (wC (.int 2)) (wVarB 11)) (waCons (wC (.int 0)) (waCons (wC (.int 0)) (waCons (wC (.int 0)) waNil))))) waNil)))))) (wIfS (wOrT (wAndT (wBool (wIsN (wVarB 8))) (wTru M0 (wVarB 10))) (wAndT (wBool (wNotN (wVarB 8))) (wBool (wBin oNeD (wCall p__law_spelled (waCons (wUn (oAtt F_law T_law 13) (wVarB 8)) waNil)) (wVarB 7))))) (wRet (wC (.bl false))) wNext))))) = w_rest from rfl]
  f_lean
  refine callW_i (feed_ok fun c hc => ?_)
  f_lean
  refine ⟨by rw [sizeLine_eq]; decide, by rw [sizeLine_eq]; decide, ?_⟩
  have sl : (30000 : Nat) ≤ sizeLine := by decide
  refine forW_i (fun i e s => ∃ (c : Cell) (x3 x4 x5 x6 x7 x8 x9 x10 x11 : Slot), e = [.val (.scr (ns.map D.int)), .val (.cel 0), .val (.lst oddD), x3, x4, x5, x6, x7, x8, x9, x10, x11] ∧ s = [c] ∧ FC c) ⟨_, _, _, _, _, _, _, _, _, _, rfl, rfl, hc⟩ ?_ ?_
  · rintro i d _ _ hd ⟨c, x3, x4, x5, x6, x7, x8, x9, x10, x11, rfl, rfl, hc⟩ K hK
    obtain ⟨hi, rfl⟩ := rngD_get hd
    f_lean
    refine callW_i (law_halves_sm hc (by decide) (by decide) fun c q hc q0 sq => ?_)
    f_lean
    refine callW_i (spelled_ok (by decide) (by decide) sq ?_)
    f_lean
    have tl := textS_len (by decide) sq
    have el := tx_q q
    have la := txL_asc q.a q.b q.c q.d
    have lne := txL_ne q.a q.b q.c q.d
    obtain ⟨Lx, eL⟩ : ∃ Lx, Lx = txL q.a q.b q.c q.d := ⟨_, rfl⟩
    rw [← eL] at la lne el
    rw [el, S_len] at tl ⊢
    have lp : 0 < Lx.length := List.length_pos_iff.mpr lne
    refine ⟨by omega, ?_⟩
    refine callW_i (take_ok hc (by omega) (by omega) fun at' c hc a0 a1 => ?_)
    f_lean
    refine callW_i (law_pick_ok hc (by decide) (by decide) fun c d hc hd => ?_)
    obtain ⟨sg, s1, s2, rfl⟩ : ∃ sg : List Nat, sg.length ≤ 1 ∧ (∀ z ∈ sg, z < 128) ∧ d = .str (S sg) := by
      have e : ∀ (x : String) (l : List Nat), Str.ofString x = S l → D.str (Str.ofString x) = D.str (S l) := fun x l h => by rw [h]
      simp only [List.mem_cons, List.not_mem_nil, or_false] at hd
      rcases hd with rfl | rfl | rfl | rfl | rfl | rfl | rfl | rfl | rfl | rfl | rfl
      · exact ⟨[43], by decide, by decide, e _ _ (by decide +kernel)⟩
      · exact ⟨[45], by decide, by decide, e _ _ (by decide +kernel)⟩
      · exact ⟨[105], by decide, by decide, e _ _ (by decide +kernel)⟩
      · exact ⟨[106], by decide, by decide, e _ _ (by decide +kernel)⟩
      · exact ⟨[48], by decide, by decide, e _ _ (by decide +kernel)⟩
      · exact ⟨[49], by decide, by decide, e _ _ (by decide +kernel)⟩
      · exact ⟨[50], by decide, by decide, e _ _ (by decide +kernel)⟩
      · exact ⟨[47], by decide, by decide, e _ _ (by decide +kernel)⟩
      · exact ⟨[32], by decide, by decide, e _ _ (by decide +kernel)⟩
      · exact ⟨[107], by decide, by decide, e _ _ (by decide +kernel)⟩
      · exact ⟨[], by decide, by decide, e _ _ (by decide +kernel)⟩
    f_lean
    have a2 : at'.toNat ≤ Lx.length := by omega
    have cu : cutS (S Lx) none (some at') = S (Lx.take at'.toNat) := by rw [C8.cutS_slice]; exact slice_to a0
    rw [cu, S_len, S_len, S_len, List.length_take]
    refine ⟨by omega, by omega, ?_⟩
    refine callW_i (take_ok hc (by decide) (by decide) fun b c hc b0 b1 => ?_)
    f_lean
    have cd' : cutS (S Lx) (some (at' + b)) none = S (Lx.drop (at' + b).toNat) := by rw [C8.cutS_slice]; exact slice_from (by omega)
    rw [cd', S_cat, S_cat]
    refine ⟨by rw [S_len]; omega, by rw [S_len, S_len, List.length_append, List.length_take, List.length_drop]; omega, ?_⟩
    have tB : Tx (Lx.take at'.toNat ++ sg ++ Lx.drop (at' + b).toNat) := ⟨fun z hz => by
      rcases List.mem_append.mp hz with hz | hz
      · rcases List.mem_append.mp hz with hz | hz
        · exact la z (List.mem_of_mem_take hz)
        · exact s2 z hz
      · exact la z (List.mem_of_mem_drop hz), by
      rw [List.length_append, List.length_append, List.length_take, List.length_drop]; omega⟩
    generalize Lx.take at'.toNat ++ sg ++ Lx.drop (at' + b).toNat = B at tB ⊢
    refine callW_i (take_ok hc (by decide) (by decide) fun r c hc _ _ => ?_)
    f_lean
    refine iteW_i (fun _ => ?_) (fun _ => ?_)
    · f_lean
      refine callW_i (law_pick_ok hc (by decide) (by decide) fun c d hc hd => ?_)
      rw [odd_S] at hd
      obtain ⟨l, hl, rfl⟩ := List.mem_map.mp hd
      f_lean
      rw [← el]
      refine rest08 (odd_tx l hl) (sq.mono (by decide)) (fun x8 x9 x10 x11 => ?_) rfl rfl rfl rfl
      f_lean
      exact hK _ _ ⟨_, _, _, _, _, _, _, _, _, _, rfl, rfl, hc⟩
    · f_lean
      rw [← el]
      refine rest08 tB (sq.mono (by decide)) (fun x8 x9 x10 x11 => ?_) rfl rfl rfl rfl
      f_lean
      exact hK _ _ ⟨_, _, _, _, _, _, _, _, _, _, rfl, rfl, hc⟩
  · rintro _ _ ⟨c, x3, x4, x5, x6, x7, x8, x9, x10, x11, rfl, rfl, hc⟩
    have oN := fun (l : List Nat) (h : l ∈ OddL) => odd_no h
    have oT := odd_tx
    rw [odd_S]
    have oL : OddL.length = 30 := rfl
    generalize OddL = O at oN oT oL ⊢
    f_lean
    have sO : ∀ l ∈ O, (S l).length ≤ sizeLine := fun l h => by rw [S_len]; have := (oT l h).n; omega
    refine lcW_map (f := fun _ => D.tup [.str "ParseError", .int 0]) ?_ (fun l hl acc K ha hK => ?_) ?_
    · rw [oL]; decide
    · f_lean
      refine callW_i (read_anyE (oT l hl).a (oT l hl).n (fun _ => ?_) (fun p e sp tp => absurd tp (oN l hl p e)))
      repeat (refine tell_next (by decide) ?_)
      refine tell_here (by decide) rfl rfl ?_
      exact ⟨ha, hK⟩
    · f_lean
      rw [List.length_map, oL, show ((30 : Nat) : Int).toNat = 30 from rfl]
      have rp : ∀ (d : D) (n : Nat), (List.replicate n [d]).flatten = List.replicate n d := fun d n => by
        induction n with
        | zero => rfl
        | succ n ih => rw [List.replicate_succ, List.flatten_cons, ih]; rfl
      have mp : O.map (fun _ => D.tup [.str "ParseError", .int 0]) = List.replicate 30 (D.tup [.str "ParseError", .int 0]) := by rw [List.map_const', oL]
      rw [rp, mp]
      refine ⟨⟨by decide, by decide, by rw [sizeLine_eq]; decide⟩, ?_, ?_⟩
      · exact ⟨by decide +kernel, by decide +kernel, by decide +kernel, by decide +kernel⟩
      · refine congrArg D.bl ?_
        have z : ∀ n : Nat, eqDs (List.replicate n (D.tup [.str "ParseError", .int 0])) (List.replicate n (D.tup [.str "ParseError", .int 0])) = true := fun n => by
          induction n with
          | zero => simp [eqDs]
          | succ n ih => rw [List.replicate_succ, eqDs, ih]; simp [eqD, eqDs]
        exact z 30
end LK
namespace LK
open PySem PySem.Spec PyProof.Rows L2 G
theorem nd_refd : ([("_law_ask" : Str), "_law_told", "e"] : List Str).Nodup := by decide +kernel
theorem sc_refd : FnScope ["_law_ask", "_law_told", "e"] ["_law_ask"] (defScope s_refd) := ⟨rfl, rfl, rfl, by decide +kernel, rfl, by decide +kernel, by decide +kernel⟩
theorem gv_refd {K : PySem.W.Frag} {ca : Nat → Addr} {TT : Hp → Prop} {X : Cx} {g : Addr} {cdg : Value} {q : Str} (hK : X.K = K) (g_InvalidFour : X.mg "InvalidFour" = some (.ref (ca 2))) (g_InvalidNumber : X.mg "InvalidNumber" = some (.ref (ca 3))) (g_InvalidOrder : X.mg "InvalidOrder" = some (.ref (ca 5))) (g_InvalidLimit : X.mg "InvalidLimit" = some (.ref (ca 8))) (g_InvalidRing : X.mg "InvalidRing" = some (.ref (ca 4))) (g_NotApart : X.mg "NotApart" = some (.ref (ca 6))) (g_TooFar : X.mg "TooFar" = some (.ref (ca 7))) (g_CapacityExceeded : X.mg "CapacityExceeded" = some (.ref (ca 12))) (g_InvalidName : X.mg "InvalidName" = some (.ref (ca 9))) (g_DuplicateName : X.mg "DuplicateName" = some (.ref (ca 10))) (g_UnknownName : X.mg "UnknownName" = some (.ref (ca 15))) (g_DuplicateMark : X.mg "DuplicateMark" = some (.ref (ca 11))) (g_UnknownMark : X.mg "UnknownMark" = some (.ref (ca 16))) (g_InvalidCommand : X.mg "InvalidCommand" = some (.ref (ca 13))) (g_ParseError : X.mg "ParseError" = some (.ref (ca 14))) (g_NothingLeft : X.mg "NothingLeft" = some (.ref (ca 17))) : LamX.GivesTo X ["_law_ask", "_law_told", "e"] "_law_refused" (defScope s_refd) g cdg (defBody s_refd) "_law_ask" q (TTref K (nameOf Names 1) (tcl.map (toldOf ⟨K, ca, nameOf Names, nameOf Names, TT⟩))) := by
  subst hK
  refine refused_gives (X := X) (i := 1) (ie := 2) (e := "e") (x := "_law_told") (tag := nameOf Names 1) rfl rfl rfl (by decide) (by decide) (by decide +kernel) rfl rfl rfl rfl fun s H => ?_
  exact (.cons (test_four ⟨by rfl, by rfl, .inl g_InvalidFour⟩ ⟨by rfl, by rfl, .inl g_InvalidNumber⟩ ⟨by rfl, by rfl, .inl g_InvalidOrder⟩ ⟨by rfl, by rfl, .inl g_InvalidLimit⟩) (fun a oe cls d pn hz hf => suite_some hz hf nd_refd rfl rfl rfl rfl rfl rfl) (.cons (test_one ⟨by rfl, by rfl, .inl g_InvalidRing⟩) (fun a oe cls d pn hz hf => suite_some hz hf nd_refd rfl rfl rfl rfl rfl rfl) (.cons (test_one ⟨by rfl, by rfl, .inl g_NotApart⟩) (fun a oe cls d pn hz hf => suite_some hz hf nd_refd rfl rfl rfl rfl rfl rfl) (.cons (test_two ⟨by rfl, by rfl, .inl g_TooFar⟩ ⟨by rfl, by rfl, .inl g_CapacityExceeded⟩) (fun a oe cls d pn hz hf => suite_some hz hf nd_refd rfl rfl rfl rfl rfl rfl) (.cons (test_three ⟨by rfl, by rfl, .inl g_InvalidName⟩ ⟨by rfl, by rfl, .inl g_DuplicateName⟩ ⟨by rfl, by rfl, .inl g_UnknownName⟩) (fun a oe cls d pn hz hf => suite_some hz hf nd_refd rfl rfl rfl rfl rfl rfl) (.cons (test_two ⟨by rfl, by rfl, .inl g_DuplicateMark⟩ ⟨by rfl, by rfl, .inl g_UnknownMark⟩) (fun a oe cls d pn hz hf => suite_some hz hf nd_refd rfl rfl rfl rfl rfl rfl) (.cons (test_one ⟨by rfl, by rfl, .inl g_InvalidCommand⟩) (fun a oe cls d pn hz hf => suite_some hz hf nd_refd rfl rfl rfl rfl rfl rfl) (.cons (test_one ⟨by rfl, by rfl, .inl g_ParseError⟩) (fun a oe cls d pn hz hf => suite_some hz hf nd_refd rfl rfl rfl rfl rfl rfl) (.cons (test_one ⟨by rfl, by rfl, .inl g_NothingLeft⟩) (fun a oe cls d pn hz hf => suite_none hz hf nd_refd rfl rfl rfl rfl rfl rfl) .nil)))))))))
abbrev con (K : PySem.W.Frag) : Con := ⟨K, caOf K, nameOf Names, nameOf Names, fun H => LamX.Tabs [(lawP "law" K, ("law.<locals>.<lambda>" : Str))] H⟩
theorem facts {P : Program} {w : World} {K : PySem.W.Frag} {h : Heap} {mg : Str → Option Value} {f : Addr} (X : K.In h) (G : h.Ns mainGlobals mg) (hfa : mg ("law" : Str) = some (.ref f)) (c : SaysY fas fns sups K) (hfile : ((P.main.file : Str) == "/claim/cut.py") = true) (htop : (P.main.scope.names.lookup ("super" : Str)).isSome = false) (ht : ∃ o fd c P, h.get? f = some o ∧ o.data = .func fd ∧ fd.code = .ref c ∧ h.IsCode c P #[] ∧ h.TableAt c P #[]) :
    ∃ fd : FuncData, (∀ (s : Shared) (v : Value), BindsTo s fd ⟨[v], []⟩ [("_law_script", v)]) ∧ (h.get? (lawP "law" K) = some { cls := .none, data := .fields #[] } ∧ K.lookup (lawP "law" K) = none ∧ PySem.W.CodeHd h (lawC "law" K) (lawP "law" K)) ∧ ∀ base : Heap, K.In base → base.Ns mainGlobals mg → LamX.TabB base mg (lawC "law" K) (lawP "law" K) → FnOk P w K mg base (L2.CX P w) 11 f fd ["_law_script"] (spOf (con K) p_law 1) := by
  have ck : ConOk (con K) := tabs_ok
  have ts : TS (con K) := tabs_ts
  have inj : ∀ i j, (con K).fn i = (con K).fn j → i = j := nameOf_inj (by decide +kernel) (by decide +kernel) (by decide +kernel)
  have hfn : (con K).fn = nameOf Names := rfl
  have hmn : (con K).mn = (con K).fn := rfl
  have kI_LETTERS : GTupI (con K).K mg "LETTERS" ["", "i", "j", "k"] := tupIB_ok (He.glo_ok X G (c.fact 0 (f := faB (.glo "LETTERS")) rfl)) (c.fact 1 (f := tupIB "LETTERS" ["", "i", "j", "k"]) rfl)
  have k_LETTERS : GTup (con K).K mg "LETTERS" ["", "i", "j", "k"] := tupB_ok (He.glo_ok X G (c.fact 0 (f := faB (.glo "LETTERS")) rfl)) (c.fact 2 (f := tupB "LETTERS" ["", "i", "j", "k"]) rfl)
  have fr_abs : mg "abs" = none := He.free_ok X G (c.fact 3 (f := faB (.free "abs")) rfl)
  have fr_enumerate : mg "enumerate" = none := He.free_ok X G (c.fact 4 (f := faB (.free "enumerate")) rfl)
  have fr_int : mg "int" = none := He.free_ok X G (c.fact 5 (f := faB (.free "int")) rfl)
  have fr_len : mg "len" = none := He.free_ok X G (c.fact 6 (f := faB (.free "len")) rfl)
  have fr_list : mg "list" = none := He.free_ok X G (c.fact 7 (f := faB (.free "list")) rfl)
  have fr_range : mg "range" = none := He.free_ok X G (c.fact 8 (f := faB (.free "range")) rfl)
  have fr_str : mg "str" = none := He.free_ok X G (c.fact 9 (f := faB (.free "str")) rfl)
  have fr_tuple : mg "tuple" = none := He.free_ok X G (c.fact 10 (f := faB (.free "tuple")) rfl)
  have fr_zip : mg "zip" = none := He.free_ok X G (c.fact 11 (f := faB (.free "zip")) rfl)
  have fr_super : mg "super" = none := He.free_ok X G (c.fact 12 (f := faB (.free "super")) rfl)
  have c_Four : Cls (con K).K ((con K).ca 18) := He.cls_ok (c.fact 13 (f := faB (.cls "Four")) rfl)
  have g_Four : mg "Four" = some (.ref ((con K).ca 18)) := He.glo_ok X G (c.fact 14 (f := faB (.glo "Four")) rfl)
  have g_InvalidFour : mg "InvalidFour" = some (.ref ((con K).ca 2)) := He.glo_ok X G (c.fact 15 (f := faB (.glo "InvalidFour")) rfl)
  have g_InvalidNumber : mg "InvalidNumber" = some (.ref ((con K).ca 3)) := He.glo_ok X G (c.fact 16 (f := faB (.glo "InvalidNumber")) rfl)
  have g_InvalidOrder : mg "InvalidOrder" = some (.ref ((con K).ca 5)) := He.glo_ok X G (c.fact 17 (f := faB (.glo "InvalidOrder")) rfl)
  have g_InvalidLimit : mg "InvalidLimit" = some (.ref ((con K).ca 8)) := He.glo_ok X G (c.fact 18 (f := faB (.glo "InvalidLimit")) rfl)
  have g_InvalidRing : mg "InvalidRing" = some (.ref ((con K).ca 4)) := He.glo_ok X G (c.fact 19 (f := faB (.glo "InvalidRing")) rfl)
  have g_NotApart : mg "NotApart" = some (.ref ((con K).ca 6)) := He.glo_ok X G (c.fact 20 (f := faB (.glo "NotApart")) rfl)
  have g_TooFar : mg "TooFar" = some (.ref ((con K).ca 7)) := He.glo_ok X G (c.fact 21 (f := faB (.glo "TooFar")) rfl)
  have g_CapacityExceeded : mg "CapacityExceeded" = some (.ref ((con K).ca 12)) := He.glo_ok X G (c.fact 22 (f := faB (.glo "CapacityExceeded")) rfl)
  have g_InvalidName : mg "InvalidName" = some (.ref ((con K).ca 9)) := He.glo_ok X G (c.fact 23 (f := faB (.glo "InvalidName")) rfl)
  have g_DuplicateName : mg "DuplicateName" = some (.ref ((con K).ca 10)) := He.glo_ok X G (c.fact 24 (f := faB (.glo "DuplicateName")) rfl)
  have g_UnknownName : mg "UnknownName" = some (.ref ((con K).ca 15)) := He.glo_ok X G (c.fact 25 (f := faB (.glo "UnknownName")) rfl)
  have g_DuplicateMark : mg "DuplicateMark" = some (.ref ((con K).ca 11)) := He.glo_ok X G (c.fact 26 (f := faB (.glo "DuplicateMark")) rfl)
  have g_UnknownMark : mg "UnknownMark" = some (.ref ((con K).ca 16)) := He.glo_ok X G (c.fact 27 (f := faB (.glo "UnknownMark")) rfl)
  have g_InvalidCommand : mg "InvalidCommand" = some (.ref ((con K).ca 13)) := He.glo_ok X G (c.fact 28 (f := faB (.glo "InvalidCommand")) rfl)
  have g_ParseError : mg "ParseError" = some (.ref ((con K).ca 14)) := He.glo_ok X G (c.fact 29 (f := faB (.glo "ParseError")) rfl)
  have g_NothingLeft : mg "NothingLeft" = some (.ref ((con K).ca 17)) := He.glo_ok X G (c.fact 30 (f := faB (.glo "NothingLeft")) rfl)
  have n_Four_kept : NoAttr (con K).K ((con K).ca 18) ((con K).fn 9) := He.noat_ok (x := "Four") (f := "kept") (c.fact 31 (f := faB (.noat "Four" "kept")) rfl)
  obtain ⟨su_ParseError, sk_ParseError⟩ := c.sup 0 (s := ⟨⟨atM "ParseError" "__init__", "__init__", "ParseError.__init__", defArgs s_E_ParseError, defBody s_E_ParseError, defScope s_E_ParseError⟩, "/claim/cut.py", fun K => He.ga K "ParseError"⟩) rfl
  obtain ⟨fd_ref, F_ref⟩ := c.def_ 15 (d := ⟨atG "_law_refused", "_law_refused", "_law_refused", defArgs s_refd, defBody s_refd, defScope s_refd⟩) rfl
  obtain ⟨fd_Four_halves, F_Four_halves⟩ := c.def_ 0 (d := ⟨atP "Four" "halves", "halves", "Four.halves", defArgs s_Four_halves, defBody s_Four_halves, defScope s_Four_halves⟩) rfl
  have D_Four_halves : DefC (con K) ((atP "Four" "halves") K) "halves" "Four.halves" (defArgs s_Four_halves) (defBody s_Four_halves) (defScope s_Four_halves) ["self"] := ⟨_, F_Four_halves, F_Four_halves.bindsN fun _ _ _ _ _ _ us hl => match us, hl with | [_], _ => rfl⟩
  obtain ⟨fd_is_halves, F_is_halves⟩ := c.def_ 1 (d := ⟨atG "is_halves", "is_halves", "is_halves", defArgs s_is_halves, defBody s_is_halves, defScope s_is_halves⟩) rfl
  have D_is_halves : DefAt (con K) mg "is_halves" (defArgs s_is_halves) (defBody s_is_halves) (defScope s_is_halves) ["given"] := ⟨_, _, F_is_halves, He.glo_ok X G (c.fact 35 (f := faB (.glo "is_halves")) rfl), F_is_halves.bindsN fun _ _ _ _ _ _ us hl => match us, hl with | [_], _ => rfl⟩
  obtain ⟨fd_Four___init__, F_Four___init__⟩ := c.def_ 2 (d := ⟨atM "Four" "__init__", "__init__", "Four.__init__", defArgs s_Four___init__, defBody s_Four___init__, defScope s_Four___init__⟩) rfl
  have D_Four___init__ : DefS (con K) ((atM "Four" "__init__") K) "__init__" "Four.__init__" (defArgs s_Four___init__) (defBody s_Four___init__) (defScope s_Four___init__) ["self"] "halves" := ⟨⟨_, F_Four___init__⟩, fun _ _ _ _ _ _ => fun us rest hl => match us, hl, rest with | [x0], _, [] => rfl | [x0], _, r :: rs => rfl⟩
  obtain ⟨fd_term_text, F_term_text⟩ := c.def_ 3 (d := ⟨atG "term_text", "term_text", "term_text", defArgs s_term_text, defBody s_term_text, defScope s_term_text⟩) rfl
  have D_term_text : DefAt (con K) mg "term_text" (defArgs s_term_text) (defBody s_term_text) (defScope s_term_text) ["half", "letter"] := ⟨_, _, F_term_text, He.glo_ok X G (c.fact 36 (f := faB (.glo "term_text")) rfl), F_term_text.bindsN fun _ _ _ _ _ _ us hl => match us, hl with | [_, _], _ => rfl⟩
  obtain ⟨fd_four_text, F_four_text⟩ := c.def_ 4 (d := ⟨atG "four_text", "four_text", "four_text", defArgs s_four_text, defBody s_four_text, defScope s_four_text⟩) rfl
  have D_four_text : DefAt (con K) mg "four_text" (defArgs s_four_text) (defBody s_four_text) (defScope s_four_text) ["halves"] := ⟨_, _, F_four_text, He.glo_ok X G (c.fact 37 (f := faB (.glo "four_text")) rfl), F_four_text.bindsN fun _ _ _ _ _ _ us hl => match us, hl with | [_], _ => rfl⟩
  obtain ⟨fd_Four_text, F_Four_text⟩ := c.def_ 5 (d := ⟨atM "Four" "text", "text", "Four.text", defArgs s_Four_text, defBody s_Four_text, defScope s_Four_text⟩) rfl
  have D_Four_text : DefC (con K) ((atM "Four" "text") K) "text" "Four.text" (defArgs s_Four_text) (defBody s_Four_text) (defScope s_Four_text) ["self"] := ⟨_, F_Four_text, F_Four_text.bindsN fun _ _ _ _ _ _ us hl => match us, hl with | [_], _ => rfl⟩
  obtain ⟨fd_read_term, F_read_term⟩ := c.def_ 6 (d := ⟨atG "read_term", "read_term", "read_term", defArgs s_read_term, defBody s_read_term, defScope s_read_term⟩) rfl
  have D_read_term : DefAt (con K) mg "read_term" (defArgs s_read_term) (defBody s_read_term) (defScope s_read_term) ["term"] := ⟨_, _, F_read_term, He.glo_ok X G (c.fact 38 (f := faB (.glo "read_term")) rfl), F_read_term.bindsN fun _ _ _ _ _ _ us hl => match us, hl with | [_], _ => rfl⟩
  obtain ⟨fd_read_halves, F_read_halves⟩ := c.def_ 7 (d := ⟨atG "read_halves", "read_halves", "read_halves", defArgs s_read_halves, defBody s_read_halves, defScope s_read_halves⟩) rfl
  have D_read_halves : DefAt (con K) mg "read_halves" (defArgs s_read_halves) (defBody s_read_halves) (defScope s_read_halves) ["text"] := ⟨_, _, F_read_halves, He.glo_ok X G (c.fact 39 (f := faB (.glo "read_halves")) rfl), F_read_halves.bindsN fun _ _ _ _ _ _ us hl => match us, hl with | [_], _ => rfl⟩
  obtain ⟨fd_Four_readE, F_Four_readE⟩ := c.def_ 8 (d := ⟨atCm "Four" "read", "read", "Four.read", defArgs s_Four_readE, defBody s_Four_readE, defScope s_Four_readE⟩) rfl
  have D_Four_readE : DefC (con K) ((atCm "Four" "read") K) "read" "Four.read" (defArgs s_Four_readE) (defBody s_Four_readE) (defScope s_Four_readE) ["cls", "text"] := ⟨_, F_Four_readE, F_Four_readE.bindsN fun _ _ _ _ _ _ us hl => match us, hl with | [_, _], _ => rfl⟩
  obtain ⟨fd__law_feed, F__law_feed⟩ := c.def_ 9 (d := ⟨atG "_law_feed", "_law_feed", "_law_feed", defArgs s__law_feed, defBody s__law_feed, defScope s__law_feed⟩) rfl
  have D__law_feed : DefAt (con K) mg "_law_feed" (defArgs s__law_feed) (defBody s__law_feed) (defScope s__law_feed) ["_law_script"] := ⟨_, _, F__law_feed, He.glo_ok X G (c.fact 40 (f := faB (.glo "_law_feed")) rfl), F__law_feed.bindsN fun _ _ _ _ _ _ us hl => match us, hl with | [_], _ => rfl⟩
  obtain ⟨fd__law_take, F__law_take⟩ := c.def_ 10 (d := ⟨atG "_law_take", "_law_take", "_law_take", defArgs s__law_take, defBody s__law_take, defScope s__law_take⟩) rfl
  have D__law_take : DefAt (con K) mg "_law_take" (defArgs s__law_take) (defBody s__law_take) (defScope s__law_take) ["_law_feed_here", "_law_many"] := ⟨_, _, F__law_take, He.glo_ok X G (c.fact 41 (f := faB (.glo "_law_take")) rfl), F__law_take.bindsN fun _ _ _ _ _ _ us hl => match us, hl with | [_, _], _ => rfl⟩
  obtain ⟨fd__law_halves, F__law_halves⟩ := c.def_ 11 (d := ⟨atG "_law_halves", "_law_halves", "_law_halves", defArgs s__law_halves, defBody s__law_halves, defScope s__law_halves⟩) rfl
  have D__law_halves : DefAt (con K) mg "_law_halves" (defArgs s__law_halves) (defBody s__law_halves) (defScope s__law_halves) ["_law_feed_here", "_law_most"] := ⟨_, _, F__law_halves, He.glo_ok X G (c.fact 42 (f := faB (.glo "_law_halves")) rfl), F__law_halves.bindsN fun _ _ _ _ _ _ us hl => match us, hl with | [_, _], _ => rfl⟩
  obtain ⟨fd__law_pick, F__law_pick⟩ := c.def_ 12 (d := ⟨atG "_law_pick", "_law_pick", "_law_pick", defArgs s__law_pick, defBody s__law_pick, defScope s__law_pick⟩) rfl
  have D__law_pick : DefAt (con K) mg "_law_pick" (defArgs s__law_pick) (defBody s__law_pick) (defScope s__law_pick) ["_law_feed_here", "_law_things"] := ⟨_, _, F__law_pick, He.glo_ok X G (c.fact 43 (f := faB (.glo "_law_pick")) rfl), F__law_pick.bindsN fun _ _ _ _ _ _ us hl => match us, hl with | [_, _], _ => rfl⟩
  obtain ⟨fd__law_spelled, F__law_spelled⟩ := c.def_ 13 (d := ⟨atG "_law_spelled", "_law_spelled", "_law_spelled", defArgs s__law_spelled, defBody s__law_spelled, defScope s__law_spelled⟩) rfl
  have D__law_spelled : DefAt (con K) mg "_law_spelled" (defArgs s__law_spelled) (defBody s__law_spelled) (defScope s__law_spelled) ["_law_halves_here"] := ⟨_, _, F__law_spelled, He.glo_ok X G (c.fact 44 (f := faB (.glo "_law_spelled")) rfl), F__law_spelled.bindsN fun _ _ _ _ _ _ us hl => match us, hl with | [_], _ => rfl⟩
  obtain ⟨fd, F⟩ := c.def_ 14 (d := ⟨atG "law", "law", "law", defArgs s_law, defBody s_law, defScope s_law⟩) rfl
  have e := hfa.symm.trans (He.glo_ok X G (c.fact 45 (f := faB (.glo "law")) rfl))
  cases e
  obtain ⟨fc, fp⟩ := law_tab X (c.fact 46 (f := lawTabB "law") rfl) rfl F ht
  have b := FunD.bindsA (ps := ["_law_script"]) F fun _ _ _ _ _ _ us hl => match us, hl with | [_], _ => rfl
  refine ⟨fd, fun s v => b s [v] rfl, fp, fun base _ _ TB => ?_⟩
  have E_ParseError : ErrR P w (con K) mg base "ParseError" 14 8 1 "ParseError" 1 := errR_of (k := 0) (C := con K) (pn := "at") (d := ⟨atM "ParseError" "__init__", "__init__", "ParseError.__init__", defArgs s_E_ParseError, defBody s_E_ParseError, defScope s_E_ParseError⟩) (file := "/claim/cut.py") (Cf := fun K => He.ga K "ParseError") (p := supPos (defBody s_E_ParseError)) (j := supJ (defBody s_E_ParseError)) rfl su_ParseError sk_ParseError (c.fact 32 rfl) hfile htop ⟨_, rfl, rfl⟩ (NdefX.nscope_by (by decide +kernel)) (by rfl) (by rfl) fr_super (fun env => by rfl) rfl rfl (fun z => absurd (inj _ _ z) (by decide)) (fun cc cA doc pm ctv => .all fun us hl => match us, hl with | [_, _], _ => rfl) g_ParseError
  have LT_ : LamT (con K) mg base (lawC "law" K) (lawP "law" K) "law.<locals>.<lambda>" := ⟨TB, _, fun _ => Iff.rfl, List.mem_singleton.mpr rfl, fun p hp _ => by rw [List.mem_singleton.mp hp]⟩
  have RR_ : RefR P w (con K) mg base "_law_refused" "_law_ask" 1 tcl := refR_of (tellB_ok (ca := caOf) inj rfl (c.fact 33 rfl)) F_ref (He.glo_ok X G (c.fact 34 (f := faB (.glo "_law_refused")) rfl)) (F_ref.bindsN fun _ _ _ _ _ _ us hl => match us, hl with | [_], _ => rfl) sc_refd rfl (.inl rfl) (fun X q cdv e1 e2 e3 e4 e5 => by subst e4; exact gv_refd e3 g_InvalidFour g_InvalidNumber g_InvalidOrder g_InvalidLimit g_InvalidRing g_NotApart g_TooFar g_CapacityExceeded g_InvalidName g_DuplicateName g_UnknownName g_DuplicateMark g_UnknownMark g_InvalidCommand g_ParseError g_NothingLeft)
  have r_Four_halves := ok_Four_halves (P := P) (w := w) (base := base) (mg := mg) ck D_Four_halves c_Four (propB_ok (c := "Four") (m := "halves") (c.fact 47 (f := propB "Four" "halves") rfl)) c_Four n_Four_kept inj hfn hmn
  have h_is_halves := ok_is_halves (P := P) (w := w) (base := base) ck D_is_halves ts fr_len
  have f_Four___init__ := ok_Four___init__ (P := P) (w := w) (base := base) (mg := mg) ck D_Four___init__ h_is_halves c_Four n_Four_kept inj hfn hmn
  have k_Four : MakR P w (con K) mg base "Four" 18 3 p_Four___init__ := makR_of f_Four___init__ (He.mkr_ok (x := "Four") (c.fact 48 (f := faB (.mkr "Four")) rfl)) g_Four
  have h_term_text := ok_term_text (P := P) (w := w) (base := base) ck D_term_text fr_abs
  have h_four_text := ok_four_text (P := P) (w := w) (base := base) ck D_four_text h_term_text k_LETTERS fr_zip
  have f_Four_text := ok_Four_text (P := P) (w := w) (base := base) (mg := mg) ck D_Four_text h_four_text c_Four n_Four_kept inj hfn hmn
  have m_Four_text : MetR P w (con K) mg base 18 (.nm 18) 5 p_Four_text := metR_of f_Four_text (He.meth_ok (x := "Four") (m := "text") (c.fact 49 (f := faB (.meth "Four" "text")) rfl)) c_Four (c.fact 50 (f := sfB "Four") rfl)
  have h_read_term := ok_read_term (P := P) (w := w) (base := base) ck D_read_term kI_LETTERS fr_int
  have h_read_halves := ok_read_halves (P := P) (w := w) (base := base) ck D_read_halves h_is_halves h_read_term fr_enumerate fr_tuple
  have f_Four_readE := ok_Four_readE (P := P) (w := w) (base := base) (mg := mg) ck D_Four_readE h_read_halves m_Four_text k_Four E_ParseError inj hfn hmn
  have y_Four_readE : ClsmR P w (con K) mg base "Four" "read" 18 7 p_Four_readE := clsmR_of f_Four_readE (clsmB_ok (c := "Four") (m := "read") (c.fact 51 (f := clsmB "Four" "read") rfl)) g_Four
  have h__law_feed := ok__law_feed (P := P) (w := w) (base := base) ck D__law_feed fr_int fr_len fr_list
  have h__law_take := ok__law_take (P := P) (w := w) (base := base) ck D__law_take fr_int fr_len
  have h__law_halves := ok__law_halves (P := P) (w := w) (base := base) ck D__law_halves h__law_take fr_range fr_tuple
  have h__law_pick := ok__law_pick (P := P) (w := w) (base := base) ck D__law_pick h__law_take fr_len
  have h__law_spelled := ok__law_spelled (P := P) (w := w) (base := base) ck D__law_spelled fr_abs fr_int fr_str fr_zip
  exact ok_law ck F fc h__law_feed h__law_halves h__law_pick h__law_spelled h__law_take r_Four_halves y_Four_readE E_ParseError RR_ LT_ inj hfn hmn fr_len fr_range
end LK
open PySem PySem.W PySem.Calls PyProof.Rows G
theorem PySem.Challenge.cw_grainmeet_k08_texts_that_are_no_fours_holds : PySem.Challenge.rw_grainmeet_k08_texts_that_are_no_fours.Holds := by
  refine LK.head0 ?hc
  case hc =>
    refine G.walk_ofL (l := PySem.Challenge.rw_grainmeet_k08_texts_that_are_no_fours) (n := 63) (k := 11) (x := "_law_script") rfl (by decide) (by kernel_rfl) ⟨rfl, by decide, by decide⟩ (by kernel_rfl) ?F
    intro w mg fa h Y G hmg0 ht
    obtain ⟨K, KX, c⟩ := Y
    have hmg : mg ("law" : PySem.Str) = some (.ref fa) := by
      have e : (HandSHeadRun.topDef (OpenLaw.row PySem.Challenge.rw_grainmeet_k08_texts_that_are_no_fours).prog 35).name = ("law" : PySem.Str) := by kernel_rfl
      rw [← e]
      exact hmg0
    obtain ⟨fd, hb, ⟨hp1, hp2, hp3⟩, hF⟩ := LK.facts (P := PySem.Challenge.rw_grainmeet_k08_texts_that_are_no_fours.prog) (w := w) KX G hmg c (by kernel_rfl) (by kernel_rfl) ht
    exact ⟨K, fd, [(lawC "law" K, lawP "law" K)], spOf (LK.con K) LK.p_law 1, KX, List.forall_mem_singleton.mpr hp1, List.forall_mem_singleton.mpr hp2, List.forall_mem_singleton.mpr hp3, hb, fun H a ns hl ho hS => law_endT hS (fun p hp => by rw [List.mem_singleton.mp hp]; exact ⟨#[], ho _ (List.mem_singleton.mpr rfl), trivial, fun pos cv z => by cases z⟩) (LK.law_true ns), fun base k1 k2 k3 => hF base k1 k2 (k3 _ (List.mem_singleton.mpr rfl))⟩
