import PyProof.Rows.All
import Wide.All
import OpenK.AllK
import Wide.FinOn
import HandS.ForMost
import HandS.ForExc
import HandS.Wide
import HandS.CallSlots
import HandS.Defaults
import HandS.More
import HandS.Star
import HandS.Property
import HandS.TupLe
import HandS.IsInst
import HandS.Zip
import HandS.HeadHook2
import HandS.Head0
import HandS.Head1
import HandS.Head2
import HandS.HeadEnd
import HandS.SetBool
import PyProof.SetRoads
import PyProof.InstNe
import HandS.ClsMeth
import HandS.Style
import HandS.HeadNt
import HandS.Deep
import HandS.TupSets
import HandS.SortOrd
import HandS.TupMul
import HandS.SortRule
import HandS.SortInts
import HandS.Sort
import PyProof.WalkInts
import HandS.Text
import HandS.TupAny
import HandS.OwnEq
import KE.KExcSuper
import HandS.ExcInit
import HandS.ExcField
import HandS.Nested
import KE.KTryMore
import HandS.Lambda
import HandS.EndTab
import HandS.MakeKwOnly
import PyProof.ExcBaseAll.LookupError
import PyProof.ExcBaseAll.IndexError
import KE.KExcInit
import KE.KDflt
import HandS.FStr
import HandS.RaiseMore
import PyProof.Conv_bool
import PyProof.Rows.Range3
import HandS.DictComp
import HandS.Conv
import HandS.StrMore
import HandS.ReplaceLit
import HandS.Strs
import HandS.Dict
import HandS.Flow
import PyProof.Rows.MatchSeqLen
import HandS.ExcOwn
import PyProof.MaxThree
import HandS.Codes
import PySem.Challenge.RW_grainmeet_k44_texts_that_are_no_conditio
set_option Elab.async false
set_option linter.all false
set_option maxRecDepth 100000
set_option maxHeartbeats 4000000
set_option autoImplicit false
namespace G
open PySem PySem.Spec PyProof.Rows L2
inductive D where
  | non | bl (b : Bool) | int (i : Int) | str (x : Str)
  | tup (xs : List D) | lst (xs : List D)
  | ob (c : Nat) (fs : List (Nat × D))
  | cel (n : Nat) | cls (c : Nat) | ty (s : String) | scr (xs : List D)
  | dct (kvs : List (D × D)) | dtt (kvs : List (D × D)) | raw (a : Addr) | wtp (xs : List D)
/-- a key of a dict as a thing -/
def keyD : L2.Key → D
  | .inl i => .int i
  | .inr s => .str s
inductive Cell where
  | lst (xs : List D) | ins (c : Nat) (fs : List (Nat × D))
/-- a caught or flying error: its class, its fields -/
structure Exc where
  c : Nat
  fs : List (Nat × D)
abbrev Store := List Cell
/-- what the text fixes: the written part, the classes' addresses, the fields' names, the tables of code objects -/
structure Con where
  K : PySem.W.Frag
  ca : Nat → Addr
  fn : Nat → Str
  mn : Nat → Str
  TT : Hp → Prop
/-- the ghost: what never changes, where the cells lie -/
structure Gh where
  P : Hp
  ad : Nat → Option Addr
structure Gh.le (g g' : Gh) : Prop where
  p : ∀ a o, g.P a = some o → g'.P a = some o
  a : ∀ n a, g.ad n = some a → g'.ad n = some a
theorem Gh.le.refl (g : Gh) : g.le g := ⟨fun _ _ h => h, fun _ _ h => h⟩
theorem Gh.le.trans {g g1 g2 : Gh} (x : g.le g1) (y : g1.le g2) : g.le g2 := ⟨fun a o h => y.p a o (x.p a o h), fun n a h => y.a n a (x.a n a h)⟩
/-- a tuple that stands: tracked, or of the written part -/
def SqU (K : PySem.W.Frag) (P : Hp) (a : Addr) (xs : List V) : Prop :=
  P a = some (.tup xs) ∨
    ∃ (o : Obj) (its : Array Value) (n : Nat), K.lookup a = some o ∧ o.cls = .type "tuple" ∧ o.data = .seq its n ∧ its.size ≤ sizeLine ∧ Vals xs its.toList
theorem SqU.t {K : PySem.W.Frag} {H : Hp} {a : Addr} {xs : List V} (h : SqU K H a xs) : SqT K H a xs := h.imp (fun z => .inl z) id
/-- a tuple of the written part -/
def SqW (K : PySem.W.Frag) (a : Addr) (xs : List V) : Prop := ∃ (o : Obj) (its : Array Value) (n : Nat), K.lookup a = some o ∧ o.cls = .type "tuple" ∧ o.data = .seq its n ∧ its.size ≤ sizeLine ∧ Vals xs its.toList
mutual
def Rep (C : Con) (g : Gh) : D → V → Prop
  | .non, v => v = .non
  | .bl b, v => v = .bl b
  | .int i, v => v = .int i
  | .str x, v => v = .str x
  | .tup ds, v => ∃ a xs, v = .ref a ∧ g.P a = some (.tup xs) ∧ Reps C g ds xs
  | .lst ds, v => ∃ a xs, v = .ref a ∧ g.P a = some (.lst xs) ∧ Reps C g ds xs
  | .scr ds, v => ∃ a xs, v = .ref a ∧ SqL C.K g.P a xs ∧ Reps C g ds xs
  | .ob c fs, v => ∃ a dx fv, v = .ref a ∧ g.P a = some (.ins (C.ca c) dx fv) ∧ RepF C g fs fv
  | .cel n, v => ∃ a, g.ad n = some a ∧ v = .ref a
  | .cls c, v => v = .ref (C.ca c)
  | .ty s, v => v = .ty s
  | .dct kvs, v => ∃ a xs, v = .ref a ∧ g.P a = some (.dK xs) ∧ RepK C g kvs xs
  | .dtt kvs, v => ∃ a xs, v = .ref a ∧ g.P a = some (.dT xs) ∧ RepT C g kvs xs
  | .raw a, v => v = .ref a
  | .wtp ds, v => ∃ a xs, v = .ref a ∧ SqW C.K a xs ∧ Reps C g ds xs
def Reps (C : Con) (g : Gh) : List D → List V → Prop
  | [], vs => vs = []
  | d :: ds, vs => ∃ v r, vs = v :: r ∧ Rep C g d v ∧ Reps C g ds r
def RepF (C : Con) (g : Gh) : List (Nat × D) → List (Str × V) → Prop
  | [], vs => vs = []
  | (i, d) :: ds, vs => ∃ v r, vs = (C.fn i, v) :: r ∧ Rep C g d v ∧ RepF C g ds r
def RepK (C : Con) (g : Gh) : List (D × D) → List (L2.Key × V) → Prop
  | [], vs => vs = []
  | (k, d) :: ds, vs => ∃ key v r, vs = (key, v) :: r ∧ k = keyD key ∧ Rep C g d v ∧ RepK C g ds r
def RepT (C : Con) (g : Gh) : List (D × D) → List (List L2.Key × V) → Prop
  | [], vs => vs = []
  | (k, d) :: ds, vs => ∃ key v r, vs = (key, v) :: r ∧ k = .tup (key.map keyD) ∧ Rep C g d v ∧ RepT C g ds r
end
theorem Same.sqU {K : PySem.W.Frag} {H H' : Hp} {a : Addr} {xs : List V} (e : ∀ a o, H a = some o → H' a = some o) (h : SqU K H a xs) : SqU K H' a xs := h.imp (e _ _) id
theorem Same.sqL {K : PySem.W.Frag} {H H' : Hp} {a : Addr} {xs : List V} (e : ∀ a o, H a = some o → H' a = some o) (h : SqL K H a xs) : SqL K H' a xs := by
  rcases h with (h | ⟨o, h⟩) | h
  · exact .inl (.inl (e _ _ h))
  · exact .inl (.inr ⟨o, e _ _ h⟩)
  · exact .inr h
mutual
theorem Rep.mono {C : Con} {g g' : Gh} (l : g.le g') : ∀ {d : D} {v : V}, Rep C g d v → Rep C g' d v
  | .non, v, h => h
  | .bl _, v, h => h
  | .int _, v, h => h
  | .str _, v, h => h
  | .tup ds, v, h => by
    unfold Rep at h ⊢
    obtain ⟨a, xs, e, s, r⟩ := h
    exact ⟨a, xs, e, l.p _ _ s, Reps.mono l r⟩
  | .lst ds, v, h => by
    unfold Rep at h ⊢
    obtain ⟨a, xs, e, s, r⟩ := h
    exact ⟨a, xs, e, l.p _ _ s, Reps.mono l r⟩
  | .scr ds, v, h => by
    unfold Rep at h ⊢
    obtain ⟨a, xs, e, s, r⟩ := h
    exact ⟨a, xs, e, Same.sqL l.p s, Reps.mono l r⟩
  | .ob c fs, v, h => by
    unfold Rep at h ⊢
    obtain ⟨a, dx, fv, e, s, r⟩ := h
    exact ⟨a, dx, fv, e, l.p _ _ s, RepF.mono l r⟩
  | .cel n, v, h => by
    unfold Rep at h ⊢
    obtain ⟨a, e, s⟩ := h
    exact ⟨a, l.a _ _ e, s⟩
  | .cls _, v, h => h
  | .ty _, v, h => h
  | .dct kvs, v, h => by
    unfold Rep at h ⊢
    obtain ⟨a, xs, e, s, r⟩ := h
    exact ⟨a, xs, e, l.p _ _ s, RepK.mono l r⟩
  | .dtt kvs, v, h => by
    unfold Rep at h ⊢
    obtain ⟨a, xs, e, s, r⟩ := h
    exact ⟨a, xs, e, l.p _ _ s, RepT.mono l r⟩
  | .raw _, v, h => h
  | .wtp ds, v, h => by
    unfold Rep at h ⊢
    obtain ⟨a, xs, e, s, r⟩ := h
    exact ⟨a, xs, e, s, Reps.mono l r⟩
theorem Reps.mono {C : Con} {g g' : Gh} (l : g.le g') : ∀ {ds : List D} {vs : List V}, Reps C g ds vs → Reps C g' ds vs
  | [], vs, h => h
  | d :: ds, vs, h => by
    unfold Reps at h ⊢
    obtain ⟨v, r, e, a, b⟩ := h
    exact ⟨v, r, e, Rep.mono l a, Reps.mono l b⟩
theorem RepF.mono {C : Con} {g g' : Gh} (l : g.le g') : ∀ {ds : List (Nat × D)} {vs : List (Str × V)}, RepF C g ds vs → RepF C g' ds vs
  | [], vs, h => h
  | (i, d) :: ds, vs, h => by
    unfold RepF at h ⊢
    obtain ⟨v, r, e, a, b⟩ := h
    exact ⟨v, r, e, Rep.mono l a, RepF.mono l b⟩
theorem RepK.mono {C : Con} {g g' : Gh} (l : g.le g') : ∀ {ds : List (D × D)} {vs : List (L2.Key × V)}, RepK C g ds vs → RepK C g' ds vs
  | [], vs, h => h
  | (k, d) :: ds, vs, h => by
    unfold RepK at h ⊢
    obtain ⟨key, v, r, e, ek, a, b⟩ := h
    exact ⟨key, v, r, e, ek, Rep.mono l a, RepK.mono l b⟩
theorem RepT.mono {C : Con} {g g' : Gh} (l : g.le g') : ∀ {ds : List (D × D)} {vs : List (List L2.Key × V)}, RepT C g ds vs → RepT C g' ds vs
  | [], vs, h => h
  | (k, d) :: ds, vs, h => by
    unfold RepT at h ⊢
    obtain ⟨key, v, r, e, ek, a, b⟩ := h
    exact ⟨key, v, r, e, ek, Rep.mono l a, RepT.mono l b⟩
end
theorem Reps.nil {C : Con} {g : Gh} : Reps C g [] [] := by unfold Reps; rfl
theorem Reps.cons {C : Con} {g : Gh} {d : D} {ds : List D} {v : V} {vs : List V} (h : Rep C g d v) (r : Reps C g ds vs) : Reps C g (d :: ds) (v :: vs) := by
  unfold Reps; exact ⟨v, vs, rfl, h, r⟩
theorem Reps.length {C : Con} {g : Gh} : ∀ {ds : List D} {vs : List V}, Reps C g ds vs → ds.length = vs.length
  | [], vs, h => by unfold Reps at h; subst h; rfl
  | d :: ds, vs, h => by
    unfold Reps at h
    obtain ⟨v, r, e, a, b⟩ := h
    subst e
    simp [Reps.length b]
theorem Reps.append {C : Con} {g : Gh} : ∀ {ds es : List D} {vs us : List V}, Reps C g ds vs → Reps C g es us → Reps C g (ds ++ es) (vs ++ us)
  | [], es, vs, us, h, k => by unfold Reps at h; subst h; exact k
  | d :: ds, es, vs, us, h, k => by
    unfold Reps at h
    obtain ⟨v, r, e, a, b⟩ := h
    subst e
    exact Reps.cons a (Reps.append b k)
theorem Reps.get {C : Con} {g : Gh} : ∀ {ds : List D} {vs : List V} {i : Nat} {d : D}, Reps C g ds vs → ds[i]? = some d → ∃ v, vs[i]? = some v ∧ Rep C g d v
  | [], _, i, d, h, e => by simp at e
  | x :: ds, vs, 0, d, h, e => by
    unfold Reps at h
    obtain ⟨v, r, e1, a, b⟩ := h
    subst e1
    simp at e; subst e
    exact ⟨v, rfl, a⟩
  | x :: ds, vs, i + 1, d, h, e => by
    unfold Reps at h
    obtain ⟨v, r, e1, a, b⟩ := h
    subst e1
    obtain ⟨u, h1, h2⟩ := Reps.get (i := i) (d := d) b (by simpa using e)
    exact ⟨u, by simpa using h1, h2⟩
theorem Reps.set {C : Con} {g : Gh} {d : D} {v : V} (r : Rep C g d v) : ∀ {ds : List D} {vs : List V} (i : Nat), Reps C g ds vs → Reps C g (ds.set i d) (vs.set i v)
  | [], vs, i, h => by unfold Reps at h; subst h; simp; exact Reps.nil
  | x :: ds, vs, 0, h => by
    unfold Reps at h
    obtain ⟨u, q, e1, a, b⟩ := h
    subst e1
    exact Reps.cons r b
  | x :: ds, vs, i + 1, h => by
    unfold Reps at h
    obtain ⟨u, q, e1, a, b⟩ := h
    subst e1
    exact Reps.cons a (Reps.set r i b)
theorem Reps.take {C : Con} {g : Gh} : ∀ {ds : List D} {vs : List V} (i : Nat), Reps C g ds vs → Reps C g (ds.take i) (vs.take i)
  | _, _, 0, h => by simp; exact Reps.nil
  | [], vs, i + 1, h => by unfold Reps at h; subst h; simp; exact Reps.nil
  | x :: ds, vs, i + 1, h => by
    unfold Reps at h
    obtain ⟨u, q, e1, a, b⟩ := h
    subst e1
    exact Reps.cons a (Reps.take i b)
theorem Reps.drop {C : Con} {g : Gh} : ∀ {ds : List D} {vs : List V} (i : Nat), Reps C g ds vs → Reps C g (ds.drop i) (vs.drop i)
  | _, _, 0, h => h
  | [], vs, i + 1, h => by unfold Reps at h; subst h; simp; exact Reps.nil
  | x :: ds, vs, i + 1, h => by
    unfold Reps at h
    obtain ⟨u, q, e1, a, b⟩ := h
    subst e1
    exact Reps.drop i b
def Keep (g : Gh) (H H' : Hp) : Prop := ∀ a o, H a = some o → (∀ ps, o ≠ .tbl ps) → (∀ n, g.ad n ≠ some a) → H' a = some o
structure Nx (g : Gh) (H : Hp) (g' : Gh) (H' : Hp) : Prop where
  le : g.le g'
  kp : Keep g H H'
  dm : ∀ a, H' a = none → H a = none
  nc : ∀ n a, g'.ad n = some a → g.ad n = some a ∨ H a = none
  np : ∀ a o, g'.P a = some o → g.P a = some o ∨ H a = none
theorem Nx.refl (g : Gh) (H : Hp) : Nx g H g H := ⟨.refl g, fun _ _ h _ _ => h, fun _ h => h, fun _ _ h => .inl h, fun _ _ h => .inl h⟩
theorem Nx.trans {g g1 g2 : Gh} {H H1 H2 : Hp} (x : Nx g H g1 H1) (y : Nx g1 H1 g2 H2) : Nx g H g2 H2 where
  le := x.le.trans y.le
  kp := fun a o h t c => y.kp a o (x.kp a o h t c) t fun n z => (x.nc n a z).elim (c n) fun q => by rw [q] at h; cases h
  dm := fun a h => x.dm a (y.dm a h)
  nc := fun n a h => (y.nc n a h).elim (x.nc n a) fun q => .inr (x.dm a q)
  np := fun a o h => (y.np a o h).elim (x.np a o) fun q => .inr (x.dm a q)
def CellRep (C : Con) (g : Gh) (H : Hp) (a : Addr) : Cell → Prop
  | .lst ds => ∃ xs, H a = some (.lst xs) ∧ Reps C g ds xs
  | .ins c fs => ∃ dx fv, H a = some (.ins (C.ca c) dx fv) ∧ RepF C g fs fv
structure GOk (C : Con) (g : Gh) (H : Hp) (st : Store) : Prop where
  p : ∀ a o, g.P a = some o → H a = some o
  nt : ∀ a ps, g.P a ≠ some (.tbl ps)
  np : ∀ n a, g.ad n = some a → g.P a = none
  inj : ∀ n m a, g.ad n = some a → g.ad m = some a → n = m
  cell : ∀ n c, st[n]? = some c → ∃ a, g.ad n = some a ∧ CellRep C g H a c
  dom : ∀ n a, g.ad n = some a → n < st.length
  tab : C.TT H
inductive Slot where
  | no | val (d : D) | own (ds : List D) | exc (x : Exc)
abbrev Envr := List Slot
structure Bd where
  C : Con
  g0 : Gh
  H0 : Hp
def XRep (C : Con) (g : Gh) (H : Hp) (x : Exc) (cls : Value) (d : Option Addr) : Prop :=
  cls = .ref (C.ca x.c) ∧ ∃ dd fv, d = some dd ∧ H dd = some (.xd fv) ∧ RepF C g x.fs fv
structure EOk (C : Con) (g : Gh) (H0 : Hp) (env : Envr) (σ : L2.St) (H : Hp) : Prop where
  len : env.length = σ.length
  val : ∀ (i : Nat) (d : D), env[i]? = some (Slot.val d) → ∃ v : V, σ[i]? = some (some v) ∧ Rep C g d v
  own : ∀ (i : Nat) (ds : List D), env[i]? = some (Slot.own ds) → ∃ (a : Addr) (xs : List V), σ[i]? = some (some (V.ref a)) ∧ H a = some (.lst xs) ∧ Reps C g ds xs ∧ g.P a = none ∧ (∀ n, g.ad n ≠ some a) ∧ H0 a = none
  dis : ∀ (i j : Nat) (ds es : List D) (a : Addr), i ≠ j → env[i]? = some (Slot.own ds) → env[j]? = some (Slot.own es) → σ[i]? = some (some (V.ref a)) → σ[j]? ≠ some (some (V.ref a))
structure BOk (B : Bd) (g : Gh) (env : Envr) (st : Store) (σ : L2.St) (H : Hp) : Prop where
  ok : GOk B.C g H st
  nx : Nx B.g0 B.H0 g H
  en : EOk B.C g B.H0 env σ H
/-- the tables stay as they are told while all else stays -/
def tabO : HO → Prop
  | .tbl _ => True | .ext _ => True | _ => False
structure ConOk (C : Con) : Prop where
  tt : ∀ H H', C.TT H → (∀ a o, H a = some o → tabO o → H' a = some o) → C.TT H'
section
variable {C : Con} {g g' : Gh} {H H' : Hp} {st st' : Store} {env : Envr} {σ : L2.St} {B : Bd}
/-- a new object that never changes -/
def Gh.add (g : Gh) (p : Addr) (o : HO) : Gh := ⟨upd g.P p o, g.ad⟩
theorem Gh.le_add {p : Addr} {o : HO} (h : g.P p = none) : g.le (g.add p o) := ⟨fun a u e => by
  show upd g.P p o a = some u
  rw [upd_ne (ne_of_none e h)]; exact e, fun _ _ h => h⟩
theorem GOk.free (k : GOk C g H st) {p : Addr} (h : H p = none) : g.P p = none := by
  cases e : g.P p with
  | none => rfl
  | some o => rw [k.p p o e] at h; cases h
theorem CellRep.mono {a : Addr} (l : g.le g') (hk : H' a = H a) : ∀ {c : Cell}, CellRep C g H a c → CellRep C g' H' a c
  | .lst ds, ⟨xs, h, r⟩ => ⟨xs, hk.trans h, Reps.mono l r⟩
  | .ins c fs, ⟨dx, fv, h, r⟩ => ⟨dx, fv, hk.trans h, RepF.mono l r⟩
theorem CellRep.there {a : Addr} {c : Cell} (h : CellRep C g H a c) : H a ≠ none := by
  cases c with
  | lst ds => obtain ⟨xs, h, _⟩ := h; rw [h]; simp
  | ins c fs => obtain ⟨dx, fv, h, _⟩ := h; rw [h]; simp
/-- the heap grows by untracked-by-us objects: everything stays -/
theorem GOk.grow (ck : ConOk C) (k : GOk C g H st) (e : ∀ a o, H a = some o → H' a = some o) : GOk C g H' st where
  p := fun a o h => e _ _ (k.p a o h)
  nt := k.nt
  np := k.np
  inj := k.inj
  cell := fun n c h => by
    obtain ⟨a, h1, h2⟩ := k.cell n c h
    refine ⟨a, h1, ?_⟩
    cases c with
    | lst ds => obtain ⟨xs, h, r⟩ := h2; exact ⟨xs, e _ _ h, r⟩
    | ins c fs => obtain ⟨dx, fv, h, r⟩ := h2; exact ⟨dx, fv, e _ _ h, r⟩
  dom := k.dom
  tab := ck.tt _ _ k.tab fun a o h _ => e a o h
theorem EOk.grow (k : EOk C g B.H0 env σ H) (e : ∀ a o, H a = some o → H' a = some o) : EOk C g B.H0 env σ H' where
  len := k.len
  val := k.val
  own := fun i ds h => by
    obtain ⟨a, xs, h1, h2, h3⟩ := k.own i ds h
    exact ⟨a, xs, h1, e _ _ h2, h3⟩
  dis := k.dis
theorem dm_of (e : ∀ a o, H a = some o → H' a = some o) : ∀ a, H' a = none → H a = none := fun a h => by
  cases q : H a with
  | none => rfl
  | some o => rw [e a o q] at h; cases h
theorem BOk.grow (ck : ConOk B.C) (k : BOk B g env st σ H) (e : ∀ a o, H a = some o → H' a = some o) : BOk B g env st σ H' :=
  ⟨k.ok.grow ck e, k.nx.trans ⟨.refl g, fun a o h _ _ => e a o h, dm_of e, fun _ _ h => .inl h, fun _ _ h => .inl h⟩, k.en.grow e⟩
theorem GOk.le_add (k : GOk C g H st) {p : Addr} {o : HO} (h : H p = none) : g.le (g.add p o) := Gh.le_add (k.free h)
theorem GOk.nx_new (k : GOk C g H st) {p : Addr} {o : HO} (h : H p = none) : Nx g H (g.add p o) (upd H p o) := by
  have e : ∀ a u, H a = some u → upd H p o a = some u := fun a u q => by rw [upd_ne (ne_of_none q h)]; exact q
  refine ⟨k.le_add h, fun a u q _ _ => e a u q, dm_of e, fun _ _ z => .inl z, fun a u q => ?_⟩
  by_cases ha : a = p
  · exact .inr (by rw [ha]; exact h)
  · exact .inl (by
      have q' : upd g.P p o a = some u := q
      rw [upd_ne ha] at q'; exact q')
/-- a new object, laid at p, joins what never changes -/
theorem BOk.new (ck : ConOk B.C) (k : BOk B g env st σ H) {p : Addr} {o : HO} (h : H p = none) (nt : ∀ ps, o ≠ .tbl ps) (hp : ∀ n, g.ad n ≠ some p) : BOk B (g.add p o) env st σ (upd H p o) := by
  have e : ∀ a u, H a = some u → upd H p o a = some u := fun a u q => by rw [upd_ne (ne_of_none q h)]; exact q
  have l : g.le (g.add p o) := k.ok.le_add h
  have k1 := k.grow ck e
  have hP : ∀ a, a ≠ p → (g.add p o).P a = g.P a := fun a ha => upd_ne ha
  refine ⟨⟨fun a u q => ?_, fun a ps q => ?_, fun n a q => ?_, k.ok.inj, fun n c q => ?_, k.ok.dom, k1.ok.tab⟩, k.nx.trans ⟨l, fun a u q _ _ => e a u q, dm_of e, fun _ _ z => .inl z, fun a u q => ?_⟩, ⟨k.en.len, fun i d q => ?_, fun i ds q => ?_, k.en.dis⟩⟩
  · by_cases ha : a = p
    · subst ha
      rw [upd_same]
      have : upd g.P a o a = some u := q
      rw [upd_same] at this; exact this
    · rw [upd_ne ha]
      rw [hP a ha] at q
      exact k.ok.p a u q
  · by_cases ha : a = p
    · subst ha
      have : upd g.P a o a = some (.tbl ps) := q
      rw [upd_same] at this
      exact nt ps (Option.some.inj this)
    · rw [hP a ha] at q; exact k.ok.nt a ps q
  · rw [hP a (fun z => hp n (by rw [← z]; exact q))]
    exact k.ok.np n a q
  · obtain ⟨a, h1, h2⟩ := k.ok.cell n c q
    exact ⟨a, h1, h2.mono l (upd_ne fun z => hp n (by rw [← z]; exact h1))⟩
  · by_cases ha : a = p
    · exact .inr (by rw [ha]; exact h)
    · rw [hP a ha] at q; exact .inl q
  · obtain ⟨v, h1, h2⟩ := k.en.val i d q
    exact ⟨v, h1, h2.mono l⟩
  · obtain ⟨a, xs, h1, h2, h3, h4, h5⟩ := k.en.own i ds q
    have ha : a ≠ p := ne_of_none h2 h
    exact ⟨a, xs, h1, e _ _ h2, h3.mono l, by rw [hP a ha]; exact h4, h5⟩
end
end G
namespace G
open PySem PySem.Spec PyProof.Rows L2
abbrev QE := D → Store → Prop
abbrev XQ := Exc → Store → Prop
abbrev WE := Envr → Store → QE → XQ → Prop
abbrev WA := Envr → Store → (List D → Store → Prop) → XQ → Prop
abbrev WT := Envr → Store → (Bool → Store → Prop) → XQ → Prop
/-- a def's promise -/
abbrev WF := List D → Store → QE → XQ → Prop
structure EW where
  nx : Envr → Store → Prop
  rt : D → Store → Prop
  bk : Envr → Store → Prop
  ct : Envr → Store → Prop
  ex : Exc → Envr → Store → Prop
abbrev WS := Envr → Store → EW → Prop
def QV (B : Bd) (g : Gh) (H : Hp) (env : Envr) (σ : L2.St) (Q : QE) : VK := fun v H' => ∃ d st' g', Nx g H g' H' ∧ BOk B g' env st' σ H' ∧ Rep B.C g' d v ∧ Q d st'
/-- a value that is only read: told, or a list of the frame's own -/
def RepB (B : Bd) (g : Gh) (env : Envr) (σ : L2.St) (d : D) (v : V) : Prop := Rep B.C g d v ∨ ∃ (i : Nat) (ds : List D), env[i]? = some (Slot.own ds) ∧ d = .lst ds ∧ σ[i]? = some (some v)
def RepsB (B : Bd) (g : Gh) (env : Envr) (σ : L2.St) : List D → List V → Prop
  | [], vs => vs = []
  | d :: ds, vs => ∃ v r, vs = v :: r ∧ RepB B g env σ d v ∧ RepsB B g env σ ds r
def QVb (B : Bd) (g : Gh) (H : Hp) (env : Envr) (σ : L2.St) (Q : D → Store → Prop) : VK := fun v H' => ∃ d st' g', Nx g H g' H' ∧ BOk B g' env st' σ H' ∧ RepB B g' env σ d v ∧ Q d st'
def QAb (B : Bd) (g : Gh) (H : Hp) (env : Envr) (σ : L2.St) (Q : List D → Store → Prop) : List V → Hp → Prop := fun vs H' => ∃ ds st' g', Nx g H g' H' ∧ BOk B g' env st' σ H' ∧ RepsB B g' env σ ds vs ∧ Q ds st'
def QB (B : Bd) (g : Gh) (H : Hp) (env : Envr) (σ : L2.St) (Q : Bool → Store → Prop) : Bool → Hp → Prop := fun b H' => ∃ st' g', Nx g H g' H' ∧ BOk B g' env st' σ H' ∧ Q b st'
def QA (B : Bd) (g : Gh) (H : Hp) (env : Envr) (σ : L2.St) (Q : List D → Store → Prop) : List V → Hp → Prop := fun vs H' => ∃ ds st' g', Nx g H g' H' ∧ BOk B g' env st' σ H' ∧ Reps B.C g' ds vs ∧ Q ds st'
def QN (B : Bd) (g : Gh) (Q : Envr → Store → Prop) : L2.St → Hp → Prop := fun σ' H' => ∃ env' st' g', g.le g' ∧ BOk B g' env' st' σ' H' ∧ Q env' st'
def QR (B : Bd) (g : Gh) (Q : QE) : VK := fun v H' => ∃ d st' g', g.le g' ∧ GOk B.C g' H' st' ∧ Nx B.g0 B.H0 g' H' ∧ Rep B.C g' d v ∧ Q d st'
def EndsOf (B : Bd) (g : Gh) (D : EW) : Ends := { nx := QN B g D.nx, rt := QR B g D.rt, bk := QN B g D.bk, ct := QN B g D.ct }
/-- how an error that leaves is told to the layer below -/
def RW (B : Bd) (W : WX) (env : Envr) (σ : L2.St) (R : XQ) : Prop := ∀ x g st H cls d, BOk B g env st σ H → XRep B.C g H x cls d → R x st → W cls d σ H
def RWs (B : Bd) (W : WX) (R : Exc → Envr → Store → Prop) : Prop := ∀ x g env st σ H cls d, BOk B g env st σ H → XRep B.C g H x cls d → R x env st → W cls d σ H
theorem RWs.at {B : Bd} {W : WX} {R : Exc → Envr → Store → Prop} (r : RWs B W R) (env : Envr) (σ : L2.St) : RW B W env σ (fun x st => R x env st) := fun x g st H cls d b x' q => r x g env st σ H cls d b x' q
structure J (B : Bd) (X : Cx) (W : WX) : Prop where
  ck : ConOk B.C
  hK : X.K = B.C.K
  tk : Takes X W
  po : PassesOwn (model X.prog X.w) X.A X.env X.xe
  calm : X.calm = true
  nd : X.N.Nodup
  hd : X.A.handled = none
  hu : X.A.units + 64 < cLine
  hu2 : X.A.units + 150 < cLine
structure PEg (B : Bd) (X : Cx) (W : WX) (e : Expr) (w : WE) : Prop where
  run : ∀ (pins : List (Addr × Obj)) (s : Shared) (σ : L2.St) (H : Hp) (g : Gh) (env : Envr) (st : Store) (Q : QE) (R : XQ), Inv X pins σ H s → BOk B g env st σ H → RW B W env σ R → w env st Q R →
    wpAny (model X.prog X.w) X.A (eval e X.env) (EP X pins σ (QV B g H env σ Q)) X.xe s
structure PBg (B : Bd) (X : Cx) (W : WX) (e : Expr) (w : WE) : Prop where
  run : ∀ (pins : List (Addr × Obj)) (s : Shared) (σ : L2.St) (H : Hp) (g : Gh) (env : Envr) (st : Store) (Q : QE) (R : XQ), Inv X pins σ H s → BOk B g env st σ H → RW B W env σ R → w env st Q R →
    wpAny (model X.prog X.w) X.A (eval e X.env) (EP X pins σ (QVb B g H env σ Q)) X.xe s
structure PAb (B : Bd) (X : Cx) (W : WX) (es : List Expr) (w : WA) : Prop where
  run : ∀ (pos : Pos) (pins : List (Addr × Obj)) (s : Shared) (σ : L2.St) (H : Hp) (g : Gh) (env : Envr) (st : Store) (Q : List D → Store → Prop) (R : XQ), Inv X pins σ H s → BOk B g env st σ H → RW B W env σ R → w env st Q R →
    wpAny (model X.prog X.w) X.A (spliced (backTo pos (starEach es X.env))) (AP X pins σ (QAb B g H env σ Q)) X.xe s
structure PTg (B : Bd) (X : Cx) (W : WX) (e : Expr) (w : WT) : Prop where
  run : ∀ (pins : List (Addr × Obj)) (s : Shared) (σ : L2.St) (H : Hp) (g : Gh) (env : Envr) (st : Store) (Q : Bool → Store → Prop) (R : XQ), Inv X pins σ H s → BOk B g env st σ H → RW B W env σ R → w env st Q R →
    wpAny (model X.prog X.w) X.A (isTrue e X.env (eval e X.env)) (TP X pins σ (QB B g H env σ Q)) X.xe s
structure PAg (B : Bd) (X : Cx) (W : WX) (es : List Expr) (w : WA) : Prop where
  run : ∀ (pos : Pos) (pins : List (Addr × Obj)) (s : Shared) (σ : L2.St) (H : Hp) (g : Gh) (env : Envr) (st : Store) (Q : List D → Store → Prop) (R : XQ), Inv X pins σ H s → BOk B g env st σ H → RW B W env σ R → w env st Q R →
    wpAny (model X.prog X.w) X.A (spliced (backTo pos (starEach es X.env))) (AP X pins σ (QA B g H env σ Q)) X.xe s
structure PSg (B : Bd) (X : Cx) (W : WX) (st : Stmt) (w : WS) : Prop where
  run : ∀ (pins : List (Addr × Obj)) (s : Shared) (σ : L2.St) (H : Hp) (g : Gh) (env : Envr) (sto : Store) (D : EW), Inv X pins σ H s → BOk B g env sto σ H → RWs B W D.ex → w env sto D →
    wpAny (model X.prog X.w) X.A (exec st X.env) (SP X pins (EndsOf B g D)) X.xe s
structure PSsg (B : Bd) (X : Cx) (W : WX) (st : List Stmt) (w : WS) : Prop where
  run : ∀ (pins : List (Addr × Obj)) (s : Shared) (σ : L2.St) (H : Hp) (g : Gh) (env : Envr) (sto : Store) (D : EW), Inv X pins σ H s → BOk B g env sto σ H → RWs B W D.ex → w env sto D →
    wpAny (model X.prog X.w) X.A (execs st X.env) (SP X pins (EndsOf B g D)) X.xe s
section
variable {B : Bd} {X : Cx} {W : WX} {e : Expr} {w : WE}
def tg (B : Bd) (W : WX) (w : WE) : TE := fun σ H Q => ∃ g env st Qg R, BOk B g env st σ H ∧ RW B W env σ R ∧ w env st Qg R ∧ ∀ v H', QV B g H env σ Qg v H' → Q v H'
def tgb (B : Bd) (W : WX) (w : WE) : TE := fun σ H Q => ∃ g env st Qg R, BOk B g env st σ H ∧ RW B W env σ R ∧ w env st Qg R ∧ ∀ v H', QVb B g H env σ Qg v H' → Q v H'
def tgab (B : Bd) (W : WX) (w : WA) : TA := fun σ H Q => ∃ g env st Qg R, BOk B g env st σ H ∧ RW B W env σ R ∧ w env st Qg R ∧ ∀ v H', QAb B g H env σ Qg v H' → Q v H'
def tgt (B : Bd) (W : WX) (w : WT) : TT := fun σ H Q => ∃ g env st Qg R, BOk B g env st σ H ∧ RW B W env σ R ∧ w env st Qg R ∧ ∀ b H', QB B g H env σ Qg b H' → Q b H'
def tga (B : Bd) (W : WX) (w : WA) : TA := fun σ H Q => ∃ g env st Qg R, BOk B g env st σ H ∧ RW B W env σ R ∧ w env st Qg R ∧ ∀ v H', QA B g H env σ Qg v H' → Q v H'
def tgs (B : Bd) (W : WX) (w : WS) : TS := fun D σ H => ∃ g env st Dw, BOk B g env st σ H ∧ RWs B W Dw.ex ∧ w env st Dw ∧ (∀ σ' H', QN B g Dw.nx σ' H' → D.nx σ' H') ∧ (∀ v H', QR B g Dw.rt v H' → D.rt v H') ∧ (∀ σ' H', QN B g Dw.bk σ' H' → D.bk σ' H') ∧ (∀ σ' H', QN B g Dw.ct σ' H' → D.ct σ' H')
theorem EP.imp {pins : List (Addr × Obj)} {σ : L2.St} {Q Q' : VK} {u : Value} {s : Shared} (h : EP X pins σ Q u s) (q : ∀ v H', Q v H' → Q' v H') : EP X pins σ Q' u s := by
  obtain ⟨v, H', I, r, z⟩ := h
  exact ⟨v, H', I, r, q v H' z⟩
theorem TP.imp {pins : List (Addr × Obj)} {σ : L2.St} {Q Q' : Bool → Hp → Prop} {b : Bool} {s : Shared} (h : TP X pins σ Q b s) (q : ∀ v H', Q v H' → Q' v H') : TP X pins σ Q' b s := by
  obtain ⟨H', I, z⟩ := h
  exact ⟨H', I, q b H' z⟩
theorem SP.imp {pins : List (Addr × Obj)} {D D' : Ends} {f : Flow} {s : Shared} (h : SP X pins D f s) (h1 : ∀ σ' H', D.nx σ' H' → D'.nx σ' H') (h2 : ∀ v H', D.rt v H' → D'.rt v H') (h3 : ∀ σ' H', D.bk σ' H' → D'.bk σ' H') (h4 : ∀ σ' H', D.ct σ' H' → D'.ct σ' H') : SP X pins D' f s := by
  cases f with
  | next => obtain ⟨σ', H', I, q⟩ := h; exact ⟨σ', H', I, h1 _ _ q⟩
  | brk => obtain ⟨σ', H', I, q⟩ := h; exact ⟨σ', H', I, h3 _ _ q⟩
  | cont => obtain ⟨σ', H', I, q⟩ := h; exact ⟨σ', H', I, h4 _ _ q⟩
  | ret u => obtain ⟨v, σ', H', I, r, q⟩ := h; exact ⟨v, σ', H', I, r, h2 _ _ q⟩
theorem PEg.pe (h : PEg B X W e w) : PE X e (tg B W w) := ⟨fun pins s σ H Q I ⟨g, env, st, Qg, R, b, r, hw, k⟩ =>
  thn (h.run pins s σ H g env st Qg R I b r hw) fun _ _ z => EP.imp z k⟩
theorem PBg.pe (h : PBg B X W e w) : PE X e (tgb B W w) := ⟨fun pins s σ H Q I ⟨g, env, st, Qg, R, b, r, hw, k⟩ =>
  thn (h.run pins s σ H g env st Qg R I b r hw) fun _ _ z => EP.imp z k⟩
theorem PEg.b (h : PEg B X W e w) : PBg B X W e w := ⟨fun pins s σ H g env st Q R I b r hw =>
  thn (h.run pins s σ H g env st Q R I b r hw) fun _ _ z => EP.imp z fun v H' ⟨d, st', g', l, b', r', q⟩ => ⟨d, st', g', l, b', .inl r', q⟩⟩
theorem PAb.pa {w : WA} {es : List Expr} (h : PAb B X W es w) : PA X es (tgab B W w) := ⟨fun pos pins s σ H Q I ⟨g, env, st, Qg, R, b, r, hw, k⟩ =>
  thn (h.run pos pins s σ H g env st Qg R I b r hw) fun _ _ ⟨vs, H', I', r', z⟩ => ⟨vs, H', I', r', k _ _ z⟩⟩
theorem PBg.of {t : TE} (h : PE X e t) (k : ∀ (σ : L2.St) (H : Hp) (g : Gh) (env : Envr) (st : Store) (Q : QE) (R : XQ), BOk B g env st σ H → RW B W env σ R → w env st Q R → t σ H (QVb B g H env σ Q)) : PBg B X W e w :=
  ⟨fun pins s σ H g env st Q R I b r hw => h.run pins s σ H _ I (k σ H g env st Q R b r hw)⟩
theorem RepB.mono {g g' : Gh} {env : Envr} {σ : L2.St} {d : D} {v : V} (l : g.le g') (h : RepB B g env σ d v) : RepB B g' env σ d v := h.imp (fun r => r.mono l) id
theorem RepsB.mono {g g' : Gh} {env : Envr} {σ : L2.St} (l : g.le g') : ∀ {ds : List D} {vs : List V}, RepsB B g env σ ds vs → RepsB B g' env σ ds vs
  | [], _, h => h
  | _ :: _, _, ⟨v, r, e, a, b⟩ => ⟨v, r, e, a.mono l, RepsB.mono l b⟩
theorem PTg.pt {w : WT} (h : PTg B X W e w) : PT X e (tgt B W w) := ⟨fun pins s σ H Q I ⟨g, env, st, Qg, R, b, r, hw, k⟩ =>
  thn (h.run pins s σ H g env st Qg R I b r hw) fun _ _ z => TP.imp z k⟩
theorem PAg.pa {w : WA} {es : List Expr} (h : PAg B X W es w) : PA X es (tga B W w) := ⟨fun pos pins s σ H Q I ⟨g, env, st, Qg, R, b, r, hw, k⟩ =>
  thn (h.run pos pins s σ H g env st Qg R I b r hw) fun _ _ ⟨vs, H', I', r', z⟩ => ⟨vs, H', I', r', k _ _ z⟩⟩
theorem PSg.ps {w : WS} {st : Stmt} (h : PSg B X W st w) : PS X st (tgs B W w) := ⟨fun pins s σ H Q I ⟨g, env, st, Dw, b, r, hw, k1, k2, k3, k4⟩ =>
  thn (h.run pins s σ H g env st Dw I b r hw) fun _ _ z => SP.imp z k1 k2 k3 k4⟩
theorem PSsg.ps {w : WS} {st : List Stmt} (h : PSsg B X W st w) : PSs X st (tgs B W w) := ⟨fun pins s σ H Q I ⟨g, env, st, Dw, b, r, hw, k1, k2, k3, k4⟩ =>
  thn (h.run pins s σ H g env st Dw I b r hw) fun _ _ z => SP.imp z k1 k2 k3 k4⟩
theorem PEg.of {t : TE} (h : PE X e t) (k : ∀ (σ : L2.St) (H : Hp) (g : Gh) (env : Envr) (st : Store) (Q : QE) (R : XQ), BOk B g env st σ H → RW B W env σ R → w env st Q R → t σ H (QV B g H env σ Q)) : PEg B X W e w :=
  ⟨fun pins s σ H g env st Q R I b r hw => h.run pins s σ H _ I (k σ H g env st Q R b r hw)⟩
theorem PTg.of {w : WT} {t : TT} (h : PT X e t) (k : ∀ (σ : L2.St) (H : Hp) (g : Gh) (env : Envr) (st : Store) (Q : Bool → Store → Prop) (R : XQ), BOk B g env st σ H → RW B W env σ R → w env st Q R → t σ H (QB B g H env σ Q)) : PTg B X W e w :=
  ⟨fun pins s σ H g env st Q R I b r hw => h.run pins s σ H _ I (k σ H g env st Q R b r hw)⟩
theorem PSg.of {w : WS} {st : Stmt} {t : TS} (h : PS X st t) (k : ∀ (σ : L2.St) (H : Hp) (g : Gh) (env : Envr) (st : Store) (D : EW), BOk B g env st σ H → RWs B W D.ex → w env st D → t (EndsOf B g D) σ H) : PSg B X W st w :=
  ⟨fun pins s σ H g env st D I b r hw => h.run pins s σ H _ I (k σ H g env st D b r hw)⟩
theorem QV.le {g g1 : Gh} {H0 H1 : Hp} {env : Envr} {σ : L2.St} {Q : QE} {v : V} {H : Hp} (l : Nx g H0 g1 H1) (h : QV B g1 H1 env σ Q v H) : QV B g H0 env σ Q v H := by
  obtain ⟨d, st, g', a, b⟩ := h
  exact ⟨d, st, g', l.trans a, b⟩
theorem QB.le {g g1 : Gh} {H0 H1 : Hp} {env : Envr} {σ : L2.St} {Q : Bool → Store → Prop} {v : Bool} {H : Hp} (l : Nx g H0 g1 H1) (h : QB B g1 H1 env σ Q v H) : QB B g H0 env σ Q v H := by
  obtain ⟨st, g', a, b⟩ := h
  exact ⟨st, g', l.trans a, b⟩
theorem QA.le {g g1 : Gh} {H0 H1 : Hp} {env : Envr} {σ : L2.St} {Q : List D → Store → Prop} {v : List V} {H : Hp} (l : Nx g H0 g1 H1) (h : QA B g1 H1 env σ Q v H) : QA B g H0 env σ Q v H := by
  obtain ⟨d, st, g', a, b⟩ := h
  exact ⟨d, st, g', l.trans a, b⟩
theorem QN.le {g g1 : Gh} {Q : Envr → Store → Prop} {σ : L2.St} {H : Hp} (l : g.le g1) (h : QN B g1 Q σ H) : QN B g Q σ H := by
  obtain ⟨d, st, g', a, b⟩ := h
  exact ⟨d, st, g', l.trans a, b⟩
theorem QR.le {g g1 : Gh} {Q : QE} {v : V} {H : Hp} (l : g.le g1) (h : QR B g1 Q v H) : QR B g Q v H := by
  obtain ⟨d, st, g', a, b⟩ := h
  exact ⟨d, st, g', l.trans a, b⟩
end
section
variable {B : Bd} {X : Cx} {W : WX} {a b c e : Expr} {es : List Expr} {wa wb wc : WE} {ta : WA} {pos : Pos}
/-- a two-place operation on values -/
abbrev O2 := D → D → Store → QE → XQ → Prop
abbrev O1 := D → Store → QE → XQ → Prop
abbrev ON := List D → Store → QE → XQ → Prop
def wBin (o : O2) (wa wb : WE) : WE := fun env st Q R => wa env st (fun d1 st1 => wb env st1 (fun d2 st2 => o d1 d2 st2 Q R) R) R
def wUn (o : O1) (wa : WE) : WE := fun env st Q R => wa env st (fun d st1 => o d st1 Q R) R
def wArgs (o : ON) (ta : WA) : WE := fun env st Q R => ta env st (fun ds st1 => o ds st1 Q R) R
def OpV (B : Bd) (W : WX) (r : R2) (o : O2) : Prop := ∀ (gb g : Gh) (Hb : Hp) (env : Envr) (st : Store) (σ : L2.St) (H : Hp) (d1 d2 : D) (x y : V) (Q : QE) (R : XQ), Nx gb Hb g H → BOk B g env st σ H → RW B W env σ R → RepB B g env σ d1 x → RepB B g env σ d2 y → o d1 d2 st Q R → r x y H (QV B gb Hb env σ Q)
def NV (B : Bd) (W : WX) (r : List V → Hp → VK → Prop) (o : ON) : Prop := ∀ (gb g : Gh) (Hb : Hp) (env : Envr) (st : Store) (σ : L2.St) (H : Hp) (ds : List D) (xs : List V) (Q : QE) (R : XQ), Nx gb Hb g H → BOk B g env st σ H → RW B W env σ R → RepsB B g env σ ds xs → o ds st Q R → r xs H (QV B gb Hb env σ Q)
theorem g_two {r : R2} {o : O2} (h : ∀ ta tb, PE X a ta → PE X b tb → PE X e (tOp r ta tb)) (ov : OpV B W r o) (ha : PBg B X W a wa) (hb : PBg B X W b wb) : PEg B X W e (wBin o wa wb) := by
  refine PEg.of (h _ _ ha.pe hb.pe) fun σ H g env st Q R bo rw hw => ?_
  refine ⟨g, env, st, _, R, bo, rw, hw, fun x H1 ⟨d1, st1, g1, l1, b1, r1, h1⟩ => ?_⟩
  refine ⟨g1, env, st1, _, R, b1, rw, h1, fun y H2 ⟨d2, st2, g2, l2, b2, r2, h2⟩ => ?_⟩
  exact ov g g2 H env st2 σ H2 d1 d2 x y Q R (l1.trans l2) b2 rw (r1.mono l2.le) r2 h2
theorem g_many {r : List V → Hp → VK → Prop} {o : ON} (h : ∀ t, PA X es t → PE X e (tCB r t)) (ov : NV B W r o) (ha : PAb B X W es ta) : PEg B X W e (wArgs o ta) := by
  refine PEg.of (h _ ha.pa) fun σ H g env st Q R bo rw hw => ?_
  refine ⟨g, env, st, _, R, bo, rw, hw, fun x H1 ⟨d1, st1, g1, l1, b1, r1, h1⟩ => ?_⟩
  exact ov g g1 H env st1 σ H1 d1 x Q R l1 b1 rw r1 h1
def wVar (i : Nat) : WE := fun env st Q _ => match env[i]? with
  | some (Slot.val d) => Q d st
  | _ => False
def wC (d : D) : WE := fun _ st Q _ => Q d st
theorem g_var (i : Nat) {x : Str} (hN : X.N[i]? = some x := by rfl) (hv : Vis X.env.scope x := by first | exact Or.inl rfl | exact Or.inr (Or.inl rfl) | exact Or.inr (Or.inr rfl)) (hd : (x == ("__debug__" : Str)) = false := by decide)
    (hcd : (x == ("__classdict__" : Str)) = false := by decide) : PEg B X W (.Name x pos) (wVar i) := by
  refine PEg.of (pe_var hN hv hd hcd) fun σ H g env st Q R bo rw hw => ?_
  unfold wVar at hw
  split at hw
  · rename_i d e
    obtain ⟨v, h1, h2⟩ := bo.en.val i d e
    exact ⟨v, h1, d, st, g, .refl g _, bo, h2, hw⟩
  · exact hw.elim
/-- a name that is only read -/
def wVarB (i : Nat) : WE := fun env st Q _ => match env[i]? with
  | some (Slot.val d) => Q d st
  | some (Slot.own ds) => Q (.lst ds) st
  | _ => False
theorem gb_var (i : Nat) {x : Str} (hN : X.N[i]? = some x := by rfl) (hv : Vis X.env.scope x := by first | exact Or.inl rfl | exact Or.inr (Or.inl rfl) | exact Or.inr (Or.inr rfl)) (hd : (x == ("__debug__" : Str)) = false := by decide)
    (hcd : (x == ("__classdict__" : Str)) = false := by decide) : PBg B X W (.Name x pos) (wVarB i) := by
  refine PBg.of (pe_var hN hv hd hcd) fun σ H g env st Q R bo rw hw => ?_
  unfold wVarB at hw
  split at hw
  · rename_i d e
    obtain ⟨v, h1, h2⟩ := bo.en.val i d e
    exact ⟨v, h1, d, st, g, .refl g _, bo, .inl h2, hw⟩
  · rename_i ds e
    obtain ⟨a, xs, h1, h2⟩ := bo.en.own i ds e
    exact ⟨_, h1, .lst ds, st, g, .refl g _, bo, .inr ⟨i, ds, e, rfl, h1⟩, hw⟩
  · exact hw.elim
theorem g_const {t : TE} {d : D} {v : V} (h : PE X e (tC v)) (r : ∀ g, Rep B.C g d v) : PEg B X W e (wC d) :=
  PEg.of h fun σ H g env st Q R bo rw hw => ⟨d, st, g, .refl g _, bo, r g, hw⟩
theorem g_int {i j} : PEg B X W (.Constant (.int i) j pos) (wC (.int i)) := g_const (t := tC (.int i)) pe_int fun _ => rfl
theorem g_bl {b j} : PEg B X W (.Constant (.bool b) j pos) (wC (.bl b)) := g_const (t := tC (.bl b)) pe_bl fun _ => rfl
theorem g_non {j} : PEg B X W (.Constant .none j pos) (wC .non) := g_const (t := tC .non) pe_non fun _ => rfl
theorem g_str {x j} : PEg B X W (.Constant (.str x) j pos) (wC (.str x)) := g_const (t := tC (.str x)) pe_str fun _ => rfl
def waNil : WA := fun _ st Q _ => Q [] st
def waCons (wa : WE) (ta : WA) : WA := fun env st Q R => wa env st (fun d st1 => ta env st1 (fun ds st2 => Q (d :: ds) st2) R) R
theorem ga_nil : PAg B X W [] waNil := ⟨fun pos pins s σ H g env st Q R I bo rw hw => (pa_nil (X := X)).run pos pins s σ H _ I ⟨[], st, g, .refl g _, bo, Reps.nil, hw⟩⟩
theorem ga_cons (ha : PEg B X W e wa) (hr : PAg B X W es ta) (hs : starEach (e :: es) X.env = (false, eval e X.env) :: starEach es X.env := by rfl) : PAg B X W (e :: es) (waCons wa ta) := by
  refine ⟨fun pos pins s σ H g env st Q R I bo rw hw => (pa_cons ha.pe hr.pa hs).run pos pins s σ H _ I ?_⟩
  refine ⟨g, env, st, _, R, bo, rw, hw, fun x H1 ⟨d1, st1, g1, l1, b1, r1, h1⟩ => ?_⟩
  refine ⟨g1, env, st1, _, R, b1, rw, h1, fun xs H2 ⟨ds, st2, g2, l2, b2, r2, h2⟩ => ?_⟩
  exact ⟨d1 :: ds, st2, g2, l1.trans l2, b2, Reps.cons (r1.mono l2.le) r2, h2⟩
theorem gab_nil : PAb B X W [] waNil := ⟨fun pos pins s σ H g env st Q R I bo rw hw => (pa_nil (X := X)).run pos pins s σ H _ I ⟨[], st, g, .refl g _, bo, rfl, hw⟩⟩
theorem gab_cons (ha : PBg B X W e wa) (hr : PAb B X W es ta) (hs : starEach (e :: es) X.env = (false, eval e X.env) :: starEach es X.env := by rfl) : PAb B X W (e :: es) (waCons wa ta) := by
  refine ⟨fun pos pins s σ H g env st Q R I bo rw hw => (pa_cons ha.pe hr.pa hs).run pos pins s σ H _ I ?_⟩
  refine ⟨g, env, st, _, R, bo, rw, hw, fun x H1 ⟨d1, st1, g1, l1, b1, r1, h1⟩ => ?_⟩
  refine ⟨g1, env, st1, _, R, b1, rw, h1, fun xs H2 ⟨ds, st2, g2, l2, b2, r2, h2⟩ => ?_⟩
  exact ⟨d1 :: ds, st2, g2, l1.trans l2, b2, ⟨x, xs, rfl, r1.mono l2.le, r2⟩, h2⟩
theorem BOk.cellNe {g : Gh} {env : Envr} {st : Store} {σ : L2.St} {H : Hp} (k : BOk B g env st σ H) {p : Addr} (h : H p = none) : ∀ n, g.ad n ≠ some p := fun n e => by
  have hn := k.ok.dom n p e
  obtain ⟨c, hc⟩ : ∃ c, st[n]? = some c := ⟨st[n], by simp [hn]⟩
  obtain ⟨a, h1, h2⟩ := k.ok.cell n c hc
  rw [e] at h1; cases h1
  exact h2.there h
theorem sqT_new {g : Gh} {p : Addr} {xs : List V} : (g.add p (.tup xs)).P p = some (.tup xs) := upd_same
/-- a new tuple of what is told, as a result -/
theorem QV.tup (ck : ConOk B.C) {g gb : Gh} {Hb : Hp} {env : Envr} {st : Store} {σ : L2.St} {H : Hp} {Q : QE} {ds : List D} {xs : List V} (l : Nx gb Hb g H) (bo : BOk B g env st σ H) (r : Reps B.C g ds xs) (q : Q (.tup ds) st) {p : Addr} (hp : H p = none) :
    QV B gb Hb env σ Q (.ref p) (upd H p (.tup xs)) := by
  have l2 := bo.ok.le_add (o := .tup xs) hp
  refine ⟨.tup ds, st, g.add p (.tup xs), l.trans (bo.ok.nx_new hp), bo.new ck hp (fun ps z => by cases z) (bo.cellNe hp), ?_, q⟩
  unfold Rep
  exact ⟨p, xs, rfl, sqT_new, r.mono l2⟩
theorem QV.lst (ck : ConOk B.C) {g gb : Gh} {Hb : Hp} {env : Envr} {st : Store} {σ : L2.St} {H : Hp} {Q : QE} {ds : List D} {xs : List V} (l : Nx gb Hb g H) (bo : BOk B g env st σ H) (r : Reps B.C g ds xs) (q : Q (.lst ds) st) {p : Addr} (hp : H p = none) :
    QV B gb Hb env σ Q (.ref p) (upd H p (.lst xs)) := by
  have l2 := bo.ok.le_add (o := .lst xs) hp
  refine ⟨.lst ds, st, g.add p (.lst xs), l.trans (bo.ok.nx_new hp), bo.new ck hp (fun ps z => by cases z) (bo.cellNe hp), ?_, q⟩
  unfold Rep
  exact ⟨p, xs, rfl, upd_same, r.mono l2⟩
theorem QV.same {g gb : Gh} {Hb : Hp} {env : Envr} {st : Store} {σ : L2.St} {H : Hp} {Q : QE} {d : D} {v : V} (l : Nx gb Hb g H) (bo : BOk B g env st σ H) (r : Rep B.C g d v) (q : Q d st) : QV B gb Hb env σ Q v H := ⟨d, st, g, l, bo, r, q⟩
def wTup (ta : WA) : WE := fun env st Q R => ta env st (fun ds st1 => ds.length ≤ sizeLine ∧ Q (.tup ds) st1) R
def wLst (ta : WA) : WE := fun env st Q R => ta env st (fun ds st1 => ds.length ≤ sizeLine ∧ Q (.lst ds) st1) R
theorem g_tup (j : J B X W) {k} (h : PAg B X W es ta) : PEg B X W (.Tuple es k pos) (wTup ta) := by
  refine PEg.of (pe_tup h.pa) fun σ H g env st Q R bo rw hw => ?_
  refine ⟨g, env, st, _, R, bo, rw, hw, fun xs H1 ⟨ds, st1, g1, l1, b1, r1, hz, h1⟩ => ⟨r1.length ▸ hz, fun p hp => ?_⟩⟩
  exact QV.tup j.ck l1 b1 r1 h1 hp
theorem g_lst (j : J B X W) (h : PAg B X W es ta) : PEg B X W (.List es pos) (wLst ta) := by
  refine PEg.of (pe_lst h.pa) fun σ H g env st Q R bo rw hw => ?_
  refine ⟨g, env, st, _, R, bo, rw, hw, fun xs H1 ⟨ds, st1, g1, l1, b1, r1, hz, h1⟩ => ⟨r1.length ▸ hz, fun p hp => ?_⟩⟩
  exact QV.lst j.ck l1 b1 r1 h1 hp
theorem Rep.tupT {C : Con} {g : Gh} {ds : List D} {v : V} (h : Rep C g (.tup ds) v) : ∃ a xs, v = .ref a ∧ g.P a = some (.tup xs) ∧ Reps C g ds xs := by unfold Rep at h; exact h
theorem Rep.tupV {C : Con} {g : Gh} {ds : List D} {v : V} (h : Rep C g (.tup ds) v) : ∃ a xs, v = .ref a ∧ SqU C.K g.P a xs ∧ Reps C g ds xs := by
  obtain ⟨a, xs, e, s, r⟩ := h.tupT
  exact ⟨a, xs, e, .inl s, r⟩
theorem Rep.scrV {C : Con} {g : Gh} {ds : List D} {v : V} (h : Rep C g (.scr ds) v) : ∃ a xs, v = .ref a ∧ SqL C.K g.P a xs ∧ Reps C g ds xs := by unfold Rep at h; exact h
theorem Rep.lstV {C : Con} {g : Gh} {ds : List D} {v : V} (h : Rep C g (.lst ds) v) : ∃ a xs, v = .ref a ∧ g.P a = some (.lst xs) ∧ Reps C g ds xs := by unfold Rep at h; exact h
theorem Rep.obV {C : Con} {g : Gh} {c : Nat} {fs : List (Nat × D)} {v : V} (h : Rep C g (.ob c fs) v) : ∃ a dx fv, v = .ref a ∧ g.P a = some (.ins (C.ca c) dx fv) ∧ RepF C g fs fv := by unfold Rep at h; exact h
theorem Rep.celV {C : Con} {g : Gh} {n : Nat} {v : V} (h : Rep C g (.cel n) v) : ∃ a, g.ad n = some a ∧ v = .ref a := by unfold Rep at h; exact h
theorem Rep.intV {C : Con} {g : Gh} {i : Int} {v : V} (h : Rep C g (.int i) v) : v = .int i := by unfold Rep at h; exact h
theorem Rep.blV {C : Con} {g : Gh} {i : Bool} {v : V} (h : Rep C g (.bl i) v) : v = .bl i := by unfold Rep at h; exact h
theorem Rep.strV {C : Con} {g : Gh} {i : Str} {v : V} (h : Rep C g (.str i) v) : v = .str i := by unfold Rep at h; exact h
theorem Rep.nonV {C : Con} {g : Gh} {v : V} (h : Rep C g .non v) : v = .non := by unfold Rep at h; exact h
theorem rep_int {C : Con} {g : Gh} {i : Int} : Rep C g (.int i) (.int i) := by unfold Rep; rfl
theorem rep_bl {C : Con} {g : Gh} {i : Bool} : Rep C g (.bl i) (.bl i) := by unfold Rep; rfl
theorem rep_str {C : Con} {g : Gh} {i : Str} : Rep C g (.str i) (.str i) := by unfold Rep; rfl
theorem rep_non {C : Con} {g : Gh} : Rep C g .non .non := by unfold Rep; rfl
theorem RepB.full {g : Gh} {env : Envr} {σ : L2.St} {d : D} {v : V} (h : RepB B g env σ d v) (hd : ∀ ds, d ≠ .lst ds) : Rep B.C g d v := by
  rcases h with h | ⟨i, ds, _, e, _⟩
  · exact h
  · exact absurd e (hd ds)
theorem RepB.intV {g : Gh} {env : Envr} {σ : L2.St} {i : Int} {v : V} (h : RepB B g env σ (.int i) v) : v = .int i := (h.full fun ds z => by cases z).intV
theorem RepB.blV {g : Gh} {env : Envr} {σ : L2.St} {i : Bool} {v : V} (h : RepB B g env σ (.bl i) v) : v = .bl i := (h.full fun ds z => by cases z).blV
theorem RepB.strV {g : Gh} {env : Envr} {σ : L2.St} {i : Str} {v : V} (h : RepB B g env σ (.str i) v) : v = .str i := (h.full fun ds z => by cases z).strV
theorem RepB.nonV {g : Gh} {env : Envr} {σ : L2.St} {v : V} (h : RepB B g env σ .non v) : v = .non := (h.full fun ds z => by cases z).nonV
theorem RepB.tupV {g : Gh} {env : Envr} {st : Store} {σ : L2.St} {H : Hp} (bo : BOk B g env st σ H) {ds : List D} {v : V} (h : RepB B g env σ (.tup ds) v) : ∃ a xs, v = .ref a ∧ SqU B.C.K H a xs ∧ Reps B.C g ds xs := by
  obtain ⟨a, xs, e, s, r⟩ := (h.full fun ds z => by cases z).tupV
  exact ⟨a, xs, e, Same.sqU bo.ok.p s, r⟩
theorem RepB.lstV {g : Gh} {env : Envr} {st : Store} {σ : L2.St} {H : Hp} (bo : BOk B g env st σ H) {ds : List D} {v : V} (h : RepB B g env σ (.lst ds) v) : ∃ a xs, v = .ref a ∧ H a = some (.lst xs) ∧ Reps B.C g ds xs := by
  rcases h with h | ⟨i, es, e1, e2, e3⟩
  · obtain ⟨a, xs, e, s, r⟩ := h.lstV
    exact ⟨a, xs, e, bo.ok.p _ _ s, r⟩
  · cases e2
    obtain ⟨a, xs, h1, h2, h3, _⟩ := bo.en.own i ds e1
    rw [e3] at h1
    cases h1
    exact ⟨a, xs, rfl, h2, h3⟩
theorem RepB.celV {g : Gh} {env : Envr} {st : Store} {σ : L2.St} {H : Hp} (bo : BOk B g env st σ H) {n : Nat} {v : V} (h : RepB B g env σ (.cel n) v) : ∃ a, v = .ref a ∧ g.ad n = some a ∧ ∀ c, st[n]? = some c → CellRep B.C g H a c := by
  obtain ⟨a, e, s⟩ := (h.full fun ds z => by cases z).celV
  refine ⟨a, s, e, fun c hc => ?_⟩
  obtain ⟨b, h1, h2⟩ := bo.ok.cell n c hc
  rw [e] at h1; cases h1
  exact h2
end
end G
namespace G
open PySem PySem.Spec PyProof.Rows L2
def SpQ (C : Con) (g : Gh) (H : Hp) (Q : QE) (v : V) (H' : Hp) : Prop := ∃ d st' g', g.le g' ∧ GOk C g' H' st' ∧ Nx g H g' H' ∧ Rep C g' d v ∧ Q d st'
def SpR (C : Con) (g : Gh) (H : Hp) (R : XQ) (cls : Value) (dd : Option Addr) (H' : Hp) : Prop := ∃ x st' g', g.le g' ∧ GOk C g' H' st' ∧ Nx g H g' H' ∧ XRep C g' H' x cls dd ∧ R x st'
def spOf (C : Con) (φ : WF) (n : Nat) : Sp := fun vs H Q E => vs.length = n ∧ ∃ g ds st Qg R, GOk C g H st ∧ Reps C g ds vs ∧ φ ds st Qg R ∧ (∀ v H', SpQ C g H Qg v H' → Q v H') ∧ (∀ cls dd H', SpR C g H R cls dd H' → E cls dd H')
/-- the names of methods -/
inductive Mn where
  | add | sub | mul | neg | eq | bool | contains | call | repr | len | init | nm (n : Nat)
  deriving DecidableEq
def Mn.str (C : Con) : Mn → Str
  | .add => "__add__" | .sub => "__sub__" | .mul => "__mul__" | .neg => "__neg__" | .eq => "__eq__" | .bool => "__bool__" | .contains => "__contains__"
  | .call => "__call__" | .repr => "__repr__" | .len => "__len__" | .init => "__init__" | .nm n => C.mn n
/-- the methods that may be called here, by class and name -/
abbrev MT := Nat → Mn → Option WF
/-- a promise for whatever number of arguments -/
def spOfA (C : Con) (φ : WF) : Sp := fun vs H Q E => ∃ g ds st Qg R, GOk C g H st ∧ Reps C g ds vs ∧ φ ds st Qg R ∧ (∀ v H', SpQ C g H Qg v H' → Q v H') ∧ (∀ cls dd H', SpR C g H R cls dd H' → E cls dd H')
def FnA (X : Cx) (C : Con) (k : Nat) (f : Addr) (φ : WF) : Prop := L2.FnR X.prog X.w X.K X.mg X.base (L2.CX X.prog X.w) k f (spOfA C φ)
structure MetG (X : Cx) (C : Con) (k : Nat) (c : Nat) (m : Mn) (φ : WF) : Prop where
  ex : ∃ f, FnA X C k f φ ∧ Meth X.K (C.ca c) (m.str C) f
  cls : Cls X.K (C.ca c)
  sf : PySem.W.selfFirst X.K (C.ca c) = true
structure MOk (B : Bd) (X : Cx) (M : MT) : Prop where
  met : ∀ c m φ, M c m = some φ → ∃ k, Room k X.A ∧ MetG X B.C k c m φ
/-- a def of the module -/
structure FunG (B : Bd) (X : Cx) (x : Str) (n : Nat) (φ : WF) : Prop where
  len : ∀ ds st Q R, φ ds st Q R → ds.length = n
  ex : ∃ k f fd ps, Room k X.A ∧ FnOk X.prog X.w X.K X.mg X.base (L2.CX X.prog X.w) k f fd ps (spOf B.C φ n) ∧ ps.length = n ∧ X.mg x = some (.ref f) ∧ PySem.W.keepIn X.K (.ref f) = true ∧ L2.Binds X.K fd ps []
section
variable {B : Bd} {X : Cx} {W : WX} {a b c e : Expr} {es : List Expr} {wa wb wc : WE} {ta : WA} {pos : Pos}
theorem BOk.of_sp {g g' : Gh} {env : Envr} {st st' : Store} {σ : L2.St} {H H' : Hp} (bo : BOk B g env st σ H) (l : g.le g') (ok : GOk B.C g' H' st') (nx : Nx g H g' H') : BOk B g' env st' σ H' := by
  refine ⟨ok, bo.nx.trans nx, ⟨bo.en.len, fun i d h => ?_, fun i ds h => ?_, bo.en.dis⟩⟩
  · obtain ⟨v, h1, h2⟩ := bo.en.val i d h
    exact ⟨v, h1, h2.mono l⟩
  · obtain ⟨a, xs, h1, h2, h3, h4, h5, h6⟩ := bo.en.own i ds h
    refine ⟨a, xs, h1, nx.kp a _ h2 (fun ps z => by cases z) h5, h3.mono l, ?_, fun n z => ?_, h6⟩
    · cases e : g'.P a with
      | none => rfl
      | some o =>
        rcases nx.np a o e with z | z
        · rw [h4] at z; cases z
        · rw [h2] at z; cases z
    · rcases nx.nc n a z with z | z
      · exact h5 n z
      · rw [h2] at z; cases z
/-- the call of a def whose promise is known -/
theorem sp_at (j : J B X W) {φ : WF} {n : Nat} {gb g : Gh} {Hb : Hp} {env : Envr} {st : Store} {σ : L2.St} {H : Hp} {Q : QE} {R : XQ} {ds : List D} {vs : List V} (l : Nx gb Hb g H) (bo : BOk B g env st σ H) (rw : RW B W env σ R)
    (r : Reps B.C g ds vs) (hn : ds.length = n) (h : φ ds st Q R) : spOf B.C φ n vs H (QV B gb Hb env σ Q) (L2.WE W σ) := by
  refine ⟨r.length.symm.trans hn, g, ds, st, Q, R, bo.ok, r, h, fun v H' ⟨d, st', g', l', ok, nx, rv, q⟩ => ?_, fun cls dd H' ⟨x, st', g', l', ok, nx, rx, q⟩ => ?_⟩
  · exact ⟨d, st', g', l.trans nx, bo.of_sp l' ok nx, rv, q⟩
  · exact rw x g' st' H' cls dd (bo.of_sp l' ok nx) rx q
/-- the run of a def whose promise is known -/
theorem run_A (j : J B X W) {φ : WF} {k : Nat} {f : Addr} (F : FnA X B.C k f φ) (hr : Room k X.A) {gb g : Gh} {Hb : Hp} {env : Envr} {st : Store} {σ : L2.St} {H : Hp} {pins : List (Addr × Obj)} {s : Shared} {Q : QE} {R : XQ} {ds : List D} {vs : List V} {us : List Value} (l : Nx gb Hb g H) (bo : BOk B g env st σ H) (rw : RW B W env σ R)
    (I : Inv X pins σ H s) (r : Reps B.C g ds vs) (ru : Vals vs us) (h : φ ds st Q R) : wpAny (model X.prog X.w) X.A (call (.ref f) us) (EP X pins σ (QV B gb Hb env σ Q)) X.xe s := by
  have hs : spOfA B.C φ vs H (QV B gb Hb env σ Q) (L2.WE W σ) := by
    refine ⟨g, ds, st, Q, R, bo.ok, r, h, fun v H' ⟨d, st', g', l', ok, nx, rv, q⟩ => ?_, fun cls dd H' ⟨x, st', g', l', ok, nx, rx, q⟩ => ?_⟩
    · exact ⟨d, st', g', l.trans nx, bo.of_sp l' ok nx, rv, q⟩
    · exact rw x g' st' H' cls dd (bo.of_sp l' ok nx) rx q
  refine wpAny_call (codeAny_mono (F X.A X.stack s H us vs _ (L2.WE W σ) hr I.env0 ru hs) fun r s' hq => ?_)
  cases r with
  | error e => exact passAt j.tk σ pins H s e s' I hq
  | ok fl =>
    cases fl with
    | ret u => exact I.after hq
    | next => exact False.elim hq
    | brk => exact False.elim hq
    | cont => exact False.elim hq
theorem fnA_of {P : Program} {w : World} {C : Con} {mg : Str → Option Value} {base : Heap} {CX : CXT} {k n : Nat} {f : Addr} {fd : FuncData} {ps : List Str} {φ : WF} (len : ∀ ds st Q R, φ ds st Q R → ds.length = n) (ok : FnOk P w C.K mg base CX k f fd ps (spOf C φ n)) (hb : L2.Binds C.K fd ps []) :
    L2.FnR P w C.K mg base CX k f (spOfA C φ) := by
  refine (FnOk.raw ok hb .nil).imp fun vs H Q E ⟨g, ds, st, Qg, R, o, r, h, k1, k2⟩ => ?_
  rw [List.append_nil]
  exact ⟨r.length.symm.trans (len _ _ _ _ h), g, ds, st, Qg, R, o, r, h, k1, k2⟩
def wCall (φ : WF) (ta : WA) : WE := fun env st Q R => ta env st (fun ds st1 => φ ds st1 Q R) R
theorem g_call {x : Str} {p : Pos} {φ : WF} {n : Nat} (j : J B X W) (F : FunG B X x n φ) (hg : Gl X x) (ha : PAg B X W (e :: es) ta)
    (hdb : (x == ("__debug__" : Str)) = false := by decide) (he : starEach (e :: es) X.env = (false, eval e X.env) :: starEach es X.env := by rfl) (hpl : (backTo pos (starEach es X.env)).any (·.1) = false := by rfl) :
    PEg B X W (.Call (.Name x p) (e :: es) [] pos) (wCall φ ta) := by
  obtain ⟨k, f, fd, ps, hr, ok, hn, hm, hk, hb⟩ := F.ex
  refine PEg.of (pe_callS (E := L2.WE W) ok hr hg hm hk hb (fun σ => passAt j.tk σ) ha.pa hdb he hpl) fun σ H g env st Q R bo rw hw => ?_
  refine ⟨g, env, st, _, R, bo, rw, hw, fun vs H1 ⟨ds, st1, g1, l1, b1, r1, h1⟩ => ?_⟩
  exact sp_at j l1 b1 rw r1 (F.len _ _ _ _ h1) h1
def startE (m : Nat) (ds : List D) : Envr := ds.map Slot.val ++ List.replicate (m - ds.length) Slot.no
/-- a body w over m names, the first n parameters -/
def wfn (m n : Nat) (w : WS) : WF := fun ds st Q R => ds.length = n ∧ w (startE m ds) st { nx := fun _ st' => Q .non st', rt := Q, bk := fun _ _ => False, ct := fun _ _ => False, ex := fun x _ st' => R x st' }
theorem wfn_len {m n : Nat} {w : WS} : ∀ ds st Q R, wfn m n w ds st Q R → ds.length = n := fun _ _ _ _ h => h.1
theorem startE_own {m : Nat} {ds es : List D} {i : Nat} (h : (startE m ds)[i]? = some (Slot.own es)) : False := by
  unfold startE at h
  by_cases hi : i < ds.length
  · rw [List.getElem?_append_left (by simpa using hi), List.getElem?_map] at h
    cases e : ds[i]? <;> (rw [e] at h; cases h)
  · rw [List.getElem?_append_right (by simpa using hi), List.getElem?_replicate] at h
    split at h <;> cases h
theorem start_ok {C : Con} {g : Gh} {H : Hp} {st : Store} {ds : List D} {vs : List V} {N : List Str} (ok : GOk C g H st) (r : Reps C g ds vs) : BOk ⟨C, g, H⟩ g (startE N.length ds) st (L2.start N vs) H := by
  have hl := r.length
  refine ⟨ok, .refl g H, ⟨?_, fun i d h => ?_, fun i es h => (startE_own h).elim, fun i j ds es a hij h => (startE_own h).elim⟩⟩
  · simp [startE, L2.start, hl]
  · unfold startE at h
    have hi : i < ds.length := by
      by_cases hi : i < ds.length
      · exact hi
      · rw [List.getElem?_append_right (by simpa using hi), List.getElem?_replicate] at h
        split at h <;> cases h
    rw [List.getElem?_append_left (by simpa using hi), List.getElem?_map] at h
    cases e : ds[i]? with
    | none => rw [e] at h; cases h
    | some d' =>
      rw [e] at h
      cases h
      obtain ⟨v, h1, h2⟩ := r.get e
      refine ⟨v, ?_, h2⟩
      unfold L2.start
      rw [List.getElem?_append_left (by simpa using (by omega : i < vs.length)), List.getElem?_map, h1]
      rfl
/-- THE RULE for a def -/
theorem fn_ok {P : Program} {w : World} {C : Con} {mg : Str → Option Value} {base : Heap} {x qual : Str} {params : Arguments} {body : List Stmt} {scope : Scope} {dvs : List V} {kws : List (Str × V)} {f : Addr} {fd : FuncData} {N ps : List Str} {k : Nat} {wb : WS}
    (ck : ConOk C) (F : FunD C.K x qual params body scope dvs kws f fd) (S : FnScope N ps scope)
    (h : ∀ (cdv : Value) (A : Around) (outer : List Env) (s : Shared) (H : Hp) (E : XK) (g : Gh) (W : WX), Room k (A.deeper (envOfC qual scope s.heap.objs.size f cdv)) → J ⟨C, g, H⟩ (cxOf (L2.CX P w) P w C.K mg base N qual scope f cdv A outer s H E) W →
      PSsg ⟨C, g, H⟩ (cxOf (L2.CX P w) P w C.K mg base N qual scope f cdv A outer s H E) W body wb) : FnOk P w C.K mg base (L2.CX P w) (k + 1) f fd ps (spOf C (wfn N.length ps.length wb) ps.length) := by
  refine F.ok (CX := L2.CX P w) S (fun vs H Q E h => h.1) fun cdv A outer s H vs Q E hr ⟨hn, g, ds, st, Qg, R, ok, r, hw, hQ, hE⟩ => ?_
  have j : J ⟨C, g, H⟩ (cxOf (L2.CX P w) P w C.K mg base N qual scope f cdv A outer s H E) (fun cls d _ H' => E cls d H') :=
    { ck := ck, hK := rfl, tk := takes_of rfl rfl rfl rfl, po := passes_of rfl, calm := rfl, nd := S.nd, hd := hr.hd, hu := hr.units, hu2 := by have h := hr.un; show (A.deeper _).units + 150 < cLine; omega }
  refine ⟨_, (h cdv A outer s H E g _ hr j).ps, ?_⟩
  refine ⟨g, startE N.length ds, st, _, start_ok ok r, ?_, hw.2, ?_, ?_, ?_, ?_⟩
  · intro x g' env st' σ H' cls d b x' q
    exact hE cls d H' ⟨x, st', g', b.nx.le, b.ok, b.nx, x', q⟩
  · rintro σ' H' ⟨env', st', g', l, b, q⟩
    exact hQ .non H' ⟨.non, st', g', l, b.ok, b.nx, rep_non, q⟩
  · rintro v H' ⟨d, st', g', l, ok', nx, rv, q⟩
    exact hQ v H' ⟨d, st', g', l, ok', nx, rv, q⟩
  · rintro σ' H' ⟨env', st', g', l, b, q⟩
    exact q.elim
  · rintro σ' H' ⟨env', st', g', l, b, q⟩
    exact q.elim
end
end G
namespace G
open PySem PySem.Spec PyProof.Rows L2
def MulOk (i j : Int) : Prop := i.natAbs.log2 + j.natAbs.log2 < 1000000
def DivOk (j : Int) : Prop := j ≠ 0 ∧ (j.natAbs < 1073741824 ∨ (0 < j ∧ j.natAbs.log2 < 9000))
def PowOk (i j : Int) : Prop := 0 ≤ j ∧ j ≤ 1000000 ∧ i.natAbs < 2 ^ 64
def callM (M : MT) (c : Nat) (m : Mn) (ds : List D) (st : Store) (Q : QE) (R : XQ) : Prop := match M c m with
  | some φ => φ ds st Q R
  | none => False
def oAdd (M : MT) : O2 := fun d1 d2 st Q R => match d1, d2 with
  | .int i, .int j => Q (.int (i + j)) st
  | .str x, .str y => x.length + y.length ≤ sizeLine ∧ Q (.str (x ++ y)) st
  | .lst xs, .lst ys => xs.length + ys.length ≤ sizeLine ∧ Q (.lst (xs ++ ys)) st
  | .ob c fs, .ob c' fs' => c = c' ∧ callM M c .add [.ob c fs, .ob c' fs'] st Q R
  | _, _ => False
def oSub (M : MT) : O2 := fun d1 d2 st Q R => match d1, d2 with
  | .int i, .int j => Q (.int (i - j)) st
  | .ob c fs, .ob c' fs' => c = c' ∧ callM M c .sub [.ob c fs, .ob c' fs'] st Q R
  | _, _ => False
def oMul (M : MT) : O2 := fun d1 d2 st Q R => match d1, d2 with
  | .int i, .int j => MulOk i j ∧ Q (.int (i * j)) st
  | .lst xs, .int k => (0 ≤ k ∧ k < 1000 ∧ xs.length * k.toNat ≤ sizeLine) ∧ Q (.lst ((List.replicate k.toNat xs).flatten)) st
  | .ob c fs, .ob c' fs' => c = c' ∧ callM M c .mul [.ob c fs, .ob c' fs'] st Q R
  | _, _ => False
def oFdiv : O2 := fun d1 d2 st Q R => match d1, d2 with
  | .int i, .int j => DivOk j ∧ Q (.int (Int.fdiv i j)) st
  | _, _ => False
def oMod : O2 := fun d1 d2 st Q R => match d1, d2 with
  | .int i, .int j => j ≠ 0 ∧ Q (.int (Int.fmod i j)) st
  | _, _ => False
def oPow : O2 := fun d1 d2 st Q R => match d1, d2 with
  | .int i, .int j => PowOk i j ∧ Q (.int (i ^ j.toNat)) st
  | _, _ => False
section
variable {B : Bd} {X : Cx} {W : WX} {a b c e : Expr} {es : List Expr} {wa wb wc : WE} {ta : WA} {pos : Pos} {M : MT}
/-- a method of an object, called with values -/
theorem met_call (j : J B X W) (m : MOk B X M) {cc : Nat} {mn : Mn} {gb g : Gh} {Hb : Hp} {env : Envr} {st : Store} {σ : L2.St} {H : Hp} {pins : List (Addr × Obj)} {s : Shared} {Q : QE} {R : XQ} {ds : List D} {vs : List V} {us : List Value} {φ : WF} (l : Nx gb Hb g H) (bo : BOk B g env st σ H) (rw : RW B W env σ R)
    (I : Inv X pins σ H s) (r : Reps B.C g ds vs) (ru : Vals vs us) (hm : M cc mn = some φ) (h : φ ds st Q R) : ∃ f, Meth X.K (B.C.ca cc) (mn.str B.C) f ∧ Cls X.K (B.C.ca cc) ∧ PySem.W.selfFirst X.K (B.C.ca cc) = true ∧
      wpAny (model X.prog X.w) X.A (call (.ref f) us) (EP X pins σ (QV B gb Hb env σ Q)) X.xe s := by
  obtain ⟨k, hr, ⟨f, ok, hme⟩, hc, hs⟩ := m.met cc mn φ hm
  exact ⟨f, hme, hc, hs, run_A j ok hr l bo rw I r ru h⟩
theorem rep_ob {g : Gh} {env : Envr} {st : Store} {σ : L2.St} {H : Hp} (bo : BOk B g env st σ H) {cc : Nat} {fs : List (Nat × D)} {v : V} (h : RepB B g env σ (.ob cc fs) v) : ∃ a dx fv, v = .ref a ∧ H a = some (.ins (B.C.ca cc) dx fv) ∧ RepF B.C g fs fv ∧ Rep B.C g (.ob cc fs) v := by
  have h' := h.full fun ds z => by cases z
  obtain ⟨a, dx, fv, e, p, r⟩ := h'.obV
  exact ⟨a, dx, fv, e, bo.ok.p _ _ p, r, h'⟩
theorem reps2 {C : Con} {g : Gh} {d1 d2 : D} {x y : V} (h1 : Rep C g d1 x) (h2 : Rep C g d2 y) : Reps C g [d1, d2] [x, y] := Reps.cons h1 (Reps.cons h2 Reps.nil)
theorem inst_at {pins : List (Addr × Obj)} {σ : L2.St} {H : Hp} {s : Shared} (I : Inv X pins σ H s) {a C dx : Addr} {fs : List (Str × V)} (h : H a = some (.ins C dx fs)) : ∃ (od : Obj) (mA : Str → Option Value), PySem.W.InstAt s.heap a (PySem.W.instObj C dx) C (some od) ∧ (∀ name, PySem.W.lookIn name od = some (mA name)) ∧ ∀ f, RelO (fs.lookup f) (mA f) := by
  obtain ⟨mA, O, r, _, _, _⟩ := ins_get I.hok h
  obtain ⟨od, J, hl⟩ := O.look
  exact ⟨od, mA, J, hl, r⟩
theorem cmpBack {pins : List (Addr × Obj)} {σ : L2.St} {Q : VK} {v : Value} {s' : Shared} (h : EP X pins σ Q v s') : PySem.W.CmpBack (EP X pins σ Q) v s' := by
  cases v with
  | notImplemented =>
    exfalso
    obtain ⟨x, H', I, r, q⟩ := h
    cases x <;> first | (cases r; done) | (obtain ⟨t, e⟩ := r; cases e; done)
  | _ => exact h
/-- a two-place operation on values, f, does what o tells -/
def OpG (B : Bd) (X : Cx) (W : WX) (f : Value → Value → Sem Value) (o : O2) : Prop := ∀ (gb g : Gh) (Hb : Hp) (env : Envr) (st : Store) (σ : L2.St) (H : Hp) (d1 d2 : D) (x y : V) (v u : Value) (pins : List (Addr × Obj)) (s : Shared) (Q : QE) (R : XQ), Nx gb Hb g H → Inv X pins σ H s → BOk B g env st σ H → RW B W env σ R →
  RepB B g env σ d1 x → RepB B g env σ d2 y → RelV x v → RelV y u → o d1 d2 st Q R → wpAny (model X.prog X.w) X.A (f v u) (EP X pins σ (QV B gb Hb env σ Q)) X.xe s
theorem OpG.of {f : Value → Value → Sem Value} {r : R2} {o : O2} (h : OpR X f r) (k : OpV B W r o) : OpG B X W f o := fun gb g Hb env st σ H d1 d2 x y v u pins s Q R l I bo rw r1 r2 rx ry q =>
  h pins s σ H x y v u _ I rx ry (k gb g Hb env st σ H d1 d2 x y Q R l bo rw r1 r2 q)
theorem g_binop {op : Operator} {o : O2} (h : OpG B X W (binaryOp op) o) (ha : PBg B X W a wa) (hb : PBg B X W b wb) : PEg B X W (.BinOp a op b pos) (wBin o wa wb) := by
  refine ⟨fun pins s σ H g env st Q R I bo rw hw => ?_⟩
  refine wpAny_BinOp (thn (ha.run pins s σ H g env st _ R I bo rw hw) fun v s1 ⟨x, H1, I1, rx, d1, st1, g1, l1, b1, r1, h1⟩ => ?_)
  refine thn (hb.run pins s1 σ H1 g1 env st1 _ R I1 b1 rw h1) fun u s2 ⟨y, H2, I2, ry, d2, st2, g2, l2, b2, r2, h2⟩ => ?_
  exact h g g2 H env st2 σ H2 d1 d2 x y v u pins s2 Q R (l1.trans l2) I2 b2 rw (r1.mono l2.le) r2 rx ry h2
theorem g_cmp {op : CmpOp} {o : O2} (h : OpG B X W (compareOp op) o) (ha : PBg B X W a wa) (hb : PBg B X W b wb) (hm : behindInMarks op b = false := by first | exact nomark _ | rfl) : PEg B X W (.Compare a [op] [b] pos) (wBin o wa wb) := by
  refine ⟨fun pins s σ H g env st Q R I bo rw hw => ?_⟩
  refine wpAny_Compare1 (thn (ha.run pins s σ H g env st _ R I bo rw hw) fun v s1 ⟨x, H1, I1, rx, d1, st1, g1, l1, b1, r1, h1⟩ => ?_) hm
  refine thn (hb.run pins s1 σ H1 g1 env st1 _ R I1 b1 rw h1) fun u s2 ⟨y, H2, I2, ry, d2, st2, g2, l2, b2, r2, h2⟩ => ?_
  exact h g g2 H env st2 σ H2 d1 d2 x y v u pins s2 Q R (l1.trans l2) I2 b2 rw (r1.mono l2.le) r2 rx ry h2
/-- an expression that gives True or False, as a test -/
def wBool (w : WE) : WT := fun env st Q R => w env st (fun d st1 => match d with | .bl b => Q b st1 | _ => False) R
theorem gt_cmp {op : CmpOp} {o : O2} (h : OpG B X W (compareOp op) o) (ha : PBg B X W a wa) (hb : PBg B X W b wb) (hm : behindInMarks op b = false := by first | exact nomark _ | rfl) : PTg B X W (.Compare a [op] [b] pos) (wBool (wBin o wa wb)) := by
  refine ⟨fun pins s σ H g env st Q R I bo rw hw => ?_⟩
  refine wpAny_isTrue_Compare1 (thn (ha.run pins s σ H g env st _ R I bo rw hw) fun v s1 ⟨x, H1, I1, rx, d1, st1, g1, l1, b1, r1, h1⟩ => ?_) hm
  refine thn (hb.run pins s1 σ H1 g1 env st1 _ R I1 b1 rw h1) fun u s2 ⟨y, H2, I2, ry, d2, st2, g2, l2, b2, r2, h2⟩ => ?_
  refine thn (h g g2 H env st2 σ H2 d1 d2 x y v u pins s2 _ R (l1.trans l2) I2 b2 rw (r1.mono l2.le) r2 rx ry h2) fun c s3 ⟨z, H3, I3, rz, d3, st3, g3, l3, b3, r3, h3⟩ => ?_
  cases d3 with
  | bl k =>
    have e := r3.blV
    subst e
    cases rz
    exact wpAny_truthy_bool ⟨H3, I3, st3, g3, l3, b3, h3⟩
  | _ => exact h3.elim
theorem gt_val (h : PEg B X W e wa) (he : ∀ whole, isTrue e X.env whole = (do let v ← whole; standAt e.pos; holding [v] (truthy v)) := by intro _; rfl) : PTg B X W e (wBool wa) := by
  refine ⟨fun pins s σ H g env st Q R I bo rw hw => ?_⟩
  refine isTrue_plain (thn (h.run pins s σ H g env st _ R I bo rw hw) fun v s1 ⟨x, H1, I1, rx, d1, st1, g1, l1, b1, r1, h1⟩ => ?_) (he _)
  cases d1 with
  | bl k =>
    have e := r1.blV
    subst e
    cases rx
    exact wpAny_truthy_bool ⟨H1, I1, st1, g1, l1, b1, h1⟩
  | _ => exact h1.elim
def wNotT (w : WT) : WT := fun env st Q R => w env st (fun b st1 => Q (!b) st1) R
def wAndT (w u : WT) : WT := fun env st Q R => w env st (fun b st1 => if b = true then u env st1 Q R else Q false st1) R
def wOrT (w u : WT) : WT := fun env st Q R => w env st (fun b st1 => if b = true then Q true st1 else u env st1 Q R) R
structure PWg (B : Bd) (X : Cx) (W : WX) (e : Expr) (w : WT) : Prop where
  run : ∀ (whole : Sem Value) (pins : List (Addr × Obj)) (s : Shared) (σ : L2.St) (H : Hp) (g : Gh) (env : Envr) (st : Store) (Q : Bool → Store → Prop) (R : XQ), Inv X pins σ H s → BOk B g env st σ H → RW B W env σ R → w env st Q R →
    wpAny (model X.prog X.w) X.A (isTrue e X.env whole) (TP X pins σ (QB B g H env σ Q)) X.xe s
theorem PWg.pt {w : WT} (h : PWg B X W e w) : PTg B X W e w := ⟨h.run _⟩
variable {ta' tb' : WT}
theorem gw_and1 (ha : PTg B X W a ta') : PWg B X W (.BoolOp .And [a] pos) ta' := by
  refine ⟨fun wh pins s σ H g env st Q R I bo rw hw => ?_⟩
  refine isTrue_and (thn (ha.run pins s σ H g env st Q R I bo rw hw) fun c s1 e => ?_)
  cases c with
  | true => exact isTrue_and_nil e
  | false => exact e
theorem gw_or1 (ha : PTg B X W a ta') : PWg B X W (.BoolOp .Or [a] pos) ta' := by
  refine ⟨fun wh pins s σ H g env st Q R I bo rw hw => ?_⟩
  refine isTrue_or (thn (ha.run pins s σ H g env st Q R I bo rw hw) fun c s1 e => ?_)
  cases c with
  | false => exact isTrue_or_nil e
  | true => exact e
theorem TP.le {pins : List (Addr × Obj)} {σ : L2.St} {g g1 : Gh} {H H1 : Hp} {env : Envr} {Q : Bool → Store → Prop} {b : Bool} {s : Shared} (l : Nx g H g1 H1) (h : TP X pins σ (QB B g1 H1 env σ Q) b s) : TP X pins σ (QB B g H env σ Q) b s := TP.imp h fun _ _ z => QB.le l z
theorem EP.le {pins : List (Addr × Obj)} {σ : L2.St} {g g1 : Gh} {H H1 : Hp} {env : Envr} {Q : QE} {b : Value} {s : Shared} (l : Nx g H g1 H1) (h : EP X pins σ (QV B g1 H1 env σ Q) b s) : EP X pins σ (QV B g H env σ Q) b s := EP.imp h fun _ _ z => QV.le l z
theorem gw_and {r : List Expr} (ha : PTg B X W a ta') (hb : PWg B X W (.BoolOp .And (b :: r) pos) tb') : PWg B X W (.BoolOp .And (a :: b :: r) pos) (wAndT ta' tb') := by
  refine ⟨fun wh pins s σ H g env st Q R I bo rw hw => ?_⟩
  refine isTrue_and (thn (ha.run pins s σ H g env st _ R I bo rw hw) fun c s1 ⟨H1, I1, st1, g1, l1, b1, q1⟩ => ?_)
  cases c with
  | true => exact thn (hb.run wh pins s1 σ H1 g1 env st1 Q R I1 b1 rw q1) fun _ _ z => TP.le l1 z
  | false => exact ⟨H1, I1, st1, g1, l1, b1, q1⟩
theorem gw_or {r : List Expr} (ha : PTg B X W a ta') (hb : PWg B X W (.BoolOp .Or (b :: r) pos) tb') : PWg B X W (.BoolOp .Or (a :: b :: r) pos) (wOrT ta' tb') := by
  refine ⟨fun wh pins s σ H g env st Q R I bo rw hw => ?_⟩
  refine isTrue_or (thn (ha.run pins s σ H g env st _ R I bo rw hw) fun c s1 ⟨H1, I1, st1, g1, l1, b1, q1⟩ => ?_)
  cases c with
  | false => exact thn (hb.run wh pins s1 σ H1 g1 env st1 Q R I1 b1 rw q1) fun _ _ z => TP.le l1 z
  | true => exact ⟨H1, I1, st1, g1, l1, b1, q1⟩
theorem gt_not (ha : PTg B X W a ta') : PTg B X W (.UnaryOp .Not a pos) (wNotT ta') := by
  refine ⟨fun pins s σ H g env st Q R I bo rw hw => ?_⟩
  exact isTrue_not (thn (ha.run pins s σ H g env st _ R I bo rw hw) fun c s1 ⟨H1, I1, st1, g1, l1, b1, q1⟩ => ⟨H1, I1, st1, g1, l1, b1, q1⟩)
/-- the same as values (True, False) -/
def wAnd (w u : WE) : WE := fun env st Q R => w env st (fun d st1 => match d with | .bl true => u env st1 Q R | .bl false => Q (.bl false) st1 | _ => False) R
def wOr (w u : WE) : WE := fun env st Q R => w env st (fun d st1 => match d with | .bl true => Q (.bl true) st1 | .bl false => u env st1 Q R | _ => False) R
def wNot (w : WT) : WE := fun env st Q R => w env st (fun b st1 => Q (.bl (!b)) st1) R
theorem g_bone {op} (h : PEg B X W a wa) : PEg B X W (.BoolOp op [a] pos) wa := ⟨fun pins s σ H g env st Q R I bo rw hw => BoolOp_one (h.run pins s σ H g env st Q R I bo rw hw)⟩
theorem g_and {r : List Expr} (ha : PEg B X W a wa) (hb : PEg B X W (.BoolOp .And (b :: r) pos) wb) : PEg B X W (.BoolOp .And (a :: b :: r) pos) (wAnd wa wb) := by
  refine ⟨fun pins s σ H g env st Q R I bo rw hw => ?_⟩
  refine BoolOp_and (thn (ha.run pins s σ H g env st _ R I bo rw hw) fun v s1 ⟨x, H1, I1, rx, d1, st1, g1, l1, b1, r1, h1⟩ => ?_)
  cases d1 with
  | bl k =>
    have e := r1.blV
    subst e
    cases rx
    refine wpAny_truthy_bool ?_
    cases k with
    | true => exact thn (hb.run pins s1 σ H1 g1 env st1 Q R I1 b1 rw h1) fun _ _ z => EP.le l1 z
    | false => exact ⟨.bl false, H1, I1, rfl, .bl false, st1, g1, l1, b1, rep_bl, h1⟩
  | _ => exact h1.elim
def wIf (t : WT) (wa wb : WE) : WE := fun env st Q R => t env st (fun b st1 => if b = true then wa env st1 Q R else wb env st1 Q R) R
theorem g_if {t : WT} (hc : PTg B X W c t) (ha : PEg B X W a wa) (hb : PEg B X W b wb) : PEg B X W (.IfExp c a b pos) (wIf t wa wb) := by
  refine ⟨fun pins s σ H g env st Q R I bo rw hw => ?_⟩
  refine wpAny_IfExp (thn (hc.run pins s σ H g env st _ R I bo rw hw) fun d s1 ⟨H1, I1, st1, g1, l1, b1, q1⟩ => ?_)
  cases d with
  | true => exact thn (ha.run pins s1 σ H1 g1 env st1 Q R I1 b1 rw q1) fun _ _ z => EP.le l1 z
  | false => exact thn (hb.run pins s1 σ H1 g1 env st1 Q R I1 b1 rw q1) fun _ _ z => EP.le l1 z
theorem op_own (j : J B X W) (m : MOk B X M) {op : Operator} {mn : Mn} (hop : ∀ C, mn.str C = PySem.dunder op.info.2) {gb g : Gh} {Hb : Hp} {env : Envr} {st : Store} {σ : L2.St} {H : Hp} {cc : Nat} {fs fs' : List (Nat × D)} {x y : V} {v u : Value} {pins : List (Addr × Obj)} {s : Shared} {Q : QE} {R : XQ}
    (l : Nx gb Hb g H) (I : Inv X pins σ H s) (bo : BOk B g env st σ H) (rw' : RW B W env σ R) (r1 : RepB B g env σ (.ob cc fs) x) (r2 : RepB B g env σ (.ob cc fs') y) (rx : RelV x v) (ry : RelV y u)
    (q : callM M cc mn [.ob cc fs, .ob cc fs'] st Q R) : wpAny (model X.prog X.w) X.A (binaryOp op v u) (EP X pins σ (QV B gb Hb env σ Q)) X.xe s := by
  unfold callM at q
  split at q
  · rename_i φ hm
    obtain ⟨a, dx, fv, ex, ha, _, f1⟩ := rep_ob bo r1
    obtain ⟨b, dy, gv, ey, hb, _, f2⟩ := rep_ob bo r2
    obtain ⟨f, hme, hc, hs, hw⟩ := met_call j m l bo rw' I (reps2 f1 f2) (.cons rx (.cons ry .nil)) hm q
    subst ex
    subst ey
    cases rx
    cases ry
    obtain ⟨od, mA, i1, _⟩ := inst_at I ha
    obtain ⟨od', mA', i2, _⟩ := inst_at I hb
    obtain ⟨mm, F⟩ := I.fr
    exact PySem.W.binop_K F I.mod.kin i1 i2.type hs (by rw [← hop B.C]; exact hme.at_) hme.fn (thn hw fun _ _ z => cmpBack z)
  · exact q.elim
theorem og_add (j : J B X W) (m : MOk B X M) : OpG B X W (binaryOp .Add) (oAdd M) := by
  intro gb g Hb env st σ H d1 d2 x y v u pins s Q R l I bo rw r1 r2 rx ry q
  unfold oAdd at q
  split at q
  · have e1 := r1.intV; have e2 := r2.intV
    subst e1; subst e2
    exact op_add pins s σ H _ _ v u _ I rx ry ⟨_, _, rfl, rfl, QV.same l bo rep_int q⟩
  · have e1 := r1.strV; have e2 := r2.strV
    subst e1; subst e2
    exact op_add_str pins s σ H _ _ v u _ I rx ry ⟨_, _, rfl, rfl, q.1, QV.same l bo rep_str q.2⟩
  · obtain ⟨a, xs, e1, h1, p1⟩ := r1.lstV bo
    obtain ⟨b, ys, e2, h2, p2⟩ := r2.lstV bo
    subst e1; subst e2
    refine op_cat pins s σ H _ _ v u _ I rx ry ⟨_, _, _, _, rfl, rfl, h1, h2, by rw [← p1.length, ← p2.length]; exact q.1, fun p hp => ?_⟩
    exact QV.lst j.ck l bo (p1.append p2) q.2 hp
  · obtain ⟨rfl, q⟩ := q
    exact op_own j m (op := .Add) (mn := .add) (fun _ => rfl) l I bo rw r1 r2 rx ry q
  · exact q.elim
theorem og_sub (j : J B X W) (m : MOk B X M) : OpG B X W (binaryOp .Sub) (oSub M) := by
  intro gb g Hb env st σ H d1 d2 x y v u pins s Q R l I bo rw r1 r2 rx ry q
  unfold oSub at q
  split at q
  · have e1 := r1.intV; have e2 := r2.intV
    subst e1; subst e2
    exact op_sub pins s σ H _ _ v u _ I rx ry ⟨_, _, rfl, rfl, QV.same l bo rep_int q⟩
  · obtain ⟨rfl, q⟩ := q
    exact op_own j m (op := .Sub) (mn := .sub) (fun _ => rfl) l I bo rw r1 r2 rx ry q
  · exact q.elim
theorem og_mul (j : J B X W) (m : MOk B X M) : OpG B X W (binaryOp .Mult) (oMul M) := by
  intro gb g Hb env st σ H d1 d2 x y v u pins s Q R l I bo rw r1 r2 rx ry q
  unfold oMul at q
  split at q
  · have e1 := r1.intV; have e2 := r2.intV
    subst e1; subst e2
    exact op_mulW pins s σ H _ _ v u _ I rx ry ⟨_, _, rfl, rfl, q.1, QV.same l bo rep_int q.2⟩
  · rename_i xs k
    obtain ⟨a, vs, e1, h1, p1⟩ := r1.lstV bo
    have e2 := r2.intV
    subst e1; subst e2
    obtain ⟨⟨q1, q2, q3⟩, q4⟩ := q
    refine op_rep pins s σ H _ _ v u _ I rx ry ⟨_, _, _, rfl, rfl, h1, by omega, by omega, by rw [← p1.length]; exact q3, fun p hp => ?_⟩
    refine QV.lst j.ck l bo ?_ q4 hp
    induction k.toNat with
    | zero => exact Reps.nil
    | succ n ih => rw [List.replicate_succ, List.replicate_succ, List.flatten_cons, List.flatten_cons]; exact p1.append ih
  · obtain ⟨rfl, q⟩ := q
    exact op_own j m (op := .Mult) (mn := .mul) (fun _ => rfl) l I bo rw r1 r2 rx ry q
  · exact q.elim
theorem og_fdiv : OpG B X W (binaryOp .FloorDiv) oFdiv := by
  intro gb g Hb env st σ H d1 d2 x y v u pins s Q R l I bo rw r1 r2 rx ry q
  unfold oFdiv at q
  split at q
  · rename_i i j
    have e1 := r1.intV; have e2 := r2.intV
    subst e1; subst e2
    obtain ⟨⟨q0, q1⟩, q⟩ := q
    rcases q1 with q1 | q1
    · exact op_fdivN pins s σ H _ _ v u _ I rx ry ⟨_, _, rfl, rfl, ⟨q0, q1⟩, QV.same l bo rep_int q⟩
    · refine op_fdivW pins s σ H _ _ v u _ I rx ry ⟨_, _, rfl, rfl, q1, QV.same l bo rep_int ?_⟩
      rw [← Int.fdiv_eq_ediv_of_nonneg i (Int.le_of_lt q1.1)]; exact q
  · exact q.elim
theorem og_mod : OpG B X W (binaryOp .Mod) oMod := by
  intro gb g Hb env st σ H d1 d2 x y v u pins s Q R l I bo rw r1 r2 rx ry q
  unfold oMod at q
  split at q
  · have e1 := r1.intV; have e2 := r2.intV
    subst e1; subst e2
    exact op_modN pins s σ H _ _ v u _ I rx ry ⟨_, _, rfl, rfl, q.1, QV.same l bo rep_int q.2⟩
  · exact q.elim
theorem og_pow : OpG B X W (binaryOp .Pow) oPow := by
  intro gb g Hb env st σ H d1 d2 x y v u pins s Q R l I bo rw r1 r2 rx ry q
  unfold oPow at q
  split at q
  · have e1 := r1.intV; have e2 := r2.intV
    subst e1; subst e2
    exact op_pow pins s σ H _ _ v u _ I rx ry ⟨_, _, rfl, rfl, q.1, QV.same l bo rep_int q.2⟩
  · exact q.elim
end
end G
namespace G
open PySem PySem.Spec PyProof.Rows L2
mutual
def D.py : D → PyData
  | .non => .none | .bl b => .bool b | .int i => .int i | .str x => .str x
  | .tup xs => .tuple (D.pys xs) | .lst xs => .list (D.pys xs)
  | .ob _ _ => .dict [] | .cel _ => .dict [] | .cls _ => .dict [] | .ty _ => .dict [] | .scr _ => .dict [] | .dct _ => .dict [] | .dtt _ => .dict [] | .raw _ => .dict [] | .wtp _ => .dict []
def D.pys : List D → List PyData
  | [] => []
  | d :: ds => D.py d :: D.pys ds
end
mutual
/-- data: no objects, signs of Unicode -/
def D.dat : D → Bool
  | .non => true | .bl _ => true | .int _ => true | .str x => PyData.strOk x
  | .tup xs => D.dats xs | .lst xs => D.dats xs
  | .ob _ _ => false | .cel _ => false | .cls _ => false | .ty _ => false | .scr _ => false | .dct _ => false | .dtt _ => false | .raw _ => false | .wtp _ => false
def D.dats : List D → Bool
  | [] => true
  | d :: ds => D.dat d && D.dats ds
end
mutual
def D.dep : D → Nat
  | .tup xs => D.deps xs + 1 | .lst xs => D.deps xs + 1
  | _ => 0
def D.deps : List D → Nat
  | [] => 0
  | d :: ds => max (D.dep d) (D.deps ds)
end
mutual
def eqD : D → D → Bool
  | .non, e => (match e with | .non => true | _ => false)
  | .bl a, e => (match e with | .bl b => a == b | .int j => (if a then 1 else 0) == j | _ => false)
  | .int i, e => (match e with | .int j => decide (i = j) | .bl b => i == (if b then 1 else 0) | _ => false)
  | .str x, e => (match e with | .str y => decide (x = y) | _ => false)
  | .tup xs, e => (match e with | .tup ys => eqDs xs ys | _ => false)
  | .lst xs, e => (match e with | .lst ys => eqDs xs ys | _ => false)
  | _, _ => false
def eqDs : List D → List D → Bool
  | [], e => (match e with | [] => true | _ => false)
  | x :: xs, e => (match e with | y :: ys => eqD x y && eqDs xs ys | _ => false)
end
mutual
theorem py_lay : ∀ d : D, d.dat = true → d.py.canLay0 = true
  | .non, _ => by simp only [D.py, PyData.canLay0]
  | .bl _, _ => by simp only [D.py, PyData.canLay0]
  | .int _, _ => by simp only [D.py, PyData.canLay0]
  | .str x, h => by simp only [D.py, PyData.canLay0]; simpa [D.dat] using h
  | .tup xs, h => by simp only [D.py, PyData.canLay0]; exact pys_lay xs (by simpa [D.dat] using h)
  | .lst xs, h => by simp only [D.py, PyData.canLay0]; exact pys_lay xs (by simpa [D.dat] using h)
  | .ob _ _, h => by simp [D.dat] at h
  | .cel _, h => by simp [D.dat] at h
  | .cls _, h => by simp [D.dat] at h
  | .ty _, h => by simp [D.dat] at h
  | .scr _, h => by simp [D.dat] at h
  | .dct _, h => by simp [D.dat] at h
  | .dtt _, h => by simp [D.dat] at h
  | .raw _, h => by simp [D.dat] at h
  | .wtp _, h => by simp [D.dat] at h
theorem pys_lay : ∀ ds : List D, D.dats ds = true → PyData.canLayAll0 (D.pys ds) = true
  | [], _ => by simp only [D.pys, PyData.canLayAll0]
  | d :: ds, h => by
    have h' : d.dat = true ∧ D.dats ds = true := by simpa [D.dats] using h
    simp only [D.pys, PyData.canLayAll0, py_lay d h'.1, pys_lay ds h'.2, Bool.and_self]
end
mutual
theorem py_dep : ∀ d : D, d.dat = true → d.py.depth = d.dep
  | .non, _ => by simp only [D.py, PyData.depth, D.dep]
  | .bl _, _ => by simp only [D.py, PyData.depth, D.dep]
  | .int _, _ => by simp only [D.py, PyData.depth, D.dep]
  | .str x, h => by simp only [D.py, PyData.depth, D.dep]
  | .tup xs, h => by simp only [D.py, PyData.depth, D.dep, pys_dep xs (by simpa [D.dat] using h)]
  | .lst xs, h => by simp only [D.py, PyData.depth, D.dep, pys_dep xs (by simpa [D.dat] using h)]
  | .ob _ _, h => by simp [D.dat] at h
  | .cel _, h => by simp [D.dat] at h
  | .cls _, h => by simp [D.dat] at h
  | .ty _, h => by simp [D.dat] at h
  | .scr _, h => by simp [D.dat] at h
  | .dct _, h => by simp [D.dat] at h
  | .dtt _, h => by simp [D.dat] at h
  | .raw _, h => by simp [D.dat] at h
  | .wtp _, h => by simp [D.dat] at h
theorem pys_dep : ∀ ds : List D, D.dats ds = true → PyData.depthAll (D.pys ds) = D.deps ds
  | [], _ => by simp only [D.pys, PyData.depthAll, D.deps]
  | d :: ds, h => by
    have h' : d.dat = true ∧ D.dats ds = true := by simpa [D.dats] using h
    simp only [D.pys, PyData.depthAll, D.deps, py_dep d h'.1, pys_dep ds h'.2]
end
theorem beq_dec {α : Type} [DecidableEq α] (a b : α) : (a == b) = decide (a = b) := by
  by_cases h : a = b <;> simp [h]
mutual
theorem py_eqv : ∀ d e : D, d.dat = true → e.dat = true → PyData.eqv d.py e.py = eqD d e
  | .non, e, _, h2 => by cases e <;> first | (simp [D.dat] at h2; done) | simp [D.py, PyData.eqv, eqD]
  | .bl a, e, _, h2 => by cases e <;> first | (simp [D.dat] at h2; done) | simp [D.py, PyData.eqv, eqD]
  | .int i, e, _, h2 => by cases e <;> first | (simp [D.dat] at h2; done) | simp [D.py, PyData.eqv, eqD, beq_dec]
  | .str x, e, _, h2 => by cases e <;> first | (simp [D.dat] at h2; done) | simp [D.py, PyData.eqv, eqD, beq_dec]
  | .tup xs, e, h1, h2 => by
    cases e <;> first | (simp [D.dat] at h2; done) | (simp [D.py, PyData.eqv, eqD]; done) | skip
    rename_i ys
    simp only [D.py, PyData.eqv, eqD]
    exact pys_eqv xs ys (by simpa [D.dat] using h1) (by simpa [D.dat] using h2)
  | .lst xs, e, h1, h2 => by
    cases e <;> first | (simp [D.dat] at h2; done) | (simp [D.py, PyData.eqv, eqD]; done) | skip
    rename_i ys
    simp only [D.py, PyData.eqv, eqD]
    exact pys_eqv xs ys (by simpa [D.dat] using h1) (by simpa [D.dat] using h2)
  | .ob _ _, _, h, _ => by simp [D.dat] at h
  | .cel _, _, h, _ => by simp [D.dat] at h
  | .cls _, _, h, _ => by simp [D.dat] at h
  | .ty _, _, h, _ => by simp [D.dat] at h
  | .scr _, _, h, _ => by simp [D.dat] at h
  | .dct _, _, h, _ => by simp [D.dat] at h
  | .dtt _, _, h, _ => by simp [D.dat] at h
  | .raw _, _, h, _ => by simp [D.dat] at h
  | .wtp _, _, h, _ => by simp [D.dat] at h
theorem pys_eqv : ∀ ds es : List D, D.dats ds = true → D.dats es = true → PyData.eqvAll (D.pys ds) (D.pys es) = eqDs ds es
  | [], es, _, _ => by cases es <;> simp [D.pys, PyData.eqvAll, eqDs]
  | d :: ds, es, h1, h2 => by
    cases es with
    | nil => simp [D.pys, PyData.eqvAll, eqDs]
    | cons e es =>
      have h1' : d.dat = true ∧ D.dats ds = true := by simpa [D.dats] using h1
      have h2' : e.dat = true ∧ D.dats es = true := by simpa [D.dats] using h2
      simp only [D.pys, PyData.eqvAll, eqDs, py_eqv d e h1'.1 h2'.1, pys_eqv ds es h1'.2 h2'.2]
end
mutual
theorem rep_dp {C : Con} {g : Gh} {H : Hp} (hp : ∀ a o, g.P a = some o → H a = some o) : ∀ (d : D) (v : V), d.dat = true → Rep C g d v → Dp C.K H v d.py
  | .non, v, _, h => by unfold Rep at h; subst h; simp only [D.py]; exact .non
  | .bl b, v, _, h => by unfold Rep at h; subst h; simp only [D.py]; exact .bl b
  | .int i, v, _, h => by unfold Rep at h; subst h; simp only [D.py]; exact .int i
  | .str x, v, _, h => by unfold Rep at h; subst h; simp only [D.py]; exact .str x
  | .tup ds, v, hd, h => by
    unfold Rep at h
    obtain ⟨a, xs, rfl, s, r⟩ := h
    simp only [D.py]
    exact .tup (SqU.t (K := C.K) (.inl (hp _ _ s))) (reps_dp hp ds xs (by simpa [D.dat] using hd) r)
  | .lst ds, v, hd, h => by
    unfold Rep at h
    obtain ⟨a, xs, rfl, s, r⟩ := h
    simp only [D.py]
    exact .lst (SqL.of (hp _ _ s)) (reps_dp hp ds xs (by simpa [D.dat] using hd) r)
  | .ob _ _, _, h, _ => by simp [D.dat] at h
  | .cel _, _, h, _ => by simp [D.dat] at h
  | .cls _, _, h, _ => by simp [D.dat] at h
  | .ty _, _, h, _ => by simp [D.dat] at h
  | .scr _, _, h, _ => by simp [D.dat] at h
  | .dct _, _, h, _ => by simp [D.dat] at h
  | .dtt _, _, h, _ => by simp [D.dat] at h
  | .raw _, _, h, _ => by simp [D.dat] at h
  | .wtp _, _, h, _ => by simp [D.dat] at h
theorem reps_dp {C : Con} {g : Gh} {H : Hp} (hp : ∀ a o, g.P a = some o → H a = some o) : ∀ (ds : List D) (vs : List V), D.dats ds = true → Reps C g ds vs → DpAll C.K H vs (D.pys ds)
  | [], vs, _, h => by unfold Reps at h; subst h; simp only [D.pys]; exact .nil
  | d :: ds, vs, hd, h => by
    have hd' : d.dat = true ∧ D.dats ds = true := by simpa [D.dats] using hd
    unfold Reps at h
    obtain ⟨v, r, rfl, a, b⟩ := h
    simp only [D.pys]
    exact .cons (rep_dp hp d v hd'.1 a) (reps_dp hp ds r hd'.2 b)
end
section
variable {B : Bd} {X : Cx} {W : WX} {a b c e : Expr} {es : List Expr} {wa wb wc : WE} {ta : WA} {pos : Pos} {M : MT}
theorem repB_dp {g : Gh} {env : Envr} {st : Store} {σ : L2.St} {H : Hp} (bo : BOk B g env st σ H) {d : D} {v : V} (hd : d.dat = true) (h : RepB B g env σ d v) : Dp B.C.K H v d.py := by
  rcases h with h | ⟨i, ds, e1, rfl, e3⟩
  · exact rep_dp bo.ok.p d v hd h
  · obtain ⟨a, xs, h1, h2, h3, _⟩ := bo.en.own i ds e1
    rw [e3] at h1
    cases h1
    simp only [D.py]
    exact .lst (SqL.of h2) (reps_dp bo.ok.p ds xs (by simpa [D.dat] using hd) h3)
/-- two things that == takes as data -/
def DatOk (d1 d2 : D) : Prop := d1.dat = true ∧ d2.dat = true ∧ d1.dep ≤ 64 ∧ d2.dep ≤ 64
theorem shaped_of {d : D} (h : d.dat = true) (hd : d.dep ≤ 64) : SeqAt.shaped d.py = true := by
  unfold SeqAt.shaped
  rw [py_lay d h, py_dep d h]
  simpa using hd
def oEqD : O2 := fun d1 d2 st Q R => DatOk d1 d2 ∧ Q (.bl (eqD d1 d2)) st
def oNeD : O2 := fun d1 d2 st Q R => DatOk d1 d2 ∧ Q (.bl (!eqD d1 d2)) st
theorem opv_eqD (hK : X.K = B.C.K) : OpV B W (rEqD X.K) (fun d1 d2 st Q R => DatOk d1 d2 ∧ Q (.bl (eqD d1 d2)) st) := fun gb g Hb env st σ H d1 d2 x y Q R l bo rw r1 r2 q => by
  obtain ⟨⟨h1, h2, h3, h4⟩, q⟩ := q
  rw [hK]
  refine ⟨d1.py, d2.py, repB_dp bo h1 r1, repB_dp bo h2 r2, shaped_of h1 h3, shaped_of h2 h4, ?_⟩
  rw [py_eqv d1 d2 h1 h2]
  exact QV.same l bo rep_bl q
theorem og_neD (j : J B X W) : OpG B X W (compareOp .NotEq) oNeD := OpG.of (op_neD j.hu) fun gb g Hb env st σ H d1 d2 x y Q R l bo rw r1 r2 q => by
  obtain ⟨⟨h1, h2, h3, h4⟩, q⟩ := q
  rw [j.hK]
  refine ⟨d1.py, d2.py, repB_dp bo h1 r1, repB_dp bo h2 r2, shaped_of h1 h3, shaped_of h2 h4, ?_⟩
  rw [py_eqv d1 d2 h1 h2]
  exact QV.same l bo rep_bl q
theorem og_eqD (j : J B X W) : OpG B X W (compareOp .Eq) oEqD := OpG.of (op_eqD j.hu) (opv_eqD j.hK)
def oLt : O2 := fun d1 d2 st Q R => match d1, d2 with
  | .int i, .int j => Q (.bl (decide (i < j))) st
  | _, _ => False
def oLe : O2 := fun d1 d2 st Q R => match d1, d2 with
  | .int i, .int j => Q (.bl (decide (i ≤ j))) st
  | _, _ => False
def oGt : O2 := fun d1 d2 st Q R => match d1, d2 with
  | .int i, .int j => Q (.bl (decide (j < i))) st
  | _, _ => False
def oGe : O2 := fun d1 d2 st Q R => match d1, d2 with
  | .int i, .int j => Q (.bl (decide (j ≤ i))) st
  | _, _ => False
theorem og_le : OpG B X W (compareOp .LtE) oLe := OpG.of op_le fun gb g Hb env st σ H d1 d2 x y Q R l bo rw r1 r2 q => by
  unfold oLe at q
  split at q
  · have e1 := r1.intV; have e2 := r2.intV
    subst e1; subst e2
    exact ⟨_, _, rfl, rfl, QV.same l bo rep_bl q⟩
  · exact q.elim
theorem og_ge : OpG B X W (compareOp .GtE) oGe := OpG.of op_ge fun gb g Hb env st σ H d1 d2 x y Q R l bo rw r1 r2 q => by
  unfold oGe at q
  split at q
  · have e1 := r1.intV; have e2 := r2.intV
    subst e1; subst e2
    exact ⟨_, _, rfl, rfl, QV.same l bo rep_bl q⟩
  · exact q.elim
def D.isNon : D → Bool
  | .non => true | _ => false
def wIsN (w : WE) : WE := fun env st Q R => w env st (fun d st1 => Q (.bl d.isNon) st1) R
def wNotN (w : WE) : WE := fun env st Q R => w env st (fun d st1 => Q (.bl (!d.isNon)) st1) R
/-- a < b < c -/
def wChain (o o' : O2) (wa wb wc : WE) : WE := fun env st Q R => wa env st (fun d1 st1 => wb env st1 (fun d2 st2 => o d1 d2 st2 (fun z st3 => match z with
  | .bl true => wc env st3 (fun d3 st4 => o' d2 d3 st4 Q R) R
  | .bl false => Q (.bl false) st3
  | _ => False) R) R) R
theorem g_chain {op op' : CmpOp} {o o' : O2} (h : OpG B X W (compareOp op) o) (h' : OpG B X W (compareOp op') o') (ha : PBg B X W a wa) (hb : PBg B X W b wb) (hc : PBg B X W c wc)
    (hm : lastMarks [op, op'] [b, c] = false := by with_unfolding_all rfl) : PEg B X W (.Compare a [op, op'] [b, c] pos) (wChain o o' wa wb wc) := by
  refine ⟨fun pins s σ H g env st Q R I bo rw hw => ?_⟩
  refine Compare_chain (thn (ha.run pins s σ H g env st _ R I bo rw hw) fun v s1 ⟨x, H1, I1, rx, d1, st1, g1, l1, b1, r1, h1⟩ => chain_link (thn (hb.run pins s1 σ H1 g1 env st1 _ R I1 b1 rw h1) fun u s2 ⟨y, H2, I2, ry, d2, st2, g2, l2, b2, r2, h2⟩ =>
    thn (h g2 g2 H2 env st2 σ H2 d1 d2 x y v u pins s2 _ R (.refl g2 _) I2 b2 rw (r1.mono l2.le) r2 rx ry h2) fun d s3 ⟨z, H3, I3, rz, d3, st3, g3, l3, b3, r3, h3⟩ => ?_)) hm
  cases d3 with
  | bl k =>
    have e := r3.blV
    subst e
    cases rz
    refine wpAny_truthy_bool ?_
    cases k with
    | false => exact ite_ff ⟨.bl false, H3, I3, rfl, .bl false, st3, g3, l1.trans (l2.trans l3), b3, rep_bl, h3⟩
    | true =>
      refine ite_tt (chain_last (thn (hc.run pins s3 σ H3 g3 env st3 _ R I3 b3 rw h3) fun w' s4 ⟨z', H4, I4, r4, d4, st4, g4, l4, b4, r4', h4⟩ => ?_))
      exact h' g g4 H env st4 σ H4 d2 d4 y z' u w' pins s4 Q R (l1.trans (l2.trans (l3.trans l4))) I4 b4 rw (r2.mono (l3.trans l4).le) r4' ry r4 h4
  | _ => exact h3.elim
def oNeg (M : MT) : O1 := fun d st Q R => match d with
  | .int i => Q (.int (-i)) st
  | .ob c fs => callM M c .neg [.ob c fs] st Q R
  | _ => False
def UnG (B : Bd) (X : Cx) (W : WX) (f : Value → Sem Value) (o : O1) : Prop := ∀ (gb g : Gh) (Hb : Hp) (env : Envr) (st : Store) (σ : L2.St) (H : Hp) (d1 : D) (x : V) (v : Value) (pins : List (Addr × Obj)) (s : Shared) (Q : QE) (R : XQ), Nx gb Hb g H → Inv X pins σ H s → BOk B g env st σ H → RW B W env σ R →
  RepB B g env σ d1 x → RelV x v → o d1 st Q R → wpAny (model X.prog X.w) X.A (f v) (EP X pins σ (QV B gb Hb env σ Q)) X.xe s
theorem g_unop {op : UnaryOp} {o : O1} (h : UnG B X W (unaryOp op) o) (ha : PBg B X W a wa) : PEg B X W (.UnaryOp op a pos) (wUn o wa) := by
  refine ⟨fun pins s σ H g env st Q R I bo rw hw => ?_⟩
  refine UnaryOp_ (thn (ha.run pins s σ H g env st _ R I bo rw hw) fun v s1 ⟨x, H1, I1, rx, d1, st1, g1, l1, b1, r1, h1⟩ => ?_)
  exact h g g1 H env st1 σ H1 d1 x v pins s1 Q R l1 I1 b1 rw r1 rx h1
theorem og_neg (j : J B X W) (m : MOk B X M) : UnG B X W (unaryOp .USub) (oNeg M) := by
  intro gb g Hb env st σ H d1 x v pins s Q R l I bo rw r1 rx q
  unfold oNeg at q
  split at q
  · have e1 := r1.intV
    subst e1
    exact un_neg pins s σ H _ v _ I rx ⟨_, rfl, QV.same l bo rep_int q⟩
  · unfold callM at q
    split at q
    · rename_i φ hm
      obtain ⟨a, dx, fv, ex, ha, _, f1⟩ := rep_ob bo r1
      obtain ⟨f, hme, hc, hs, hw⟩ := met_call j m l bo rw I (Reps.cons f1 Reps.nil) (.cons rx .nil) hm q
      subst ex
      cases rx
      obtain ⟨od, mA, i1, _⟩ := inst_at I ha
      obtain ⟨mm, F⟩ := I.fr
      exact PySem.W.ksp_neg F I.mod.kin i1 hme.at_ hme.fn hw
    · exact q.elim
  · exact q.elim
/-- a value as a test -/
def oTru (M : MT) : D → Store → (Bool → Store → Prop) → XQ → Prop := fun d st Q R => match d with
  | .non => Q false st
  | .bl b => Q b st
  | .int i => Q (i != 0) st
  | .str y => y.length ≤ sizeLine ∧ Q ((y.length : Int) != 0) st
  | .lst xs => Q (!xs.isEmpty) st
  | .tup xs => Q (!xs.isEmpty) st
  | .ob c fs => callM M c .bool [.ob c fs] st (fun r st1 => match r with | .bl b => Q b st1 | _ => False) R
  | _ => False
def wTru (M : MT) (w : WE) : WT := fun env st Q R => w env st (fun d st1 => oTru M d st1 Q R) R
theorem reps_emp {C : Con} {g : Gh} {ds : List D} {vs : List V} (r : Reps C g ds vs) : (!vs.isEmpty) = !ds.isEmpty := by
  cases ds with
  | nil => unfold Reps at r; subst r; rfl
  | cons d ds => unfold Reps at r; obtain ⟨v, q, rfl, _⟩ := r; rfl
theorem gt_truth (j : J B X W) (m : MOk B X M) (h : PBg B X W e wa) (he : ∀ whole, isTrue e X.env whole = (do let v ← whole; standAt e.pos; holding [v] (truthy v)) := by intro _; rfl) : PTg B X W e (wTru M wa) := by
  refine ⟨fun pins s σ H g env st Q R I bo rw hw => ?_⟩
  refine isTrue_plain (thn (h.run pins s σ H g env st _ R I bo rw hw) fun v s1 ⟨x, H1, I1, rx, d1, st1, g1, l1, b1, r1, h1⟩ => ?_) (he _)
  have fin : ∀ {k : Bool}, TruV X.K x H1 k → Q k st1 → wpAny (model X.prog X.w) X.A (truthy v) (TP X pins σ (QB B g H env σ Q)) X.xe s1 := fun {k} t q => tru_ok pins s1 σ H1 x v _ I1 rx ⟨k, t, st1, g1, l1, b1, q⟩
  cases d1 with
  | non => have e := r1.nonV; subst e; exact fin (k := false) rfl h1
  | bl b => have e := r1.blV; subst e; exact fin (k := b) rfl h1
  | int i => have e := r1.intV; subst e; exact fin (k := (i != 0)) rfl h1
  | str y => have e := r1.strV; subst e; exact fin (k := _) ⟨h1.1, rfl⟩ h1.2
  | lst ds =>
    obtain ⟨a, xs, e, hx, r⟩ := r1.lstV b1
    subst e
    exact fin (k := !ds.isEmpty) (.inl ⟨xs, SqL.of hx, (reps_emp r).symm⟩) h1
  | tup ds =>
    obtain ⟨a, xs, e, hx, r⟩ := r1.tupV b1
    subst e
    exact fin (k := !ds.isEmpty) (.inr (.inl ⟨xs, by rw [j.hK]; exact hx.t, (reps_emp r).symm⟩)) h1
  | ob c fs =>
    have q : callM M c .bool [.ob c fs] st1 _ R := h1
    unfold callM at q
    split at q
    · rename_i φ hm
      obtain ⟨a, dx, fv, ex, ha, _, f1⟩ := rep_ob b1 r1
      obtain ⟨f, hme, hc, hs, hw⟩ := met_call j m l1 b1 rw I1 (Reps.cons f1 Reps.nil) (.cons rx .nil) hm q
      subst ex
      cases rx
      obtain ⟨od, mA, i1, _⟩ := inst_at I1 ha
      obtain ⟨mm, F⟩ := I1.fr
      refine PySem.W.truthy_K F I1.mod.kin i1 hme.at_ hme.fn (thn hw fun r s2 ⟨z, H2, I2, rz, d2, st2, g2, l2, b2, r2, h2⟩ => ?_)
      cases d2 with
      | bl k =>
        have e := r2.blV
        subst e
        cases rz
        exact ⟨H2, I2, st2, g2, l2, b2, h2⟩
      | _ => exact h2.elim
    · exact q.elim
  | _ => exact h1.elim
end
end G
namespace G
open PySem PySem.Spec PyProof.Rows L2
section
variable {B : Bd} {X : Cx} {W : WX} {a b c e : Expr} {es : List Expr} {wa wb wc : WE} {ta : WA} {pos : Pos} {M : MT}
def oIx : O2 := fun d1 d2 st Q R => match d1, d2 with
  | .lst xs, .int i => (match atI xs i with | some d => Q d st | none => False)
  | .tup xs, .int i => (match atI xs i with | some d => Q d st | none => False)
  | .str z, .int i => z.length ≤ sizeLine ∧ (match atI z.cps.toList i with | some c => Q (.str ⟨#[c]⟩) st | none => False)
  | .cel n, .int i => (match st[n]? with | some (.lst xs) => (match atI xs i with | some d => Q d st | none => False) | _ => False)
  | _, _ => False
theorem atI_rep {C : Con} {g : Gh} {ds : List D} {vs : List V} {i : Int} {d : D} (r : Reps C g ds vs) (h : atI ds i = some d) : ∃ v, atI vs i = some v ∧ Rep C g d v := by
  unfold atI at h ⊢
  rw [← r.length]
  cases e : ixN ds.length i with
  | none => rw [e] at h; cases h
  | some j =>
    rw [e] at h
    exact r.get h
theorem g_ix (j : J B X W) (ha : PBg B X W a wa) (hb : PBg B X W b wb) (hs : PlainIx b := by first | (intro _ _; rfl) | (exact fun _ _ => rfl)) : PEg B X W (.Subscript a b pos) (wBin oIx wa wb) := by
  refine g_two (r := rIx X.K) (fun _ _ h1 h2 => pe_ix ix_seq h1 h2 hs) ?_ ha hb
  intro gb g Hb env st σ H d1 d2 x y Q R l bo rw r1 r2 q
  unfold oIx at q
  split at q
  · rename_i ds i
    have e2 := r2.intV
    subst e2
    split at q
    · rename_i d hd
      obtain ⟨p, xs, e, hx, r⟩ := r1.lstV bo
      obtain ⟨v, h1, h2⟩ := atI_rep r hd
      exact .inl ⟨p, xs, i, v, e, rfl, SqL.of hx, h1, QV.same l bo h2 q⟩
    · exact q.elim
  · rename_i ds i
    have e2 := r2.intV
    subst e2
    split at q
    · rename_i d hd
      obtain ⟨p, xs, e, hx, r⟩ := r1.tupV bo
      obtain ⟨v, h1, h2⟩ := atI_rep r hd
      exact .inr (.inl ⟨p, xs, i, v, e, rfl, by rw [j.hK]; exact hx.t, h1, QV.same l bo h2 q⟩)
    · exact q.elim
  · rename_i z i
    have e1 := r1.strV
    have e2 := r2.intV
    subst e1; subst e2
    obtain ⟨q1, q⟩ := q
    split at q
    · rename_i c hc
      exact .inr (.inr ⟨z, i, c, rfl, rfl, q1, hc, QV.same l bo rep_str q⟩)
    · exact q.elim
  · rename_i n i
    have e2 := r2.intV
    subst e2
    split at q
    · rename_i ds hn
      split at q
      · rename_i d hd
        obtain ⟨p, e, ha, hc⟩ := r1.celV bo
        obtain ⟨xs, hx, r⟩ := hc _ hn
        obtain ⟨v, h1, h2⟩ := atI_rep r hd
        exact .inl ⟨p, xs, i, v, e, rfl, SqL.of hx, h1, QV.same l bo h2 q⟩
      · exact q.elim
    · exact q.elim
  · exact q.elim
def cutD (xs : List D) (lo hi : Option Int) : List D := (xs.drop (HT.sIx xs.length 0 lo)).take (HT.sIx xs.length xs.length hi - HT.sIx xs.length 0 lo)
theorem cut_rep {C : Con} {g : Gh} {ds : List D} {vs : List V} {lo hi : Option Int} (r : Reps C g ds vs) : Reps C g (cutD ds lo hi) (cutV vs lo hi) := by
  unfold cutD cutV
  rw [← r.length]
  exact (r.drop _).take _
abbrev WO := Envr → Store → (Option Int → Store → Prop) → XQ → Prop
structure POg (B : Bd) (X : Cx) (W : WX) (e : Option Expr) (w : WO) : Prop where
  po : PO X e (fun σ H Q => ∃ g env st Qg R, BOk B g env st σ H ∧ RW B W env σ R ∧ w env st Qg R ∧ ∀ o H', (∃ st' g', Nx g H g' H' ∧ BOk B g' env st' σ H' ∧ Qg o st') → Q o H')
def woNone : WO := fun _ st Q _ => Q none st
def woSome (w : WE) : WO := fun env st Q R => w env st (fun d st1 => match d with | .int i => Q (some i) st1 | _ => False) R
theorem go_none : POg B X W none woNone := ⟨⟨fun pins s σ H Q I ⟨g, env, st, Qg, R, bo, rw, hw, k⟩ => (po_none (X := X)).run pins s σ H Q I (k none H ⟨st, g, .refl g _, bo, hw⟩)⟩⟩
theorem go_some (h : PEg B X W e wa) : POg B X W (some e) (woSome wa) := ⟨⟨fun pins s σ H Q I ⟨g, env, st, Qg, R, bo, rw, hw, k⟩ => (po_some h.pe).run pins s σ H Q I ⟨g, env, st, _, R, bo, rw, hw, fun x H1 ⟨d, st1, g1, l1, b1, r1, h1⟩ => by
  cases d with
  | int i =>
    have e := r1.intV
    subst e
    exact ⟨i, rfl, k _ _ ⟨st1, g1, l1, b1, h1⟩⟩
  | _ => exact h1.elim⟩⟩⟩
def oSl : D → Option Int → Option Int → Store → QE → XQ → Prop := fun d lo hi st Q R => match d with
  | .lst xs => Q (.lst (cutD xs lo hi)) st
  | .scr xs => Q (.lst (cutD xs lo hi)) st
  | .tup xs => ¬ (HT.sIx xs.length 0 lo = 0 ∧ HT.sIx xs.length xs.length hi = xs.length) ∧ Q (.tup (cutD xs lo hi)) st
  | _ => False
def wSl (wa : WE) (wl wh : WO) : WE := fun env st Q R => wa env st (fun d st1 => wl env st1 (fun l st2 => wh env st2 (fun h st3 => oSl d l h st3 Q R) R) R) R
theorem g_sl (j : J B X W) {lo hi : Option Expr} {wl wh : WO} {p2 : Pos} (ha : PBg B X W a wa) (hl : POg B X W lo wl) (hh : POg B X W hi wh) : PEg B X W (.Subscript a (.Slice lo hi none p2) pos) (wSl wa wl wh) := by
  refine PEg.of (pe_slice (sl_list.or sl_tup) ha.pe hl.po hh.po) fun σ H g env st Q R bo rw hw => ?_
  refine ⟨g, env, st, _, R, bo, rw, hw, fun x H1 ⟨d, st1, g1, l1, b1, r1, h1⟩ => ?_⟩
  refine ⟨g1, env, st1, _, R, b1, rw, h1, fun lo' H2 ⟨st2, g2, l2, b2, h2⟩ => ?_⟩
  refine ⟨g2, env, st2, _, R, b2, rw, h2, fun hi' H3 ⟨st3, g3, l3, b3, h3⟩ => ?_⟩
  have r3 := r1.mono (l2.trans l3).le
  have l := l1.trans (l2.trans l3)
  unfold oSl at h3
  split at h3
  · rename_i ds
    obtain ⟨p, xs, e, hx, r⟩ := r3.lstV b3
    exact .inl ⟨p, xs, e, SqL.of hx, fun p' hp => QV.lst j.ck l b3 (cut_rep r) h3 hp⟩
  · rename_i ds
    obtain ⟨p, xs, e, hx, r⟩ := (r3.full fun ds z => by cases z).scrV
    exact .inl ⟨p, xs, e, by rw [j.hK]; exact Same.sqL b3.ok.p hx, fun p' hp => QV.lst j.ck l b3 (cut_rep r) h3 hp⟩
  · rename_i ds
    obtain ⟨p, xs, e, hx, r⟩ := r3.tupV b3
    refine .inr ⟨p, xs, e, by rw [j.hK]; exact hx.t, by rw [← r.length]; exact h3.1, fun p' hp => QV.tup j.ck l b3 (cut_rep r) h3.2 hp⟩
  · exact h3.elim
theorem repsB1 {g : Gh} {env : Envr} {σ : L2.St} {d : D} {xs : List V} (h : RepsB B g env σ [d] xs) : ∃ x, xs = [x] ∧ RepB B g env σ d x := by
  obtain ⟨v, r, e, a, b⟩ := h
  have b' : r = [] := b
  subst b'
  exact ⟨v, e, a⟩
theorem g_blt {x : Str} {p : Pos} {id : String} {r : List V → Hp → VK → Prop} {o : ON} (hc : CallR X (.builtin id) r) (ov : NV B W r o) (hg : Gl X x) (hm : X.mg x = none) (hv : bootBuiltins x = some (.builtin id)) (ha : PAb B X W (e :: es) ta) (hn : x ≠ "__name__" := by decide +kernel) (hdb : (x == ("__debug__" : Str)) = false := by decide +kernel)
    (he : starEach (e :: es) X.env = (false, eval e X.env) :: starEach es X.env := by rfl) (hpl : (backTo pos (starEach es X.env)).any (·.1) = false := by rfl) : PEg B X W (.Call (.Name x p) (e :: es) [] pos) (wArgs o ta) :=
  g_many (fun t h => pe_callB hc hg hm hv h hn hdb he hpl) ov ha
theorem g_bty {x : Str} {p : Pos} {T : String} {r : List V → Hp → VK → Prop} {o : ON} (hc : CallR X (.type T) r) (ov : NV B W r o) (hg : Gl X x) (hm : X.mg x = none) (hv : bootBuiltins x = some (.type T)) (ha : PAb B X W (e :: es) ta) (hn : x ≠ "__name__" := by decide +kernel) (hdb : (x == ("__debug__" : Str)) = false := by decide +kernel)
    (he : starEach (e :: es) X.env = (false, eval e X.env) :: starEach es X.env := by rfl) (hpl : (backTo pos (starEach es X.env)).any (·.1) = false := by rfl) : PEg B X W (.Call (.Name x p) (e :: es) [] pos) (wArgs o ta) :=
  g_many (fun t h => pe_callTy hc hg hm hv h hn hdb he hpl) ov ha
def oLen : ON := fun ds st Q R => match ds with
  | [.lst xs] => Q (.int xs.length) st
  | [.tup xs] => Q (.int xs.length) st
  | [.str y] => y.length ≤ sizeLine ∧ Q (.int y.length) st
  | _ => False
theorem ov_len (hK : X.K = B.C.K) : NV B W (fun xs H Q => ∃ x n, xs = [x] ∧ LenV X.K x H n ∧ Q (.int n) H) oLen := by
  intro gb g Hb env st σ H ds xs Q R l bo rw r q
  unfold oLen at q
  split at q
  · obtain ⟨x, rfl, r1⟩ := repsB1 r
    obtain ⟨p, vs, rfl, hx, r2⟩ := r1.lstV bo
    exact ⟨_, vs.length, rfl, .inl ⟨vs, SqL.of hx, rfl⟩, by rw [← r2.length]; exact QV.same l bo rep_int q⟩
  · obtain ⟨x, rfl, r1⟩ := repsB1 r
    obtain ⟨p, vs, rfl, hx, r2⟩ := r1.tupV bo
    exact ⟨_, vs.length, rfl, .inr ⟨vs, by rw [hK]; exact hx.t, rfl⟩, by rw [← r2.length]; exact QV.same l bo rep_int q⟩
  · obtain ⟨x, rfl, r1⟩ := repsB1 r
    have e := r1.strV
    subst e
    exact ⟨_, _, rfl, ⟨q.1, rfl⟩, QV.same l bo rep_int q.2⟩
  · exact q.elim
def oAbs : ON := fun ds st Q R => match ds with
  | [.int i] => Q (.int (if i < 0 then -i else i)) st
  | _ => False
def oInt : ON := fun ds st Q R => match ds with
  | [.int i] => Q (.int i) st
  | [.bl k] => Q (.int (if k then 1 else 0)) st
  | _ => False
theorem ov_int : NV B W (fun xs H Q => (∃ i, xs = [.int i] ∧ Q (.int i) H) ∨ ∃ k, xs = [.bl k] ∧ Q (.int (if k then 1 else 0)) H) oInt := by
  intro gb g Hb env st σ H ds xs Q R l bo rw r q
  unfold oInt at q
  split at q
  · obtain ⟨x, rfl, r1⟩ := repsB1 r
    have e := r1.intV
    subst e
    exact .inl ⟨_, rfl, QV.same l bo rep_int q⟩
  · obtain ⟨x, rfl, r1⟩ := repsB1 r
    have e := r1.blV
    subst e
    exact .inr ⟨_, rfl, QV.same l bo rep_int q⟩
  · exact q.elim
def oList : ON := fun ds st Q R => match ds with
  | [.lst xs] => Q (.lst xs) st
  | [.tup xs] => Q (.lst xs) st
  | _ => False
theorem ov_list (j : J B X W) : NV B W (fun xs H Q => ∃ p ys, xs = [.ref p] ∧ (SqL X.K H p ys ∨ SqT X.K H p ys) ∧ ∀ l, H l = none → Q (.ref l) (upd H l (.lst ys))) oList := by
  intro gb g Hb env st σ H ds xs Q R l bo rw r q
  unfold oList at q
  split at q
  · obtain ⟨x, rfl, r1⟩ := repsB1 r
    obtain ⟨p, vs, rfl, hx, r2⟩ := r1.lstV bo
    exact ⟨p, vs, rfl, .inl (SqL.of hx), fun p' hp => QV.lst j.ck l bo r2 q hp⟩
  · obtain ⟨x, rfl, r1⟩ := repsB1 r
    obtain ⟨p, vs, rfl, hx, r2⟩ := r1.tupV bo
    exact ⟨p, vs, rfl, .inr (by rw [j.hK]; exact hx.t), fun p' hp => QV.lst j.ck l bo r2 q hp⟩
  · exact q.elim
def oTuple : ON := fun ds st Q R => match ds with
  | [.lst xs] => Q (.tup xs) st
  | [.tup xs] => Q (.tup xs) st
  | _ => False
def D.bls : List D → Option (List Bool)
  | [] => some []
  | .bl b :: ds => (D.bls ds).map (b :: ·)
  | _ => none
theorem bls_rep {C : Con} {g : Gh} : ∀ {ds : List D} {vs : List V} {bs : List Bool}, Reps C g ds vs → D.bls ds = some bs → vs = bs.map V.bl
  | [], vs, bs, r, h => by unfold Reps at r; subst r; simp [D.bls] at h; subst h; rfl
  | d :: ds, vs, bs, r, h => by
    unfold Reps at r
    obtain ⟨v, q, rfl, a, b⟩ := r
    cases d with
    | bl k =>
      simp only [D.bls, Option.map_eq_some_iff] at h
      obtain ⟨cs, h1, rfl⟩ := h
      rw [a.blV, bls_rep b h1]
      rfl
    | _ => simp [D.bls] at h
def D.ints : List D → Option (List Int)
  | [] => some []
  | .int b :: ds => (D.ints ds).map (b :: ·)
  | _ => none
theorem ints_rep {C : Con} {g : Gh} : ∀ {ds : List D} {vs : List V} {bs : List Int}, Reps C g ds vs → D.ints ds = some bs → vs = bs.map V.int
  | [], vs, bs, r, h => by unfold Reps at r; subst r; simp [D.ints] at h; subst h; rfl
  | d :: ds, vs, bs, r, h => by
    unfold Reps at r
    obtain ⟨v, q, rfl, a, b⟩ := r
    cases d with
    | int k =>
      simp only [D.ints, Option.map_eq_some_iff] at h
      obtain ⟨cs, h1, rfl⟩ := h
      rw [a.intV, ints_rep b h1]
      rfl
    | _ => simp [D.ints] at h
theorem rep_ints {C : Con} {g : Gh} : ∀ ns : List Int, Reps C g (ns.map D.int) (ns.map V.int)
  | [] => Reps.nil
  | n :: ns => Reps.cons rep_int (rep_ints ns)
def oAll : ON := fun ds st Q R => match ds with
  | [.lst xs] => (match D.bls xs with | some bs => Q (.bl (bs.all id)) st | none => False)
  | _ => False
def oAny : ON := fun ds st Q R => match ds with
  | [.lst xs] => (match D.bls xs with | some bs => Q (.bl (bs.any id)) st | none => False)
  | _ => False
def oSum : ON := fun ds st Q R => match ds with
  | [.lst xs] => (match D.ints xs with | some ns => Q (.int ns.sum) st | none => False)
  | _ => False
end
end G
namespace G
open PySem PySem.Spec PyProof.Rows L2
section
variable {B : Bd} {X : Cx} {W : WX} {a b c e : Expr} {es : List Expr} {wa wb wc : WE} {ta : WA} {pos : Pos} {M : MT}
theorem ov_all (hK : X.K = B.C.K) : NV B W (rAll X.K) oAll := by
  intro gb g Hb env st σ H ds xs Q R l bo rw r q
  unfold oAll at q
  split at q
  · split at q
    · rename_i bs hb
      obtain ⟨x, rfl, r1⟩ := repsB1 r
      obtain ⟨p, vs, rfl, hx, r2⟩ := r1.lstV bo
      exact ⟨p, bs, rfl, by rw [← bls_rep r2 hb]; exact SqL.of hx, QV.same l bo rep_bl q⟩
    · exact q.elim
  · exact q.elim
theorem BOk.setVal {g : Gh} {env : Envr} {st : Store} {σ : L2.St} {H : Hp} (bo : BOk B g env st σ H) {d : D} {v : V} (r : Rep B.C g d v) (i : Nat) : BOk B g (env.set i (.val d)) st (σ.set i (some v)) H := by
  refine ⟨bo.ok, bo.nx, ⟨by rw [List.length_set, List.length_set]; exact bo.en.len, fun k d' h => ?_, fun k ds h => ?_, fun k m ds es a hkm h1 h2 h3 => ?_⟩⟩
  · by_cases hk : i = k
    · subst hk
      by_cases hi : i < env.length
      · rw [List.getElem?_set_self hi] at h
        cases h
        exact ⟨v, List.getElem?_set_self (by rw [← bo.en.len]; exact hi), r⟩
      · rw [List.set_eq_of_length_le (by omega)] at h
        rw [List.set_eq_of_length_le (by rw [← bo.en.len]; omega)]
        exact bo.en.val i d' h
    · rw [List.getElem?_set_ne hk] at h ⊢
      exact bo.en.val k d' h
  · by_cases hk : i = k
    · subst hk
      by_cases hi : i < env.length
      · rw [List.getElem?_set_self hi] at h
        cases h
      · rw [List.set_eq_of_length_le (by omega)] at h
        rw [List.set_eq_of_length_le (by rw [← bo.en.len]; omega)]
        exact bo.en.own i ds h
    · rw [List.getElem?_set_ne hk] at h ⊢
      exact bo.en.own k ds h
  · have nk : ∀ m' es', (env.set i (Slot.val d))[m']? = some (Slot.own es') → env[m']? = some (Slot.own es') ∧ (σ.set i (some v))[m']? = σ[m']? := fun m' es' h => by
      by_cases hk : i = m'
      · subst hk
        by_cases hi : i < env.length
        · rw [List.getElem?_set_self hi] at h
          cases h
        · rw [List.set_eq_of_length_le (by omega)] at h
          rw [List.set_eq_of_length_le (by rw [← bo.en.len]; omega)]
          exact ⟨h, rfl⟩
      · rw [List.getElem?_set_ne hk] at h ⊢
        exact ⟨h, rfl⟩
    obtain ⟨p1, p2⟩ := nk k ds h1
    obtain ⟨q1, q2⟩ := nk m es h2
    rw [p2] at h3
    rw [q2]
    exact bo.en.dis k m ds es a hkm p1 q1 h3
/-- a list of the frame's own changes -/
theorem BOk.chOwn {g : Gh} {env : Envr} {st : Store} {σ : L2.St} {H : Hp} (ck : ConOk B.C) (bo : BOk B g env st σ H) {i : Nat} {ds ds' : List D} {xs' : List V} {a : Addr} (h : env[i]? = some (Slot.own ds)) (hs : σ[i]? = some (some (V.ref a))) (r : Reps B.C g ds' xs') : BOk B g (env.set i (.own ds')) st σ (upd H a (.lst xs')) := by
  obtain ⟨a', xs, h1, h2, h3, h4, h5, h6⟩ := bo.en.own i ds h
  rw [hs] at h1
  cases h1
  have hi : i < env.length := (List.getElem?_eq_some_iff.mp h).1
  have tt : B.C.TT (upd H a (.lst xs')) := ck.tt H _ bo.ok.tab fun b o q t => by
    rw [upd_ne (fun z => by rw [z, h2] at q; cases q; exact t)]; exact q
  have ne : ∀ b, g.P b ≠ none → b ≠ a := fun b q z => q (by rw [z]; exact h4)
  have nc : ∀ n b, g.ad n = some b → b ≠ a := fun n b q z => h5 n (by rw [← z]; exact q)
  refine ⟨⟨fun b o q => ?_, bo.ok.nt, bo.ok.np, bo.ok.inj, fun n c q => ?_, bo.ok.dom, tt⟩, ⟨bo.nx.le, fun b o q t c => ?_, fun b q => ?_, bo.nx.nc, bo.nx.np⟩, ⟨by rw [List.length_set]; exact bo.en.len, fun k d q => ?_, fun k es q => ?_, fun k m ds1 es1 b hkm q1 q2 q3 => ?_⟩⟩
  · rw [upd_ne (ne b (by rw [q]; simp))]; exact bo.ok.p b o q
  · obtain ⟨b, q1, q2⟩ := bo.ok.cell n c q
    exact ⟨b, q1, q2.mono (.refl g) (upd_ne (nc n b q1))⟩
  · have hb : b ≠ a := fun z => by rw [z, h6] at q; cases q
    rw [upd_ne hb]
    exact bo.nx.kp b o q t c
  · by_cases hb : b = a
    · rw [hb]; exact h6
    · rw [upd_ne hb] at q; exact bo.nx.dm b q
  · by_cases hk : i = k
    · subst hk
      rw [List.getElem?_set_self hi] at q
      cases q
    · rw [List.getElem?_set_ne hk] at q
      exact bo.en.val k d q
  · by_cases hk : i = k
    · subst hk
      rw [List.getElem?_set_self hi] at q
      cases q
      exact ⟨a, xs', hs, upd_same, r, h4, h5, h6⟩
    · rw [List.getElem?_set_ne hk] at q
      obtain ⟨b, ys, q1, q2, q3⟩ := bo.en.own k es q
      have hb : b ≠ a := fun z => by
        rw [z] at q1
        exact bo.en.dis i k ds es a hk h q hs q1
      exact ⟨b, ys, q1, by rw [upd_ne hb]; exact q2, q3⟩
  · have nk : ∀ m' es', (env.set i (Slot.own ds'))[m']? = some (Slot.own es') → ∃ es2, env[m']? = some (Slot.own es2) := fun m' es' q => by
      by_cases hk : i = m'
      · subst hk; exact ⟨ds, h⟩
      · rw [List.getElem?_set_ne hk] at q; exact ⟨es', q⟩
    obtain ⟨e1, p1⟩ := nk k ds1 q1
    obtain ⟨e2, p2⟩ := nk m es1 q2
    exact bo.en.dis k m e1 e2 b hkm p1 p2 q3
theorem BOk.ownAt {g : Gh} {env : Envr} {st : Store} {σ : L2.St} {H : Hp} (bo : BOk B g env st σ H) {i : Nat} {ds : List D} (h : env[i]? = some (Slot.own ds)) : ∃ (a : Addr) (xs : List V), σ[i]? = some (some (V.ref a)) ∧ H a = some (.lst xs) ∧ Reps B.C g ds xs := by
  obtain ⟨a, xs, h1, h2, h3, _⟩ := bo.en.own i ds h
  exact ⟨a, xs, h1, h2, h3⟩
/-- a list of the frame's own is not changed any more -/
def frz1 (env : Envr) (i : Nat) : Envr := match env[i]? with
  | some (Slot.own ds) => env.set i (.val (.lst ds))
  | _ => env
theorem BOk.frz1 {g : Gh} {env : Envr} {st : Store} {σ : L2.St} {H : Hp} (bo : BOk B g env st σ H) (i : Nat) : ∃ g', g.le g' ∧ BOk B g' (G.frz1 env i) st σ H := by
  unfold G.frz1
  split
  · rename_i ds h
    obtain ⟨a, xs, h1, h2, h3, h4, h5, h6⟩ := bo.en.own i ds h
    have l : g.le (g.add a (.lst xs)) := Gh.le_add h4
    have at_ : ∀ b, b ≠ a → (g.add a (.lst xs)).P b = g.P b := fun b hb => upd_ne hb
    have ata : (g.add a (.lst xs)).P a = some (.lst xs) := upd_same
    have b1 : BOk B (g.add a (.lst xs)) env st σ H ∨ True := .inr trivial
    have hi : i < env.length := (List.getElem?_eq_some_iff.mp h).1
    refine ⟨_, l, ⟨fun b o q => ?_, fun b ps q => ?_, fun n b q => ?_, bo.ok.inj, fun n c q => ?_, bo.ok.dom, bo.ok.tab⟩, ⟨bo.nx.le.trans l, bo.nx.kp, bo.nx.dm, bo.nx.nc, fun b o q => ?_⟩, ⟨by rw [List.length_set]; exact bo.en.len, fun k d q => ?_, fun k es q => ?_, fun k m ds1 es1 b hkm q1 q2 q3 => ?_⟩⟩
    · by_cases hb : b = a
      · subst hb; rw [ata] at q; cases q; exact h2
      · rw [at_ b hb] at q; exact bo.ok.p b o q
    · by_cases hb : b = a
      · subst hb; rw [ata] at q; cases q
      · rw [at_ b hb] at q; exact bo.ok.nt b ps q
    · rw [at_ b (fun z => h5 n (by rw [← z]; exact q))]; exact bo.ok.np n b q
    · obtain ⟨b, q1, q2⟩ := bo.ok.cell n c q
      exact ⟨b, q1, q2.mono l rfl⟩
    · by_cases hb : b = a
      · subst hb; exact .inr h6
      · rw [at_ b hb] at q; exact bo.nx.np b o q
    · by_cases hk : i = k
      · subst hk
        rw [List.getElem?_set_self hi] at q
        cases q
        refine ⟨_, h1, ?_⟩
        unfold Rep
        exact ⟨a, xs, rfl, ata, h3.mono l⟩
      · rw [List.getElem?_set_ne hk] at q
        obtain ⟨v, q1, q2⟩ := bo.en.val k d q
        exact ⟨v, q1, q2.mono l⟩
    · by_cases hk : i = k
      · subst hk
        rw [List.getElem?_set_self hi] at q
        cases q
      · rw [List.getElem?_set_ne hk] at q
        obtain ⟨b, ys, q1, q2, q3, q4, q5⟩ := bo.en.own k es q
        have hb : b ≠ a := fun z => by
          rw [z] at q1
          exact bo.en.dis i k ds es a hk h q h1 q1
        exact ⟨b, ys, q1, q2, q3.mono l, by rw [at_ b hb]; exact q4, q5⟩
    · have nk : ∀ m' es', (env.set i (Slot.val (.lst ds)))[m']? = some (Slot.own es') → env[m']? = some (Slot.own es') := fun m' es' q => by
        by_cases hk : i = m'
        · subst hk; rw [List.getElem?_set_self hi] at q; cases q
        · rw [List.getElem?_set_ne hk] at q; exact q
      exact bo.en.dis k m ds1 es1 b hkm (nk _ _ q1) (nk _ _ q2) q3
  · exact ⟨g, .refl g, bo⟩
def frz (is : List Nat) (env : Envr) : Envr := is.foldl G.frz1 env
end
end G
namespace G
open PySem PySem.Spec PyProof.Rows L2
section
variable {B : Bd} {X : Cx} {W : WX} {a b c e : Expr} {es : List Expr} {wa wb wc : WE} {ta : WA} {pos : Pos} {M : MT} {stm : Stmt} {rest : List Stmt} {w u : WS}
def xe (D : EW) (env : Envr) : XQ := fun x st => D.ex x env st
theorem SP.le {pins : List (Addr × Obj)} {g g1 : Gh} {D : EW} {f : Flow} {s : Shared} (l : g.le g1) (h : SP X pins (EndsOf B g1 D) f s) : SP X pins (EndsOf B g D) f s :=
  SP.imp h (fun _ _ z => QN.le l z) (fun _ _ z => QR.le l z) (fun _ _ z => QN.le l z) (fun _ _ z => QN.le l z)
def wNext : WS := fun env st D => D.nx env st
def wSeq (w u : WS) : WS := fun env st D => w env st { D with nx := fun env' st' => u env' st' D }
theorem gss_nil : PSsg B X W [] wNext := ⟨fun pins s σ H g env st D I bo rw hw => wpAny_execs_nil ⟨σ, H, I, env, st, g, .refl g, bo, hw⟩⟩
theorem gss_cons (h1 : PSg B X W stm w) (h2 : PSsg B X W rest u) : PSsg B X W (stm :: rest) (wSeq w u) := by
  refine ⟨fun pins s σ H g env st D I bo rw hw => ?_⟩
  refine wpAny_execs_cons (thn (h1.run pins s σ H g env st { D with nx := fun env' st' => u env' st' D } I bo rw hw) fun f s1 q => ?_)
  cases f with
  | next =>
    obtain ⟨σ', H', I', env', st', g', l', b', q⟩ := q
    exact thn (h2.run pins s1 σ' H' g' env' st' D I' b' rw q) fun _ _ z => SP.le l' z
  | ret v => exact q
  | brk => exact q
  | cont => exact q
theorem gss_one (h1 : PSg B X W stm w) : PSsg B X W [stm] w := by
  refine ⟨fun pins s σ H g env st D I bo rw hw => ?_⟩
  refine wpAny_execs_cons (thn (h1.run pins s σ H g env st D I bo rw hw) fun f s1 q => ?_)
  cases f with
  | next => exact wpAny_execs_nil q
  | ret v => exact q
  | brk => exact q
  | cont => exact q
/-- ahead of the statement some lists of the frame's own are frozen -/
def wFrz (is : List Nat) (w : WS) : WS := fun env st D => w (frz is env) st D
def wBrk : WS := fun env st D => D.bk env st
def wCnt : WS := fun env st D => D.ct env st
def wNever : WS := fun _ _ _ => False
def wExpr (wa : WE) : WS := fun env st D => wa env st (fun _ st1 => D.nx env st1) (xe D env)
theorem gs_expr (h : PBg B X W e wa) (hs : swapsWith e none pos.line X.env = pure false := by rfl) : PSg B X W (.Expr e pos) (wExpr wa) :=
  PSg.of (ps_expr h.pe hs) fun σ H g env st D bo rw hw => ⟨g, env, st, _, _, bo, rw.at env σ, hw, fun x H1 ⟨d, st1, g1, l1, b1, r1, h1⟩ => ⟨env, st1, g1, l1.le, b1, h1⟩⟩
def wRet (wa : WE) : WS := fun env st D => wa env st D.rt (xe D env)
theorem gs_ret (h : PEg B X W e wa) : PSg B X W (.Return (some e) pos) (wRet wa) :=
  PSg.of (ps_ret h.pe) fun σ H g env st D bo rw hw => ⟨g, env, st, _, _, bo, rw.at env σ, hw, fun x H1 ⟨d, st1, g1, l1, b1, r1, h1⟩ => ⟨d, st1, g1, l1.le, b1.ok, b1.nx, r1, h1⟩⟩
def wRetN : WS := fun env st D => D.rt .non st
def wIfS (t : WT) (w u : WS) : WS := fun env st D => t env st (fun b st1 => if b = true then w env st1 D else u env st1 D) (xe D env)
theorem gs_if {t : WT} {sa sb : List Stmt} (hc : PTg B X W c t) (ha : PSsg B X W sa w) (hb : PSsg B X W sb u) : PSg B X W (.If c sa sb pos) (wIfS t w u) := by
  refine ⟨fun pins s σ H g env st D I bo rw hw => ?_⟩
  refine wpAny_If (thn (hc.run pins s σ H g env st _ _ I bo (rw.at env σ) hw) fun d s1 ⟨H1, I1, st1, g1, l1, b1, q1⟩ => ?_)
  cases d with
  | true => exact thn (ha.run pins s1 σ H1 g1 env st1 D I1 b1 rw q1) fun _ _ z => SP.le l1.le z
  | false => exact thn (hb.run pins s1 σ H1 g1 env st1 D I1 b1 rw q1) fun _ _ z => SP.le l1.le z
abbrev WG := D → Envr → Store → (Envr → Store → Prop) → Prop
abbrev WGs := List D → Envr → Store → (Envr → Store → Prop) → Prop
def QNx (B : Bd) (g : Gh) (H : Hp) (Q : Envr → Store → Prop) : L2.St → Hp → Prop := fun σ' H' => ∃ env' st' g', Nx g H g' H' ∧ BOk B g' env' st' σ' H' ∧ Q env' st'
theorem QNx.qn {g : Gh} {H : Hp} {Q : Envr → Store → Prop} {σ' : L2.St} {H' : Hp} (h : QNx B g H Q σ' H') : QN B g Q σ' H' := by
  obtain ⟨env', st', g', nx, b, q⟩ := h
  exact ⟨env', st', g', nx.le, b, q⟩
theorem QNx.trans {g g1 : Gh} {H H1 : Hp} {Q : Envr → Store → Prop} {σ' : L2.St} {H' : Hp} (l : Nx g H g1 H1) (h : QNx B g1 H1 Q σ' H') : QNx B g H Q σ' H' := by
  obtain ⟨env', st', g', nx, b, q⟩ := h
  exact ⟨env', st', g', l.trans nx, b, q⟩
/-- nothing but these slots has changed -/
def Agr (sl : List Nat) (σ σ' : L2.St) : Prop := σ'.length = σ.length ∧ ∀ k, k ∉ sl → σ'[k]? = σ[k]?
theorem Agr.refl (sl : List Nat) (σ : L2.St) : Agr sl σ σ := ⟨rfl, fun _ _ => rfl⟩
theorem Agr.set {sl : List Nat} {σ : L2.St} {i : Nat} {v : Option V} (h : i ∈ sl) : Agr sl σ (σ.set i v) := ⟨by simp, fun k hk => List.getElem?_set_ne (show i ≠ k from fun z => hk (by rw [← z]; exact h))⟩
theorem Agr.trans {s1 s2 : List Nat} {σ σ1 σ2 : L2.St} (x : Agr s1 σ σ1) (y : Agr s2 σ1 σ2) : Agr (s1 ++ s2) σ σ2 := ⟨y.1.trans x.1, fun k hk => (y.2 k fun z => hk (List.mem_append_right _ z)).trans (x.2 k fun z => hk (List.mem_append_left _ z))⟩
structure PGg (B : Bd) (X : Cx) (tg : Expr) (sl : List Nat) (w : WG) : Prop where
  run : ∀ (pins : List (Addr × Obj)) (s : Shared) (σ : L2.St) (H : Hp) (g : Gh) (env : Envr) (st : Store) (d : D) (v : V) (u : Value) (Q : Envr → Store → Prop), Inv X pins σ H s → BOk B g env st σ H → Rep B.C g d v → RelV v u → w d env st Q →
    wpAny (model X.prog X.w) X.A (assign tg X.env u) (fun _ s' => ∃ σ' H', Inv X pins σ' H' s' ∧ Agr sl σ σ' ∧ QNx B g H Q σ' H') X.xe s
structure PGsg (B : Bd) (X : Cx) (ts : List Expr) (sl : List Nat) (w : WGs) : Prop where
  run : ∀ (pins : List (Addr × Obj)) (s : Shared) (σ : L2.St) (H : Hp) (g : Gh) (env : Envr) (st : Store) (ds : List D) (vs : List V) (us : List Value) (Q : Envr → Store → Prop), Inv X pins σ H s → BOk B g env st σ H → Reps B.C g ds vs → Vals vs us → w ds env st Q →
    wpAny (model X.prog X.w) X.A (assignInOrder ((assignEach ts X.env).map (·.2)) us) (fun _ s' => ∃ σ' H', Inv X pins σ' H' s' ∧ Agr sl σ σ' ∧ QNx B g H Q σ' H') X.xe s
def wgName (i : Nat) : WG := fun d env st Q => Q (env.set i (.val d)) st
theorem gg_name (j : J B X W) (i : Nat) {x : Str} (hi : X.N[i]? = some x := by rfl) (hx : Loc X.env.scope x := by first | exact Or.inl rfl | exact Or.inr rfl) (hf : X.fn x = true ∨ X.env.scope.names.lookup x = some .local := by first | exact .inl rfl | exact .inr rfl | assumption) : PGg B X (.Name x pos) [i] (wgName i) :=
  ⟨fun pins s σ H g env st d v u Q I bo r rv hw => thn ((pg_name j.nd hi hx hf).run pins s σ H v u (fun σ' H' => σ' = σ.set i (some v) ∧ H' = H) I rv ⟨rfl, rfl⟩) fun _ s' ⟨σ', H', I', e1, e2⟩ => ⟨σ', H', I', by rw [e1]; exact Agr.set (by simp), by rw [e1, e2]; exact ⟨_, st, g, .refl g _, bo.setVal r i, hw⟩⟩⟩
def wgsNil : WGs := fun ds env st Q => match ds with | [] => Q env st | _ => False
def wgsCons (t : WG) (u : WGs) : WGs := fun ds env st Q => match ds with | d :: r => t d env st (fun env' st' => u r env' st' Q) | [] => False
theorem ggs_nil : PGsg B X [] [] wgsNil := ⟨fun pins s σ H g env st ds vs us Q I bo r rv hw => by
  cases ds with
  | nil =>
    unfold Reps at r
    subst r
    cases rv
    exact assignInOrder_nil ⟨σ, H, I, .refl _ _, env, st, g, .refl g _, bo, hw⟩
  | cons d ds => exact hw.elim⟩
theorem Reps.cons_inv {C : Con} {g : Gh} {d : D} {ds : List D} {vs : List V} (h : Reps C g (d :: ds) vs) : ∃ v r, vs = v :: r ∧ Rep C g d v ∧ Reps C g ds r := by unfold Reps at h; exact h
theorem ggs_cons {t : WG} {ts : WGs} {s1 s2 : List Nat} (h1 : PGg B X e s1 t) (h2 : PGsg B X es s2 ts) (hs : (assignEach (e :: es) X.env).map (·.2) = assign e X.env :: (assignEach es X.env).map (·.2) := by rfl) : PGsg B X (e :: es) (s1 ++ s2) (wgsCons t ts) := ⟨fun pins s σ H g env st ds vs us Q I bo r rv hw => by
  cases ds with
  | nil => exact hw.elim
  | cons d ds =>
    obtain ⟨v, q, rfl, a, b⟩ := r.cons_inv
    cases rv with
    | cons r1 r2 =>
      rw [hs]
      refine assignInOrder_cons (thn (h1.run pins s σ H g env st d v _ _ I bo a r1 hw) fun _ s1 ⟨σ1, H1, I1, ag, env1, st1, g1, l1, b1, q1⟩ => ?_)
      exact thn (h2.run pins s1 σ1 H1 g1 env1 st1 ds q _ Q I1 b1 (b.mono l1.le) r2 q1) fun _ _ ⟨σ2, H2, I2, ag2, z⟩ => ⟨σ2, H2, I2, ag.trans ag2, z.trans l1⟩⟩
def wgTup (n : Nat) (t : WGs) : WG := fun d env st Q => match d with
  | .tup ds => ds.length = n ∧ t ds env st Q
  | .lst ds => ds.length = n ∧ t ds env st Q
  | _ => False
theorem gg_tup (j : J B X W) {k} {n : Nat} {t : WGs} {sl : List Nat} (h : PGsg B X es sl t) (hn : (assignEach es X.env).length = n := by rfl) (hst : (assignEach es X.env).findIdx? (·.1) = none := by rfl) : PGg B X (.Tuple es k pos) sl (wgTup n t) := ⟨fun pins s σ H g env st d v u Q I bo r rv hw => by
  cases d with
  | tup ds =>
    obtain ⟨p, xs, rfl, hx, r2⟩ := r.tupV
    cases rv
    obtain ⟨hl, hw⟩ := hw
    obtain ⟨its, rv, ht, hz⟩ := I.tuple (by rw [j.hK]; exact (Same.sqU bo.ok.p hx).t)
    refine assign_Tuple_tuple j.hd ht (by simp [hn, ← hl, r2.length, rv.length]) hst fun h' hx' => ?_
    have I1 : Inv X pins σ H { s with heap := h' } := I.kept (t' := s.toks) fun b o e => hx' b o (Nat.ne_of_lt (Heap.lt_size e)) e
    exact h.run pins _ σ H g env st ds xs _ Q I1 bo r2 (by simpa using rv) hw
  | lst ds =>
    obtain ⟨p, xs, rfl, hx, r2⟩ := r.lstV
    cases rv
    obtain ⟨hl, hw⟩ := hw
    obtain ⟨its, rv, ⟨o, m, e1, e2, e3, e4⟩, hz⟩ := I.list (SqL.of (bo.ok.p _ _ hx))
    have isl : s.heap.IsList p its.toArray := ⟨o, e1, e2, m, e4⟩
    have num : (assignEach es X.env).length = its.toArray.size := by rw [hn, ← hl, r2.length, rv.length]; simp
    rw [PyProof.Rows.assign_Tuple]
    refine wpAny_bind (wpAny_standAt ?_)
    unfold unpack
    rw [num, hst]
    refine wpAny_bind (wpAny_holding (PySem.W.kun_itemsOf j.hd isl fun h' hx' => ?_))
    have I1 : Inv X pins σ H { s with heap := h' } := I.kept (t' := s.toks) fun b o e => hx' b o (Nat.ne_of_lt (Heap.lt_size e)) e
    exact h.run pins _ σ H g env st ds xs _ Q I1 bo r2 (by simpa using rv) hw
  | _ => exact hw.elim⟩
/-- target = value -/
def wAsg (wa : WE) (t : WG) : WS := fun env st D => wa env st (fun d st1 => t d env st1 D.nx) (xe D env)
theorem gs_asg {tg : Expr} {t : WG} {sl : List Nat} (he : PEg B X W e wa) (hg : PGg B X tg sl t) (hs : swapsWithSole [tg] e pos.line X.env = pure false := by rfl) (hw : swappedStores [tg] e X.env = pure none := by rfl)
    (h1 : (assignEach [tg] X.env).map (·.2) = [assign tg X.env] := by rfl) : PSg B X W (.Assign [tg] e pos) (wAsg wa t) := by
  refine ⟨fun pins s σ H g env st D I bo rw hq => ?_⟩
  refine wpAny_Assign_stores (thn (he.run pins s σ H g env st _ _ I bo (rw.at env σ) hq) fun v s1 ⟨x, H1, I1, r1, d, st1, g1, l1, b1, rx, q1⟩ => ?_) hs hw
  rw [h1]
  exact thn (hg.run pins s1 σ H1 g1 env st1 d x v _ I1 b1 rx r1 q1) fun _ s2 ⟨σ2, H2, I2, _, z⟩ => ⟨σ2, H2, I2, QN.le l1.le z.qn⟩
/-- name = value -/
def wSet (i : Nat) (wa : WE) : WS := fun env st D => wa env st (fun d st1 => D.nx (env.set i (.val d)) st1) (xe D env)
theorem gs_set (j : J B X W) (i : Nat) {x : Str} {p : Pos} (he : PEg B X W e wa) (hi : X.N[i]? = some x := by rfl) (hx : Loc X.env.scope x := by first | exact Or.inl rfl | exact Or.inr rfl) (hs : swapsWith e (some (.Name x p)) pos.line X.env = pure false := by rfl)
    (hf : X.fn x = true ∨ X.env.scope.names.lookup x = some .local := by first | exact .inl rfl | exact .inr rfl | assumption) : PSg B X W (.Assign [.Name x p] e pos) (wSet i wa) :=
  PSg.of (ps_set j.nd hi hx he.pe hs hf) fun σ H g env st D bo rw hw => ⟨g, env, st, _, _, bo, rw.at env σ, hw, fun v H1 ⟨d, st1, g1, l1, b1, r1, h1⟩ => ⟨_, st1, g1, l1.le, b1.setVal r1 i, h1⟩⟩
/-- a, b = x, y -/
def wPar (i k : Nat) (ta : WA) : WS := fun env st D => ta env st (fun ds st1 => match ds with
  | [d1, d2] => D.nx ((env.set i (.val d1)).set k (.val d2)) st1
  | _ => False) (xe D env)
theorem gs_par (j : J B X W) (i k : Nat) {x y : Str} {px py pt : Pos} {kt k2 pt2} (ha : PAg B X W [a, b] ta) (hi : X.N[i]? = some x := by rfl) (hk : X.N[k]? = some y := by rfl) (hik : i ≠ k := by decide)
    (hx : X.env.scope.names.lookup x = some .local := by rfl) (hy : X.env.scope.names.lookup y = some .local := by rfl)
    (hw : swappedStores [.Tuple [.Name x px, .Name y py] kt pt] (.Tuple [a, b] k2 pt2) X.env = pure (some [x, y]) := by rfl)
    (hs : swapsWithSole [.Tuple [.Name x px, .Name y py] kt pt] (.Tuple [a, b] k2 pt2) pos.line X.env = pure false := by rfl) :
    PSg B X W (.Assign [.Tuple [.Name x px, .Name y py] kt pt] (.Tuple [a, b] k2 pt2) pos) (wPar i k ta) :=
  PSg.of (ps_par j.calm j.nd hi hk hik hx hy ha.pa hw hs) fun σ H g env st D bo rw hq => ⟨g, env, st, _, _, bo, rw.at env σ, hq, fun vs H1 ⟨ds, st1, g1, l1, b1, r1, h1⟩ => by
    match ds, h1 with
    | [d1, d2], h1 =>
      obtain ⟨v, q, rfl, ra, rb⟩ := r1.cons_inv
      obtain ⟨v2, q2, rfl, rc, rd⟩ := rb.cons_inv
      unfold Reps at rd
      subst rd
      exact ⟨v, v2, rfl, _, st1, g1, l1.le, (b1.setVal ra i).setVal rc k, h1⟩⟩
/-- name op= value, by an operator's rule -/
def wAug (i : Nat) (o : O2) (wa : WE) : WS := fun env st D => match env[i]? with
  | some (Slot.val d1) => wa env st (fun d2 st1 => o d1 d2 st1 (fun d st2 => D.nx (env.set i (.val d)) st2) (xe D env)) (xe D env)
  | _ => False
def oAddI : O2 := fun d1 d2 st Q R => match d1, d2 with
  | .int i, .int j => Q (.int (i + j)) st
  | .str x, .str y => x.length + y.length ≤ sizeLine ∧ Q (.str (x ++ y)) st
  | _, _ => False
def oMulI : O2 := fun d1 d2 st Q R => match d1, d2 with
  | .int i, .int j => ((-(2 ^ 64) < i ∧ i < 2 ^ 64) ∨ (-(2 ^ 64) < j ∧ j < 2 ^ 64)) ∧ Q (.int (i * j)) st
  | _, _ => False
def oSubI : O2 := fun d1 d2 st Q R => match d1, d2 with
  | .int i, .int j => Q (.int (i - j)) st
  | _, _ => False
def oFdivI : O2 := fun d1 d2 st Q R => match d1, d2 with
  | .int i, .int j => (0 < j ∧ j < 1073741824) ∧ Q (.int (i / j)) st
  | _, _ => False
/-- name = [..], a list that is changed later -/
def wOwn (i : Nat) (ta : WA) : WS := fun env st D => ta env st (fun ds st1 => ds.length ≤ sizeLine ∧ D.nx (env.set i (.own ds)) st1) (xe D env)
/-- x.append(e) -/
def wApp (i : Nat) (wa : WE) : WS := fun env st D => match env[i]? with
  | some (Slot.own ds) => wa env st (fun d st1 => ds.length < sizeLine ∧ D.nx (env.set i (.own (ds ++ [d]))) st1) (xe D env)
  | _ => False
end
end G
namespace G
open PySem PySem.Spec PyProof.Rows L2
section
variable {B : Bd} {X : Cx} {W : WX} {a b c e : Expr} {es : List Expr} {wa wb wc : WE} {ta : WA} {pos : Pos} {M : MT} {stm : Stmt} {rest : List Stmt} {w u : WS}
abbrev WI := Envr → Store → (List D → Store → Prop) → XQ → Prop
def ItRep (B : Bd) (σ : L2.St) (J : It) (g : Gh) (ds : List D) : Prop := ∀ (g' : Gh) (env : Envr) (st : Store) (σ' : L2.St) (H : Hp), g.le g' → BOk B g' env st σ' H →
  (∀ i d, ds[i]? = some d → J.go i H ∧ ∀ x H', J.yld i H x H' → ∃ g'', Nx g' H g'' H' ∧ BOk B g'' env st σ' H' ∧ Rep B.C g'' d x) ∧ J.stop ds.length H
structure PIg (B : Bd) (X : Cx) (W : WX) (tg iter : Expr) (wi : WI) : Prop where
  ex : ∃ t : TI, PI X tg iter t ∧ ∀ (σ : L2.St) (H : Hp) (g : Gh) (env : Envr) (st : Store) (Q : List D → Store → Prop) (R : XQ) (Rr : It → Hp → Prop), BOk B g env st σ H → RW B W env σ R → wi env st Q R →
    (∀ J H1, (∃ ds st1 g1, Nx g H g1 H1 ∧ BOk B g1 env st1 σ H1 ∧ ItRep B σ J g1 ds ∧ Q ds st1) → Rr J H1) → t σ H Rr
theorem itrep_list (hK : X.K = B.C.K) {σ : L2.St} {g : Gh} {p : Addr} {xs : List V} {ds : List D} (hp : SqL B.C.K g.P p xs) (r : Reps B.C g ds xs) : ItRep B σ (Itl X.K p) g ds := by
  intro g' env st σ' H l bo
  have hs : SqL X.K H p xs := by rw [hK]; exact Same.sqL bo.ok.p (Same.sqL l.p hp)
  refine ⟨fun i d hd => ?_, ⟨xs, hs, by rw [r.length]; exact Nat.le_refl _⟩⟩
  obtain ⟨v, h1, h2⟩ := r.get hd
  refine ⟨⟨xs, v, hs, h1⟩, fun x H' ⟨e, y⟩ => ?_⟩
  subst e
  have hx := y xs hs
  rw [h1] at hx
  cases hx
  exact ⟨g', .refl g' _, bo, h2.mono l⟩
theorem itrep_tup (hK : X.K = B.C.K) {σ : L2.St} {g : Gh} {p : Addr} {xs : List V} {ds : List D} (hp : SqU B.C.K g.P p xs) (r : Reps B.C g ds xs) : ItRep B σ (Itt X.K p) g ds := by
  intro g' env st σ' H l bo
  have hs : SqT X.K H p xs := by rw [hK]; exact (Same.sqU bo.ok.p (Same.sqU l.p hp)).t
  refine ⟨fun i d hd => ?_, ⟨xs, hs, by rw [r.length]; exact Nat.le_refl _⟩⟩
  obtain ⟨v, h1, h2⟩ := r.get hd
  refine ⟨⟨xs, v, hs, h1⟩, fun x H' ⟨e, y⟩ => ?_⟩
  subst e
  have hx := y xs hs
  rw [h1] at hx
  cases hx
  exact ⟨g', .refl g' _, bo, h2.mono l⟩
def wiLst (wa : WE) : WI := fun env st Q R => wa env st (fun d st1 => match d with | .lst ds => Q ds st1 | _ => False) R
def wiTup (wa : WE) : WI := fun env st Q R => wa env st (fun d st1 => match d with | .tup ds => Q ds st1 | _ => False) R
def rngD (lo : Int) (n : Nat) : List D := (List.range n).map fun i => D.int (lo + (i : Nat))
theorem rngD_get {lo : Int} {n i : Nat} {d : D} (h : (rngD lo n)[i]? = some d) : i < n ∧ d = .int (lo + i) := by
  unfold rngD at h
  rw [List.getElem?_map] at h
  by_cases hi : i < n
  · rw [List.getElem?_range hi] at h
    cases h
    exact ⟨hi, rfl⟩
  · rw [List.getElem?_eq_none (by simpa using hi)] at h
    cases h
theorem itrep_rng {σ : L2.St} {g : Gh} {lo : Int} {n : Nat} : ItRep B σ (Itr lo n) g (rngD lo n) := by
  intro g' env st σ' H l bo
  refine ⟨fun i d hd => ?_, by show n ≤ _; simp [rngD]⟩
  obtain ⟨h1, h2⟩ := rngD_get hd
  refine ⟨h1, fun x H' ⟨e, y⟩ => ?_⟩
  subst e y h2
  exact ⟨g', .refl g' _, bo, rep_int⟩
def wiR1 (ta : WA) : WI := fun env st Q R => ta env st (fun ds st1 => match ds with
  | [.int k] => (-(2 ^ 62) ≤ k ∧ k < 2 ^ 62) ∧ Q (rngD 0 k.toNat) st1
  | _ => False) R
def wiR2 (ta : WA) : WI := fun env st Q R => ta env st (fun ds st1 => match ds with
  | [.int i, .int k] => (-(2 ^ 62) ≤ i ∧ i < 2 ^ 62 ∧ -(2 ^ 62) ≤ k ∧ k < 2 ^ 62) ∧ Q (rngD i (k - i).toNat) st1
  | _ => False) R
theorem gi_r1 {tg : Expr} {p : Pos} (hg : Gl X "range") (hm : X.mg "range" = none) (h : PAg B X W [a] ta) (hs : starEach [a] X.env = [(false, eval a X.env)] := by rfl) : PIg B X W tg (.Call (.Name "range" p) [a] [] pos) (wiR1 ta) :=
  ⟨⟨_, pi_range1 hg hm h.pa hs, fun σ H g env st Q R Rr bo rw hw k => ⟨g, env, st, _, R, bo, rw, hw, fun xs H1 ⟨ds, st1, g1, l1, b1, r1, h1⟩ => by
    dsimp only at h1 ⊢
    split at h1
    · obtain ⟨v, q, rfl, ra, rb⟩ := r1.cons_inv
      unfold Reps at rb
      subst rb
      exact ⟨_, by rw [ra.intV], h1.1.1, h1.1.2, k _ _ ⟨_, st1, g1, l1, b1, itrep_rng, h1.2⟩⟩
    · exact h1.elim⟩⟩⟩
/-- zip of two lists, of two tuples -/
def zipD (xs ys : List D) : List D := List.zipWith (fun x y => D.tup [x, y]) xs ys
def wiZip (ta : WA) : WI := fun env st Q R => ta env st (fun ds st1 => match ds with
  | [.lst xs, .lst ys] => Q (zipD xs ys) st1
  | [.tup xs, .tup ys] => Q (zipD xs ys) st1
  | _ => False) R
def wForL (t : WG) (w : WS) (D0 : EW) : List D → Envr → Store → Prop
  | [], env, st => D0.nx env st
  | d :: ds, env, st => t d env st (fun env1 st1 => w env1 st1 { D0 with nx := wForL t w D0 ds, ct := wForL t w D0 ds, bk := D0.nx })
def wFor (wi : WI) (t : WG) (w : WS) : WS := fun env st D => wi env st (fun ds st1 => wForL t w D ds env st1) (xe D env)
def tgg (B : Bd) (t : WG) : TG := fun v σ H Q => ∃ g env st d Qg, BOk B g env st σ H ∧ Rep B.C g d v ∧ t d env st Qg ∧ ∀ σ' H', QN B g Qg σ' H' → Q σ' H'
theorem PGg.pg {tg : Expr} {sl : List Nat} {t : WG} (h : PGg B X tg sl t) : PG X tg (tgg B t) := ⟨fun pins s σ H v u Q I r ⟨g, env, st, d, Qg, bo, rd, hw, k⟩ =>
  thn (h.run pins s σ H g env st d v u Qg I bo rd r hw) fun _ s' ⟨σ', H', I', _, z⟩ => ⟨σ', H', I', k _ _ z.qn⟩⟩
def tgga (B : Bd) (sl : List Nat) (t : WG) : TG := fun v σ H Q => ∃ g env st d Qg, BOk B g env st σ H ∧ Rep B.C g d v ∧ t d env st Qg ∧ ∀ σ' H', Agr sl σ σ' → QNx B g H Qg σ' H' → Q σ' H'
theorem PGg.pga {tg : Expr} {sl : List Nat} {t : WG} (h : PGg B X tg sl t) : PG X tg (tgga B sl t) := ⟨fun pins s σ H v u Q I r ⟨g, env, st, d, Qg, bo, rd, hw, k⟩ =>
  thn (h.run pins s σ H g env st d v u Qg I bo rd r hw) fun _ s' ⟨σ', H', I', ag, z⟩ => ⟨σ', H', I', k _ _ ag z⟩⟩
theorem gs_for (j : J B X W) {tg iter : Expr} {body : List Stmt} {wi : WI} {t : WG} {sl : List Nat} (hi : PIg B X W tg iter wi) (hg : PGg B X tg sl t) (hb : PSsg B X W body w) (hs : ∀ x, foldedSetIterable iter X.env x = pure x := by intro _; rfl) : PSg B X W (.For tg iter body [] pos) (wFor wi t w) := by
  obtain ⟨ti, hpi, hk⟩ := hi.ex
  refine PSg.of (ps_for j.po j.calm hpi hg.pg hb.ps hs) fun σ H g env st D bo rw hw => ?_
  refine hk σ H g env st _ _ _ bo (rw.at env σ) hw fun J H1 ⟨ds, st1, g1, l1, b1, ir, hq⟩ => ?_
  refine ⟨fun i m σ' H' => m = ds.length - i ∧ i ≤ ds.length ∧ ∃ g' env' st', g1.le g' ∧ BOk B g' env' st' σ' H' ∧ wForL t w D (ds.drop i) env' st', ⟨ds.length, by simp, Nat.zero_le _, g1, env, st1, .refl g1, b1, by simpa using hq⟩, ?_⟩
  rintro i m σ' H' ⟨rfl, hi, g', env', st', l', b', hf⟩
  by_cases hlt : i < ds.length
  · right
    obtain ⟨d, hd⟩ : ∃ d, ds[i]? = some d := ⟨ds[i], by simp [hlt]⟩
    obtain ⟨hgo, hy⟩ := (ir g' env' st' σ' H' l' b').1 i d hd
    have hdrop : ds.drop i = d :: ds.drop (i + 1) := by
      rw [List.drop_eq_getElem_cons hlt]
      rw [List.getElem?_eq_getElem hlt] at hd
      cases hd
      rfl
    rw [hdrop] at hf
    refine ⟨hgo, QN B g1 (fun env'' st'' => wForL t w D (ds.drop (i + 1)) env'' st''), fun σ2 H2 ⟨env2, st2, g2, l2, b2, q2⟩ => ⟨ds.length - (i + 1), by omega, rfl, hlt, g2, env2, st2, l2, b2, q2⟩, fun x H2 hyl => ?_⟩
    obtain ⟨g2, l2, b2, rx⟩ := hy x H2 hyl
    refine ⟨g2, env', st', d, _, b2, rx, hf, fun σ3 H3 ⟨env3, st3, g3, l3, b3, q3⟩ => ?_⟩
    refine ⟨g3, env3, st3, { D with nx := wForL t w D (ds.drop (i + 1)), ct := wForL t w D (ds.drop (i + 1)), bk := D.nx }, b3, rw, q3, fun σ4 H4 z => QN.le ((l'.trans l2.le).trans l3) z, fun v H4 z => QR.le (((l1.le.trans l').trans l2.le).trans l3) z, fun σ4 H4 z => QN.le (((l1.le.trans l').trans l2.le).trans l3) z, fun σ4 H4 z => QN.le ((l'.trans l2.le).trans l3) z⟩
  · left
    have e : i = ds.length := by omega
    subst e
    refine ⟨(ir g' env' st' σ' H' l' b').2, ?_⟩
    rw [List.drop_length] at hf
    exact ⟨env', st', g', l1.le.trans l', b', hf⟩
/-- while, by an invariant and a measure -/
def wWhile (t : WT) (w : WS) : WS := fun env st D => ∃ I : Nat → Envr → Store → Prop, (∃ m, I m env st) ∧ ∀ m env st, I m env st →
  t env st (fun b st1 => if b = true then w env st1 { D with nx := fun env2 st2 => ∃ m', m' < m ∧ I m' env2 st2, ct := fun env2 st2 => ∃ m', m' < m ∧ I m' env2 st2, bk := D.nx } else D.nx env st1) (xe D env)
theorem gs_while (j : J B X W) {t : WT} {body : List Stmt} (hc : PTg B X W c t) (hb : PSsg B X W body w) : PSg B X W (.While c body [] pos) (wWhile t w) := by
  refine PSg.of (ps_while j.po hc.pt hb.ps) fun σ H g env st D bo rw ⟨I, ⟨m0, h0⟩, hI⟩ => ?_
  refine ⟨fun m σ' H' => ∃ g' env' st', g.le g' ∧ BOk B g' env' st' σ' H' ∧ I m env' st', ⟨m0, g, env, st, .refl g, bo, h0⟩, ?_⟩
  rintro m σ' H' ⟨g', env', st', l', b', h'⟩
  refine ⟨g', env', st', _, _, b', rw.at env' σ', hI m env' st' h', fun b H1 ⟨st1, g1, l1, b1, q1⟩ => ?_⟩
  cases b with
  | true =>
    rw [if_pos rfl]
    rw [if_pos rfl] at q1
    refine ⟨QN B g (fun env2 st2 => ∃ m', m' < m ∧ I m' env2 st2), fun σ2 H2 ⟨env2, st2, g2, l2, b2, m', hm, q2⟩ => ⟨m', hm, g2, env2, st2, l2, b2, q2⟩, ?_⟩
    exact ⟨g1, env', st1, { D with nx := fun env2 st2 => ∃ m', m' < m ∧ I m' env2 st2, ct := fun env2 st2 => ∃ m', m' < m ∧ I m' env2 st2, bk := D.nx }, b1, rw, q1, fun σ4 H4 z => QN.le (l'.trans l1.le) z, fun v H4 z => QR.le (l'.trans l1.le) z, fun σ4 H4 z => QN.le (l'.trans l1.le) z, fun σ4 H4 z => QN.le (l'.trans l1.le) z⟩
  | false =>
    rw [if_neg Bool.false_ne_true]
    rw [if_neg Bool.false_ne_true] at q1
    exact ⟨env', st1, g1, l'.trans l1.le, b1, q1⟩
end
end G
namespace G
open PySem PySem.Spec PyProof.Rows L2
section
variable {B : Bd} {X : Cx} {W : WX} {a b c e : Expr} {es : List Expr} {wa wb wc : WE} {ta : WA} {pos : Pos} {M : MT} {stm : Stmt} {rest : List Stmt} {w u : WS}
def wipeE (env : Envr) : List Nat → Envr
  | [] => env
  | v :: vs => (wipeE env vs).set v Slot.no
theorem BOk.wipe1 {g : Gh} {env : Envr} {st : Store} {σ : L2.St} {H : Hp} (bo : BOk B g env st σ H) (i : Nat) : BOk B g (env.set i Slot.no) st (σ.set i none) H := by
  have nk : ∀ (m : Nat) (z : Slot), z ≠ Slot.no → (env.set i Slot.no)[m]? = some z → env[m]? = some z ∧ (σ.set i none)[m]? = σ[m]? := fun m z hz h => by
    by_cases hk : i = m
    · subst hk
      by_cases hi : i < env.length
      · rw [List.getElem?_set_self hi] at h
        cases h
        exact absurd rfl hz
      · rw [List.set_eq_of_length_le (by omega)] at h
        rw [List.set_eq_of_length_le (by rw [← bo.en.len]; omega)]
        exact ⟨h, rfl⟩
    · rw [List.getElem?_set_ne hk] at h ⊢
      exact ⟨h, rfl⟩
  refine ⟨bo.ok, bo.nx, ⟨by rw [List.length_set, List.length_set]; exact bo.en.len, fun k d h => ?_, fun k ds h => ?_, fun k m ds es a hkm h1 h2 h3 => ?_⟩⟩
  · obtain ⟨p1, p2⟩ := nk k _ (fun z => by cases z) h
    rw [p2]
    exact bo.en.val k d p1
  · obtain ⟨p1, p2⟩ := nk k _ (fun z => by cases z) h
    rw [p2]
    exact bo.en.own k ds p1
  · obtain ⟨p1, p2⟩ := nk k _ (fun z => by cases z) h1
    obtain ⟨q1, q2⟩ := nk m _ (fun z => by cases z) h2
    rw [p2] at h3
    rw [q2]
    exact bo.en.dis k m ds es a hkm p1 q1 h3
theorem BOk.wipe {g : Gh} {env : Envr} {st : Store} {σ : L2.St} {H : Hp} (bo : BOk B g env st σ H) : ∀ vs : List Nat, BOk B g (wipeE env vs) st (L2.wipe σ vs) H
  | [] => bo
  | v :: vs => (BOk.wipe bo vs).wipe1 v
theorem wipe_get {σ : L2.St} {k : Nat} : ∀ {vs : List Nat}, k ∈ vs → k < σ.length → (L2.wipe σ vs)[k]? = some none
  | v :: vs, h, hk => by
    unfold L2.wipe
    by_cases hv : v = k
    · subst hv
      rw [List.getElem?_set_self (by rw [wipe_length]; exact hk)]
    · rw [List.getElem?_set_ne hv]
      exact wipe_get (by rcases List.mem_cons.mp h with e | e; exact absurd e.symm hv; exact e) hk
theorem wipe_out' {σ : L2.St} {i : Nat} : ∀ {vs : List Nat}, i ∉ vs → (L2.wipe σ vs)[i]? = σ[i]?
  | [], _ => rfl
  | v :: vs, h => by
    unfold L2.wipe
    rw [List.getElem?_set_ne (fun e => h (by rw [e]; exact List.mem_cons_self))]
    exact wipe_out' fun z => h (List.mem_cons_of_mem _ z)
theorem wipe_agr {σ σ2 : L2.St} {sl vs : List Nat} (ag : Agr sl (L2.wipe σ vs) σ2) (hs : ∀ k ∈ sl, k ∈ vs) : L2.wipe σ2 vs = L2.wipe σ vs := by
  have hl : σ2.length = σ.length := ag.1.trans (wipe_length σ vs)
  apply List.ext_getElem?
  intro k
  by_cases hk : k ∈ vs
  · by_cases hi : k < σ.length
    · rw [wipe_get hk hi, wipe_get hk (by rw [hl]; exact hi)]
    · rw [List.getElem?_eq_none (by rw [wipe_length]; omega), List.getElem?_eq_none (by rw [wipe_length]; omega)]
  · rw [wipe_out' hk]
    exact ag.2 k fun z => hk (hs k z)
/-- an object that only we know: it may change -/
structure Anon (B : Bd) (g : Gh) (env : Envr) (σ : L2.St) (p : Addr) : Prop where
  np : g.P p = none
  nc : ∀ n, g.ad n ≠ some p
  h0 : B.H0 p = none
  no : ∀ (k : Nat) (es : List D), env[k]? = some (Slot.own es) → σ[k]? ≠ some (some (V.ref p))
theorem Anon.new {g : Gh} {env : Envr} {st : Store} {σ : L2.St} {H : Hp} (bo : BOk B g env st σ H) {p : Addr} (h : H p = none) : Anon B g env σ p :=
  ⟨bo.ok.free h, bo.cellNe h, bo.nx.dm p h, fun k es h1 h2 => by
    obtain ⟨a, xs, q1, q2, _⟩ := bo.en.own k es h1
    rw [h2] at q1; cases q1
    rw [h] at q2; cases q2⟩
theorem Anon.next {g g' : Gh} {env : Envr} {σ : L2.St} {H H' : Hp} {p : Addr} {o : HO} (x : Anon B g env σ p) (h : H p = some o) (nx : Nx g H g' H') : Anon B g' env σ p := by
  refine ⟨?_, fun n z => ?_, x.h0, x.no⟩
  · cases e : g'.P p with
    | none => rfl
    | some u =>
      rcases nx.np p u e with z | z
      · rw [x.np] at z; cases z
      · rw [h] at z; cases z
  · rcases nx.nc n p z with z | z
    · exact x.nc n z
    · rw [h] at z; cases z
/-- it changes -/
theorem BOk.chAnon (ck : ConOk B.C) {g : Gh} {env : Envr} {st : Store} {σ : L2.St} {H : Hp} (bo : BOk B g env st σ H) {p : Addr} (x : Anon B g env σ p) {xs ys : List V} (h : H p = some (.lst xs)) : BOk B g env st σ (upd H p (.lst ys)) := by
  have ne : ∀ b, g.P b ≠ none → b ≠ p := fun b q z => q (by rw [z]; exact x.np)
  have nc : ∀ n b, g.ad n = some b → b ≠ p := fun n b q z => x.nc n (by rw [← z]; exact q)
  have tt : B.C.TT (upd H p (.lst ys)) := ck.tt H _ bo.ok.tab fun b o q t => by
    rw [upd_ne (fun z => by rw [z, h] at q; cases q; exact t)]; exact q
  refine ⟨⟨fun b o q => ?_, bo.ok.nt, bo.ok.np, bo.ok.inj, fun n c q => ?_, bo.ok.dom, tt⟩, ⟨bo.nx.le, fun b o q t c => ?_, fun b q => ?_, bo.nx.nc, bo.nx.np⟩, ⟨bo.en.len, bo.en.val, fun k es q => ?_, bo.en.dis⟩⟩
  · rw [upd_ne (ne b (by rw [q]; simp))]; exact bo.ok.p b o q
  · obtain ⟨b, q1, q2⟩ := bo.ok.cell n c q
    exact ⟨b, q1, q2.mono (.refl g) (upd_ne (nc n b q1))⟩
  · have hb : b ≠ p := fun z => by rw [z, x.h0] at q; cases q
    rw [upd_ne hb]
    exact bo.nx.kp b o q t c
  · by_cases hb : b = p
    · rw [hb]; exact x.h0
    · rw [upd_ne hb] at q; exact bo.nx.dm b q
  · obtain ⟨b, zs, q1, q2, q3⟩ := bo.en.own k es q
    have hb : b ≠ p := fun z => x.no k es q (by rw [← z]; exact q1)
    exact ⟨b, zs, q1, by rw [upd_ne hb]; exact q2, q3⟩
/-- it changes no more -/
theorem BOk.adopt {g : Gh} {env : Envr} {st : Store} {σ : L2.St} {H : Hp} (bo : BOk B g env st σ H) {p : Addr} (x : Anon B g env σ p) {xs : List V} (h : H p = some (.lst xs)) : BOk B (g.add p (.lst xs)) env st σ H := by
  have l : g.le (g.add p (.lst xs)) := Gh.le_add x.np
  have at_ : ∀ b, b ≠ p → (g.add p (.lst xs)).P b = g.P b := fun b hb => upd_ne hb
  have ata : (g.add p (.lst xs)).P p = some (.lst xs) := upd_same
  refine ⟨⟨fun b o q => ?_, fun b ps q => ?_, fun n b q => ?_, bo.ok.inj, fun n c q => ?_, bo.ok.dom, bo.ok.tab⟩, ⟨bo.nx.le.trans l, bo.nx.kp, bo.nx.dm, bo.nx.nc, fun b o q => ?_⟩, ⟨bo.en.len, fun k d q => ?_, fun k es q => ?_, bo.en.dis⟩⟩
  · by_cases hb : b = p
    · subst hb; rw [ata] at q; cases q; exact h
    · rw [at_ b hb] at q; exact bo.ok.p b o q
  · by_cases hb : b = p
    · subst hb; rw [ata] at q; cases q
    · rw [at_ b hb] at q; exact bo.ok.nt b ps q
  · rw [at_ b (fun z => x.nc n (by rw [← z]; exact q))]; exact bo.ok.np n b q
  · obtain ⟨b, q1, q2⟩ := bo.ok.cell n c q
    exact ⟨b, q1, q2.mono l rfl⟩
  · by_cases hb : b = p
    · subst hb; exact .inr x.h0
    · rw [at_ b hb] at q; exact bo.nx.np b o q
  · obtain ⟨v, q1, q2⟩ := bo.en.val k d q
    exact ⟨v, q1, q2.mono l⟩
  · obtain ⟨b, zs, q1, q2, q3, q4, q5⟩ := bo.en.own k es q
    have hb : b ≠ p := fun z => x.no k es q (by rw [← z]; exact q1)
    exact ⟨b, zs, q1, q2, q3.mono l, by rw [at_ b hb]; exact q4, q5⟩
/-- behind the block: the frame's slots stand as they stood -/
theorem BOk.unwipe {g g' : Gh} {env : Envr} {st st' : Store} {σ : L2.St} {H H' : Hp} (bo : BOk B g env st σ H) (nx : Nx g H g' H') (ok : GOk B.C g' H' st') : BOk B g' env st' σ H' := bo.of_sp nx.le ok nx
def noX : XQ := fun _ _ => False
def wLcL (vs : List Nat) (t : WG) (tt : WT) (we : WE) (env : Envr) (Q : List D → Store → Prop) : List D → List D → Store → Prop
  | [], acc, st => Q acc st
  | d :: ds, acc, st => t d (wipeE env vs) st (fun env1 st1 => tt env1 st1 (fun b st2 => if b = true then we env1 st2 (fun y st3 => acc.length < sizeLine ∧ wLcL vs t tt we env Q ds (acc ++ [y]) st3) noX else wLcL vs t tt we env Q ds acc st2) noX)
def wLc (wi : WI) (vs : List Nat) (t : WG) (tt : WT) (we : WE) : WE := fun env st Q R => wi env st (fun ds st1 => wLcL vs t tt we env (fun acc st2 => Q (.lst acc) st2) ds [] st1) R
/-- the tests of a comprehension -/
structure PTsg (B : Bd) (X : Cx) (W : WX) (ifs : List Expr) (w : WT) : Prop where
  pts : PTs X ifs (tgt B W w)
def wYes : WT := fun _ st Q _ => Q true st
theorem gts_nil : PTsg B X W [] wYes := ⟨⟨fun pins s σ H Q I ⟨g, env, st, Qg, R, bo, rw, hw, k⟩ => (pts_nil (X := X)).run pins s σ H Q I (k true H ⟨st, g, .refl g _, bo, hw⟩)⟩⟩
/-- within the block nothing is raised -/
abbrev W0 : WX := fun _ _ _ _ => False
theorem takesF {X : Cx} (W : WX) (h : ∀ c d σ H, W c d σ H → False) : Takes X W := fun _ _ ⟨_, _, _, _, _, _, _, _, _, _, _, _, _, _, _, _, w⟩ => (h _ _ _ _ w).elim
theorem J.blk (j : J B X W) (s : Shared) (H : Hp) (scope : Scope) (cenv : Env) (fp : List Addr) : J B (X.blk s H scope cenv fp) W0 :=
  { ck := j.ck, hK := j.hK, tk := takesF W0 fun _ _ _ _ z => z, po := PassesOwn.never, calm := j.calm, nd := j.nd, hd := j.hd, hu := j.hu, hu2 := j.hu2 }
theorem rw0 {env : Envr} {σ : L2.St} : RW B W0 env σ noX := fun _ _ _ _ _ _ _ _ z => z.elim
theorem lc_t (j : J B X W) {wi : WI} {ti : TI} {t : WG} {tt : WT} {we : WE} {sl : List Nat} {vs : List Nat}
    (hk : ∀ (σ : L2.St) (H : Hp) (g : Gh) (env : Envr) (st : Store) (Q : List D → Store → Prop) (R : XQ) (Rr : It → Hp → Prop), BOk B g env st σ H → RW B W env σ R → wi env st Q R → (∀ J H1, (∃ ds st1 g1, Nx g H g1 H1 ∧ BOk B g1 env st1 σ H1 ∧ ItRep B σ J g1 ds ∧ Q ds st1) → Rr J H1) → ti σ H Rr)
    (hsl : ∀ k ∈ sl, k ∈ vs) {σ : L2.St} {H : Hp} {g : Gh} {env : Envr} {st : Store} {Q : QE} {R : XQ} {Q' : VK} (bo : BOk B g env st σ H) (rw : RW B W env σ R) (hw : wLc wi vs t tt we env st Q R) (hQ : ∀ v H', QV B g H env σ Q v H' → Q' v H') :
    tLc ti (tgga B sl t) (tgt B W0 tt) (G.tg B W0 we) vs σ H Q' := by
  refine hk σ H g env st _ _ _ bo rw hw fun J H1 ⟨ds, st1, g1, l1, b1, ir, hq⟩ => ?_
  intro D hD
  have bD := b1.grow j.ck (H' := upd H1 D (.lst [])) fun a o q => by rw [upd_ne (ne_of_none q hD)]; exact q
  have nD : Nx g1 H1 g1 (upd H1 D (.lst [])) := ⟨.refl g1, fun a o q _ _ => by rw [upd_ne (ne_of_none q hD)]; exact q, dm_of fun a o q => by rw [upd_ne (ne_of_none q hD)]; exact q, fun _ _ h => .inl h, fun _ _ h => .inl h⟩
  refine ⟨fun i m H' => m = ds.length - i ∧ i ≤ ds.length ∧ ∃ g' st' acc xs, Nx g1 H1 g' H' ∧ BOk B g' env st' σ H' ∧ Anon B g' env σ D ∧ H' D = some (.lst xs) ∧ Reps B.C g' acc xs ∧ wLcL (vs) t tt we env (fun acc st2 => Q (.lst acc) st2) (ds.drop i) acc st', ⟨ds.length, by simp, Nat.zero_le _, g1, st1, [], [], nD, bD, Anon.new b1 hD, upd_same, Reps.nil, by simpa using hq⟩, ?_⟩
  rintro i m H' ⟨rfl, hi, g', st', acc, xs, nx', b', an', hH', r', hf⟩
  by_cases hlt : i < ds.length
  · right
    obtain ⟨d, hd⟩ : ∃ d, ds[i]? = some d := ⟨ds[i], by simp [hlt]⟩
    obtain ⟨hgo, hy⟩ := (ir g' env st' σ H' nx'.le b').1 i d hd
    have hdrop : ds.drop i = d :: ds.drop (i + 1) := by
      rw [List.drop_eq_getElem_cons hlt]
      rw [List.getElem?_eq_getElem hlt] at hd
      cases hd
      rfl
    rw [hdrop] at hf
    unfold wLcL at hf
    refine ⟨hgo, fun H' => ∃ g' st' acc xs, Nx g1 H1 g' H' ∧ BOk B g' env st' σ H' ∧ Anon B g' env σ D ∧ H' D = some (.lst xs) ∧ Reps B.C g' acc xs ∧ wLcL (vs) t tt we env (fun acc st2 => Q (.lst acc) st2) (ds.drop (i + 1)) acc st', fun H2 z => ⟨ds.length - (i + 1), by omega, rfl, hlt, z⟩, fun x H2 hyl => ?_⟩
    obtain ⟨g2, l2, b2, rx⟩ := hy x H2 hyl
    refine ⟨g2, wipeE env (vs), st', d, _, b2.wipe _, rx, hf, fun σ3 H3 ag ⟨env3, st3, g3, l3, b3, q3⟩ => ?_⟩
    refine ⟨wipe_agr ag hsl, ?_⟩
    refine ⟨g3, env3, st3, _, _, b3, rw0, q3, fun b H4 ⟨st4, g4, l4, b4, q4⟩ => ?_⟩
    have n4 : Nx g' H' g4 H4 := (l2.trans l3).trans l4
    have an4 : Anon B g4 env σ D := an'.next hH' n4
    have keepD : ∀ {ga : Gh} {Ha : Hp}, Nx g' H' ga Ha → Ha D = some (.lst xs) := fun n => n.kp D _ hH' (fun ps z => by cases z) an'.nc
    cases b with
    | true =>
      dsimp only at q4 ⊢
      rw [if_pos rfl]
      rw [if_pos rfl] at q4
      refine ⟨g4, env3, st4, _, _, b4, rw0, q4, fun y H5 ⟨d5, st5, g5, l5, b5, r5, hz, q5⟩ => ?_⟩
      have n5 : Nx g' H' g5 H5 := n4.trans l5
      have an5 : Anon B g5 env σ D := an'.next hH' n5
      have h5 : H5 D = some (.lst xs) := keepD n5
      have bo5 : BOk B g5 env st5 σ H5 := b'.unwipe n5 b5.ok
      have c5 := bo5.chAnon j.ck an5 (ys := xs ++ [y]) h5
      refine ⟨xs, h5, by rw [← r'.length]; exact hz, g5, st5, acc ++ [d5], xs ++ [y], ?_, c5, ⟨an5.np, an5.nc, an5.h0, an5.no⟩, upd_same, (r'.mono n5.le).append (Reps.cons r5 Reps.nil), q5⟩
      refine ⟨(nx'.trans n5).le, fun a o q tq cq => ?_, fun a q => ?_, (nx'.trans n5).nc, (nx'.trans n5).np⟩
      · rw [upd_ne (ne_of_none q hD)]
        exact (nx'.trans n5).kp a o q tq cq
      · by_cases ha : a = D
        · rw [ha]; exact hD
        · rw [upd_ne ha] at q; exact (nx'.trans n5).dm a q
    | false =>
      dsimp only at q4 ⊢
      rw [if_neg Bool.false_ne_true]
      rw [if_neg Bool.false_ne_true] at q4
      exact ⟨g4, st4, acc, xs, nx'.trans n4, b'.unwipe n4 b4.ok, an4, keepD n4, r'.mono n4.le, q4⟩
  · left
    have e : i = ds.length := by omega
    subst e
    refine ⟨(ir g' env st' σ H' nx'.le b').2, ?_⟩
    rw [List.drop_length] at hf
    unfold wLcL at hf
    have ba := b'.adopt an' hH'
    have l5 : g'.le (g'.add D (.lst xs)) := Gh.le_add an'.np
    refine hQ _ _ ⟨.lst acc, st', g'.add D (.lst xs), ?_, ba, ?_, hf⟩
    · refine l1.trans ⟨nx'.le.trans l5, nx'.kp, nx'.dm, nx'.nc, fun a o q => ?_⟩
      by_cases ha : a = D
      · rw [ha]; exact .inr hD
      · have q' : upd g'.P D (.lst xs) a = some o := q
        rw [upd_ne ha] at q'
        exact nx'.np a o q'
    · unfold Rep
      exact ⟨D, xs, rfl, upd_same, r'.mono l5⟩
theorem g_lc (j : J B X W) {elt tg iter : Expr} {ifs : List Expr} {scope : Scope} {wi : WI} {t : WG} {tt : WT} {we : WE} {sl : List Nat} (own : List (Str × Nat)) (hi : PIg B X W tg iter wi) (ok : BlkOk X.N X.env.scope scope own)
    (hg : ∀ (s : Shared) (H : Hp) (C : Addr) (cl : List (Str × Addr)) (fp : List Addr), PGg B (X.blk s H scope (compEnvC scope cl C X.env) fp) tg sl t)
    (ht : ∀ (s : Shared) (H : Hp) (C : Addr) (cl : List (Str × Addr)) (fp : List Addr), PTsg B (X.blk s H scope (compEnvC scope cl C X.env) fp) W0 ifs tt)
    (he : ∀ (s : Shared) (H : Hp) (C : Addr) (cl : List (Str × Addr)) (fp : List Addr), PEg B (X.blk s H scope (compEnvC scope cl C X.env) fp) W0 elt we)
    (hsl : ∀ k ∈ sl, k ∈ own.map (·.2)) (hs : ∀ x, foldedSetIterable iter X.env x = pure x := by intro _; rfl) :
    PEg B X W (.ListComp elt [⟨tg, iter, ifs, 0⟩] scope pos) (wLc wi (own.map (·.2)) t tt we) := by
  obtain ⟨ti, hpi, hk⟩ := hi.ex
  refine PEg.of (pe_lc j.calm j.nd hpi ok (fun s H C cl fp => (hg s H C cl fp).pga) (fun s H C cl fp => (ht s H C cl fp).pts) (fun s H C cl fp => (he s H C cl fp).pe) hs) fun σ H g env st Q R bo rw hw => ?_
  exact lc_t j hk hsl bo rw hw fun _ _ z => z
end
end G
namespace G
open PySem PySem.Spec PyProof.Rows L2
section
variable {B : Bd} {X : Cx} {W : WX} {a b c e : Expr} {es : List Expr} {wa wb wc : WE} {ta : WA} {pos : Pos} {M : MT} {stm : Stmt} {rest : List Stmt} {w u : WS}
def Gh.cell (g : Gh) (n : Nat) (p : Addr) : Gh := ⟨g.P, fun m => if m = n then some p else g.ad m⟩
theorem BOk.newCell (ck : ConOk B.C) {g : Gh} {env : Envr} {st : Store} {σ : L2.St} {H : Hp} (bo : BOk B g env st σ H) {ds : List D} {xs : List V} (r : Reps B.C g ds xs) {p : Addr} (hp : H p = none) :
    Nx g H (g.cell st.length p) (upd H p (.lst xs)) ∧ BOk B (g.cell st.length p) env (st ++ [.lst ds]) σ (upd H p (.lst xs)) := by
  have e : ∀ a o, H a = some o → upd H p (.lst xs) a = some o := fun a o q => by rw [upd_ne (ne_of_none q hp)]; exact q
  have hn : g.ad st.length = none := by
    cases q : g.ad st.length with
    | none => rfl
    | some a => exact absurd (bo.ok.dom _ _ q) (Nat.lt_irrefl _)
  have ne : ∀ n a, g.ad n = some a → n ≠ st.length := fun n a q z => by rw [z, hn] at q; cases q
  have l : g.le (g.cell st.length p) := ⟨fun _ _ h => h, fun n a q => by
    show (if n = st.length then some p else g.ad n) = some a
    rw [if_neg (ne n a q)]; exact q⟩
  have at_ : ∀ n a, (g.cell st.length p).ad n = some a → (n = st.length ∧ a = p) ∨ g.ad n = some a := fun n a q => by
    have q' : (if n = st.length then some p else g.ad n) = some a := q
    by_cases h : n = st.length
    · rw [if_pos h] at q'; cases q'; exact .inl ⟨h, rfl⟩
    · rw [if_neg h] at q'; exact .inr q'
  have nx : Nx g H (g.cell st.length p) (upd H p (.lst xs)) := ⟨l, fun a o q _ _ => e a o q, dm_of e, fun n a q => by
    rcases at_ n a q with ⟨_, rfl⟩ | z
    · exact .inr hp
    · exact .inl z, fun a o q => .inl q⟩
  have b1 := bo.grow ck e
  refine ⟨nx, bo.of_sp l ⟨fun a o q => e a o (bo.ok.p a o q), bo.ok.nt, fun n a q => ?_, fun n m a q1 q2 => ?_, fun n c q => ?_, fun n a q => ?_, b1.ok.tab⟩ nx⟩
  · rcases at_ n a q with ⟨_, rfl⟩ | z
    · exact bo.ok.free hp
    · exact bo.ok.np n a z
  · rcases at_ n a q1 with ⟨h1, rfl⟩ | z1
    · rcases at_ m _ q2 with ⟨h2, _⟩ | z2
      · rw [h1, h2]
      · exact absurd z2 (bo.cellNe hp m)
    · rcases at_ m a q2 with ⟨h2, rfl⟩ | z2
      · exact absurd z1 (bo.cellNe hp n)
      · exact bo.ok.inj n m a z1 z2
  · by_cases hlt : n < st.length
    · rw [List.getElem?_append_left hlt] at q
      obtain ⟨a, h1, h2⟩ := bo.ok.cell n c q
      exact ⟨a, l.a n a h1, h2.mono l (upd_ne fun z => bo.cellNe hp n (by rw [← z]; exact h1))⟩
    · have hc : n = st.length ∧ c = .lst ds := by
        rw [List.getElem?_append_right (by omega)] at q
        by_cases hz : n - st.length = 0
        · rw [hz] at q
          simp at q
          exact ⟨by omega, q.symm⟩
        · rw [List.getElem?_eq_none (by simp; omega)] at q; cases q
      obtain ⟨rfl, rfl⟩ := hc
      refine ⟨p, by show (if st.length = st.length then some p else _) = _; rw [if_pos rfl], xs, upd_same, r.mono l⟩
  · rcases at_ n a q with ⟨rfl, _⟩ | z
    · simp
    · have := bo.ok.dom n a z
      simp; omega
/-- [..], a list that is changed by others too -/
def wCell (ta : WA) : WE := fun env st Q R => ta env st (fun ds st1 => ds.length ≤ sizeLine ∧ Q (.cel st1.length) (st1 ++ [.lst ds])) R
theorem g_cell (j : J B X W) (h : PAg B X W es ta) : PEg B X W (.List es pos) (wCell ta) := by
  refine PEg.of (pe_lst h.pa) fun σ H g env st Q R bo rw hw => ?_
  refine ⟨g, env, st, _, R, bo, rw, hw, fun xs H1 ⟨ds, st1, g1, l1, b1, r1, hz, h1⟩ => ⟨r1.length ▸ hz, fun p hp => ?_⟩⟩
  obtain ⟨nx, b2⟩ := b1.newCell j.ck r1 hp
  refine ⟨.cel st1.length, _, _, l1.trans nx, b2, ?_, h1⟩
  unfold Rep
  exact ⟨p, by show (if st1.length = st1.length then some p else _) = _; rw [if_pos rfl], rfl⟩
theorem BOk.chCell (ck : ConOk B.C) {g : Gh} {env : Envr} {st : Store} {σ : L2.St} {H : Hp} (bo : BOk B g env st σ H) {n : Nat} {p : Addr} {c : Cell} {o : HO} (hn : n < st.length) (hp : g.ad n = some p) (ho : ∃ o, H p = some o ∧ ¬ tabO o) (r : CellRep B.C g (upd H p o) p c) :
    BOk B g env (st.set n c) σ (upd H p o) := by
  obtain ⟨o0, ho, hto⟩ := ho
  have nP : ∀ b, g.P b ≠ none → b ≠ p := fun b q z => q (by rw [z]; exact bo.ok.np n p hp)
  have tt : B.C.TT (upd H p o) := ck.tt H _ bo.ok.tab fun b u q t => by
    rw [upd_ne (fun z => by rw [z, ho] at q; cases q; exact hto t)]; exact q
  have nx : Nx g H g (upd H p o) := ⟨.refl g, fun a u q t c => by rw [upd_ne (fun z => c n (by rw [z]; exact hp))]; exact q, fun a q => by
    by_cases h : a = p
    · rw [h, upd_same] at q; cases q
    · rw [upd_ne h] at q; exact q, fun _ _ h => .inl h, fun _ _ h => .inl h⟩
  refine bo.of_sp (.refl g) ⟨fun a u q => ?_, bo.ok.nt, bo.ok.np, bo.ok.inj, fun m c' q => ?_, fun m a q => by rw [List.length_set]; exact bo.ok.dom m a q, tt⟩ nx
  · rw [upd_ne (nP a (by rw [q]; simp))]; exact bo.ok.p a u q
  · by_cases hm : n = m
    · subst hm
      rw [List.getElem?_set_self hn] at q
      cases q
      exact ⟨p, hp, r⟩
    · rw [List.getElem?_set_ne hm] at q
      obtain ⟨b, q1, q2⟩ := bo.ok.cell m c' q
      exact ⟨b, q1, q2.mono (.refl g) (upd_ne fun z => hm (bo.ok.inj n m p hp (by rw [← z]; exact q1)))⟩
/-- x[k] = e: x a list of the frame's own, or a cell -/
def wPut (i : Nat) (wk wa : WE) : WS := fun env st D => match env[i]? with
  | some (Slot.own ds) => wa env st (fun d st1 => wk env st1 (fun k st2 => match k with
    | .int k => (match ixN ds.length k with | some m => D.nx (env.set i (.own (ds.set m d))) st2 | none => False)
    | _ => False) (xe D env)) (xe D env)
  | some (Slot.val (.cel n)) => wa env st (fun d st1 => wk env st1 (fun k st2 => match k with
    | .int k => (match st2[n]? with
      | some (.lst ds) => (match ixN ds.length k with | some m => D.nx env (st2.set n (.lst (ds.set m d))) | none => False)
      | _ => False)
    | _ => False) (xe D env)) (xe D env)
  | _ => False
theorem gs_put (j : J B X W) (i : Nat) {x : Str} {p p2 : Pos} (hk : PBg B X W b wb) (he : PEg B X W e wa) (hi : X.N[i]? = some x := by rfl) (hv : Vis X.env.scope x := by first | exact Or.inl rfl | exact Or.inr (Or.inl rfl) | exact Or.inr (Or.inr rfl))
    (hd : (x == ("__debug__" : Str)) = false := by decide +kernel) (hcd : (x == ("__classdict__" : Str)) = false := by decide +kernel)
    (ha : ∀ v, assign (.Subscript (.Name x p) b p2) X.env v = (do
      let ov ← holding [v] (eval (.Name x p) X.env)
      let iv ← holding [v, ov] (eval b X.env)
      standAt p2
      holding [v, ov, iv] (setItem ov iv v)
      release [v, ov, iv] []) := by intro _; rfl)
    (hs : swapsWithSole [.Subscript (.Name x p) b p2] e pos.line X.env = pure false := by rfl) (hw : swappedStores [.Subscript (.Name x p) b p2] e X.env = pure none := by rfl)
    (h1 : (assignEach [.Subscript (.Name x p) b p2] X.env).map (·.2) = [assign (.Subscript (.Name x p) b p2) X.env] := by rfl) :
    PSg B X W (.Assign [.Subscript (.Name x p) b p2] e pos) (wPut i wb wa) := by
  refine ⟨fun pins s σ H g env st D I bo rw hw' => ?_⟩
  have hx := pe_var (X := X) (i := i) (pos := p) hi hv hd hcd
  refine (ps_asg he.pe (pg_sub hx hk.pe set_list ha) hs hw h1).run pins s σ H _ I ?_
  unfold wPut at hw'
  split at hw'
  · rename_i ds0 ho
    refine ⟨g, env, st, _, _, bo, rw.at env σ, hw', fun y H1 ⟨d, st1, g1, l1, b1, r1, h1⟩ => ?_⟩
    obtain ⟨a1, xs1, hσ1, hH1, hr1⟩ := b1.ownAt ho
    refine ⟨_, hσ1, ?_⟩
    refine ⟨g1, env, st1, _, _, b1, rw.at env σ, h1, fun kv H2 ⟨k, st2, g2, l2, b2, r2, h2⟩ => ?_⟩
    obtain ⟨a2, xs2, hσ2, hH2, hr2⟩ := b2.ownAt ho
    rw [hσ1] at hσ2
    cases hσ2
    cases k with
    | int k =>
      dsimp only at h2
      split at h2
      · rename_i m hm
        refine ⟨a1, xs2, k, m, rfl, r2.intV, hH2, by rw [← hr2.length]; exact hm, _, st2, g2, (l1.trans l2).le, b2.chOwn j.ck ho hσ1 (hr2.set (r1.mono l2.le) m), h2⟩
      · exact h2.elim
    | _ => exact h2.elim
  · rename_i n ho
    refine ⟨g, env, st, _, _, bo, rw.at env σ, hw', fun y H1 ⟨d, st1, g1, l1, b1, r1, h1⟩ => ?_⟩
    obtain ⟨v, hσ, rv⟩ := b1.en.val i _ ho
    obtain ⟨a1, had, rfl⟩ := rv.celV
    refine ⟨_, hσ, ?_⟩
    refine ⟨g1, env, st1, _, _, b1, rw.at env σ, h1, fun kv H2 ⟨k, st2, g2, l2, b2, r2, h2⟩ => ?_⟩
    have had2 := l2.le.a n a1 had
    cases k with
    | int k =>
      dsimp only at h2
      split at h2
      · rename_i ds hds
        split at h2
        · rename_i m hm
          obtain ⟨a2, q1, xs2, q2, q3⟩ := b2.ok.cell n _ hds
          rw [had2] at q1
          cases q1
          refine ⟨a1, xs2, k, m, rfl, r2.intV, q2, by rw [← q3.length]; exact hm, _, _, g2, (l1.trans l2).le, b2.chCell j.ck (c := .lst (ds.set m d)) (List.getElem?_eq_some_iff.mp hds).1 had2 ⟨_, q2, fun z => z⟩ ⟨_, upd_same, q3.set (r1.mono l2.le) m⟩, h2⟩
        · exact h2.elim
      · exact h2.elim
    | _ => exact h2.elim
  · exact hw'.elim
def tyN : D → Option String
  | .non => some "NoneType" | .bl _ => some "bool" | .int _ => some "int" | .str _ => some "str" | .tup _ => some "tuple" | .lst _ => some "list"
  | _ => none
/-- a class among these is asked for -/
def isiB (a b : String) : Option Bool :=
  if b = "bool" then some (a = "bool") else if b = "int" then some (a = "int" || a = "bool") else if b = "str" then some (a = "str") else if b = "tuple" then some (a = "tuple") else if b = "list" then some (a = "list") else none
/-- the classes of one's own: which is below which -/
abbrev IS := Nat → Nat → Option Bool
structure IsOk (B : Bd) (X : Cx) (I : IS) : Prop where
  oo : ∀ c c' r, I c c' = some r → PySem.W.kitOne X.K (.ref (B.C.ca c)) (.ref (B.C.ca c')) = some r
  cl : ∀ c, I c c = some true → Cls X.K (B.C.ca c) ∧ PySem.W.findIn X.K (.ref (B.C.ca c)) "__class__" = some (some (.builtin "object.__class__")) ∧
    PySem.W.specialIn X.K (.builtin "object.__class__") "__get__" = some (some (.builtin "getset_descriptor.__get__")) ∧ PySem.W.takesIn X.K (.builtin "object.__class__") = some true ∧ PySem.W.mroIn X.K (B.C.ca c) (.type "object") = some true
  ob : ∀ c s, I c c = some true → isiB "int" s ≠ none → PySem.W.kitOne X.K (.ref (B.C.ca c)) (.type s) = some false
  bo : ∀ c d t, I c c = some true → tyN d = some t → PySem.W.kitOne X.K (.type t) (.ref (B.C.ca c)) = some false
def isiD (I : IS) (d c : D) : Option Bool := match c with
  | .cls c' => (match d with
    | .ob c _ => if I c c = some true then I c c' else none
    | d => if I c' c' = some true ∧ tyN d ≠ none then some false else none)
  | .ty s => (match d with
    | .ob c _ => if I c c = some true ∧ isiB "int" s ≠ none then some false else none
    | d => (match tyN d with | some t => isiB t s | none => none))
  | _ => none
def isiDs (I : IS) (d : D) : List D → Option Bool
  | [] => some false
  | c :: cs => (match isiD I d c with
    | some true => (match isiDs I d cs with | some _ => some true | none => none)
    | some false => isiDs I d cs
    | none => none)
def oIsi (I : IS) : ON := fun ds st Q R => match ds with
  | [d, .tup cs] => (match isiDs I d cs with | some r => cs ≠ [] ∧ Q (.bl r) st | none => False)
  | [d, c] => (match isiD I d c with | some r => Q (.bl r) st | none => False)
  | _ => False
end
end G
namespace G
open PySem PySem.Spec PyProof.Rows L2
/-- a def of the text, where it stands -/
structure DefAt (C : Con) (mg : Str → Option Value) (x : Str) (params : Arguments) (body : List Stmt) (scope : Scope) (ps : List Str) : Prop where
  ex : ∃ f fd, FunD C.K x x params body scope [] [] f fd ∧ mg x = some (.ref f) ∧ L2.Binds C.K fd ps []
/-- a def whose promise is kept -/
structure Fnp (P : Program) (w : World) (C : Con) (mg : Str → Option Value) (base : Heap) (x : Str) (n k : Nat) (φ : WF) : Prop where
  len : ∀ ds st Q R, φ ds st Q R → ds.length = n
  ex : ∃ f fd ps, FnOk P w C.K mg base (L2.CX P w) k f fd ps (spOf C φ n) ∧ ps.length = n ∧ mg x = some (.ref f) ∧ PySem.W.keepIn C.K (.ref f) = true ∧ L2.Binds C.K fd ps []
theorem Fnp.at {B : Bd} {X : Cx} {x : Str} {n k m : Nat} {φ : WF} (h : Fnp X.prog X.w B.C X.mg X.base x n k φ) (hK : X.K = B.C.K) (hr : Room m X.A) (hk : k ≤ m := by decide) : FunG B X x n φ := by
  obtain ⟨f, fd, ps, ok, hn, hm, hk', hb⟩ := h.ex
  exact ⟨h.len, k, f, fd, ps, hr.mono hk, by rw [hK]; exact ok, hn, hm, by rw [hK]; exact hk', by rw [hK]; exact hb⟩
/-- a def keeps its promise, by its body -/
theorem Fnp.of {P : Program} {w : World} {C : Con} {mg : Str → Option Value} {base : Heap} {x : Str} {params : Arguments} {body : List Stmt} {scope : Scope} {N ps : List Str} {k : Nat} {wb : WS}
    (ck : ConOk C) (D : DefAt C mg x params body scope ps) (S : FnScope N ps scope)
    (h : ∀ (f : Addr) (cdv : Value) (A : Around) (outer : List Env) (s : Shared) (H : Hp) (E : XK) (g : Gh) (W : WX), Room k (A.deeper (envOfC x scope s.heap.objs.size f cdv)) → J ⟨C, g, H⟩ (cxOf (L2.CX P w) P w C.K mg base N x scope f cdv A outer s H E) W →
      PSsg ⟨C, g, H⟩ (cxOf (L2.CX P w) P w C.K mg base N x scope f cdv A outer s H E) W body wb) : Fnp P w C mg base x ps.length (k + 1) (wfn N.length ps.length wb) := by
  obtain ⟨f, fd, F, hm, hb⟩ := D.ex
  exact ⟨wfn_len, f, fd, ps, fn_ok ck F S (h f), rfl, hm, F.kp, hb⟩
/-- at depth nought nothing is promised -/
theorem Fnp.never {P : Program} {w : World} {C : Con} {mg : Str → Option Value} {base : Heap} {x : Str} {params : Arguments} {body : List Stmt} {scope : Scope} {N ps : List Str} {k : Nat}
    (D : DefAt C mg x params body scope ps) (S : FnScope N ps scope) : Fnp P w C mg base x ps.length (k + 1) (fun _ _ _ _ => False) := by
  obtain ⟨f, fd, F, hm, hb⟩ := D.ex
  refine ⟨fun _ _ _ _ h => h.elim, f, fd, ps, ?_, rfl, hm, F.kp, hb⟩
  refine F.ok (CX := L2.CX P w) S (fun vs H Q E h => h.1) fun cdv A outer s H vs Q E hr ⟨hn, g, ds, st, Qg, R, ok, r, hw, hQ, hE⟩ => hw.elim
/-- no methods -/
def M0 : MT := fun _ _ => none
theorem m0 {B : Bd} {X : Cx} : MOk B X M0 := ⟨fun c m φ h => by cases h⟩
def I0 : IS := fun _ _ => none
theorem i0 {B : Bd} {X : Cx} : IsOk B X I0 := ⟨fun _ _ _ h => (by cases h), fun _ h => (by cases h), fun _ _ h => (by cases h), fun _ _ _ h => (by cases h)⟩
end G
namespace G
open PySem PySem.Spec PyProof.Rows L2
def putD (i : Nat) (d : D) : List (Nat × D) → List (Nat × D)
  | [] => [(i, d)]
  | (k, x) :: r => if k = i then (k, d) :: r else (k, x) :: putD i d r
def getD' (i : Nat) : List (Nat × D) → Option D
  | [] => none
  | (k, x) :: r => if k = i then some x else getD' i r
/-- which names are plain attributes of which class; names differ -/
structure FOk (B : Bd) (X : Cx) (F : Nat → Nat → Bool) : Prop where
  at_ : ∀ c i, F c i = true → Cls X.K (B.C.ca c) ∧ NoAttr X.K (B.C.ca c) (B.C.fn i)
  inj : ∀ i j, B.C.fn i = B.C.fn j → i = j
/-- properties -/
structure PrOk (B : Bd) (X : Cx) (T : Nat → Nat → Option WF) : Prop where
  pr : ∀ c i φ, T c i = some φ → ∃ k p g fd ps n, Room (k + 1) X.A ∧ L2.FnOk X.prog X.w X.K X.mg X.base (L2.CX X.prog X.w) k g fd ps (spOf B.C φ n) ∧ Cls X.K (B.C.ca c) ∧ PropOf X.K (B.C.ca c) (B.C.fn i) p g ∧ L2.Binds X.K fd ps [] ∧ ∀ ds st Q R, φ ds st Q R → ds.length = n
section
variable {C : Con} {g : Gh}
theorem RepF.some (hi : ∀ i j, C.fn i = C.fn j → i = j) {i : Nat} {d : D} : ∀ {fs : List (Nat × D)} {fv : List (Str × V)}, RepF C g fs fv → getD' i fs = some d → ∃ v, fv.lookup (C.fn i) = some v ∧ Rep C g d v
  | [], _, h, e => by cases e
  | (k, x) :: r, fv, h, e => by
    unfold RepF at h
    obtain ⟨v, q, rfl, a, b⟩ := h
    unfold getD' at e
    by_cases hk : k = i
    · rw [if_pos hk] at e
      cases e
      subst hk
      exact ⟨v, by rw [List.lookup_cons, beq_self_eq_true], a⟩
    · rw [if_neg hk] at e
      obtain ⟨u, h1, h2⟩ := RepF.some hi b e
      refine ⟨u, ?_, h2⟩
      rw [List.lookup_cons]
      have : (C.fn i == C.fn k) = false := by
        cases z : (C.fn i == C.fn k) with
        | false => rfl
        | true => exact absurd (hi _ _ (eq_of_beq z)).symm hk
      rw [this]; exact h1
theorem RepF.none (hi : ∀ i j, C.fn i = C.fn j → i = j) {i : Nat} : ∀ {fs : List (Nat × D)} {fv : List (Str × V)}, RepF C g fs fv → getD' i fs = .none → fv.lookup (C.fn i) = .none
  | [], _, h, e => by unfold RepF at h; subst h; rfl
  | (k, x) :: r, fv, h, e => by
    unfold RepF at h
    obtain ⟨v, q, rfl, a, b⟩ := h
    unfold getD' at e
    by_cases hk : k = i
    · rw [if_pos hk] at e; cases e
    · rw [if_neg hk] at e
      rw [List.lookup_cons]
      have : (C.fn i == C.fn k) = false := by
        cases z : (C.fn i == C.fn k) with
        | false => rfl
        | true => exact absurd (hi _ _ (eq_of_beq z)).symm hk
      rw [this]; exact RepF.none hi b e
theorem RepF.put (hi : ∀ i j, C.fn i = C.fn j → i = j) {i : Nat} {d : D} {v : V} (rd : Rep C g d v) : ∀ {fs : List (Nat × D)} {fv : List (Str × V)}, RepF C g fs fv → RepF C g (putD i d fs) (putF (C.fn i) v fv)
  | [], _, h => by
    unfold RepF at h; subst h
    unfold putD putF RepF
    exact ⟨v, [], rfl, rd, by unfold RepF; rfl⟩
  | (k, x) :: r, fv, h => by
    unfold RepF at h
    obtain ⟨u, q, rfl, a, b⟩ := h
    unfold putD putF
    by_cases hk : k = i
    · subst hk
      rw [if_pos rfl, if_pos rfl]
      unfold RepF
      exact ⟨v, q, rfl, rd, b⟩
    · rw [if_neg hk, if_neg fun z => hk (hi _ _ z)]
      unfold RepF
      exact ⟨u, _, rfl, a, RepF.put hi rd b⟩
theorem RepF.length : ∀ {fs : List (Nat × D)} {fv : List (Str × V)}, RepF C g fs fv → fs.length = fv.length
  | [], _, h => by unfold RepF at h; subst h; rfl
  | (k, x) :: r, fv, h => by
    unfold RepF at h
    obtain ⟨u, q, rfl, a, b⟩ := h
    simp [RepF.length b]
end
section
variable {B : Bd} {X : Cx} {W : WX} {a b c e o value : Expr} {es : List Expr} {wa wb wc : WE} {ta : WA} {pos apos : Pos} {M : MT}
/-- e.f read: a property, else a plain attribute -/
def attOb (F : Nat → Nat → Bool) (T : Nat → Nat → Option WF) (i : Nat) (d : D) (c : Nat) (fs : List (Nat × D)) (st : Store) (Q : QE) : Prop := match T c i with
  | some φ => φ [d] st Q noX
  | none => F c i = true ∧ (match getD' i fs with | some v => Q v st | none => False)
def oAtt (F : Nat → Nat → Bool) (T : Nat → Nat → Option WF) (i : Nat) : O1 := fun d st Q R => match d with
  | .ob c fs => attOb F T i d c fs st Q
  | .cel n => (match st[n]? with | some (.ins c fs) => attOb F T i d c fs st Q | _ => False)
  | _ => False
theorem no_out {P : Program} {w : World} {outer : List Env} {H : Hp} {s s' : Shared} {u : Value} (h : L2.CX P w outer H s (fun _ _ _ => False) u s') : False := by
  obtain ⟨_, _, _, _, _, _, _, _, _, _, _, _, q⟩ := h
  exact q
theorem att_run {F : Nat → Nat → Bool} {T : Nat → Nat → Option WF} (j : J B X W) (fo : FOk B X F) (po : PrOk B X T) {i cc : Nat} {d : D} {p dx : Addr} {fs : List (Nat × D)} {fv : List (Str × V)} {gb g : Gh} {Hb : Hp} {env : Envr} {st : Store} {σ : L2.St} {H : Hp} {pins : List (Addr × Obj)} {s : Shared} {Q : QE} {bb : Bool}
    (l : Nx gb Hb g H) (bo : BOk B g env st σ H) (I : Inv X pins σ H s) (hp : H p = some (.ins (B.C.ca cc) dx fv)) (rf : RepF B.C g fs fv) (rd : Rep B.C g d (.ref p)) (h : attOb F T i d cc fs st Q) :
    wpAny (model X.prog X.w) X.A (getAttr (.ref p) (B.C.fn i) bb) (EP X pins σ (QV B gb Hb env σ Q)) X.xe s := by
  unfold attOb at h
  split at h
  · rename_i φ hT
    obtain ⟨k, q, gg, fd, ps, n, hr, ok, hc, hpr, hb, hl⟩ := po.pr cc i φ hT
    refine getprop_ok (E := fun _ _ _ => False) I hp hc hpr ok hr hb .nil (fun _ _ _ _ _ _ _ z => (no_out z).elim) ?_
    refine ⟨(hl _ _ _ _ h), g, [d], st, Q, noX, bo.ok, Reps.cons rd Reps.nil, h, fun v H' ⟨d', st', g', l', ok', nx, rv, q⟩ => ?_, fun cls dd H' ⟨x, st', g', _, _, _, _, z⟩ => z⟩
    exact ⟨d', st', g', l.trans nx, bo.of_sp l' ok' nx, rv, q⟩
  · obtain ⟨hF, h⟩ := h
    obtain ⟨hc, hn⟩ := fo.at_ cc i hF
    split at h
    · rename_i v hv
      obtain ⟨u, h1, h2⟩ := rf.some fo.inj hv
      exact getattr_ok I hp hc hn h1 fun u' s' I' ru => ⟨u, H, I', ru, QV.same l bo h2 h⟩
    · exact h.elim
theorem g_att {F : Nat → Nat → Bool} {T : Nat → Nat → Option WF} (j : J B X W) (fo : FOk B X F) (po : PrOk B X T) (i : Nat) {f : Str} (hf : B.C.fn i = f) (he : PBg B X W e wa) (hab : attributeBase e f X.env (eval e X.env) = eval e X.env := by rfl) : PEg B X W (.Attribute e f pos) (wUn (oAtt F T i) wa) := by
  subst hf
  refine ⟨fun pins s σ H g env st Q R I bo rw hw => ?_⟩
  refine attr_of hab (thn (he.run pins s σ H g env st _ R I bo rw hw) fun u s1 ⟨x, H1, I1, rx, d, st1, g1, l1, b1, rd, q⟩ => ?_)
  unfold oAtt at q
  dsimp only at q
  split at q
  · rename_i cc fs
    obtain ⟨p, dx, fv, rfl, hp, rf, rd'⟩ := rep_ob b1 rd
    cases rx
    exact att_run j fo po l1 b1 I1 hp rf rd' q
  · rename_i n
    have rd' := rd.full (fun ds z => by cases z)
    split at q
    · rename_i cc fs hst
      obtain ⟨p, e1, hcell⟩ := rd'.celV
      subst hcell
      cases rx
      obtain ⟨p2, q1, dx, fv, q2, q3⟩ := b1.ok.cell n _ hst
      rw [e1] at q1
      cases q1
      exact att_run j fo po l1 b1 I1 q2 q3 rd' q
    · exact q.elim
  · exact q.elim
def clsOf (d : D) (st : Store) : Option (Nat × List (Nat × D)) := match d with
  | .ob c fs => some (c, fs)
  | .cel n => (match st[n]? with | some (.ins c fs) => some (c, fs) | _ => none)
  | _ => none
/-- o.m(e, ..) -/
def wMeth (M : MT) (i : Nat) (wa : WE) (ta : WA) : WE := fun env st Q R => wa env st (fun d st1 => match clsOf d st1 with
  | some (c, fs) => getD' i fs = none ∧ (match M c (.nm i) with
    | some φ => ta env st1 (fun ds st2 => φ (d :: ds) st2 Q R) R
    | none => False)
  | none => False) R
theorem cls_at {g : Gh} {env : Envr} {st : Store} {σ : L2.St} {H : Hp} (bo : BOk B g env st σ H) {d : D} {v : V} {cc : Nat} {fs : List (Nat × D)} (rd : Rep B.C g d v) (h : clsOf d st = some (cc, fs)) : ∃ p dx fv, v = .ref p ∧ H p = some (.ins (B.C.ca cc) dx fv) ∧ RepF B.C g fs fv := by
  unfold clsOf at h
  split at h
  · cases h
    obtain ⟨p, dx, fv, rfl, hp, rf⟩ := rd.obV
    exact ⟨p, dx, fv, rfl, bo.ok.p _ _ hp, rf⟩
  · rename_i n
    split at h
    · rename_i cc fs hst
      cases h
      obtain ⟨p, e1, rfl⟩ := rd.celV
      obtain ⟨p2, q1, dx, fv, q2, q3⟩ := bo.ok.cell n _ hst
      rw [e1] at q1
      cases q1
      exact ⟨p, dx, fv, rfl, q2, q3⟩
    · cases h
  · cases h
theorem g_meth0 (j : J B X W) (m : MOk B X M) (hij : ∀ i j, B.C.fn i = B.C.fn j → i = j) (hmn : B.C.mn = B.C.fn) {pl : Sem Bool} (i : Nat) {f : Str} (hf : B.C.fn i = f) (ho : PEg B X W o wa)
    (ht : eval (.Call (.Attribute o f apos) [] [] pos) X.env = (do
      let ov ← eval o X.env
      standAt apos.atName
      let (f, first) ← holding [ov] (getMethod ov f pl)
      callWith pos f first (backTo pos (starEach [] X.env)) (backToKw pos (keywordEach [] X.env))) := by rfl) :
    PEg B X W (.Call (.Attribute o f apos) [] [] pos) (wMeth M i wa waNil) := by
  subst hf
  refine ⟨fun pins s σ H g env st Q R I bo rw hw => ?_⟩
  refine PySem.W.methodCall_KW (pl := pl) (thn (ho.run pins s σ H g env st _ R I bo rw hw) fun u s1 ⟨x, H1, I1, rx, d, st1, g1, l1, b1, rd, q⟩ => ?_) ht
  dsimp only at q
  split at q
  · rename_i cc fs hcl
    obtain ⟨hnf, q⟩ := q
    split at q
    · rename_i φ hM
      obtain ⟨p, dx, fv, rfl, hp, rf⟩ := cls_at b1 rd hcl
      cases rx
      obtain ⟨k, hr, ⟨fa, ok, hme⟩, hc, hs⟩ := m.met cc (.nm i) φ hM
      have hme' : Meth X.K (B.C.ca cc) (B.C.fn i) fa := by rw [← hmn]; exact hme
      refine getmeth_ok I1 hp hc hme' (rf.none hij hnf) ?_
      exact PySem.W.callWith_K0 (first := [.ref p]) I1.kIn hme'.kp (run_A j ok hr l1 b1 rw I1 (Reps.cons rd Reps.nil) (.cons rfl .nil) q)
    · exact q.elim
  · exact q.elim
def wFld (F : Nat → Nat → Bool) (i : Nat) (wo wv : WE) : WS := fun env st D => wv env st (fun y st1 => wo env st1 (fun x st2 => match x with
  | .cel n => (match st2[n]? with
    | some (.ins c fs) => F c i = true ∧ fs.length < 1000 ∧ D.nx env (st2.set n (.ins c (putD i y fs)))
    | _ => False)
  | _ => False) (xe D env)) (xe D env)
theorem gs_fld {F : Nat → Nat → Bool} (j : J B X W) (fo : FOk B X F) (i : Nat) {f : Str} {pos' : Pos} (hf : B.C.fn i = f) (ho : PEg B X W o wa) (hv : PEg B X W value wb) (hs : swapsWith value (some (.Attribute o f pos')) pos.line X.env = pure false := by rfl) : PSg B X W (.Assign [.Attribute o f pos'] value pos) (wFld F i wa wb) := by
  subst hf
  refine ⟨fun pins s σ H g env st D I bo rw hw => ?_⟩
  refine plainObj_wpAny_Assign_Attribute (thn (hv.run pins s σ H g env st _ _ I bo (rw.at env σ) hw) fun u s1 ⟨y, H1, I1, ry, d, st1, g1, l1, b1, rd, q⟩ => thn (ho.run pins s1 σ H1 g1 env st1 _ _ I1 b1 (rw.at env σ) q) fun ov s2 ⟨x, H2, I2, rx, d2, st2, g2, l2, b2, rd2, q2⟩ => ?_) hs
  cases d2 with
  | cel n =>
    dsimp only at q2
    split at q2
    · rename_i cc fs hst
      obtain ⟨hF, hl, q2⟩ := q2
      obtain ⟨hc, hn⟩ := fo.at_ cc i hF
      obtain ⟨p, e1, rfl⟩ := rd2.celV
      obtain ⟨p2, q1, dx, fv, q3, q4⟩ := b2.ok.cell n _ hst
      rw [e1] at q1
      cases q1
      cases rx
      refine setattr_ok I2 q3 hc hn (by rw [← q4.length]; exact hl) ry fun s3 I3 => ⟨σ, _, I3, ?_⟩
      exact ⟨env, _, g2, (l1.trans l2).le, b2.chCell j.ck (c := .ins cc (putD i d fs)) (List.getElem?_eq_some_iff.mp hst).1 e1 ⟨_, q3, fun z => z⟩ ⟨dx, _, upd_same, q4.put fo.inj (rd.mono l2.le)⟩, q2⟩
    · exact q2.elim
  | _ => exact q2.elim
end
end G
namespace G
open PySem PySem.Spec PyProof.Rows L2
mutual
def D.noc (n : Nat) : D → Prop
  | .tup xs => D.nocs n xs
  | .lst xs => D.nocs n xs
  | .scr xs => D.nocs n xs
  | .wtp xs => D.nocs n xs
  | .ob _ fs => D.nocF n fs
  | .cel m => m ≠ n
  | .dct kvs => D.nocK n kvs
  | .dtt kvs => D.nocK n kvs
  | _ => True
def D.nocs (n : Nat) : List D → Prop
  | [] => True
  | d :: ds => D.noc n d ∧ D.nocs n ds
def D.nocF (n : Nat) : List (Nat × D) → Prop
  | [] => True
  | (_, d) :: ds => D.noc n d ∧ D.nocF n ds
def D.nocK (n : Nat) : List (D × D) → Prop
  | [] => True
  | (_, d) :: ds => D.noc n d ∧ D.nocK n ds
end
def Cell.noc (n : Nat) : Cell → Prop
  | .lst xs => D.nocs n xs
  | .ins _ fs => D.nocF n fs
mutual
theorem Rep.nocOf {C : Con} {g : Gh} {n : Nat} (h : g.ad n = none) : ∀ {d : D} {v : V}, Rep C g d v → d.noc n
  | .non, v, _ => trivial
  | .bl _, v, _ => trivial
  | .int _, v, _ => trivial
  | .str _, v, _ => trivial
  | .tup ds, v, k => by unfold Rep at k; obtain ⟨a, xs, e, s, r⟩ := k; exact Reps.nocOf h r
  | .lst ds, v, k => by unfold Rep at k; obtain ⟨a, xs, e, s, r⟩ := k; exact Reps.nocOf h r
  | .scr ds, v, k => by unfold Rep at k; obtain ⟨a, xs, e, s, r⟩ := k; exact Reps.nocOf h r
  | .ob c fs, v, k => by unfold Rep at k; obtain ⟨a, dx, fv, e, s, r⟩ := k; exact RepF.nocOf h r
  | .cel m, v, k => by
    unfold Rep at k
    obtain ⟨a, e, s⟩ := k
    exact fun z => by rw [z, h] at e; cases e
  | .cls _, v, _ => trivial
  | .ty _, v, _ => trivial
  | .dct kvs, v, k => by unfold Rep at k; obtain ⟨a, xs, e, s, r⟩ := k; exact RepK.nocOf h r
  | .dtt kvs, v, k => by unfold Rep at k; obtain ⟨a, xs, e, s, r⟩ := k; exact RepT.nocOf h r
  | .raw _, v, _ => trivial
  | .wtp ds, v, k => by unfold Rep at k; obtain ⟨a, xs, e, s, r⟩ := k; exact Reps.nocOf h r
theorem Reps.nocOf {C : Con} {g : Gh} {n : Nat} (h : g.ad n = none) : ∀ {ds : List D} {vs : List V}, Reps C g ds vs → D.nocs n ds
  | [], vs, _ => trivial
  | d :: ds, vs, k => by unfold Reps at k; obtain ⟨v, r, e, a, b⟩ := k; exact ⟨Rep.nocOf h a, Reps.nocOf h b⟩
theorem RepF.nocOf {C : Con} {g : Gh} {n : Nat} (h : g.ad n = none) : ∀ {fs : List (Nat × D)} {vs : List (Str × V)}, RepF C g fs vs → D.nocF n fs
  | [], vs, _ => trivial
  | (i, d) :: ds, vs, k => by unfold RepF at k; obtain ⟨v, r, e, a, b⟩ := k; exact ⟨Rep.nocOf h a, RepF.nocOf h b⟩
theorem RepK.nocOf {C : Con} {g : Gh} {n : Nat} (h : g.ad n = none) : ∀ {fs : List (D × D)} {vs : List (L2.Key × V)}, RepK C g fs vs → D.nocK n fs
  | [], vs, _ => trivial
  | (i, d) :: ds, vs, k => by unfold RepK at k; obtain ⟨_, v, r, e, _, a, b⟩ := k; exact ⟨Rep.nocOf h a, RepK.nocOf h b⟩
theorem RepT.nocOf {C : Con} {g : Gh} {n : Nat} (h : g.ad n = none) : ∀ {fs : List (D × D)} {vs : List (List L2.Key × V)}, RepT C g fs vs → D.nocK n fs
  | [], vs, _ => trivial
  | (i, d) :: ds, vs, k => by unfold RepT at k; obtain ⟨_, v, r, e, _, a, b⟩ := k; exact ⟨Rep.nocOf h a, RepT.nocOf h b⟩
end
theorem GOk.noc {C : Con} {g : Gh} {H : Hp} {st : Store} (k : GOk C g H st) (h : g.ad st.length = none) : ∀ cl ∈ st, cl.noc st.length := by
  intro cl hc
  obtain ⟨n, hn, rfl⟩ := List.mem_iff_getElem.mp hc
  obtain ⟨a, h1, h2⟩ := k.cell n st[n] (by simp [hn])
  cases e : st[n] with
  | lst ds => rw [e] at h2; obtain ⟨xs, _, r⟩ := h2; exact Reps.nocOf h r
  | ins c fs => rw [e] at h2; obtain ⟨dx, fv, _, r⟩ := h2; exact RepF.nocOf h r
/-- cell n becomes a thing that does not change -/
def Gh.fix (g : Gh) (n : Nat) (p : Addr) (o : HO) : Gh := ⟨upd g.P p o, fun m => if m = n then none else g.ad m⟩
section
variable {C : Con} {g : Gh} {n : Nat} {p : Addr} {o : HO}
mutual
theorem Rep.fix (hp : g.P p = none) : ∀ {d : D} {v : V}, d.noc n → Rep C g d v → Rep C (g.fix n p o) d v
  | .non, v, _, h => h
  | .bl _, v, _, h => h
  | .int _, v, _, h => h
  | .str _, v, _, h => h
  | .tup ds, v, k, h => by
    unfold Rep at h ⊢
    obtain ⟨a, xs, e, s, r⟩ := h
    exact ⟨a, xs, e, by show upd g.P p o a = some _; rw [upd_ne (ne_of_none s hp)]; exact s, Reps.fix hp k r⟩
  | .lst ds, v, k, h => by
    unfold Rep at h ⊢
    obtain ⟨a, xs, e, s, r⟩ := h
    exact ⟨a, xs, e, by show upd g.P p o a = some _; rw [upd_ne (ne_of_none s hp)]; exact s, Reps.fix hp k r⟩
  | .scr ds, v, k, h => by
    unfold Rep at h ⊢
    obtain ⟨a, xs, e, s, r⟩ := h
    exact ⟨a, xs, e, Same.sqL (fun b u q => by show upd g.P p o b = some u; rw [upd_ne (ne_of_none q hp)]; exact q) s, Reps.fix hp k r⟩
  | .ob c fs, v, k, h => by
    unfold Rep at h ⊢
    obtain ⟨a, dx, fv, e, s, r⟩ := h
    exact ⟨a, dx, fv, e, by show upd g.P p o a = some _; rw [upd_ne (ne_of_none s hp)]; exact s, RepF.fix hp k r⟩
  | .cel m, v, k, h => by
    unfold Rep at h ⊢
    obtain ⟨a, e, s⟩ := h
    exact ⟨a, by show (if m = n then none else g.ad m) = some a; rw [if_neg k]; exact e, s⟩
  | .cls _, v, _, h => h
  | .ty _, v, _, h => h
  | .dct kvs, v, k, h => by
    unfold Rep at h ⊢
    obtain ⟨a, xs, e, s, r⟩ := h
    exact ⟨a, xs, e, by show upd g.P p o a = some _; rw [upd_ne (ne_of_none s hp)]; exact s, RepK.fix hp k r⟩
  | .dtt kvs, v, k, h => by
    unfold Rep at h ⊢
    obtain ⟨a, xs, e, s, r⟩ := h
    exact ⟨a, xs, e, by show upd g.P p o a = some _; rw [upd_ne (ne_of_none s hp)]; exact s, RepT.fix hp k r⟩
  | .raw _, v, _, h => h
  | .wtp ds, v, k, h => by
    unfold Rep at h ⊢
    obtain ⟨a, xs, e, s, r⟩ := h
    exact ⟨a, xs, e, s, Reps.fix hp k r⟩
theorem Reps.fix (hp : g.P p = none) : ∀ {ds : List D} {vs : List V}, D.nocs n ds → Reps C g ds vs → Reps C (g.fix n p o) ds vs
  | [], vs, _, h => h
  | d :: ds, vs, k, h => by
    unfold Reps at h ⊢
    obtain ⟨v, r, e, a, b⟩ := h
    exact ⟨v, r, e, Rep.fix hp k.1 a, Reps.fix hp k.2 b⟩
theorem RepF.fix (hp : g.P p = none) : ∀ {ds : List (Nat × D)} {vs : List (Str × V)}, D.nocF n ds → RepF C g ds vs → RepF C (g.fix n p o) ds vs
  | [], vs, _, h => h
  | (i, d) :: ds, vs, k, h => by
    unfold RepF at h ⊢
    obtain ⟨v, r, e, a, b⟩ := h
    exact ⟨v, r, e, Rep.fix hp k.1 a, RepF.fix hp k.2 b⟩
theorem RepK.fix (hp : g.P p = none) : ∀ {ds : List (D × D)} {vs : List (L2.Key × V)}, D.nocK n ds → RepK C g ds vs → RepK C (g.fix n p o) ds vs
  | [], vs, _, h => h
  | (i, d) :: ds, vs, k, h => by
    unfold RepK at h ⊢
    obtain ⟨key, v, r, e, ek, a, b⟩ := h
    exact ⟨key, v, r, e, ek, Rep.fix hp k.1 a, RepK.fix hp k.2 b⟩
theorem RepT.fix (hp : g.P p = none) : ∀ {ds : List (D × D)} {vs : List (List L2.Key × V)}, D.nocK n ds → RepT C g ds vs → RepT C (g.fix n p o) ds vs
  | [], vs, _, h => h
  | (i, d) :: ds, vs, k, h => by
    unfold RepT at h ⊢
    obtain ⟨key, v, r, e, ek, a, b⟩ := h
    exact ⟨key, v, r, e, ek, Rep.fix hp k.1 a, RepT.fix hp k.2 b⟩
end
end
section
variable {B : Bd} {X : Cx} {W : WX} {a b c e : Expr} {es : List Expr} {wa wb wc : WE} {ta : WA} {pos : Pos} {M : MT}
theorem BOk.newCellO (ck : ConOk B.C) {g : Gh} {env : Envr} {st : Store} {σ : L2.St} {H : Hp} (bo : BOk B g env st σ H) {p : Addr} {o : HO} {cl : Cell} (hp : H p = none) (r : CellRep B.C (g.cell st.length p) (upd H p o) p cl) :
    Nx g H (g.cell st.length p) (upd H p o) ∧ BOk B (g.cell st.length p) env (st ++ [cl]) σ (upd H p o) := by
  have e : ∀ a u, H a = some u → upd H p o a = some u := fun a u q => by rw [upd_ne (ne_of_none q hp)]; exact q
  have hn : g.ad st.length = none := by
    cases q : g.ad st.length with
    | none => rfl
    | some a => exact absurd (bo.ok.dom _ _ q) (Nat.lt_irrefl _)
  have ne : ∀ n a, g.ad n = some a → n ≠ st.length := fun n a q z => by rw [z, hn] at q; cases q
  have l : g.le (g.cell st.length p) := ⟨fun _ _ h => h, fun n a q => by
    show (if n = st.length then some p else g.ad n) = some a
    rw [if_neg (ne n a q)]; exact q⟩
  have at_ : ∀ n a, (g.cell st.length p).ad n = some a → (n = st.length ∧ a = p) ∨ g.ad n = some a := fun n a q => by
    have q' : (if n = st.length then some p else g.ad n) = some a := q
    by_cases h : n = st.length
    · rw [if_pos h] at q'; cases q'; exact .inl ⟨h, rfl⟩
    · rw [if_neg h] at q'; exact .inr q'
  have nx : Nx g H (g.cell st.length p) (upd H p o) := ⟨l, fun a u q _ _ => e a u q, dm_of e, fun n a q => by
    rcases at_ n a q with ⟨_, rfl⟩ | z
    · exact .inr hp
    · exact .inl z, fun a u q => .inl q⟩
  have b1 := bo.grow ck e
  refine ⟨nx, bo.of_sp l ⟨fun a u q => e a u (bo.ok.p a u q), bo.ok.nt, fun n a q => ?_, fun n m a q1 q2 => ?_, fun n c q => ?_, fun n a q => ?_, b1.ok.tab⟩ nx⟩
  · rcases at_ n a q with ⟨_, rfl⟩ | z
    · exact bo.ok.free hp
    · exact bo.ok.np n a z
  · rcases at_ n a q1 with ⟨h1, rfl⟩ | z1
    · rcases at_ m _ q2 with ⟨h2, _⟩ | z2
      · rw [h1, h2]
      · exact absurd z2 (bo.cellNe hp m)
    · rcases at_ m a q2 with ⟨h2, rfl⟩ | z2
      · exact absurd z1 (bo.cellNe hp n)
      · exact bo.ok.inj n m a z1 z2
  · by_cases hlt : n < st.length
    · rw [List.getElem?_append_left hlt] at q
      obtain ⟨a, h1, h2⟩ := bo.ok.cell n c q
      exact ⟨a, l.a n a h1, h2.mono l (upd_ne fun z => bo.cellNe hp n (by rw [← z]; exact h1))⟩
    · have hc : n = st.length ∧ c = cl := by
        rw [List.getElem?_append_right (by omega)] at q
        by_cases hz : n - st.length = 0
        · rw [hz] at q
          simp at q
          exact ⟨by omega, q.symm⟩
        · rw [List.getElem?_eq_none (by simp; omega)] at q; cases q
      obtain ⟨rfl, rfl⟩ := hc
      exact ⟨p, by show (if st.length = st.length then some p else _) = _; rw [if_pos rfl], r⟩
  · rcases at_ n a q with ⟨rfl, _⟩ | z
    · simp
    · have := bo.ok.dom n a z
      simp; omega
/-- an instance, the last cell, is done: from here on it does not change -/
theorem GOk.fix {g g0 : Gh} {H H0 : Hp} {st : Store} {cc : Nat} {fs : List (Nat × D)} (k : GOk B.C g H (st ++ [.ins cc fs])) (nx : Nx g0 H0 g H) (h0 : g0.ad st.length = none) (hs : ∀ cl ∈ st, cl.noc st.length) (hf : D.nocF st.length fs) :
    ∃ g' p, Nx g0 H0 g' H ∧ GOk B.C g' H st ∧ Rep B.C g' (.ob cc fs) (.ref p) ∧ g.ad st.length = some p := by
  obtain ⟨p, hp, dx, fv, hH, rf⟩ := k.cell st.length (.ins cc fs) (by rw [List.getElem?_append_right (Nat.le_refl _)]; simp)
  have hP : g.P p = none := k.np _ _ hp
  have ad' : ∀ n a, (g.fix st.length p (.ins (B.C.ca cc) dx fv)).ad n = some a → n ≠ st.length ∧ g.ad n = some a := fun n a q => by
    have q' : (if n = st.length then none else g.ad n) = some a := q
    by_cases h : n = st.length
    · rw [if_pos h] at q'; cases q'
    · rw [if_neg h] at q'; exact ⟨h, q'⟩
  refine ⟨g.fix st.length p (.ins (B.C.ca cc) dx fv), p, ⟨⟨fun a u q => ?_, fun n a q => ?_⟩, nx.kp, nx.dm, fun n a q => nx.nc n a (ad' n a q).2, fun a u q => ?_⟩, ⟨fun a u q => ?_, fun a ps q => ?_, fun n a q => ?_, fun n m a q1 q2 => k.inj n m a (ad' n a q1).2 (ad' m a q2).2, fun n c q => ?_, fun n a q => ?_, k.tab⟩, ?_, hp⟩
  · show upd g.P p _ a = some u
    rw [upd_ne (ne_of_none (nx.le.p a u q) hP)]; exact nx.le.p a u q
  · show (if n = st.length then none else g.ad n) = some a
    rw [if_neg fun z => by rw [z, h0] at q; cases q]; exact nx.le.a n a q
  · have q' : upd g.P p (.ins (B.C.ca cc) dx fv) a = some u := q
    by_cases h : a = p
    · subst h
      rcases nx.nc _ _ hp with z | z
      · rw [h0] at z; cases z
      · exact .inr z
    · rw [upd_ne h] at q'; exact nx.np a u q'
  · have q' : upd g.P p (.ins (B.C.ca cc) dx fv) a = some u := q
    by_cases h : a = p
    · subst h; rw [upd_same] at q'; cases q'; exact hH
    · rw [upd_ne h] at q'; exact k.p a u q'
  · have q' : upd g.P p (.ins (B.C.ca cc) dx fv) a = some (.tbl ps) := q
    by_cases h : a = p
    · subst h; rw [upd_same] at q'; cases q'
    · rw [upd_ne h] at q'; exact k.nt a ps q'
  · obtain ⟨hn, q1⟩ := ad' n a q
    have hap : a ≠ p := fun z => hn (k.inj n _ p (by rw [← z]; exact q1) hp)
    show upd g.P p _ a = none
    rw [upd_ne hap]; exact k.np n a q1
  · have hlt : n < st.length := (List.getElem?_eq_some_iff.mp q).1
    obtain ⟨a, h1, h2⟩ := k.cell n c (by rw [List.getElem?_append_left hlt]; exact q)
    have hnc : c.noc st.length := hs c (List.mem_of_getElem? q)
    refine ⟨a, by show (if n = st.length then none else g.ad n) = some a; rw [if_neg (by omega)]; exact h1, ?_⟩
    cases c with
    | lst ds => obtain ⟨xs, e1, r1⟩ := h2; exact ⟨xs, e1, r1.fix hP hnc⟩
    | ins c gs => obtain ⟨dx, fv, e1, r1⟩ := h2; exact ⟨dx, fv, e1, r1.fix hP hnc⟩
  · obtain ⟨hn, q1⟩ := ad' n a q
    have := k.dom n a q1
    simp at this
    omega
  · unfold Rep
    exact ⟨p, dx, fv, rfl, upd_same, rf.fix hP hf⟩
/-- an instance, the last cell, is forgotten -/
theorem GOk.drop {g g0 : Gh} {H H0 : Hp} {st : Store} {cc : Nat} {fs : List (Nat × D)} (k : GOk B.C g H (st ++ [.ins cc fs])) (nx : Nx g0 H0 g H) (h0 : g0.ad st.length = none) (hs : ∀ cl ∈ st, cl.noc st.length) :
    ∃ g', Nx g0 H0 g' H ∧ GOk B.C g' H st ∧ ∀ fs' fv', D.nocF st.length fs' → RepF B.C g fs' fv' → RepF B.C g' fs' fv' := by
  obtain ⟨p, hp, dx, fv, hH, rf⟩ := k.cell st.length (.ins cc fs) (by rw [List.getElem?_append_right (Nat.le_refl _)]; simp)
  have hP : g.P p = none := k.np _ _ hp
  have ad' : ∀ n a, (g.fix st.length p (.ins (B.C.ca cc) dx fv)).ad n = some a → n ≠ st.length ∧ g.ad n = some a := fun n a q => by
    have q' : (if n = st.length then none else g.ad n) = some a := q
    by_cases h : n = st.length
    · rw [if_pos h] at q'; cases q'
    · rw [if_neg h] at q'; exact ⟨h, q'⟩
  refine ⟨g.fix st.length p (.ins (B.C.ca cc) dx fv), ⟨⟨fun a u q => ?_, fun n a q => ?_⟩, nx.kp, nx.dm, fun n a q => nx.nc n a (ad' n a q).2, fun a u q => ?_⟩, ⟨fun a u q => ?_, fun a ps q => ?_, fun n a q => ?_, fun n m a q1 q2 => k.inj n m a (ad' n a q1).2 (ad' m a q2).2, fun n c q => ?_, fun n a q => ?_, k.tab⟩, ?_⟩
  · show upd g.P p _ a = some u
    rw [upd_ne (ne_of_none (nx.le.p a u q) hP)]; exact nx.le.p a u q
  · show (if n = st.length then none else g.ad n) = some a
    rw [if_neg fun z => by rw [z, h0] at q; cases q]; exact nx.le.a n a q
  · have q' : upd g.P p (.ins (B.C.ca cc) dx fv) a = some u := q
    by_cases h : a = p
    · subst h
      rcases nx.nc _ _ hp with z | z
      · rw [h0] at z; cases z
      · exact .inr z
    · rw [upd_ne h] at q'; exact nx.np a u q'
  · have q' : upd g.P p (.ins (B.C.ca cc) dx fv) a = some u := q
    by_cases h : a = p
    · subst h; rw [upd_same] at q'; cases q'; exact hH
    · rw [upd_ne h] at q'; exact k.p a u q'
  · have q' : upd g.P p (.ins (B.C.ca cc) dx fv) a = some (.tbl ps) := q
    by_cases h : a = p
    · subst h; rw [upd_same] at q'; cases q'
    · rw [upd_ne h] at q'; exact k.nt a ps q'
  · obtain ⟨hn, q1⟩ := ad' n a q
    have hap : a ≠ p := fun z => hn (k.inj n _ p (by rw [← z]; exact q1) hp)
    show upd g.P p _ a = none
    rw [upd_ne hap]; exact k.np n a q1
  · have hlt : n < st.length := (List.getElem?_eq_some_iff.mp q).1
    obtain ⟨a, h1, h2⟩ := k.cell n c (by rw [List.getElem?_append_left hlt]; exact q)
    have hnc : c.noc st.length := hs c (List.mem_of_getElem? q)
    refine ⟨a, by show (if n = st.length then none else g.ad n) = some a; rw [if_neg (by omega)]; exact h1, ?_⟩
    cases c with
    | lst ds => obtain ⟨xs, e1, r1⟩ := h2; exact ⟨xs, e1, r1.fix hP hnc⟩
    | ins c gs => obtain ⟨dx, fv, e1, r1⟩ := h2; exact ⟨dx, fv, e1, r1.fix hP hnc⟩
  · obtain ⟨hn, q1⟩ := ad' n a q
    have := k.dom n a q1
    simp at this
    omega
  · exact fun fs' fv' h1 h2 => h2.fix hP h1
structure MakG (X : Cx) (C : Con) (k : Nat) (c : Nat) (φ : WF) : Prop where
  ex : ∃ f, FnA X C k f φ ∧ Mk X.K (C.ca c) f
/-- it does not change once it is made -/
def mkV (c : Nat) (φ : WF) : WF := fun ds st Q R => φ (.cel st.length :: ds) (st ++ [.ins c []]) (fun r st2 => r = .non ∧ ∃ fs, st2 = st ++ [.ins c fs] ∧ D.nocF st.length fs ∧ Q (.ob c fs) st) (fun x st2 => ∃ fs, st2 = st ++ [.ins c fs] ∧ D.nocF st.length x.fs ∧ R x st)
/-- it is a cell -/
def mkC (c : Nat) (φ : WF) : WF := fun ds st Q R => φ (.cel st.length :: ds) (st ++ [.ins c []]) (fun r st2 => r = .non ∧ Q (.cel st.length) st2) R
theorem run_mk (j : J B X W) {cc : Nat} {φ : WF} {k : Nat} (m : MakG X B.C k cc φ) (hr : Room (k + 1) X.A) {gb g : Gh} {Hb : Hp} {env : Envr} {st : Store} {σ : L2.St} {H : Hp} {pins : List (Addr × Obj)} {s : Shared} {Q : QE} {R : XQ} {ds : List D} {vs : List V} {us : List Value} (l : Nx gb Hb g H) (bo : BOk B g env st σ H) (rw : RW B W env σ R)
    (I : Inv X pins σ H s) (r : Reps B.C g ds vs) (ru : Vals vs us) (h : mkV cc φ ds st Q R ∨ mkC cc φ ds st Q R) : wpAny (model X.prog X.w) X.A (call (.ref (B.C.ca cc)) us) (EP X pins σ (QV B gb Hb env σ Q)) X.xe s := by
  obtain ⟨f, F, M⟩ := m.ex
  have nx_ : H (s.heap.objs.size + 1) = none := I.hok.fresh (Nat.le_succ _)
  have ndx : H s.heap.objs.size = none := I.hok.fresh (Nat.le_refl _)
  generalize hx : s.heap.objs.size + 1 = x at *
  generalize hdx : s.heap.objs.size = dx at *
  have hne : dx ≠ x := by omega
  have I2 := Inv.made (C := B.C.ca cc) I
  rw [hdx, hx] at I2
  have b1 := bo.grow j.ck (H' := upd H dx (.own x)) fun a o q => by rw [upd_ne (ne_of_none q ndx)]; exact q
  have n1 : Nx g H g (upd H dx (.own x)) := ⟨.refl g, fun a o q _ _ => by rw [upd_ne (ne_of_none q ndx)]; exact q, dm_of fun a o q => by rw [upd_ne (ne_of_none q ndx)]; exact q, fun _ _ z => .inl z, fun _ _ z => .inl z⟩
  have hx1 : upd H dx (.own x) x = none := by rw [upd_ne fun z => hne z.symm]; exact nx_
  obtain ⟨n2, b2⟩ := b1.newCellO j.ck (o := .ins (B.C.ca cc) dx []) (cl := .ins cc []) hx1 ⟨dx, [], upd_same, by unfold RepF; rfl⟩
  have lN := n1.trans n2
  have hcel : Rep B.C (g.cell st.length x) (.cel st.length) (.ref x) := by
    unfold Rep
    exact ⟨x, by show (if st.length = st.length then some x else _) = _; rw [if_pos rfl], rfl⟩
  have hg0 : g.ad st.length = none := by
    cases q : g.ad st.length with
    | none => rfl
    | some a => exact absurd (bo.ok.dom _ _ q) (Nat.lt_irrefl _)
  have r2 : Reps B.C (g.cell st.length x) (.cel st.length :: ds) (.ref x :: vs) := Reps.cons hcel (r.mono lN.le)
  have ru2 : Vals (V.ref x :: vs) (Value.ref x :: us) := .cons rfl ru
  have hs : spOfA B.C φ (.ref x :: vs) (upd (upd H dx (.own x)) x (.ins (B.C.ca cc) dx [])) (fun v H2 => v = .non ∧ QV B gb Hb env σ Q (.ref x) H2) (L2.WE W σ) := by
    rcases h with h | h
    · refine ⟨_, _, _, _, _, b2.ok, r2, h, fun v H' ⟨d, st', g', l', ok', nx', rv, e, fs, e1, e4, q⟩ => ?_, fun cls dd H' ⟨x', st', g', l', ok', nx', rx, fs, e1, e4, q⟩ => ?_⟩
      · subst e e1
        have hv := rv.nonV
        subst hv
        refine ⟨rfl, ?_⟩
        obtain ⟨g3, p, nx3, ok3, rep3, hp⟩ := ok'.fix (lN.trans nx') hg0 (bo.ok.noc hg0) e4
        have hpx : p = x := by
          have := l'.a st.length x (by show (if st.length = st.length then some x else _) = _; rw [if_pos rfl])
          rw [this] at hp
          exact (Option.some.inj hp).symm
        subst hpx
        exact ⟨_, st, g3, l.trans nx3, bo.of_sp nx3.le ok3 nx3, rep3, q⟩
      · subst e1
        obtain ⟨g3, nx3, ok3, rf3⟩ := ok'.drop (lN.trans nx') hg0 (bo.ok.noc hg0)
        obtain ⟨hc, d3, fv, hd, hH, rr⟩ := rx
        exact rw x' g3 st H' cls dd (bo.of_sp nx3.le ok3 nx3) ⟨hc, d3, fv, hd, hH, rf3 _ _ e4 rr⟩ q
    · refine ⟨_, _, _, _, R, b2.ok, r2, h, fun v H' ⟨d, st', g', l', ok', nx', rv, e, q⟩ => ?_, fun cls dd H' ⟨x', st', g', l', ok', nx', rx, q⟩ => rw x' g' st' H' cls dd (b2.of_sp l' ok' nx') rx q⟩
      subst e
      have hv := rv.nonV
      subst hv
      exact ⟨rfl, _, st', g', (l.trans lN).trans nx', b2.of_sp l' ok' nx', hcel.mono l', q⟩
  refine wpAny_call (make_map (f := f) I.kIn M.makes M.init (beq_iff_eq.mp M.fn) ?_)
  rw [hdx, hx]
  refine codeAny_mono (F _ X.stack _ _ (Value.ref x :: us) _ _ (L2.WE W σ) (hr.make _ us []) (I2.env0.make _ us []) ru2 hs) fun r s' hq' => ?_
  cases r with
  | error e => exact passAt j.tk σ pins _ _ e s' I2 hq'
  | ok fl =>
    cases fl with
    | ret u =>
      obtain ⟨v, H', I3, rv, ev, q3⟩ := I2.after hq'
      subst ev
      exact ⟨rv, ⟨V.ref x, H', I3, rfl, q3⟩⟩
    | next => exact False.elim hq'
    | brk => exact False.elim hq'
    | cont => exact False.elim hq'
/-- a class of the module -/
structure ClsG (B : Bd) (X : Cx) (x : Str) (c : Nat) (φ : WF) : Prop where
  ex : ∃ k, Room (k + 1) X.A ∧ MakG X B.C k c φ
  mg : X.mg x = some (.ref (B.C.ca c))
def wMk (v : Bool) (c : Nat) (φ : WF) (ta : WA) : WE := fun env st Q R => ta env st (fun ds st1 => (if v = true then mkV c φ else mkC c φ) ds st1 Q R) R
theorem g_make (v : Bool) (j : J B X W) {x : Str} {p : Pos} {cc : Nat} {φ : WF} (F : ClsG B X x cc φ) (hg : Gl X x) (ha : PAg B X W (e :: es) ta)
    (hdb : (x == ("__debug__" : Str)) = false := by decide) (he : starEach (e :: es) X.env = (false, eval e X.env) :: starEach es X.env := by rfl) (hpl : (backTo pos (starEach es X.env)).any (·.1) = false := by rfl) :
    PEg B X W (.Call (.Name x p) (e :: es) [] pos) (wMk v cc φ ta) := by
  obtain ⟨k, hr, m⟩ := F.ex
  obtain ⟨f, FA, M⟩ := m.ex
  refine ⟨fun pins s σ H g env st Q R I bo rw hw => ?_⟩
  refine wpAny_Call_Name_kw (ld_glob I hg F.mg ?_ hdb)
  refine PySem.W.callWith_K (h₀ := X.base) I.ok.mod.kin M.kp (thn (ha.run pos pins s σ H g env st _ R I bo rw hw) fun us s1 ⟨vs, H1, I1, r, ds, st1, g1, l1, b1, r1, h1⟩ => ⟨I1.kIn, ?_⟩) he hpl
  refine run_mk j m hr l1 b1 rw I1 r1 r ?_
  cases v with
  | true => exact .inl h1
  | false => exact .inr h1
/-- x(*e), x a class -/
def wMkS (v : Bool) (c : Nat) (φ : WF) (wa : WE) : WE := fun env st Q R => wa env st (fun d st1 => match d with
  | .tup ds => (if v = true then mkV c φ else mkC c φ) ds st1 Q R
  | .lst ds => (if v = true then mkV c φ else mkC c φ) ds st1 Q R
  | _ => False) R
end
end G
namespace G
open PySem PySem.Spec PyProof.Rows L2
abbrev Fna (P : Program) (w : World) (C : Con) (mg : Str → Option Value) (base : Heap) (k : Nat) (f : Addr) (φ : WF) : Prop := L2.FnR P w C.K mg base (L2.CX P w) k f (spOfA C φ)
section
variable {P : Program} {w : World} {C : Con} {mg : Str → Option Value} {base : Heap} {x qual : Str} {params : Arguments} {body : List Stmt} {scope : Scope} {dvs : List V} {kws : List (Str × V)} {f : Addr} {fd : FuncData} {N ps : List Str} {k : Nat} {wb : WS}
abbrev BodyOk (P : Program) (w : World) (C : Con) (mg : Str → Option Value) (base : Heap) (qual : Str) (body : List Stmt) (scope : Scope) (f : Addr) (N : List Str) (k : Nat) (wb : WS) : Prop :=
  ∀ (cdv : Value) (A : Around) (outer : List Env) (s : Shared) (H : Hp) (E : XK) (g : Gh) (W : WX), Room k (A.deeper (envOfC qual scope s.heap.objs.size f cdv)) → J ⟨C, g, H⟩ (cxOf (L2.CX P w) P w C.K mg base N qual scope f cdv A outer s H E) W →
      PSsg ⟨C, g, H⟩ (cxOf (L2.CX P w) P w C.K mg base N qual scope f cdv A outer s H E) W body wb
theorem body_ok (ck : ConOk C) (S : FnScope N ps scope) (h : BodyOk P w C mg base qual body scope f N k wb) (cdv : Value) (A : Around) (outer : List Env) (s : Shared) (H : Hp) (vs : List V) (Q : VK) (E : XK) (hr : Room k (A.deeper (envOfC qual scope s.heap.objs.size f cdv)))
    (hsp : spOf C (wfn N.length ps.length wb) ps.length vs H Q E) : ∃ t, PSs (cxOf (L2.CX P w) P w C.K mg base N qual scope f cdv A outer s H E) body t ∧ t { nx := fun _ H' => Q .non H', rt := Q } (L2.start N vs) H := by
  obtain ⟨hn, g, ds, st, Qg, R, ok, r, hw, hQ, hE⟩ := hsp
  have j : J ⟨C, g, H⟩ (cxOf (L2.CX P w) P w C.K mg base N qual scope f cdv A outer s H E) (fun cls d _ H' => E cls d H') :=
    { ck := ck, hK := rfl, tk := takes_of rfl rfl rfl rfl, po := passes_of rfl, calm := rfl, nd := S.nd, hd := hr.hd, hu := hr.units, hu2 := by have h := hr.un; show (A.deeper _).units + 150 < cLine; omega }
  refine ⟨_, (h cdv A outer s H E g _ hr j).ps, ?_⟩
  refine ⟨g, startE N.length ds, st, _, start_ok ok r, ?_, hw.2, ?_, ?_, ?_, ?_⟩
  · exact fun x g' env' st' σ H' cls d b x' q => hE cls d H' ⟨x, st', g', b.nx.le, b.ok, b.nx, x', q⟩
  · exact fun σ' H' ⟨env', st', g', l, b, q⟩ => hQ .non H' ⟨.non, st', g', l, b.ok, b.nx, rep_non, q⟩
  · exact fun v H' ⟨d, st', g', l, ok', nx, rv, q⟩ => hQ v H' ⟨d, st', g', l, ok', nx, rv, q⟩
  · exact fun σ' H' ⟨env', st', g', l, b, q⟩ => q.elim
  · exact fun σ' H' ⟨env', st', g', l, b, q⟩ => q.elim
/-- a def, called without its defaults -/
theorem fna_of (ck : ConOk C) (F : FunD C.K x qual params body scope [] kws f fd) (S : FnScope N ps scope) (hb : L2.Binds C.K fd ps []) (h : BodyOk P w C mg base qual body scope f N k wb) : Fna P w C mg base (k + 1) f (wfn N.length ps.length wb) :=
  fnA_of wfn_len (F.ok (CX := L2.CX P w) S (fun vs H Q E h => h.1) fun cdv A outer s H vs Q E hr hsp => body_ok ck S h cdv A outer s H vs Q E hr hsp) hb
/-- def f(a, .., *v) -/
def wstar (m n : Nat) (wb : WS) : WF := fun ds st Q R => ∃ ws rest, ds = ws ++ rest ∧ ws.length = n ∧ rest.length ≤ sizeLine ∧ wfn m (n + 1) wb (ws ++ [.tup rest]) st Q R
theorem Reps.split {g : Gh} : ∀ {ws rest : List D} {vs : List V}, Reps C g (ws ++ rest) vs → ∃ us ys, vs = us ++ ys ∧ Reps C g ws us ∧ Reps C g rest ys
  | [], rest, vs, h => ⟨[], vs, rfl, Reps.nil, h⟩
  | d :: ws, rest, vs, h => by
    obtain ⟨v, r, rfl, a, b⟩ := h.cons_inv
    obtain ⟨us, ys, rfl, h1, h2⟩ := Reps.split b
    exact ⟨v :: us, ys, rfl, Reps.cons a h1, h2⟩
theorem fna_star (ck : ConOk C) {pv : Str} (F : FunD C.K x qual params body scope [] kws f fd) (S : FnScope N (ps ++ [pv]) scope)
    (hb : ∀ (kV doc pm : Value) (an : Option Addr) (cdv ct : Value) (us rest : List Value), us.length = ps.length → bindArgs (PySem.W.fnOf x qual params body scope .none kV doc pm an cdv ct) ⟨us ++ rest, []⟩ = (newTuple rest >>= fun t => pure (ps.zip us ++ [(pv, t)])))
    (h : BodyOk P w C mg base qual body scope f N k wb) : Fna P w C mg base (k + 1) f (wstar N.length ps.length wb) := by
  obtain ⟨oc, od, dV, kV, doc, pm, an, cdv, ct, osl, rfl, lk, hcd, hD, hK⟩ := F.ex
  have hdv : dV = .none := by
    rcases hD with ⟨_, z⟩ | ⟨e, _⟩
    · exact z
    · exact absurd rfl e
  subst hdv
  refine (StX.fn_star (pv := pv) (sp := spOf C (wfn N.length (ps ++ [pv]).length wb) (ps ++ [pv]).length) lk hcd S (StX.cxUp) (hb kV doc pm an cdv ct) fun A outer s H vs Q E hr hsp => body_ok ck S h _ A outer s H vs Q E hr hsp).imp fun vs H Q E ⟨g, ds, st, Qg, R, ok, r, ⟨ws, rest, e, hl, hz, hw⟩, hQ, hE⟩ => ?_
  subst e
  obtain ⟨us, ys, rfl, r1, r2⟩ := r.split
  refine ⟨us, ys, rfl, by rw [← r1.length]; exact hl, by rw [← r2.length]; exact hz, fun p hp => ?_⟩
  have bo : BOk ⟨C, g, H⟩ g [] st [] H := ⟨ok, .refl g H, ⟨rfl, fun i d h => by simp at h, fun i ds h => by simp at h, fun i j ds es a _ h => by simp at h⟩⟩
  have b2 := bo.new ck (o := .tup ys) hp (fun ps z => by cases z) (bo.cellNe hp)
  have l2 := bo.ok.le_add (o := .tup ys) hp
  have nx2 := bo.ok.nx_new (o := .tup ys) hp
  refine ⟨by simp [← r1.length, hl], g.add p (.tup ys), ws ++ [.tup rest], st, Qg, R, b2.ok, (r1.mono l2).append (Reps.cons ?_ Reps.nil), by rw [List.length_append]; exact hw, fun v H' ⟨d, st', g', l', ok', nx, rv, q⟩ => hQ v H' ⟨d, st', g', l2.trans l', ok', nx2.trans nx, rv, q⟩, fun cls dd H' ⟨x', st', g', l', ok', nx, rx, q⟩ => hE cls dd H' ⟨x', st', g', l2.trans l', ok', nx2.trans nx, rx, q⟩⟩
  unfold Rep
  exact ⟨p, ys, rfl, sqT_new, r2.mono l2⟩
end
structure DefX where
  at_ : PySem.W.Frag → Addr
  name : Str
  qual : Str
  params : Arguments
  body : List Stmt
  scope : Scope
def DefX.val (d : DefX) : He.FnW := some (d.name, d.qual, d.params, .stmts d.body, d.scope, mainGlobals, [], builtinsNs)
def fnWX (K : PySem.W.Frag) (a : Addr) : He.FnW := match K.lookup a with
  | some o => (match o.data with
    | .func fd => some (fd.name, fd.qualname, fd.params, fd.body, fd.scope, fd.globals, fd.closure, fd.builtins)
    | _ => none)
  | none => none
def DefX.ok (K : PySem.W.Frag) (d : DefX) : Bool := PySem.W.keepIn K (.ref (d.at_ K)) && (match K.lookup (d.at_ K) with
  | some o => (match o.data with
    | .func fd => PySem.W.codeIn K fd.code d.qual && He.dflB K fd.defaults []
    | _ => false)
  | none => false)
theorem DefX.funD {K : PySem.W.Frag} {d : DefX} (e : fnWX K (d.at_ K) = d.val) (c : d.ok K = true) : ∃ fd, FunD K d.name d.qual d.params d.body d.scope [] [] (d.at_ K) fd := by
  obtain ⟨kp, c2⟩ := He.ba c
  unfold fnWX at e
  cases q : K.lookup (d.at_ K) with
  | none => rw [q] at c2; cases c2
  | some o =>
    rw [q] at c2 e
    obtain ⟨oc, od, dt, osl⟩ := o
    cases dt with
    | func fd =>
      obtain ⟨n1, n2, n3, n4, n5, n6, n7, n8, n9, n10, n11, n12, n13, n14, n15⟩ := fd
      have e3 : (some (n1, n2, n3, n4, n5, n6, n7, n15) : He.FnW) = d.val := e
      unfold DefX.val at e3
      simp only [Option.some.injEq, Prod.mk.injEq] at e3
      obtain ⟨rfl, rfl, rfl, rfl, rfl, rfl, rfl, rfl⟩ := e3
      obtain ⟨k1, k2⟩ := He.ba (show (PySem.W.codeIn K n13 d.qual && He.dflB K n8 []) = true from c2)
      exact ⟨_, ⟨oc, od, n8, n9, n10, n11, n12, n13, n14, osl, rfl, q, k1, He.dflB_ok k2, .inl rfl⟩, kp⟩
    | _ => cases c2
abbrev Fab : Type := PySem.W.Frag → Bool
def obsX (fa : List Fab) (fn : List DefX) (K : PySem.W.Frag) : He.AlD := ((fa.all fun f => f K) && fn.all fun d => d.ok K, fn.map fun d => fnWX K (d.at_ K))
def valX (fn : List DefX) : He.AlD := (true, fn.map DefX.val)
def SaysX (fa : List Fab) (fn : List DefX) (K : PySem.W.Frag) : Prop := obsX fa fn K = valX fn
section
variable {fa : List Fab} {fn : List DefX} {K : PySem.W.Frag}
theorem SaysX.both (c : SaysX fa fn K) : (fa.all fun f => f K) = true ∧ (fn.all fun d => d.ok K) = true := He.ba (show ((fa.all fun f => f K) && fn.all fun d => d.ok K) = true from congrArg (fun z : He.AlD => z.1) c)
theorem SaysX.fact (c : SaysX fa fn K) (i : Nat) {f : Fab} (h : fa[i]? = some f := by rfl) : f K = true := List.all_eq_true.mp c.both.1 f (List.mem_of_getElem? h)
theorem SaysX.def_ (c : SaysX fa fn K) (i : Nat) {d : DefX} (h : fn[i]? = some d := by rfl) : ∃ fd, FunD K d.name d.qual d.params d.body d.scope [] [] (d.at_ K) fd := by
  have e : fn.map (fun d => fnWX K (d.at_ K)) = fn.map DefX.val := congrArg (fun z : He.AlD => z.2) c
  have e2 : (fn.map fun d => fnWX K (d.at_ K))[i]? = (fn.map DefX.val)[i]? := by rw [e]
  rw [List.getElem?_map, List.getElem?_map, h] at e2
  exact DefX.funD (Option.some.inj e2) (List.all_eq_true.mp c.both.2 d (List.mem_of_getElem? h))
end
/-- a global's, a method's, a property's place -/
def atG (x : Str) : PySem.W.Frag → Addr := fun K => He.ga K x
def atM (c m : Str) : PySem.W.Frag → Addr := fun K => He.ma K (He.ga K c) m
def faB (f : He.Fa) : Fab := fun K => f.ok K
def sfB (c : Str) : Fab := fun K => PySem.W.selfFirst K (He.ga K c)
/-- names by number: all differ -/
def nameOf (L : List Str) (i : Nat) : Str := match L[i]? with
  | some s => s
  | none => ⟨Array.replicate (i + 1000) 0⟩
theorem nameOf_inj {L : List Str} (hn : L.Nodup) (hl : L.length < 1000) (hs : ∀ s ∈ L, s.cps.size < 1000) : ∀ i j, nameOf L i = nameOf L j → i = j := by
  intro i j h
  unfold nameOf at h
  cases hi : L[i]? with
  | none =>
    cases hj : L[j]? with
    | none =>
      rw [hi, hj] at h
      have := congrArg (fun z : Str => z.cps.size) h
      simp at this
      exact this
    | some t =>
      rw [hi, hj] at h
      have h2 := hs t (List.mem_of_getElem? hj)
      have := congrArg (fun z : Str => z.cps.size) h
      simp at this
      omega
  | some s =>
    cases hj : L[j]? with
    | none =>
      rw [hi, hj] at h
      have h2 := hs s (List.mem_of_getElem? hi)
      have := congrArg (fun z : Str => z.cps.size) h
      simp at this
      omega
    | some t =>
      rw [hi, hj] at h
      have h3 : s = t := h
      subst h3
      exact (List.getElem?_inj (List.getElem?_eq_some_iff.mp hi).1 hn).mp (hi.trans hj.symm)
end G
namespace G
open PySem PySem.Spec PyProof.Rows L2
def IntSet (w : World) (a : Addr) (S : Int → Bool) (n : Nat) : HO := .ext fun h => SetR w h a S n
end G
namespace G
open PySem PySem.Spec PyProof.Rows L2
section
variable {B : Bd} {X : Cx} {W : WX} {a b c e : Expr} {es : List Expr} {wa wb wc : WE} {ta : WA} {pos : Pos} {M : MT}
/-- what the tables say does not hang on sets of ints -/
def TS (C : Con) : Prop := ∀ (w : World) (H : Hp) (p : Addr) (S S' : Int → Bool) (n n' : Nat), C.TT H → H p = some (IntSet w p S n) → C.TT (upd H p (IntSet w p S' n'))
/-- len({e for t in i}), e an int -/
def wIsL (vs : List Nat) (t : WG) (we : WE) (env : Envr) (Q : List Int → Store → Prop) : List D → List Int → Store → Prop
  | [], acc, st => Q acc st
  | d :: ds, acc, st => t d (wipeE env vs) st (fun env1 st1 => we env1 st1 (fun y st2 => match y with
    | .int k => acc.length + 1 < scanBound ∧ wIsL vs t we env Q ds (if k ∈ acc then acc else acc ++ [k]) st2
    | _ => False) noX)
def wLenIs (wi : WI) (vs : List Nat) (t : WG) (we : WE) : WE := fun env st Q R => wi env st (fun ds st1 => wIsL vs t we env (fun acc st2 => (acc.length : Int) < 2 ^ 63 ∧ Q (.int acc.length) st2) ds [] st1) R
end
end G
namespace G
open PySem PySem.Spec PyProof.Rows L2
section
variable {prog : Program} {w : World} {A : Around} {E : Value → Shared → Prop} {s : Shared} {K : PySem.W.Frag} {x C L f : Addr} {h₀ : Heap} {m : Str → Option Value} {ox : Obj} {od : Option Obj}
/-- what object.__ne__ asks of a class -/
structure NeK (K : PySem.W.Frag) (C f : Addr) : Prop where
  ne : PySem.W.findIn K (.ref C) "__ne__" = some (some (.builtin "object.__ne__"))
  eq : PySem.W.findIn K (.ref C) "__eq__" = some (some (.ref f))
  fn : PySem.W.isFn K (.ref f) = true
  ob : PySem.W.subIn K (.ref C) (.type "object") = some true
end
end G
namespace G
open PySem PySem.Spec PyProof.Rows L2
section
variable {B : Bd} {X : Cx} {W : WX} {a b c e : Expr} {es : List Expr} {wa wb wc : WE} {ta : WA} {pos : Pos} {M : MT}
/-- the own == of the classes that have one -/
structure EqOk (B : Bd) (X : Cx) (T : Nat → Option WF) : Prop where
  eq : ∀ c φ, T c = some φ → ∃ k f, Room (k + 1) X.A ∧ FnA X B.C k f φ ∧ NeK X.K (B.C.ca c) f
def ownEq (T : Nat → Option WF) (neg : Bool) (c : Nat) (fs gs : List (Nat × D)) (st : Store) (Q : QE) (R : XQ) : Prop := match T c with
  | some φ => φ [.ob c fs, .ob c gs] st (fun r st1 => match r with | .bl b => Q (.bl (b != neg)) st1 | _ => False) R
  | none => False
def oEqO (T : Nat → Option WF) : O2 := fun d1 d2 st Q R => match d1, d2 with
  | .ob c fs, .ob c' gs => c = c' ∧ ownEq T false c fs gs st Q R
  | d1, d2 => oEqD d1 d2 st Q R
def oNeO (T : Nat → Option WF) : O2 := fun d1 d2 st Q R => match d1, d2 with
  | .ob c fs, .ob c' gs => c = c' ∧ ownEq T true c fs gs st Q R
  | d1, d2 => oNeD d1 d2 st Q R
def T0 : Nat → Option WF := fun _ => none
theorem t0 : EqOk B X T0 := ⟨fun _ _ h => (by cases h)⟩
end
end G
namespace G
open PySem PySem.Spec PyProof.Rows L2
section
variable {B : Bd} {X : Cx} {W : WX} {a b c e o : Expr} {es : List Expr} {wa wb wc : WE} {ta : WA} {pos apos : Pos} {M : MT}
/-- a static method of a class: its record at p, its def at f -/
structure StatK (K : PySem.W.Frag) (C : Addr) (m : Str) (f : Addr) : Prop where
  rd : ClX.CRead K C (.type "type")
  at_ : ∃ p rest, PySem.W.findCls K (.ref C) (.type "type") m = some (.get (.builtin "staticmethod.__get__") (.ref p) .none (.ref C)) ∧ PySem.W.recIn K p "staticmethod" = some (.ref f :: rest)
  kp : PySem.W.keepIn K (.ref f) = true
structure StatG (B : Bd) (X : Cx) (x m : Str) (c : Nat) (φ : WF) : Prop where
  ex : ∃ k f, Room k X.A ∧ FnA X B.C k f φ ∧ StatK X.K (B.C.ca c) m f
  mg : X.mg x = some (.ref (B.C.ca c))
end
end G
namespace G
open PySem PySem.Spec PyProof.Rows L2
def addM (c : Nat) (m : Mn) (φ : WF) (M : MT) : MT := fun c' m' => if c' = c ∧ m' = m then some φ else M c' m'
def addT (c i : Nat) (φ : WF) (T : Nat → Nat → Option WF) : Nat → Nat → Option WF := fun c' i' => if c' = c ∧ i' = i then some φ else T c' i'
def addF (c i : Nat) (F : Nat → Nat → Bool) : Nat → Nat → Bool := fun c' i' => (decide (c' = c) && decide (i' = i)) || F c' i'
def addE (c : Nat) (φ : WF) (T : Nat → Option WF) : Nat → Option WF := fun c' => if c' = c then some φ else T c'
def F0 : Nat → Nat → Bool := fun _ _ => false
def P0 : Nat → Nat → Option WF := fun _ _ => none
/-- what is known of a method, a property, a static method, a class, behind the top -/
structure MetR (P : Program) (w : World) (C : Con) (mg : Str → Option Value) (base : Heap) (c : Nat) (m : Mn) (k : Nat) (φ : WF) : Prop where
  ex : ∃ f, Fna P w C mg base k f φ ∧ Meth C.K (C.ca c) (m.str C) f
  cls : Cls C.K (C.ca c)
  sf : PySem.W.selfFirst C.K (C.ca c) = true
structure MakR (P : Program) (w : World) (C : Con) (mg : Str → Option Value) (base : Heap) (x : Str) (c : Nat) (k : Nat) (φ : WF) : Prop where
  ex : ∃ f, Fna P w C mg base k f φ ∧ Mk C.K (C.ca c) f
  mg : mg x = some (.ref (C.ca c))
structure StatR (P : Program) (w : World) (C : Con) (mg : Str → Option Value) (base : Heap) (x m : Str) (c : Nat) (k : Nat) (φ : WF) : Prop where
  ex : ∃ f, Fna P w C mg base k f φ ∧ StatK C.K (C.ca c) m f
  mg : mg x = some (.ref (C.ca c))
section
variable {B : Bd} {X : Cx} {M : MT} {c i k m : Nat} {mn : Mn} {φ : WF} {x y : Str}
theorem mok_cons (h : MetR X.prog X.w B.C X.mg X.base c mn k φ) (hK : X.K = B.C.K) (hr : Room m X.A) (r : MOk B X M) (hk : k ≤ m := by decide) : MOk B X (addM c mn φ M) := ⟨fun c' m' φ' e => by
  unfold addM at e
  split at e
  · rename_i q
    obtain ⟨rfl, rfl⟩ := q
    cases e
    obtain ⟨f, F, me⟩ := h.ex
    refine ⟨k, hr.mono hk, ⟨f, ?_, by rw [hK]; exact me⟩, by rw [hK]; exact h.cls, by rw [hK]; exact h.sf⟩
    unfold FnA; rw [hK]; exact F
  · exact r.met c' m' φ' e⟩
theorem pok_nil : PrOk B X P0 := ⟨fun _ _ _ e => by cases e⟩
theorem fok_nil (inj : ∀ i j, B.C.fn i = B.C.fn j → i = j) : FOk B X F0 := ⟨fun _ _ e => (by cases e), inj⟩
theorem fok_cons {F : Nat → Nat → Bool} (hc : Cls B.C.K (B.C.ca c)) (hn : NoAttr B.C.K (B.C.ca c) (B.C.fn i)) (hK : X.K = B.C.K) (r : FOk B X F) : FOk B X (addF c i F) := ⟨fun c' i' e => by
  unfold addF at e
  cases h : (decide (c' = c) && decide (i' = i)) with
  | true =>
    simp at h
    obtain ⟨rfl, rfl⟩ := h
    exact ⟨by rw [hK]; exact hc, by rw [hK]; exact hn⟩
  | false =>
    rw [h] at e
    exact r.at_ c' i' (by simpa using e), r.inj⟩
theorem MakR.at (h : MakR X.prog X.w B.C X.mg X.base x c k φ) (hK : X.K = B.C.K) (hr : Room m X.A) (hk : k + 1 ≤ m := by decide) : ClsG B X x c φ := by
  obtain ⟨f, F, mk⟩ := h.ex
  refine ⟨⟨k, hr.mono hk, ⟨f, ?_, by rw [hK]; exact mk⟩⟩, h.mg⟩
  unfold FnA; rw [hK]; exact F
theorem StatR.at (h : StatR X.prog X.w B.C X.mg X.base x y c k φ) (hK : X.K = B.C.K) (hr : Room m X.A) (hk : k ≤ m := by decide) : StatG B X x y c φ := by
  obtain ⟨f, F, sk⟩ := h.ex
  refine ⟨⟨k, f, hr.mono hk, ?_, by rw [hK]; exact sk⟩, h.mg⟩
  unfold FnA; rw [hK]; exact F
end
structure DefC (C : Con) (f : Addr) (x qual : Str) (params : Arguments) (body : List Stmt) (scope : Scope) (ps : List Str) : Prop where
  ex : ∃ fd, FunD C.K x qual params body scope [] [] f fd ∧ L2.Binds C.K fd ps []
section
variable {P : Program} {w : World} {C : Con} {mg : Str → Option Value} {base : Heap} {x qual : Str} {params : Arguments} {body : List Stmt} {scope : Scope} {f : Addr} {N ps : List Str} {k : Nat} {wb : WS}
theorem DefC.fna (ck : ConOk C) (D : DefC C f x qual params body scope ps) (S : FnScope N ps scope) (h : BodyOk P w C mg base qual body scope f N k wb) : Fna P w C mg base (k + 1) f (wfn N.length ps.length wb) := by
  obtain ⟨fd, F, hb⟩ := D.ex
  exact fna_of ck F S hb h
/-- .. with a star -/
structure DefS (C : Con) (f : Addr) (x qual : Str) (params : Arguments) (body : List Stmt) (scope : Scope) (ps : List Str) (pv : Str) : Prop where
  ex : ∃ fd, FunD C.K x qual params body scope [] [] f fd
  hb : ∀ (kV doc pm : Value) (an : Option Addr) (cdv ct : Value) (us rest : List Value), us.length = ps.length → bindArgs (PySem.W.fnOf x qual params body scope .none kV doc pm an cdv ct) ⟨us ++ rest, []⟩ = (newTuple rest >>= fun t => pure (ps.zip us ++ [(pv, t)]))
theorem DefS.fna (ck : ConOk C) {pv : Str} (D : DefS C f x qual params body scope ps pv) (S : FnScope N (ps ++ [pv]) scope) (h : BodyOk P w C mg base qual body scope f N k wb) : Fna P w C mg base (k + 1) f (wstar N.length ps.length wb) := by
  obtain ⟨fd, F⟩ := D.ex
  exact fna_star ck F S D.hb h
end
/-- a class's statements -/
def clsBody (s : Stmt) : List Stmt := match s with
  | .ClassDef _ _ _ b _ _ _ _ _ _ _ => b
  | _ => []
end G
namespace G
open PySem PySem.Spec PyProof.Rows L2
abbrev IsL := List ((Nat × Nat) × Bool)
def isOf (L : IsL) : IS := fun c c' => L.lookup (c, c')
section
variable {B : Bd} {X : Cx} {W : WX} {a b c e o : Expr} {es : List Expr} {wa wb wc : WE} {ta : WA} {pos apos : Pos} {M : MT}
/-- a, b, c = x, y, z -/
def wPar3 (i k l : Nat) (ta : WA) : WS := fun env st D => ta env st (fun ds st1 => match ds with
  | [d1, d2, d3] => D.nx (((env.set i (.val d1)).set k (.val d2)).set l (.val d3)) st1
  | _ => False) (xe D env)
end
end G
namespace G
open PySem PySem.Spec PyProof.Rows L2
theorem metR_of {P : Program} {w : World} {C : Con} {mg : Str → Option Value} {base : Heap} {c : Nat} {m : Mn} {k : Nat} {φ : WF} {f : Addr} (F : Fna P w C mg base k f φ) (hm : Meth C.K (C.ca c) (m.str C) f) (hc : Cls C.K (C.ca c)) (hs : PySem.W.selfFirst C.K (C.ca c) = true) : MetR P w C mg base c m k φ := ⟨⟨f, F, hm⟩, hc, hs⟩
theorem makR_of {P : Program} {w : World} {C : Con} {mg : Str → Option Value} {base : Heap} {x : Str} {c : Nat} {k : Nat} {φ : WF} {f : Addr} (F : Fna P w C mg base k f φ) (hm : Mk C.K (C.ca c) f) (hg : mg x = some (.ref (C.ca c))) : MakR P w C mg base x c k φ := ⟨⟨f, F, hm⟩, hg⟩
end G
namespace G
open PySem PySem.Spec PyProof.Rows L2
end G
namespace G
open PySem PySem.Spec PyProof.Rows L2
section
variable {B : Bd} {X : Cx} {W : WX}
/-- as Nx, but for one object that only we know -/
structure NxD (D : Addr) (g : Gh) (H : Hp) (g' : Gh) (H' : Hp) : Prop where
  le : g.le g'
  kp : ∀ a o, a ≠ D → H a = some o → (∀ ps, o ≠ .tbl ps) → (∀ n, g.ad n ≠ some a) → H' a = some o
  dm : ∀ a, H' a = none → H a = none
  nc : ∀ n a, g'.ad n = some a → g.ad n = some a ∨ H a = none
  np : ∀ a o, g'.P a = some o → g.P a = some o ∨ H a = none
theorem NxD.of {D : Addr} {g g' : Gh} {H H' : Hp} (x : Nx g H g' H') : NxD D g H g' H' := ⟨x.le, fun a o _ => x.kp a o, x.dm, x.nc, x.np⟩
theorem NxD.trans {D : Addr} {g g1 g2 : Gh} {H H1 H2 : Hp} (x : NxD D g H g1 H1) (y : NxD D g1 H1 g2 H2) : NxD D g H g2 H2 where
  le := x.le.trans y.le
  kp := fun a o n h t c => y.kp a o n (x.kp a o n h t c) t fun m z => (x.nc m a z).elim (c m) fun q => by rw [q] at h; cases h
  dm := fun a h => x.dm a (y.dm a h)
  nc := fun n a h => (y.nc n a h).elim (x.nc n a) fun q => .inr (x.dm a q)
  np := fun a o h => (y.np a o h).elim (x.np a o) fun q => .inr (x.dm a q)
theorem NxD.set {D : Addr} {g : Gh} {H : Hp} {u v : HO} (h : H D = some u) : NxD D g H g (upd H D v) where
  le := .refl g
  kp := fun a o n h _ _ => by rw [upd_ne n]; exact h
  dm := fun a q => by
    by_cases e : a = D
    · rw [e, upd_same] at q; cases q
    · rw [upd_ne e] at q; exact q
  nc := fun n a h => .inl h
  np := fun a o h => .inl h
def OwnLe (e e' : Envr) : Prop := ∀ (i : Nat) (es : List D), e'[i]? = some (Slot.own es) → e[i]? = some (Slot.own es)
theorem OwnLe.refl (e : Envr) : OwnLe e e := fun _ _ h => h
theorem OwnLe.trans {a b c : Envr} (x : OwnLe a b) (y : OwnLe b c) : OwnLe a c := fun i es h => x i es (y i es h)
theorem OwnLe.set (e : Envr) (i : Nat) (d : D) : OwnLe e (e.set i (.val d)) := fun k es h => by
  by_cases hk : i = k
  · subst hk
    by_cases hi : i < e.length
    · rw [List.getElem?_set_self hi] at h; cases h
    · rw [List.set_eq_of_length_le (by omega)] at h; exact h
  · rw [List.getElem?_set_ne hk] at h; exact h
structure CG where
  wi : WI
  t : WG
  tt : WT
  vs : List Nat
  sl : List Nat
def wLpN (t : WG) (tt : WT) (vs : List Nat) (env : Envr) (step : Envr → List D → Store → (List D → Store → Prop) → Prop) (Q : List D → Store → Prop) : List D → List D → Store → Prop
  | [], acc, st => Q acc st
  | d :: ds, acc, st => t d (wipeE env vs) st (fun env1 st1 => tt env1 st1 (fun b st2 => if b = true then step env1 acc st2 (fun acc' st3 => wLpN t tt vs env step Q ds acc' st3) else wLpN t tt vs env step Q ds acc st2) noX)
def wTaskN (we : WE) : List CG → Envr → List D → Store → (List D → Store → Prop) → Prop
  | [], env, acc, st, Q => we env st (fun y st3 => acc.length < sizeLine ∧ Q (acc ++ [y]) st3) noX
  | c :: cs, env, acc, st, Q => c.wi env st (fun ds st1 => wLpN c.t c.tt c.vs env (fun e a s k => wTaskN we cs e a s k) Q ds acc st1) noX
def wLcN (c : CG) (cs : List CG) (we : WE) : WE := fun env st Q R => c.wi env st (fun ds st1 => wLpN c.t c.tt c.vs env (fun e a s k => wTaskN we cs e a s k) (fun acc st2 => Q (.lst acc) st2) ds [] st1) R
end
end G
namespace G
open PySem PySem.Spec PyProof.Rows L2
theorem lexLt_asym : ∀ xs ys : List Int, HT.lexLt xs ys = true → HT.lexLt ys xs = false
  | [], [], h => by cases h
  | [], _ :: _, _ => rfl
  | _ :: _, [], h => by cases h
  | x :: xs, y :: ys, h => by
    rw [HT.lexLt_cons] at h ⊢
    by_cases e : x = y
    · subst e; rw [if_pos rfl] at h ⊢; exact lexLt_asym xs ys h
    · rw [if_neg e] at h; rw [if_neg fun z => e z.symm]
      have := of_decide_eq_true h
      exact decide_eq_false (by omega)
theorem lexLt_ntr : ∀ xs ys zs : List Int, HT.lexLt ys xs = false → HT.lexLt zs ys = false → HT.lexLt zs xs = false
  | [], [], [], _, _ => rfl
  | [], [], _ :: _, _, h => by simpa using h
  | [], _ :: _, [], h, _ => by first | rfl | cases h
  | [], _ :: _, _ :: _, h, _ => by first | rfl | cases h
  | _ :: _, [], [], h, _ => by cases h
  | _ :: _, [], _ :: _, h, _ => by cases h
  | _ :: _, _ :: _, [], _, h => by cases h
  | x :: xs, y :: ys, z :: zs, h, k => by
    rw [HT.lexLt_cons] at h k ⊢
    by_cases e : y = x
    · subst e
      rw [if_pos rfl] at h
      by_cases f : z = y
      · subst f; rw [if_pos rfl] at k ⊢; exact lexLt_ntr xs ys zs h k
      · rw [if_neg f] at k ⊢; exact k
    · rw [if_neg e] at h
      have h' := of_decide_eq_false h
      by_cases f : z = y
      · subst f; rw [if_neg e]; exact h
      · rw [if_neg f] at k
        have k' := of_decide_eq_false k
        rw [if_neg (by omega)]
        exact decide_eq_false (by omega)
theorem lexLt_tot : ∀ xs ys : List Int, HT.lexLt xs ys = false → HT.lexLt ys xs = false → xs = ys
  | [], [], _, _ => rfl
  | [], _ :: _, h, _ => by cases h
  | _ :: _, [], _, h => by cases h
  | x :: xs, y :: ys, h, k => by
    rw [HT.lexLt_cons] at h k
    by_cases e : x = y
    · subst e; rw [if_pos rfl] at h k; rw [lexLt_tot xs ys h k]
    · rw [if_neg e] at h; rw [if_neg fun z => e z.symm] at k
      have h' := of_decide_eq_false h; have k' := of_decide_eq_false k
      omega
theorem lexAt_lt : ∀ (ns ms : List Int) (i : Nat) (f : Nat → Bool) (r : Nat → Bool), (∀ j, f (i + j) = decide (ns.getD j 0 = ms.getD j 0)) → (∀ j, r (i + j) = decide (ms.getD j 0 < ns.getD j 0)) →
    Ob.lexAt f r (decide (ns.length > ms.length)) i (min ns.length ms.length) = HT.lexLt ms ns
  | [], [], i, f, r, _, _ => rfl
  | [], _ :: _, i, f, r, _, _ => by simp [Ob.lexAt, HT.lexLt]
  | _ :: _, [], i, f, r, _, _ => by simp [Ob.lexAt, HT.lexLt]
  | x :: xs, y :: ys, i, f, r, hf, hr => by
    have e1 : min (x :: xs).length (y :: ys).length = min xs.length ys.length + 1 := by simp [Nat.succ_min_succ]
    have f0 := hf 0; have r0 := hr 0
    simp only [Nat.add_zero, List.getD_cons_zero] at f0 r0
    rw [e1, Ob.lexAt_succ, f0, r0, HT.lexLt_cons]
    by_cases e : x = y
    · subst e
      rw [if_pos (by simp), if_pos rfl]
      have e2 : decide ((x :: xs).length > (x :: ys).length) = decide (xs.length > ys.length) := by simp
      rw [e2]
      exact lexAt_lt xs ys (i + 1) f r (fun j => by rw [show i + 1 + j = i + (j + 1) by omega, hf (j + 1)]; rfl) (fun j => by rw [show i + 1 + j = i + (j + 1) by omega, hr (j + 1)]; rfl)
    · rw [if_neg (by simpa using e), if_neg (fun z => e z.symm)]
section
variable {X : Cx}
def rGtT (K : PySem.W.Frag) : R2 := fun x y H Q => ∃ (a b : Addr) (ns ms : List Int), x = .ref a ∧ y = .ref b ∧ SqT K H a (ns.map V.int) ∧ SqT K H b (ms.map V.int) ∧ Q (.bl (HT.lexLt ms ns)) H
theorem op_gtT (hu : X.A.units < cLine) : OpR X (compareOp .Gt) (rGtT X.K) := by
  intro pins s σ H x y v u Q I rx ry h
  obtain ⟨a, b, ns, ms, rfl, rfl, ha, hb, q⟩ := h
  cases rx
  cases ry
  obtain ⟨its, r1, p1, _⟩ := I.tuple ha
  obtain ⟨its2, r2, p2, _⟩ := I.tuple hb
  have i1 : IntsAre its ns := Vals.ints r1
  have i2 : IntsAre its2 ms := Vals.ints r2
  have e1 : its.toArray.size = ns.length := by rw [List.size_toArray]; exact i1.length
  have e2 : its2.toArray.size = ms.length := by rw [List.size_toArray]; exact i2.length
  have at1 : ∀ j (h1 : j < its.toArray.size), ∃ t, its.toArray[j] = .int (ns.getD j 0) t := fun j h1 => PyProof.Rows.IntsAre.int_at i1 _ _ (by simp at h1; simp [h1])
  have at2 : ∀ j (h1 : j < its2.toArray.size), ∃ t, its2.toArray[j] = .int (ms.getD j 0) t := fun j h1 => PyProof.Rows.IntsAre.int_at i2 _ _ (by simp at h1; simp [h1])
  have R := Ob.RcOp.tuples_gt (A := X.A) (s := s) (e := fun j => decide (ns.getD j 0 = ms.getD j 0)) (r := fun j => decide (ms.getD j 0 < ns.getD j 0)) p1 p2 hu (fun j h1 h2 => by
    obtain ⟨t, et⟩ := at1 j h1
    obtain ⟨t', et'⟩ := at2 j h2
    rw [et, et']
    have z : (ns.getD j 0 == ms.getD j 0) = decide (ns.getD j 0 = ms.getD j 0) := by
      by_cases q : ns.getD j 0 = ms.getD j 0
      · rw [decide_eq_true q]; exact beq_iff_eq.mpr q
      · rw [decide_eq_false q]; exact beq_eq_false_iff_ne.mpr q
    rw [← z]
    exact SeqAt.EqAt.int_int _ _ _ _) (fun j h1 h2 _ => by
    obtain ⟨t, et⟩ := at1 j h1
    obtain ⟨t', et'⟩ := at2 j h2
    rw [et, et']
    exact Ob.RcOp.gt_int _ _ _ _)
  rw [e1, e2, lexAt_lt ns ms 0 _ _ (fun j => by simp) (fun j => by simp)] at R
  exact R X.prog X.w X.xe (EP X pins σ Q) ⟨.bl _, H, I, rfl, q⟩
theorem opr_or {f : Value → Value → Sem Value} {r r' : R2} (h : OpR X f r) (h' : OpR X f r') : OpR X f (fun x y H Q => r x y H Q ∨ r' x y H Q) := fun pins s σ H x y v u Q I rx ry k => k.elim (h pins s σ H x y v u Q I rx ry) (h' pins s σ H x y v u Q I rx ry)
end
def IsInts (h : Heap) (v : Value) (ns : List Int) : Prop := ∃ (a : Addr) (o : Obj) (its : List Value) (n : Nat), v = .ref a ∧ h.get? a = some o ∧ o.cls = .type "tuple" ∧ o.data = .seq its.toArray n ∧ IntsAre its ns
theorem IsInts.keeps {h h' : Heap} {v : Value} {ns : List Int} (x : IsInts h v ns) (k : ∀ b o, h.get? b = some o → o.cls = .type "tuple" → h'.get? b = some o) : IsInts h' v ns := by
  obtain ⟨a, o, its, n, e, ho, hc, hd, hi⟩ := x
  exact ⟨a, o, its, n, e, k a o ho hc, hc, hd, hi⟩
end G
namespace G
open PySem PySem.Spec PyProof.Rows L2
open Sem (wp)
end G
namespace G
open PySem PySem.Spec PyProof.Rows L2
section
variable {B : Bd} {X : Cx} {W : WX} {a b c e o : Expr} {es : List Expr} {wa wb wc : WE} {ta : WA} {pos : Pos} {M : MT}
def iSeq (K : PySem.W.Frag) (tl : TE) : TI := fun σ H R => tl σ H fun x H1 => ∃ a, x = .ref a ∧ (((∃ xs, SqL K H1 a xs) ∧ R (Itl K a) H1) ∨ ((∃ xs, SqT K H1 a xs) ∧ R (Itt K a) H1))
theorem pi_seqA {tg l : Expr} {tl : TE} (hl : PE X l tl) : PI X tg l (iSeq X.K tl) := by
  refine ⟨fun pins s σ H R I h => ?_⟩
  refine thn (hl.run pins s σ H _ I h) fun v s1 ⟨x, H1, I1, r1, q1⟩ => ?_
  obtain ⟨a, e, q1⟩ := q1
  subst e
  cases r1
  rcases q1 with ⟨⟨xs, hq⟩, q⟩ | ⟨⟨xs, hq⟩, q⟩
  · obtain ⟨its, rv, p, hz⟩ := I1.list hq
    refine wpAny_pyIter_list p.isList ?_
    refine ⟨s1.heap.objs.size, [s1.heap.objs.size], _, _, H1, rfl, I1.kept (t' := s1.toks) fun b o e => Heap.get?_push_of_some _ e, turn_list a _, ⟨_, Heap.get?_push_size _ rfl, rfl, rfl⟩, fun b hb => ?_, q⟩
    have e : b = s1.heap.objs.size := by simpa using hb
    subst e
    exact I1.fpOk (Nat.le_refl _) (I1.hok.fresh (Nat.le_refl _))
  · obtain ⟨its, rv, p, hz⟩ := I1.tuple hq
    refine wpAny_pyIter_tuple (show s1.heap.IsTuple a its.toArray from p) ?_
    refine ⟨s1.heap.objs.size, [s1.heap.objs.size], _, _, H1, rfl, I1.kept (t' := s1.toks) fun b o e => Heap.get?_push_of_some _ e, turn_tuple a _, ⟨_, Heap.get?_push_size _ rfl, rfl, rfl⟩, fun b hb => ?_, q⟩
    have e : b = s1.heap.objs.size := by simpa using hb
    subst e
    exact I1.fpOk (Nat.le_refl _) (I1.hok.fresh (Nat.le_refl _))
def wiSeq (wa : WE) : WI := fun env st Q R => wa env st (fun d st1 => match d with | .lst ds => Q ds st1 | .tup ds => Q ds st1 | _ => False) R
theorem gi_seq (j : J B X W) {tg : Expr} (h : PEg B X W e wa) : PIg B X W tg e (wiSeq wa) := ⟨⟨_, pi_seqA h.pe, fun σ H g env st Q R Rr bo rw hw k => ⟨g, env, st, _, R, bo, rw, hw, fun x H1 ⟨d, st1, g1, l1, b1, r1, h1⟩ => by
  cases d with
  | lst ds =>
    obtain ⟨p, xs, e, hx, r⟩ := r1.lstV
    exact ⟨p, e, .inl ⟨⟨xs, SqL.of (b1.ok.p _ _ hx)⟩, k _ _ ⟨ds, st1, g1, l1, b1, itrep_list j.hK (SqL.of hx) r, h1⟩⟩⟩
  | tup ds =>
    obtain ⟨p, xs, e, hx, r⟩ := r1.tupV
    exact ⟨p, e, .inr ⟨⟨xs, by rw [j.hK]; exact (Same.sqU b1.ok.p hx).t⟩, k _ _ ⟨ds, st1, g1, l1, b1, itrep_tup j.hK hx r, h1⟩⟩⟩
  | _ => exact h1.elim⟩⟩⟩
def wExt (i : Nat) (wa : WE) : WS := fun env st D => match env[i]? with
  | some (Slot.own ds) => wa env st (fun d st1 => match d with | .lst fs => ds.length + fs.length ≤ sizeLine ∧ D.nx (env.set i (.own (ds ++ fs))) st1 | _ => False) (xe D env)
  | _ => False
def wgFld (F : Nat → Nat → Bool) (i : Nat) (wo : WE) : WG := fun d env st Q => wo env st (fun x st2 => match x with
  | .cel n => (match st2[n]? with
    | some (.ins c fs) => F c i ∧ fs.length < 1000 ∧ Q env (st2.set n (.ins c (putD i d fs)))
    | _ => False)
  | _ => False) (fun _ _ => False)
end
end G
namespace G
open PySem PySem.Spec PyProof.Rows L2
def itup (r : List Int) : D := .tup (r.map D.int)
def D.rows : List D → Option (List (List Int))
  | [] => some []
  | .tup xs :: ds => (match D.ints xs, D.rows ds with
    | some ns, some rs => some (ns :: rs)
    | _, _ => none)
  | _ :: _ => none
def D.strs : List D → Option (List Str)
  | [] => some []
  | .str x :: ds => (D.strs ds).map (x :: ·)
  | _ :: _ => none
theorem D.ints_map : ∀ ns : List Int, D.ints (ns.map D.int) = some ns
  | [] => rfl
  | n :: ns => by simp [D.ints, D.ints_map ns]
theorem D.rows_map : ∀ rs : List (List Int), D.rows (rs.map itup) = some rs
  | [] => rfl
  | r :: rs => by simp [D.rows, itup, D.ints_map, D.rows_map rs]
section
variable {X : Cx}
/-- V's and rows side by side -/
def RowsV (K : PySem.W.Frag) (H : Hp) (xs : List V) (rows : List (List Int)) : Prop := xs.length = rows.length ∧ ∀ (i : Nat) (x : V) (r : List Int), xs[i]? = some x → rows[i]? = some r → ∃ t, x = V.ref t ∧ SqT K H t (r.map V.int)
theorem RowsV.mem {K : PySem.W.Frag} {H : Hp} {xs : List V} {rows : List (List Int)} (h : RowsV K H xs rows) {x : V} (hx : x ∈ xs) : ∃ r ∈ rows, ∃ t, x = V.ref t ∧ SqT K H t (r.map V.int) := by
  obtain ⟨i, hi, rfl⟩ := List.mem_iff_getElem.mp hx
  obtain ⟨t, e, ht⟩ := h.2 i _ (rows[i]'(by rw [← h.1]; exact hi)) (List.getElem?_eq_getElem hi) (List.getElem?_eq_getElem _)
  exact ⟨_, List.getElem_mem _, t, e, ht⟩
end
section
variable {B : Bd} {X : Cx} {W : WX} {a b c e : Expr} {es : List Expr} {wa wb wc : WE} {ta : WA} {pos : Pos} {M : MT}
def oSorted : ON := fun ds st Q R => match ds with
  | [.lst xs] => (match D.ints xs with
    | some ns => ∀ ms : List Int, ms.Perm ns → ms.Pairwise (· ≤ ·) → Q (.lst (ms.map D.int)) st
    | none => match D.rows xs with
      | some rows => (∀ r ∈ rows, r ≠ []) ∧ ∀ rs : List (List Int), rs.Perm rows → rs.Pairwise (fun a b => HT.lexLt b a = false) → Q (.lst (rs.map itup)) st
      | none => match D.strs xs with
        | some zs => zs.length < 64 ∧ ∀ ys : List Str, ys.Perm zs → sortedS ys = true → Q (.lst (ys.map D.str)) st
        | none => False)
  | _ => False
def oMax : ON := fun ds st Q R => match ds with
  | [.int i, .int j] => Q (.int (if j > i then j else i)) st
  | [.lst xs] => (match D.ints xs with
    | some ns => 0 < ns.length ∧ ∀ m : Int, m ∈ ns → (∀ y, y ∈ ns → y ≤ m) → Q (.int m) st
    | none => match D.rows xs with
      | some rows => 0 < rows.length ∧ ∀ r : List Int, r ∈ rows → (∀ r' ∈ rows, HT.lexLt r r' = false) → Q (itup r) st
      | none => False)
  | _ => False
def oMin : ON := fun ds st Q R => match ds with
  | [.int i, .int j] => Q (.int (if j < i then j else i)) st
  | [.lst xs] => (match D.ints xs with
    | some ns => 0 < ns.length ∧ ∀ m : Int, m ∈ ns → (∀ y, y ∈ ns → m ≤ y) → Q (.int m) st
    | none => False)
  | _ => False
def lexD (xs ys : List D) : Option Bool := match D.ints xs, D.ints ys with | some ns, some ms => some (HT.lexLt ns ms) | _, _ => none
def oGtA : O2 := fun d1 d2 st Q R => match d1, d2 with
  | .int i, .int j => Q (.bl (decide (j < i))) st
  | .tup xs, .tup ys => (match lexD ys xs with | some b => Q (.bl b) st | none => False)
  | _, _ => False
def oLtA : O2 := fun d1 d2 st Q R => match d1, d2 with
  | .int i, .int j => Q (.bl (decide (i < j))) st
  | .tup xs, .tup ys => (match lexD xs ys with | some b => Q (.bl b) st | none => False)
  | _, _ => False
theorem units0 (j : J B X W) : X.A.units < cLine := by have := j.hu; omega
theorem og_gtA (j : J B X W) : OpG B X W (compareOp .Gt) oGtA := OpG.of (opr_or op_gt (op_gtT (units0 j))) fun gb g Hb env st σ H d1 d2 x y Q R l bo rw r1 r2 q => by
  unfold oGtA at q
  split at q
  · have e1 := r1.intV; have e2 := r2.intV
    subst e1; subst e2
    exact .inl ⟨_, _, rfl, rfl, QV.same l bo rep_bl q⟩
  · obtain ⟨a, vs, rfl, h1, k1⟩ := r1.tupV bo
    obtain ⟨b, us, rfl, h2, k2⟩ := r2.tupV bo
    split at q
    · rename_i z hz
      unfold lexD at hz
      split at hz
      · rename_i ns ms e1 e2
        cases hz
        have ev := ints_rep k1 e2; have ew := ints_rep k2 e1
        subst ev ew
        exact .inr ⟨a, b, ms, ns, rfl, rfl, by rw [j.hK]; exact h1.t, by rw [j.hK]; exact h2.t, QV.same l bo rep_bl q⟩
      · cases hz
    · exact q.elim
  · exact q.elim
theorem og_ltA (j : J B X W) : OpG B X W (compareOp .Lt) oLtA := OpG.of (opr_or op_lt (op_ltT (units0 j))) fun gb g Hb env st σ H d1 d2 x y Q R l bo rw r1 r2 q => by
  unfold oLtA at q
  split at q
  · have e1 := r1.intV; have e2 := r2.intV
    subst e1; subst e2
    exact .inl ⟨_, _, rfl, rfl, QV.same l bo rep_bl q⟩
  · obtain ⟨a, vs, rfl, h1, k1⟩ := r1.tupV bo
    obtain ⟨b, us, rfl, h2, k2⟩ := r2.tupV bo
    split at q
    · rename_i z hz
      unfold lexD at hz
      split at hz
      · rename_i ns ms e1 e2
        cases hz
        have ev := ints_rep k1 e1; have ew := ints_rep k2 e2
        subst ev ew
        exact .inr ⟨a, b, ns, ms, rfl, rfl, by rw [j.hK]; exact h1.t, by rw [j.hK]; exact h2.t, QV.same l bo rep_bl q⟩
      · cases hz
    · exact q.elim
  · exact q.elim
end
end G
namespace G
open PySem PySem.Spec PyProof.Rows L2
def D.flat : D → Bool
  | .non => true | .bl _ => true | .int _ => true | .str _ => true
  | _ => false
def D.toV : D → V
  | .bl b => .bl b | .int i => .int i | .str x => .str x
  | _ => .non
theorem flat_rep {C : Con} {g : Gh} : ∀ {d : D} {v : V}, d.flat = true → Rep C g d v → v = d.toV
  | .non, v, _, h => h.nonV
  | .bl b, v, _, h => h.blV
  | .int b, v, _, h => h.intV
  | .str b, v, _, h => h.strV
  | .tup _, _, k, _ => by cases k
  | .lst _, _, k, _ => by cases k
  | .ob _ _, _, k, _ => by cases k
  | .cel _, _, k, _ => by cases k
  | .cls _, _, k, _ => by cases k
  | .ty _, _, k, _ => by cases k
  | .scr _, _, k, _ => by cases k
  | .dct _, _, k, _ => by cases k
  | .dtt _, _, k, _ => by cases k
  | .raw _, _, k, _ => by cases k
  | .wtp _, _, k, _ => by cases k
theorem flats_rep {C : Con} {g : Gh} : ∀ {ds : List D} {vs : List V}, ds.all D.flat = true → Reps C g ds vs → vs = ds.map D.toV
  | [], vs, _, h => by unfold Reps at h; exact h
  | d :: ds, vs, k, h => by
    simp only [List.all_cons, Bool.and_eq_true] at k
    unfold Reps at h
    obtain ⟨v, r, rfl, a, b⟩ := h
    rw [flat_rep k.1 a, flats_rep k.2 b]; rfl
theorem flat_toV {d : D} (h : d.flat = true) : flatV d.toV = true := by
  cases d <;> first | rfl | cases h
theorem flat_eqV {d e : D} (h : d.flat = true) (k : e.flat = true) : eqV d.toV e.toV = eqD d e := by
  cases d <;> first | (cases h; done) | skip
  all_goals (cases e <;> first | (cases k; done) | skip)
  all_goals first
    | rfl
    | (simp [D.toV, eqV, eqD]; done)
    | (simp only [D.toV, eqV, eqD]; rename_i x y; by_cases e : x = y <;> simp [e])
    | skip
theorem flat_inV {d : D} {es : List D} (h : d.flat = true) (k : es.all D.flat = true) : inV d.toV (es.map D.toV) = es.any fun z => eqD z d := by
  unfold inV
  rw [List.any_map]
  induction es with
  | nil => rfl
  | cons e es ih =>
    simp only [List.all_cons, Bool.and_eq_true] at k
    simp only [List.any_cons, Function.comp, flat_eqV k.1 h]
    rw [← ih k.2]
theorem pys_any (d : D) (hd : d.dat = true) : ∀ {es : List D}, D.dats es = true → (D.pys es).any (fun z => PyData.eqv z d.py) = es.any fun z => eqD z d
  | [], _ => rfl
  | e :: es, h => by
    simp only [D.dats, Bool.and_eq_true] at h
    simp only [D.pys, List.any_cons]
    rw [py_eqv e d h.1 hd, pys_any d hd h.2]
theorem ksp_contains {K : PySem.W.Frag} {prog : Program} {w : World} {A : Around} {E : Value → Shared → Prop} {s : Shared} {x C f : Addr} {ox : Obj} {od : Option Obj} {v : Value} {Q : Bool → Shared → Prop} (X : K.In s.heap) (I : PySem.W.InstAt s.heap x ox C od)
    (hs : PySem.W.findIn K (.ref C) "__contains__" = some (some (.ref f))) (hf : PySem.W.isFn K (.ref f) = true)
    (h : wpAny (model prog w) A (call (.ref f) [.ref x, v]) (PySem.W.BoolBack Q) E s) : wpAny (model prog w) A (contains (.ref x) v) Q E s := by
  unfold contains
  refine wpAny_holding ?_
  have e0 : stdlibNamesSay? (.ref x) v = none := rfl
  simp only [e0]
  refine wpAny_bind (wpAny_bind (I.type.here ((PySem.W.looks_findIn X hs).here ?_)))
  have e1 : (some (Value.ref f) == some Value.none) = false := rfl
  simp only [e1, Bool.false_eq_true, if_false]
  show wpAny _ _ (callSpecialUnlessNone? (.ref x) (Str.ofString "__contains__") [v] _ >>= _) _ _ _
  refine wpAny_bind ?_
  unfold callSpecialUnlessNone?
  refine wpAny_bind (wpAny_bind (I.type.here ((PySem.W.looks_findIn X hs).here ?_)))
  refine wpAny_holding (wpAny_bind ((PySem.W.bind_fn X _ (beq_iff_eq.mp hf)).here ?_))
  have e2 : (Value.ref f == Value.none) = false := rfl
  simp only [e2, Bool.false_eq_true, if_false]
  refine wpAny_bind (wpAny_mono h (fun r s' hr => wpAny_pure ?_) fun _ _ z => z)
  cases r <;> first | exact hr.elim | skip
  exact wpAny_truthy_bool hr
section
variable {B : Bd} {X : Cx} {W : WX} {a b c e : Expr} {es : List Expr} {wa wb wc : WE} {ta : WA} {pos : Pos} {M : MT}
def oIn (neg : Bool) (M : MT) : O2 := fun d1 d2 st Q R => match d2 with
  | .lst es => DatOk d1 (.lst es) ∧ Q (.bl ((es.any fun z => eqD z d1) != neg)) st
  | .tup es => d1.flat = true ∧ es.all D.flat = true ∧ Q (.bl ((es.any fun z => eqD z d1) != neg)) st
  | .str z => (match d1 with
    | .str x => (match x.cps.toList with | [c] => Q (.bl (decide (c ∈ z.cps.toList) != neg)) st | _ => False)
    | _ => False)
  | .ob c fs => (∀ ds, d1 ≠ .lst ds) ∧ callM M c .contains [.ob c fs, d1] st (fun r st1 => match r with | .bl b => Q (.bl (b != neg)) st1 | _ => False) R
  | _ => False
theorem str_one {x : Str} {c : Nat} (h : x.cps.toList = [c]) : x = ⟨#[c]⟩ := by
  cases x with
  | mk cps =>
    have : cps = #[c] := by
      apply Array.toList_inj.mp
      exact h
    rw [this]
/-- x in o by the class's own method, as an operator -/
theorem contains_ob (j : J B X W) (m : MOk B X M) (neg : Bool) {gb g : Gh} {Hb : Hp} {env : Envr} {st : Store} {σ : L2.St} {H : Hp} {d1 : D} {c : Nat} {fs : List (Nat × D)} {x y : V} {v u : Value} {pins : List (Addr × Obj)} {s : Shared} {Q : QE} {R : XQ} (l : Nx gb Hb g H) (I : Inv X pins σ H s) (bo : BOk B g env st σ H) (rw : RW B W env σ R) (r1 : RepB B g env σ d1 x) (r2 : RepB B g env σ (.ob c fs) y) (rx : RelV x v) (ry : RelV y u)
    (hd : ∀ ds, d1 ≠ .lst ds) (q : callM M c .contains [.ob c fs, d1] st (fun r st1 => match r with | .bl b => Q (.bl (b != neg)) st1 | _ => False) R) :
    wpAny (model X.prog X.w) X.A (contains u v) (fun k s' => EP X pins σ (QV B gb Hb env σ Q) (.bool (k != neg)) s') X.xe s := by
  unfold callM at q
  split at q
  · rename_i φ hm
    obtain ⟨a, dx, fv, ex, ha, _, f1⟩ := rep_ob bo r2
    obtain ⟨f, hme, hc, hs, hw⟩ := met_call j m l bo rw I (reps2 f1 (r1.full hd)) (.cons ry (.cons rx .nil)) hm q
    subst ex
    cases ry
    obtain ⟨od, mA, i1, _⟩ := inst_at I ha
    refine ksp_contains I.kIn i1 hme.at_ hme.fn (thn hw fun r s2 ⟨z, H2, I2, rz, d2, st2, g2, l2, b2, rr, h2⟩ => ?_)
    cases d2 with
    | bl k =>
      have e := rr.blV
      subst e
      cases rz
      exact ⟨.bl (k != neg), H2, I2, rfl, .bl (k != neg), st2, g2, l2, b2, rep_bl, h2⟩
    | _ => exact h2.elim
  · exact q.elim
theorem og_in (j : J B X W) (m : MOk B X M) : OpG B X W (compareOp .In) (oIn false M) := by
  intro gb g Hb env st σ H d1 d2 x y v u pins s Q R l I bo rw r1 r2 rx ry q
  unfold oIn at q
  have bf : ∀ b : Bool, (b != false) = b := fun b => by cases b <;> rfl
  simp only [bf] at q
  split at q
  · rename_i es
    obtain ⟨⟨h1, h2, h3, h4⟩, q⟩ := q
    have hes : D.dats es = true := by simpa [D.dat] using h2
    refine op_inD (by have := j.hu2; omega) pins s σ H x y v u _ I rx ry ⟨d1.py, D.pys es, by rw [j.hK]; exact repB_dp bo h1 r1, ?_, shaped_of h1 h3, ?_, ?_⟩
    · have := repB_dp bo h2 r2; rw [j.hK]; simpa only [D.py] using this
    · have := shaped_of h2 h4; simpa only [D.py] using this
    · rw [pys_any d1 h1 hes]; exact QV.same l bo rep_bl q
  · rename_i es
    obtain ⟨h1, h2, q⟩ := q
    obtain ⟨p, ys, rfl, hy, ry2⟩ := r2.tupV bo
    have ey := flats_rep h2 ry2
    subst ey
    have ex := flat_rep h1 (r1.full fun ds z => by subst z; cases h1)
    subst ex
    refine op_in_seq pins s σ H _ _ v u _ I rx ry ⟨p, _, rfl, .inr (by rw [j.hK]; exact hy.t), flat_toV h1, ?_, ?_⟩
    · rw [List.all_map]; exact List.all_eq_true.mpr fun z hz => flat_toV (List.all_eq_true.mp h2 z hz)
    · rw [if_neg Bool.false_ne_true, flat_inV h1 h2]; exact QV.same l bo rep_bl q
  · split at q
    · split at q
      · rename_i zz xx cc hc
        have ex := r1.strV; have ey := r2.strV
        subst ex ey
        have := str_one hc
        subst this
        exact op_in_sign pins s σ H _ _ v u _ I rx ry ⟨_, _, rfl, rfl, QV.same l bo rep_bl q⟩
      · exact q.elim
    · exact q.elim
  · rename_i cc fs
    exact wpAny_bind (wpAny_mono (contains_ob j m false l I bo rw r1 r2 rx ry q.1 (by simpa only [bf] using q.2)) (fun k s' h => wpAny_pure (by simpa only [bf] using h)) fun _ _ z => z)
  · exact q.elim
end
end G
namespace G
open PySem PySem.Spec PyProof.Rows L2
structure CalOk (B : Bd) (X : Cx) (T : Nat → Option WF) : Prop where
  cal : ∀ c φ, T c = some φ → ∃ k f, Room k X.A ∧ FnA X B.C k f φ ∧ StX.CallO X.K (B.C.ca c) f
theorem c0 {B : Bd} {X : Cx} : CalOk B X T0 := ⟨fun _ _ h => by cases h⟩
section
variable {B : Bd} {X : Cx} {W : WX} {a b c e fe : Expr} {es : List Expr} {wa wb wc : WE} {ta : WA} {pos : Pos} {M : MT}
/-- f(e, ..), f an expression that gives an instance -/
def wCal (T : Nat → Option WF) (wf : WE) (ta : WA) : WE := fun env st Q R => wf env st (fun d st1 => match d with
  | .ob c fs => ta env st1 (fun ds st2 => match T c with | some φ => φ (.ob c fs :: ds) st2 Q R | none => False) R
  | _ => False) R
def oIsB (neg : Bool) : O2 := fun d1 d2 st Q R => match d1, d2 with
  | .bl a, .bl b => Q (.bl (decide (a = b) != neg)) st
  | _, _ => False
end
end G
namespace G
open PySem PySem.Spec PyProof.Rows L2
open AutoSeq1 (wpAny_loadPart')
theorem tuple_mulS (l : Addr) (items : Array Value) (n : Nat) (dd : Option Addr) (sl : Array (Option Value)) (x : Int) (u : Tok) (c0 : (decide (x < -(2 ^ 63)) || decide (x ≥ 2 ^ 63)) = false) (c1 : (items.isEmpty || x == 1) = true) :
    Meets (Builtin.«tuple.__mul__» ⟨[.ref l, .int x u], []⟩) (fun _ R s => s.heap.get? l = some { cls := .type "tuple", dict := dd, data := .seq items n, slots := sl } ∧ R (.ok (.ret (Value.ref l))) s) :=
  .of_wp fun prog w A R s h => by
    obtain ⟨hp, g, d, tk, os⟩ := s
    obtain ⟨hl, h⟩ := h
    have f1 := AutoSeq1.idx_int
    wp_walk using wpAny_loadPart' hl
    repeat (first
      | (refine wpAny_ite_false (decide_eq_false (by rw [c0]; exact Bool.false_ne_true)) ?_; wp_walk using wpAny_loadPart' hl)
      | (refine wpAny_ite_true (decide_eq_true c1) ?_; wp_walk using wpAny_loadPart' hl))
    exact ⟨_, rfl, h⟩
theorem tuple_mul0 (l : Addr) (items : Array Value) (n : Nat) (dd : Option Addr) (sl : Array (Option Value)) (x : Int) (u : Tok) (c0 : (decide (x < -(2 ^ 63)) || decide (x ≥ 2 ^ 63)) = false) (c1 : (items.isEmpty || x == 1) = false) (c2 : (decide (x ≤ 0) || items.isEmpty) = true) :
    Meets (Builtin.«tuple.__mul__» ⟨[.ref l, .int x u], []⟩) (fun _ R s => s.heap.get? l = some { cls := .type "tuple", dict := dd, data := .seq items n, slots := sl } ∧
      R (.ok (.ret (Value.ref s.heap.objs.size))) { s with heap := s.heap.push { cls := Value.type "tuple", data := Data.seq #[] }, toks := s.toks }) :=
  .of_wp fun prog w A R s h => by
    obtain ⟨hp, g, d, tk, os⟩ := s
    obtain ⟨hl, h⟩ := h
    have f1 := AutoSeq1.idx_int
    wp_walk using wpAny_loadPart' hl
    repeat (first
      | (refine wpAny_ite_false (decide_eq_false (by rw [c0]; exact Bool.false_ne_true)) ?_; wp_walk using wpAny_loadPart' hl)
      | (refine wpAny_ite_false (decide_eq_false (by rw [c1]; exact Bool.false_ne_true)) ?_; wp_walk using wpAny_loadPart' hl)
      | (refine wpAny_ite_true (decide_eq_true c2) ?_; wp_walk using wpAny_loadPart' hl))
    exact ⟨_, rfl, h⟩
def rRepA (K : PySem.W.Frag) : R2 := fun x y H Q => ∃ l k xs, x = .ref l ∧ y = .int k ∧ SqT K H l xs ∧ xs ≠ [] ∧ k ≤ 1000 ∧ -1000 ≤ k ∧ xs.length ≤ 1000 ∧ (k = 1 → Q (.ref l) H) ∧ (k ≠ 1 → ∀ p, H p = none → Q (.ref p) (upd H p (.tup (List.replicate k.toNat xs).flatten)))
section
variable {X : Cx}
theorem op_repA : OpR X (binaryOp .Mult) (rRepA X.K) := by
  intro pins s σ H x y v u Q I rx ry h
  obtain ⟨l, k, xs, rfl, rfl, hT, hne, h2, h3, hz, q1, q⟩ := h
  by_cases hk : 2 ≤ k
  · exact op_repT pins s σ H _ _ v u Q I rx ry ⟨l, k, xs, rfl, rfl, hT, hne, hk, h2, hz, q (by omega)⟩
  cases rx
  obtain ⟨t, rfl⟩ := ry
  obtain ⟨its, r, ⟨⟨cls, dd, data, sl⟩, ho, hc, n, hd⟩, hs⟩ := I.tuple hT
  simp only at hc hd
  subst hc hd
  have hle : its.length = xs.length := r.length.symm
  have hn : its ≠ [] := fun e => hne (by
    rw [e] at hle
    exact List.eq_nil_of_length_eq_zero hle.symm)
  have hi : its.toArray.isEmpty = false := by
    cases its with
    | nil => exact absurd rfl hn
    | cons a b => rfl
  have c0 : (decide (k < -(2 ^ 63)) || decide (k ≥ 2 ^ 63)) = false := by
    rw [decide_eq_false (by omega), decide_eq_false (by omega)] <;> rfl
  by_cases h1 : k = 1
  · have c1 : (its.toArray.isEmpty || k == 1) = true := by rw [h1]; simp
    exact wpAny_binaryOp_repeat_ref (T := "tuple") (U := "int") (by decide) ⟨_, ho, rfl⟩ (fun s' => typeIs_int s' k t) noFill_tuple_mul F.fills_int_mul F.slot_int_rmul repeat_tuple F.slot_int_index.lookup
      (call_meets F.slot_int_rmul (typeIs_int s k t) F.entry_int_rmul (F.args_int_rmul_2 _ _) (int_rmul_tuple k t l its.toArray n dd sl)
        ⟨ho, rfl, ⟨_, ho, rfl⟩, call_meets F.slot_tuple_mul ⟨_, ho, rfl⟩ F.entry_tuple_mul (F.args_tuple_mul_2 _ _) (tuple_mulS l its.toArray n dd sl k t c0 c1) ⟨ho, ⟨.ref l, H, I, rfl, q1 h1⟩⟩⟩)
  · have c1 : (its.toArray.isEmpty || k == 1) = false := by
      rw [hi, Bool.false_or]
      exact beq_eq_false_iff_ne.mpr h1
    have c2 : (decide (k ≤ 0) || its.toArray.isEmpty) = true := by rw [decide_eq_true (by omega)]; rfl
    refine wpAny_binaryOp_repeat_ref (T := "tuple") (U := "int") (by decide) ⟨_, ho, rfl⟩ (fun s' => typeIs_int s' k t) noFill_tuple_mul F.fills_int_mul F.slot_int_rmul repeat_tuple F.slot_int_index.lookup
      (call_meets F.slot_int_rmul (typeIs_int s k t) F.entry_int_rmul (F.args_int_rmul_2 _ _) (int_rmul_tuple k t l its.toArray n dd sl)
        ⟨ho, rfl, ⟨_, ho, rfl⟩, call_meets F.slot_tuple_mul ⟨_, ho, rfl⟩ F.entry_tuple_mul (F.args_tuple_mul_2 _ _) (tuple_mul0 l its.toArray n dd sl k t c0 c1 c2) ⟨ho, ?_⟩⟩)
    have ek : k.toNat = 0 := by omega
    have q' := q h1
    rw [ek] at q'
    refine ⟨.ref s.heap.objs.size, _, I.laid (t' := s.toks) (o := .tup ([] : List V)) (fun b ob q => Heap.get?_push_of_some _ q) (Nat.le_refl _) ?_, rfl, q' _ (I.hok.fresh (Nat.le_refl _))⟩
    exact ⟨Nat.zero_le _, [], .nil, IsTup.new _ _⟩
end
section
variable {B : Bd} {X : Cx} {W : WX} {M : MT}
def oAddA (M : MT) : O2 := fun d1 d2 st Q R => match d1, d2 with
  | .tup xs, .tup ys => xs.length + ys.length ≤ sizeLine ∧ Q (.tup (xs ++ ys)) st
  | d1, d2 => oAdd M d1 d2 st Q R
theorem og_addA (j : J B X W) (m : MOk B X M) : OpG B X W (binaryOp .Add) (oAddA M) := by
  intro gb g Hb env st σ H d1 d2 x y v u pins s Q R l I bo rw r1 r2 rx ry q
  unfold oAddA at q
  split at q
  · rename_i xs ys
    obtain ⟨a, vs, e1, h1, p1⟩ := r1.tupV bo
    obtain ⟨b, us, e2, h2, p2⟩ := r2.tupV bo
    subst e1 e2
    have f1 := r1.full (fun ds z => by cases z); have f2 := r2.full (fun ds z => by cases z)
    refine op_catA pins s σ H _ _ v u _ I rx ry ⟨a, b, vs, us, rfl, rfl, by rw [j.hK]; exact h1.t, by rw [j.hK]; exact h2.t, by rw [← p1.length, ← p2.length]; exact q.1, fun e => ?_, fun _ e => ?_, fun _ _ p hp => ?_⟩
    · have : xs = [] := List.eq_nil_of_length_eq_zero (by rw [p1.length, e]; rfl)
      subst this
      exact QV.same l bo f2 (by simpa using q.2)
    · have : ys = [] := List.eq_nil_of_length_eq_zero (by rw [p2.length, e]; rfl)
      subst this
      exact QV.same l bo f1 (by simpa using q.2)
    · exact QV.tup j.ck l bo (p1.append p2) q.2 hp
  · exact og_add j m gb g Hb env st σ H d1 d2 x y v u pins s Q R l I bo rw r1 r2 rx ry q
def oMulA (M : MT) : O2 := fun d1 d2 st Q R => match d1, d2 with
  | .tup xs, .int k => (xs ≠ [] ∧ k ≤ 1000 ∧ -1000 ≤ k ∧ xs.length ≤ 1000) ∧ Q (.tup (List.replicate k.toNat xs).flatten) st
  | d1, d2 => oMul M d1 d2 st Q R
theorem reps_rep {C : Con} {g : Gh} {ds : List D} {vs : List V} (r : Reps C g ds vs) : ∀ n : Nat, Reps C g (List.replicate n ds).flatten (List.replicate n vs).flatten
  | 0 => Reps.nil
  | n + 1 => by rw [List.replicate_succ, List.replicate_succ, List.flatten_cons, List.flatten_cons]; exact r.append (reps_rep r n)
theorem og_mulA (j : J B X W) (m : MOk B X M) : OpG B X W (binaryOp .Mult) (oMulA M) := by
  intro gb g Hb env st σ H d1 d2 x y v u pins s Q R l I bo rw r1 r2 rx ry q
  unfold oMulA at q
  split at q
  · rename_i xs k
    obtain ⟨a, vs, e1, h1, p1⟩ := r1.tupV bo
    have e2 := r2.intV
    subst e1 e2
    have f1 := r1.full (fun ds z => by cases z)
    obtain ⟨⟨a1, a2, a3, a4⟩, q⟩ := q
    refine op_repA pins s σ H _ _ v u _ I rx ry ⟨a, k, vs, rfl, rfl, by rw [j.hK]; exact h1.t, fun e => a1 (List.eq_nil_of_length_eq_zero (by rw [p1.length, e]; rfl)), a2, a3, by rw [← p1.length]; exact a4, fun e => ?_, fun _ p hp => ?_⟩
    · subst e
      exact QV.same l bo f1 (by simpa using q)
    · exact QV.tup j.ck l bo (reps_rep p1 _) q hp
  · exact og_mul j m gb g Hb env st σ H d1 d2 x y v u pins s Q R l I bo rw r1 r2 rx ry q
end
end G
namespace G
open PySem PySem.Spec PyProof.Rows L2
variable {B : Bd} {X : Cx} {W : WX} {a b c e : Expr} {ta : WA} {pos : Pos}
/-- zip of two lists, of two tuples, of a tuple and a list -/
def wiZipA (ta : WA) : WI := fun env st Q R => ta env st (fun ds st1 => match ds with
  | [.lst xs, .lst ys] => Q (zipD xs ys) st1
  | [.tup xs, .tup ys] => Q (zipD xs ys) st1
  | [.tup xs, .lst ys] => Q (zipD xs ys) st1
  | [.tup xs, .wtp ys] => Q (zipD xs ys) st1
  | _ => False) R
end G
namespace G
open PySem PySem.Spec PyProof.Rows L2
variable {B : Bd} {X : Cx} {W : WX} {a b c e : Expr} {es : List Expr} {ta : WA} {pos : Pos}
/-- x, y = [..], n : the list is changed later -/
def wParO (i k : Nat) (ta : WA) (n : Int) : WS := fun env st D => ta env st (fun ds st1 => ds.length ≤ sizeLine ∧ D.nx ((env.set i (.own ds)).set k (.val (.int n))) st1) (xe D env)
end G
namespace G
section
open PySem PySem.Spec PyProof.Rows L2
variable {B : Bd} {X : Cx} {W : WX} {T : Nat → Option WF}
/-- two lists of instances, pair by pair equal by their own == -/
def ownAll (T : Nat → Option WF) (st : Store) : List D → List D → Prop
  | [], ys => ys = []
  | x :: xs, ys => match x, ys with
    | .ob c fs, .ob c' gs :: ys => (c = c' ∧ ownEq T false c fs gs st (fun r st1 => r = .bl true ∧ st1 = st) (fun _ _ => False)) ∧ ownAll T st xs ys
    | _, _ => False
def oEqL (T : Nat → Option WF) : O2 := fun d1 d2 st Q R => match d1, d2 with
  | .lst xs, .lst ys => ownAll T st xs ys ∧ Q (.bl true) st
  | d1, d2 => oEqO T d1 d2 st Q R
def oNeL (T : Nat → Option WF) : O2 := fun d1 d2 st Q R => match d1, d2 with
  | .lst xs, .lst ys => ownAll T st xs ys ∧ Q (.bl false) st
  | d1, d2 => oNeO T d1 d2 st Q R
end
end G
namespace G
open PySem PySem.Spec PyProof.Rows L2 NdefX
/-- the statements of such an __init__ -/
def supBody (x f t : Str) (T : Str) (p : Nat → Pos) (j : Nat) : List Stmt :=
  [.Expr (.Call (.Attribute (.Call (.Name "super" (p 0)) [] [] (p 1)) "__init__" (p 2)) [.Name x (p 3)] [] (p 4)) (p 5),
   .Assign [.Attribute (.Name "self" (p 6)) f (p 7)] (.Name x (p 8)) (p 9),
   .Assign [.Attribute (.Name "self" (p 10)) t (p 11)] (.Constant (.str T) j (p 12)) (p 13)]
/-- what the written part says of it -/
structure SupK (P : Program) (K : PySem.W.Frag) (C fI cc : Addr) (fn : NF) (x : Str) : Prop where
  oex : OexC K C
  lk : ∃ oc od doc pm ctv osl, K.lookup fI = some ⟨oc, od, .func (fn.fd doc pm ctv), osl⟩
  cd : PySem.W.codeIn K (.ref fn.c) fn.qual = true
  code : ∃ ccl cdd vs ccs file tf, K.lookup fn.c = some ⟨ccl, cdd, .fields vs, ccs⟩ ∧ vs[2]? = some (.str file tf) ∧ ((P.main.file : Str) == file) = true
  cell : ∃ cl cld csl, K.lookup cc = some ⟨cl, cld, .cell (some (.ref C)), csl⟩
  cl : fn.cl = [(("__class__" : Str), cc)]
  cls : ∃ cd, PySem.W.clsIn K C = some cd ∧ PySem.W.alongIn K "__init__" ((cd.mro.dropWhile (· != .ref C)).drop 1) = some (some (.builtin "ValueError.__init__"))
  sub : PySem.W.mroIn K C (.ref C) = some true
  ve : PySem.W.subIn K (.ref C) (.type "ValueError") = some true
  any : PySem.W.nsIn K cStatics "thirdparty.any" = some none
  top : (P.main.scope.names.lookup ("super" : Str)).isSome = false
  par : ∃ ar, (fn.params.posonlyargs ++ fn.params.args).head? = some ar ∧ ar.arg = ("self" : Str)
  sc : NScope [("self" : Str), x, "__class__"] ["self", x] ["__class__"] fn.scope
  su : fn.scope.names.lookup ("super" : Str) = some .globalImplicit
section
variable {P : Program} {w : World} {A : Around} {E : Value → Shared → Prop} {hp : Heap} {gn : Array GenState} {dr : Drawn} {tk : Nat} {os : OsState}
variable {nm q : Str} {C N : Addr} {bs bm : List Value} {hd : Bool} {sn : List Str} {sb : List Value} {ab : Bool} {col : Option Bool} {dd : Option Addr} {j0 j1 j2 j3 j5 : Option Value}
/-- ValueError.__init__, bound to the object, called -/
theorem bound_call {mw a t0 : Addr} {us : List Value} {Q : Value → Shared → Prop} (atC : hp.get? C = some (excClassObj nm q C N bs bm hd sn sb ab col dd j0 j1 j2 j3 j5 "ValueError.__new__")) (atA : hp.get? a = some (HandSPX.excO C t0))
    (atM : hp.get? mw = some (PySem.W.kxs_mw "ValueError.__init__" a)) (len : us.length ≤ sizeLine) (k : ∀ hp' t1, (∀ b o, b ≠ a → hp.get? b = some o → hp'.get? b = some o) → hp'.get? a = some (HandSPX.excO C t1) → Q .none ⟨hp', gn, dr, tk, os⟩) :
    wpAny (model P w) A (call (.ref mw) us) Q E ⟨hp, gn, dr, tk, os⟩ := by
  have FB := F.excBase_ValueError
  refine wpAny_call (codeAny_of_tree (show wpAny _ A.in1 (callAny (.ref mw) ⟨us, []⟩) _ _ _ from ?_))
  simp only [callAny]
  refine wpAny_bind (wpAny_load atM ?_)
  simp only [PySem.W.kxs_mw, show (Value.type "method-wrapper" == .type "method" || Value.type "method-wrapper" == .type "builtin_function_or_method" || Value.type "method-wrapper" == .type "method-wrapper") = true by decide, if_true]
  refine PySem.W.KFB.if_so (by decide) (wpAny_bind (PySem.W.check_bound_init FB.toExcCallFacts atC atA rfl (wpAny_bind (wpAny_pure (wpAny_pure ⟨Code.quiet_builtin _ (by decide +kernel), codeAny_builtin FB.initEntry ?_⟩)))))
  rw [Around.under_plainId FB.init.plain _]
  wp_walk
  refine k _ hp.objs.size (fun b o ne e => (Heap.get?_update_other _ _ (Ne.symm ne)).trans (Heap.get?_push_of_some _ e)) ((Heap.get?_update_self _ (Heap.get?_push_of_some _ atA) rfl).trans rfl)
/-- the wrapper's call with its arguments -/
theorem mw_call {M : Model} {s : Shared} {mw a : Addr} {env : Env} {e : Expr} {pos : Pos} {Q : Value → Shared → Prop} (h : wpAny M A (spliced (backTo pos (starEach [e] env))) (fun vs s1 => s1.heap.get? mw = some (PySem.W.kxs_mw "ValueError.__init__" a) ∧ wpAny M A (call (.ref mw) vs) Q E s1) E s)
    (he : starEach [e] env = (false, eval e env) :: starEach [] env := by rfl) : wpAny M A (callWith pos (.ref mw) [] (backTo pos (starEach [e] env)) []) Q E s := by
  rw [he] at h ⊢
  exact PySem.W.kxs_callWith (i := "ValueError.__init__") (x := a) rfl (PySem.Calls.evalArgs_plain h)
end
/-- the call is laid out as a method's call (a look at its places) -/
def Plain (p0 p1 p2 p3 p4 : Pos) (x : Str) : Prop := ∀ env : Env, eval (.Call (.Attribute (.Call (.Name "super" p0) [] [] p1) "__init__" p2) [.Name x p3] [] p4) env = (do
  let ov ← attributeBase (.Call (.Name "super" p0) [] [] p1) "__init__" env (eval (.Call (.Name "super" p0) [] [] p1) env)
  standAt p2.atName
  let (f, first) ← holding [ov] (getMethod ov "__init__" (do return (← importBound (.Call (.Name "super" p0) [] [] p1) env).getD true))
  callWith p4 f first (backTo p4 (starEach [.Name x p3] env)) [])
section
variable {P : Program} {w : World} {K : PySem.W.Frag} {mg : Str → Option Value} {base : Heap} {CX : CXT}
/-- super().__init__(x) done, in the body's own frame -/
theorem sup_first {N : List Str} {fn : NF} {fI C cc a : Addr} {A : Around} {outer : List Env} {s s1 : Shared} {H : Hp} {E : XK} {σ : L2.St} {x : Str} {p0 p1 p2 p3 p4 p5 : Pos} {v : V} {Q : Flow → Shared → Prop}
    (S : SupK P K C fI cc fn x) (I : Inv (ncx CX P w K mg base N fn fI A outer s H E) [] σ H s1) (ea : H a = some (exo a C none)) (msup : mg "super" = none)
    (i0 : N[0]? = some ("self" : Str)) (i1 : N[1]? = some x) (v0 : σ[0]? = some (some (.ref a))) (v1 : σ[1]? = some (some v)) (xd : (x == ("__debug__" : Str)) = false) (xc : (x == ("__classdict__" : Str)) = false)
    (k : ∀ s2, Inv (ncx CX P w K mg base N fn fI A outer s H E) [] σ H s2 → Q .next s2) (he : Plain p0 p1 p2 p3 p4 x) :
    PySem.wpAt (model P w) (A.deeper (envF fn fI s.heap.objs.size)) (.func fn.body (envF fn fI s.heap.objs.size))
      (exec (.Expr (.Call (.Attribute (.Call (.Name "super" p0) [] [] p1) "__init__" p2) [.Name x p3] [] p4) p5) (envF fn fI s.heap.objs.size)) Q (ncx CX P w K mg base N fn fI A outer s H E).xe s1 := by
  obtain ⟨oc, od, doc, pm, ctv, osl, lk⟩ := S.lk
  obtain ⟨ccl, cdd, vs, ccs, file, tf, lc, hvs, hfile⟩ := S.code
  obtain ⟨cl, cld, csl, lcell⟩ := S.cell
  obtain ⟨cd, hcd, halong⟩ := S.cls
  obtain ⟨ar, hpar, hself⟩ := S.par
  have kself : fn.scope.names.lookup ("self" : Str) = some .local := S.sc.par _ (by simp)
  have kx : fn.scope.names.lookup x = some .local := S.sc.par _ (by simp)
  have kcls : fn.scope.names.lookup ("__class__" : Str) = some .free := S.sc.frk _ (by simp)
  have X := I.kIn
  refine PySem.ks_wpAt_Expr_any ?_ (by simp [interactive, envF, PySem.W.envX, S.sc.kind])
  refine PySem.ks_wpAt_MethodCall ?_ (he _)
  refine PySem.ks_wpAt_super_base (f := fI) (cc := fn.c) (fd := fn.fd doc pm ctv) S.su kcls rfl rfl (X _ _ lk) rfl hpar rfl (X _ _ lc) rfl hvs hfile S.top ?_
  obtain ⟨mb, hb1, hb2⟩ := I.mod.blt
  refine PySem.W.ks_loadName_global S.sc.kind S.su (Calls.loadGlobal_builtin (I.mod.glob.keeps I.bk) msup (hb1.keeps I.bk) ((hb2 _ (by decide)).trans PyProof.Rows.Boot.«super») ⟨rfl, ?_⟩)
  refine wpAny_loadName_free S.sc.kind kcls (by show fn.cl.lookup _ = _; rw [S.cl]; rfl) ⟨_, X _ _ lcell, rfl⟩ ?_
  obtain ⟨m, hn, hl⟩ := id I.loc
  obtain ⟨u, ru, hu⟩ := hl 0 _ _ i0 v0 (.inl kself)
  obtain rfl : u = Value.ref a := ru
  have mself : m ar.arg = some (.ref a) := by
    rw [hself]
    rcases hu with ⟨_, z⟩ | ⟨z, _⟩
    · exact z
    · rcases z with z | z <;> (rw [show fn.scope.names.lookup ("self" : Str) = _ from z] at kself; cases kself)
  refine wpAny_loadName_local S.sc.kind (by show fn.scope.names.lookup ar.arg = _; rw [hself]; exact kself) hn mself ?_
  obtain ⟨nm, q, N', bs, bm, sn, sb, ab, col, dd, j0, j1, j2, j3, j5, hC, hbm⟩ := S.oex.cls
  have atC := X _ _ hC
  obtain ⟨t0, atA⟩ := exo_at I.hok ea
  refine PySem.ks_wpAny_isType_cls atC rfl ⟨rfl, ?_⟩
  obtain ⟨hp, gn, dr, tk, os⟩ := s1
  refine PySem.ks_wpAny_call_super atC rfl atA rfl (fun c z => by cases z) (PySem.W.looks_mroIn X S.sub) (fun h1 e1 k1 => ?_)
  have IA : PySem.W.InstAt h1 a { cls := .ref C, dict := none, data := .fields #[.ref t0, .none, .none, .none, .bool false, .none] } C none := ⟨k1 _ _ atA, rfl, rfl, trivial⟩
  have X1 : K.In h1 := X.keeps k1
  refine PySem.W.kxs_getMethod PySem.W.kxs_ValueError e1 (PySem.W.looks_opaque X1 S.any) (l₀ := cd.mro) (fun A Q E s k q => wpAny_bind ((PySem.W.looks_clsIn X1 hcd) A _ E s k (wpAny_pure q))) rfl X1 halong (IA.type.andThen (PySem.W.looks_subIn X1 S.ve)) (PySem.W.ks_ne X1 IA hcd) rfl ?_
  have k2 : ∀ b o, hp.get? b = some o → (h1.push (PySem.W.kxs_mw "ValueError.__init__" a)).get? b = some o := fun b o e => Heap.get?_push_of_some _ (k1 b o e)
  have J := I.kept (t' := tk + 1) k2
  have mwN : H h1.objs.size = none := (I.kept (t' := tk) k1).hok.fresh (Nat.le_refl _)
  have Jp : Inv (ncx CX P w K mg base N fn fI A outer s H E) [(h1.objs.size, PySem.W.kxs_mw "ValueError.__init__" a)] σ H ⟨h1.push (PySem.W.kxs_mw "ValueError.__init__" a), gn, dr, tk + 1, os⟩ := J.pins_of fun p hp => by
    obtain rfl : p = (h1.objs.size, PySem.W.kxs_mw "ValueError.__init__" a) := List.mem_singleton.mp hp
    exact ⟨Heap.get?_push_at rfl rfl, mwN, fun z => Nat.lt_irrefl _ (Nat.lt_of_lt_of_eq (I.kept (t' := tk) k1).lt z), (I.kept (t' := tk) k1).nofs (Nat.le_refl _), fun v z => by cases z⟩
  have ha : PA (ncx CX P w K mg base N fn fI A outer s H E) [.Name x p3] _ := pa_cons (pe_var (pos := p3) i1 (.inl kx) xd xc) pa_nil
  refine mw_call (a := a) (thn (ha.run p4 _ _ σ H (fun vs H1 => vs = [v] ∧ H1 = H) Jp ⟨v, v1, rfl, rfl⟩) fun us s3 ⟨ws, H1, I1, r1, q1⟩ => ?_)
  obtain ⟨ew, eH⟩ := q1
  rw [eH] at I1
  rw [ew] at r1
  have atM := (I1.pin _ (List.mem_append_right _ (List.mem_singleton.mpr rfl))).1
  refine ⟨atM, ?_⟩
  obtain ⟨t3, atA3⟩ := exo_at I1.hok ea
  have atC3 := I1.kIn _ _ hC
  have len : us.length ≤ sizeLine := by rw [← Paired.length r1, sizeLine_eq]; simp
  obtain ⟨hp3, gn3, dr3, tk3, os3⟩ := s3
  refine bound_call atC3 atA3 atM len fun hp4 t4 k4 e4 => ?_
  have J4 := I1.write (t' := tk3) (x := a) (e := a) (o := exo a C none) (by rw [ea]; exact True.intro) (.inl rfl) k4 ⟨_, e4⟩ (exo_ok e4)
  have same : upd H a (exo a C none) = H := by
    funext b
    by_cases hb : b = a
    · rw [hb, upd_same, ea]
    · rw [upd_ne hb]
  rw [same] at J4
  exact k _ (J4.pins_of fun p hp => absurd hp (by simp))
/-- what such an __init__ promises -/
def supSp (C : Addr) (f t : Str) (T : Str) : Sp := fun vs H Q _ => ∃ a v, vs = [.ref a, v] ∧ H a = some (exo a C none) ∧ ∀ dx, H dx = none → dx ≠ a → Q .non (upd (upd (upd H dx (exd dx [(f, v)])) a (exo a C (some dx))) dx (exd dx [(t, .str T), (f, v)]))
theorem sup_cells {s : Shared} {H : Hp} {A : Around} {outer : List Env} {C fI cc : Addr} {fn : NF} {x : Str} (S : SupK P K C fI cc fn x) (e0 : Env0 P w K mg base A outer s H) : CellsAt fn.cl [("__class__" : Str)] [none] s.heap H := by
  obtain ⟨cl, cld, csl, lcell⟩ := S.cell
  have b := e0.bs _ _ (e0.mod.kin _ _ lcell)
  have one : ∀ y c, fn.cl.lookup y = some c → y = ("__class__" : Str) ∧ c = cc := fun y c e => by
    rw [S.cl] at e
    by_cases hy : y = ("__class__" : Str)
    · subst hy
      simp [List.lookup] at e
      exact ⟨rfl, e.symm⟩
    · have : (y == ("__class__" : Str)) = false := by simpa using hy
      simp [List.lookup, this] at e
  refine ⟨rfl, fun y c e => ?_, fun y z c e1 e2 => (one y c e1).1.trans (one z c e2).1.symm, fun i y hi => ?_⟩
  · obtain ⟨_, rfl⟩ := one y c e
    exact ⟨b.2, _, _, b.1, rfl⟩
  · cases i with
    | zero =>
      obtain rfl : ("__class__" : Str) = y := by simpa using hi
      exact ⟨cc, by rw [S.cl]; rfl, fun v z => by simp at z⟩
    | succ i => simp at hi
theorem sup_fn {k : Nat} {C fI cc : Addr} {fn : NF} {x f t T : Str} {p : Nat → Pos} {j : Nat} (S : SupK P K C fI cc fn x) (hbody : fn.body = supBody x f t T p j) (msup : mg "super" = none) (nof : PySem.W.findIn K (.ref C) f = some none) (noT : PySem.W.findIn K (.ref C) t = some none)
    (he : Plain (p 0) (p 1) (p 2) (p 3) (p 4) x) (xd : (x == ("__debug__" : Str)) = false) (xc : (x == ("__classdict__" : Str)) = false) (tf : f ≠ t) :
    ∃ fd, (∃ oc od osl, K.lookup fI = some ⟨oc, od, .func fd, osl⟩) ∧ (∃ doc pm ctv, fd = fn.fd doc pm ctv) ∧ FnOk P w K mg base CX (k + 1) fI fd [("self" : Str), x] (supSp C f t T) := by
  obtain ⟨oc, od, doc, pm, ctv, osl, lk⟩ := id S.lk
  refine ⟨_, ⟨oc, od, osl, lk⟩, ⟨doc, pm, ctv, rfl⟩, fun vs H Q E ⟨a, v, e, _⟩ => by rw [e]; rfl, fun A outer s H args us vs Q E hr e0 hb r hs => ?_⟩
  obtain ⟨a, v, ev, ea, hq⟩ := hs
  subst ev
  have KX : K.In s.heap := e0.mod.kin.keeps fun b o e => (e0.bs b o e).1
  have lim : s.heap.NoLimit := e0.mod.nolimit.keeps fun b o e => (e0.bs b o e).1
  refine PySem.ks_codeAny_call_defAt (fd := fn.fd doc pm ctv) (body := fn.body) (binds := _) hr.depth (KX _ _ lk) rfl lim (PySem.W.codeRec_of KX S.cd) rfl hb S.sc.nocell (fun y hy => S.sc.par _ (List.of_mem_zip hy).1) (fun h1 hns kp => ?_) S.sc.co S.sc.gen S.sc.kind
  have J : Inv (ncx CX P w K mg base [("self" : Str), x, "__class__"] fn fI A outer s H E) [] (startF [("self" : Str), x, "__class__"] [.ref a, v] [none]) H { s with heap := h1, toks := s.toks + ([("self" : Str), x].zip us).length } := inv_startN S.sc hr.hd e0 rfl r (sup_cells S e0) hns kp
  have kself : fn.scope.names.lookup ("self" : Str) = some .local := S.sc.par _ (by simp)
  have kx : fn.scope.names.lookup x = some .local := S.sc.par _ (by simp)
  show PySem.wpAt _ _ (.func fn.body (envF fn fI s.heap.objs.size)) (execs fn.body (envF fn fI s.heap.objs.size)) _ _ _
  rw [show execs fn.body (envF fn fI s.heap.objs.size) = execs (supBody x f t T p j) (envF fn fI s.heap.objs.size) by rw [hbody]]
  refine PySem.ks_wpAt_execs_cons (sup_first S J ea msup rfl rfl rfl rfl xd xc (fun s2 J2 => ?_) he)
  have rest : PSs (ncx CX P w K mg base [("self" : Str), x, "__class__"] fn fI A outer s H E) [.Assign [.Attribute (.Name "self" (p 6)) f (p 7)] (.Name x (p 8)) (p 9), .Assign [.Attribute (.Name "self" (p 10)) t (p 11)] (.Constant (.str T) j (p 12)) (p 13)] _ :=
    pss_cons (ps_ost (pe_var (i := 0) rfl (.inl kself)) (pe_var (i := 1) rfl (.inl kx) xd xc)) (pss_one (ps_ost (pe_var (i := 0) rfl (.inl kself)) pe_str))
  refine PySem.wpAt_of_wpAny (wpAny_mono (rest.run [] s2 _ H { nx := fun _ H' => Q .non H', rt := Q } J2 ⟨v, rfl, .ref a, rfl, a, C, rfl, S.oex, nof, .inl ⟨ea, fun dx n ne => ⟨.ref a, rfl, a, C, rfl, S.oex, noT, .inr ⟨dx, [(f, v)], upd_same, by rw [upd_ne ne, upd_same], by simp, hq dx n ne⟩⟩⟩⟩) (fun fl s3 hs => ?_) fun _ _ z => z)
  cases fl with
  | ret u =>
    obtain ⟨z, σ', H', J', rv, q⟩ := hs
    exact ⟨z, H', J'.os, J'.bare, J'.base, J'.hok, rv, q⟩
  | next =>
    obtain ⟨σ', H', J', q⟩ := hs
    exact ⟨.non, H', J'.os, J'.bare, J'.base, J'.hok, rfl, q⟩
  | brk =>
    obtain ⟨_, _, _, q⟩ := hs
    exact q.elim
  | cont =>
    obtain ⟨_, _, _, q⟩ := hs
    exact q.elim
end
end G
namespace G
open PySem PySem.Spec PyProof.Rows L2
variable {B : Bd} {X : Cx} {W : WX} {e : Expr} {we : WE}
def wRaise (c f t : Nat) (T : Str) (wa : WE) : WS := fun env st D => wa env st (fun d st1 => D.ex ⟨c, [(t, .str T), (f, d)]⟩ env st1) (xe D env)
theorem del_back {H1 : Hp} {a dx : Addr} {o1 o2 o3 o4 o5 : HO} (ha : H1 a = none) (ne : dx ≠ a) : upd (del (upd (upd (upd (upd H1 a o1) dx o2) a o3) dx o4) a) dx o5 = upd H1 dx o5 := by
  funext b
  by_cases hd : b = dx
  · rw [hd, upd_same, upd_same]
  · rw [upd_ne hd, upd_ne hd]
    by_cases hb : b = a
    · rw [hb, del_same, ha]
    · rw [del_ne hb, upd_ne hd, upd_ne hb, upd_ne hd, upd_ne hb]
theorem gs_raise (j : J B X W) {c f t k : Nat} {T x pn : Str} {fI : Addr} {fd : FuncData} {p pos pos2 : Pos} (T1 : OexC X.K (B.C.ca c)) (iC : PySem.W.findIn X.K (.ref (B.C.ca c)) "__init__" = some (some (.ref fI))) (tI : PySem.W.typeIn X.K (.ref fI) = some (.type "function"))
    (F1 : FnOk X.prog X.w X.K X.mg X.base (L2.CX X.prog X.w) k fI fd [("self" : Str), pn] (supSp (B.C.ca c) (B.C.fn f) (B.C.fn t) T)) (hr : Room (k + 1) X.A) (hb : Binds X.K fd [("self" : Str), pn] []) (hg : Gl X x) (hm : X.mg x = some (.ref (B.C.ca c))) (ha : PEg B X W e we)
    (hdb : (x == ("__debug__" : Str)) = false := by decide) (he : starEach [e] X.env = (false, eval e X.env) :: starEach [] X.env := by rfl) (hpl : (backTo pos (starEach [] X.env)).any (·.1) = false := by rfl) :
    PSg B X W (.Raise (some (.Call (.Name x p) [e] [] pos)) none pos2) (wRaise c f t T we) :=
  PSg.of (ps_raise j.calm j.tk (pmk_oex (ds := []) (dvs := []) T1 iC tI F1 hr hb .nil (passes_call j.tk fun _ _ _ _ z => z.elim) hg hm (ga_cons ha ga_nil he).pa hdb he hpl)) fun σ H g env st D bo rw hq =>
    ⟨g, env, st, fun ds st1 => match ds with | [d] => D.ex ⟨c, [(t, .str T), (f, d)]⟩ env st1 | _ => False, _, bo, rw.at env σ, hq, fun vs H1 ⟨ds, st1, g1, l1, b1, r1, h1⟩ => by
      match ds, r1, h1 with
      | [d], r1, h1 =>
        obtain ⟨v, r, rfl, rv, r2⟩ := Reps.cons_inv r1
        obtain rfl : r = [] := by unfold Reps at r2; exact r2
        refine ⟨by simp, fun a n0 => ⟨a, v, rfl, upd_same, fun dx n ne => ⟨rfl, dx, [(B.C.fn t, .str T), (B.C.fn f, v)], by rw [upd_ne (Ne.symm ne), upd_same], upd_same, by rw [upd_ne ne] at n; exact n, ?_⟩⟩⟩
        rw [del_back n0 ne]
        rw [upd_ne ne] at n
        exact rw ⟨c, [(t, .str T), (f, d)]⟩ g1 env st1 σ _ _ _ (b1.grow j.ck fun b o hb => by rw [upd_ne (ne_of_none hb n)]; exact hb) ⟨rfl, dx, _, rfl, upd_same, by unfold RepF; exact ⟨_, _, rfl, rep_str, by unfold RepF; exact ⟨_, _, rfl, rv, by unfold RepF; rfl⟩⟩⟩ h1
      | [], _, h1 => exact h1.elim
      | _ :: _ :: _, _, h1 => exact h1.elim⟩
end G
namespace G
open PySem PySem.Spec PyProof.Rows L2
/-- a clause's test, in the suite's context: which of the classes it asks for -/
def TestTo (X : Cx) (t : Expr) (cs : List Value) : Prop :=
  ∀ (a : Addr) (pn : List (Addr × Obj)) (σ : L2.St) (H : Hp) (s : Shared) (cls : Value) (b : Bool) (Q : Bool → Shared → Prop) (E : Value → Shared → Prop), Inv (X.suite a pn) [] σ H s → PySem.W.Looks (model X.prog X.w) s.heap (typeOf (.ref a)) cls → PySem.W.exmAny X.K cls cs = some b →
    (∀ h', (∀ q o, s.heap.get? q = some o → h'.get? q = some o) → Q b { s with heap := h' }) → wpAny (model X.prog X.w) (X.A.mark (some (.ref a))) (eval t X.env) (fun c s1 => wpAny (model X.prog X.w) (X.A.mark (some (.ref a))) (excMatches (.ref a) c) Q E s1) E s
section
variable {X : Cx}
theorem name_in {x : Str} {c : Value} {np : Pos} (hc : Names X x c) {a : Addr} {pn : List (Addr × Obj)} {σ : L2.St} {H : Hp} {s : Shared} (I : Inv (X.suite a pn) [] σ H s) {Q : Value → Shared → Prop} {E : Value → Shared → Prop} (q : Q c s) : wpAny (model X.prog X.w) (X.A.mark (some (.ref a))) (eval (.Name x np) X.env) Q E s := by
  obtain ⟨hg, hd, hm | ⟨hm, hv, hn⟩⟩ := hc
  · exact ld_glob (X := X.suite a pn) I hg hm q hd
  · exact ld_blt (X := X.suite a pn) I hg hm hv q hn hd
theorem test_one {x : Str} {c : Value} {np : Pos} (hc : Names X x c) : TestTo X (.Name x np) [c] := fun a pn σ H s cls b Q E I LT hx q => by
  obtain ⟨b1, d1, e1, e2, e3⟩ := PySem.W.exmAny_cons hx
  obtain rfl : d1 = false := by
    have z : some false = some d1 := e2
    exact (Option.some.inj z).symm
  rw [Bool.or_false] at e3
  subst e3
  exact name_in hc I ((PySem.W.exm_one I.kIn LT e1).here (q s.heap fun _ _ z => z))
theorem test_two {x1 x2 : Str} {c1 c2 : Value} {p1 p2 pt : Pos} {k : Nat} (n1 : Names X x1 c1) (n2 : Names X x2 c2) : TestTo X (.Tuple [.Name x1 p1, .Name x2 p2] k pt) [c1, c2] := fun a pn σ H s cls b Q E I LT hx q => by
  refine wpAny_Tuple (wpAny_items_cons (name_in n1 I (wpAny_items_cons (name_in n2 I (wpAny_items_nil ⟨by size_fits, ?_⟩)))))
  have kp : ∀ q o, s.heap.get? q = some o → (s.heap.push { cls := .type "tuple", data := .seq [c1, c2].toArray }).get? q = some o := fun _ _ z => Heap.get?_push_of_some _ z
  exact (PySem.W.exm_tup2 (I.kIn.keeps kp) (LT.keeps kp) (Heap.get?_push_size s.heap rfl) hx).here (q _ kp)
theorem test_three {x1 x2 x3 : Str} {c1 c2 c3 : Value} {p1 p2 p3 pt : Pos} {k : Nat} (n1 : Names X x1 c1) (n2 : Names X x2 c2) (n3 : Names X x3 c3) : TestTo X (.Tuple [.Name x1 p1, .Name x2 p2, .Name x3 p3] k pt) [c1, c2, c3] := fun a pn σ H s cls b Q E I LT hx q => by
  refine wpAny_Tuple (wpAny_items_cons (name_in n1 I (wpAny_items_cons (name_in n2 I (wpAny_items_cons (name_in n3 I (wpAny_items_nil ⟨by size_fits, ?_⟩)))))))
  have kp : ∀ q o, s.heap.get? q = some o → (s.heap.push { cls := .type "tuple", data := .seq [c1, c2, c3].toArray }).get? q = some o := fun _ _ z => Heap.get?_push_of_some _ z
  exact (PySem.W.exm_tup3 (I.kIn.keeps kp) (LT.keeps kp) (Heap.get?_push_size s.heap rfl) hx).here (q _ kp)
theorem test_four {x1 x2 x3 x4 : Str} {c1 c2 c3 c4 : Value} {p1 p2 p3 p4 pt : Pos} {k : Nat} (n1 : Names X x1 c1) (n2 : Names X x2 c2) (n3 : Names X x3 c3) (n4 : Names X x4 c4) : TestTo X (.Tuple [.Name x1 p1, .Name x2 p2, .Name x3 p3, .Name x4 p4] k pt) [c1, c2, c3, c4] := fun a pn σ H s cls b Q E I LT hx q => by
  refine wpAny_Tuple (wpAny_items_cons (name_in n1 I (wpAny_items_cons (name_in n2 I (wpAny_items_cons (name_in n3 I (wpAny_items_cons (name_in n4 I (wpAny_items_nil ⟨by size_fits, ?_⟩)))))))))
  have kp : ∀ q o, s.heap.get? q = some o → (s.heap.push { cls := .type "tuple", data := .seq [c1, c2, c3, c4].toArray }).get? q = some o := fun _ _ z => Heap.get?_push_of_some _ z
  exact (PySem.W.exm_tup4 (I.kIn.keeps kp) (LT.keeps kp) (Heap.get?_push_size s.heap rfl) hx).here (q _ kp)
end
/-- all is kept: it flies on -/
theorem fly_keeps {B h h' : Heap} {l : List Env} {a : Addr} {Z : Obj → Prop} (f : HandSPX.FlyingZ B l a Z h) (k : ∀ b o, h.get? b = some o → h'.get? b = some o) : HandSPX.FlyingZ B l a Z h' := by
  obtain ⟨f1, f2, f3, oe, vs, T, oT, ts, he, hz, hd, h1, nT, ne, hT, dT, h3⟩ := f
  exact ⟨fun b o e => k b o (f1 b o e), f2, f3.of_keeps fun b o e _ => ⟨o, k b o e, rfl⟩, oe, vs, T, oT, ts, k _ _ he, hz, hd, h1, nT, ne, k _ _ hT, dT, h3⟩
abbrev Cla := List Value × (Addr → Value → Option Addr → L2.TS)
/-- what the clauses wish, one behind the other; slot i is the name's -/
def wTold (K : PySem.W.Frag) (i : Nat) (Wout : WX) (D : Ends) : List Cla → WX
  | [] => Wout
  | (cs, ts) :: r => fun cls d σ H => ∃ b, PySem.W.exmAny K cls cs = some b ∧ (b = true → ∀ a, H a = none → ts a cls d { nx := fun σ' H' => D.nx (σ'.set i none) H', rt := D.rt, bk := fun σ' H' => D.bk (σ'.set i none) H', ct := fun σ' H' => D.ct (σ'.set i none) H' } (σ.set i (some (.ref a))) H) ∧
      (b = false → wTold K i Wout D r cls d σ H)
inductive Clauses (X : Cx) (n : Str) : List ExceptHandler → List Cla → Prop
  | nil : Clauses X n [] []
  | cons {t : Expr} {cs : List Value} {ts : Addr → Value → Option Addr → L2.TS} {b0 : Stmt} {suite : List Stmt} {pos : Pos} {hds : List ExceptHandler} {l : List Cla} (ht : TestTo X t cs)
      (hsu : ∀ (a : Addr) (oe : Obj) (cls : Value) (d : Option Addr) (pn : List (Addr × Obj)), Zc cls d oe → (∃ vs, oe.data = .fields vs) → PSs (X.suite a ((a, oe) :: pn)) (b0 :: suite) (ts a cls d)) (r : Clauses X n hds l) : Clauses X n (.ExceptHandler (some t) (some n) (b0 :: suite) pos :: hds) ((cs, ts) :: l)
section
variable {X : Cx} {body : List Stmt} {h0 : ExceptHandler} {hds : List ExceptHandler} {l : List Cla} {n : Str} {i : Nat} {pos : Pos} {tb : WX → L2.TS} {Wout : WX}
theorem ps_told (hs : X.stack = X.env :: X.outer) (hf : X.env.frame = some X.env.locals) (hN : X.N.Nodup) (hi : X.N[i]? = some n) (hln : X.env.kindOf n = some .local) (tk : Takes X Wout)
    (hb : ∀ (W : WX) (pn : List (Addr × Obj)) (xe : Value → Shared → Prop), Takes (X.tr pn xe) W → PassesOwn (model X.prog X.w) X.A X.env xe → PSs (X.tr pn xe) body (tb W)) (hc : Clauses X n (h0 :: hds) l) :
    PS X (.Try body (h0 :: hds) [] [] pos) (fun D σ H => tb (wTold X.K i Wout D l) D σ H) := by
  refine ⟨fun pins s σ H D I h => ?_⟩
  have ok := I.ok
  have fr : X.A.frames = some (X.env :: X.outer) := by rw [ok.frames, hs]
  have lc : Loc X.env.scope n := .inl hln
  refine wpAny_Try_except (wpAny_mono ((hb (wTold X.K i Wout D l) (X.pn ++ pins) (fun e z1 => wpAny (model X.prog X.w) X.A (noteFrame e X.env) (fun _ z2 => wpAny (model X.prog X.w) X.A (setFlight e none) (fun _ z3 =>
    wpAny (model X.prog X.w) X.A (handleBy e X.env (h0 :: hds)) (SP X pins D) X.xe z3) X.xe z2) X.xe z1) (fun u s1 xx => ?_) PassesOwn.looking).run [] s σ H D (I.toTry _) h) (fun f s1 hsp => ?_) fun _ _ z => z)
  · obtain ⟨a, B, sI, pins', σ1, H1, cls, d, rfl, J', nb, up, sky, na, os, ag, w⟩ := xx
    have J : Inv X pins σ1 H1 sI := J'.ofTry ok
    have sky1 : Sky B (X.env :: X.outer) a (Zc cls d) X.env.locals s1.heap := by rw [← hs]; exact sky
    refine Sky.land Zc.steady fr hf sky1 fun h3 fl3 up3 => ?_
    obtain ⟨oe3, vs3, he3, hz3, hd3⟩ := fl3.there
    have notFr : ∀ {h : Heap} {o : Obj} {vs : Array Value}, h.FunFrames B (X.env :: X.outer) → h.get? a = some o → o.data = .fields vs → a ∉ frs (X.env :: X.outer) := fun {h o vs} ff e dd hm => by
      obtain ⟨_, o', e', no⟩ := ff.mem hm
      rw [e] at e'
      cases e'
      exact no _ dd
    have nfr := notFr fl3.2.2.1 he3 hd3
    have nL : a ≠ X.env.locals := fun z => nfr (List.mem_filterMap.mpr ⟨X.env, List.mem_cons_self, by rw [hf, z]⟩)
    have nF : a ∉ X.fs := fun hm => by
      obtain ⟨e, he, q⟩ := List.mem_filterMap.mp hm
      exact nfr (List.mem_filterMap.mpr ⟨e, List.mem_cons_of_mem _ he, q⟩)
    have go : ∀ {hds' : List ExceptHandler} {l' : List Cla}, Clauses X n hds' l' → ∀ (h3 : Heap), HandSPX.FlyingZ B (X.env :: X.outer) a (Zc cls d) h3 → s1.heap.UpToSlots h3 → wTold X.K i Wout D l' cls d σ1 H1 →
        wpAny (model X.prog X.w) X.A (handleBy (.ref a) X.env hds') (SP X pins D) X.xe { s1 with heap := h3 } := by
      intro hds' l' hk
      induction hk with
      | nil =>
        intro h3 fl3 up3 w
        refine wpAny_handleBy_nil ?_
        obtain ⟨k1, k2, k3, oe, vs, T, oT, ts', he, hz, hd, h1, hr⟩ := id fl3
        unfold PySem.passOn
        refine wpAny_bind (wpAny_field he hd h1 ?_)
        rw [if_neg (show ¬ ((Value.ref T == Value.none) = true) from by simp)]
        have fin : wpAny (model X.prog X.w) X.A (setFlight (.ref a) X.env.frame) (fun _ s4 => wpAny (model X.prog X.w) X.A (throw (.ref a) : Sem Flow) (SP X pins D) X.xe s4) X.xe { s1 with heap := h3 } := by
          rw [hf]
          refine HandSPX.setFlight_upZ fl3 fun h4 hh4 up4 => wpAny_throw (tk _ _ ?_)
          exact ⟨a, B, sI, pins, σ1, H1, cls, d, rfl, J, nb, (up.trans up3).trans up4, .inr (.inr (by rw [hs]; exact hh4)), na, os, ag, w⟩
        first
          | exact wpAny_bind (wpAny_pure (wpAny_bind fin))
          | exact wpAny_bind fin
      | @cons t cs ts b0 suite pos' hds2 l2 ht hsu r ih =>
        intro h3 fl3 up3 w
        obtain ⟨b, hb1, hyes, hno⟩ := w
        have J3 : Inv X pins σ1 H1 { s1 with heap := h3 } := J.landed nb fl3.1 (up.trans up3) os ag
        obtain ⟨oe3, vs3, he3, hz3, hd3⟩ := fl3.there
        refine wpAny_handleBy_cons (codeAny_handlers_test ?_) (by intro q; cases q)
        have LT : PySem.W.Looks (model X.prog X.w) h3 (typeOf (.ref a)) cls := fun A Q E s k q => wpAny_typeOf_ref (k _ _ he3) (by rw [hz3.1]; exact q)
        refine ht a _ σ1 H1 _ cls b _ _ (J3.suite he3 hd3 na nL nF) LT hb1 fun h5 k5 => ?_
        have fl5 := fly_keeps fl3 k5
        have up5 : s1.heap.UpToSlots h5 := up3.trans (Heap.UpToSlots.of_keeps k5)
        cases b with
        | true =>
          refine codeAny_handlers_suite_as (HandSPX.lands_againZ fl5 fun h4 fl4 up4 => ?_)
          have J4 : Inv X pins σ1 H1 { s1 with heap := h4 } := J.landed nb fl4.1 ((up.trans up5).trans up4) os ag
          obtain ⟨oe4, vs4, he4, hz4, hd4⟩ := fl4.there
          refine store_ok (X := X.suite a ((a, oe4) :: (X.pn ++ pins))) (v := .ref a) (J4.suite he4 hd4 na nL nF) hN hi lc rfl (fun s5 S5 => ?_) (.inr hln)
          refine wpAny_mono ((hsu a oe4 cls d (X.pn ++ pins) hz4 ⟨_, hd4⟩).run [] s5 _ H1 _ S5 (hyes rfl a na)) (fun f s6 hsp => ?_) (fun _ _ z => False.elim z)
          have ends : ∀ {σ6 : L2.St} {H6 : Hp} {Q : Shared → Prop}, Inv (X.suite a ((a, oe4) :: (X.pn ++ pins))) [] σ6 H6 s6 → (∀ s7, Inv X pins (σ6.set i none) H6 s7 → Q s7) →
              wpAny (model X.prog X.w) X.A (do bindName X.env n .none; unbindBehindTheSuite X.env n pos') (fun _ s7 => Q s7) X.xe s6 := fun {σ6 H6 Q} S6 hq => gone_ok (S6.unsuite ok) hN hi hln hq
          cases f with
          | next =>
            obtain ⟨σ6, H6, S6, q6⟩ := hsp
            exact ends S6 fun s7 J7 => ⟨_, _, J7, q6⟩
          | brk =>
            obtain ⟨σ6, H6, S6, q6⟩ := hsp
            exact ends S6 fun s7 J7 => ⟨_, _, J7, q6⟩
          | cont =>
            obtain ⟨σ6, H6, S6, q6⟩ := hsp
            exact ends S6 fun s7 J7 => ⟨_, _, J7, q6⟩
          | ret u =>
            obtain ⟨v6, σ6, H6, S6, r6, q6⟩ := hsp
            exact ends S6 fun s7 J7 => ⟨_, _, _, J7, r6, q6⟩
        | false => exact ih h5 fl5 up5 (hno rfl)
    exact go hc h3 fl3 up3 w
  · cases f with
    | next =>
      obtain ⟨σ1, H1, J1, q⟩ := hsp
      exact wpAny_execs_nil ⟨σ1, H1, J1.ofTry ok, q⟩
    | brk =>
      obtain ⟨σ1, H1, J1, q⟩ := hsp
      exact ⟨σ1, H1, J1.ofTry ok, q⟩
    | cont =>
      obtain ⟨σ1, H1, J1, q⟩ := hsp
      exact ⟨σ1, H1, J1.ofTry ok, q⟩
    | ret u =>
      obtain ⟨v, σ1, H1, J1, r, q⟩ := hsp
      exact ⟨v, σ1, H1, J1.ofTry ok, r, q⟩
end
end G
namespace G
open PySem PySem.Spec PyProof.Rows L2 LamX
/-- a clause: its classes, the field that it tells (none: None) -/
structure Told where
  cs : List Addr
  fld : Option Str
/-- what is known of a class that a clause names -/
structure ToldC (K : PySem.W.Frag) (tag : Str) (f : Option Str) (C : Addr) : Prop where
  xf : XfC K C
  tg : PySem.W.findIn K (.ref C) tag = some none
  fl : ∀ g, f = some g → PySem.W.findIn K (.ref C) g = some none
/-- the value that a clause gives -/
def tellV (f : Option Str) (fs : List (Str × V)) (v : V) : Prop := match f with | none => v = .non | some g => fs.lookup g = some v
/-- what the clauses make of an error -/
def told (K : PySem.W.Frag) (tag : Str) : List Told → Value → Option Addr → Hp → VK → Prop
  | [], _, _, _, _ => False
  | t :: r, cls, d, H, Q => ∃ b, PySem.W.exmAny K cls (t.cs.map Value.ref) = some b ∧
      (b = true → ∃ C dd fs g v, cls = .ref C ∧ ToldC K tag t.fld C ∧ d = some dd ∧ H dd = some (.xd fs) ∧ fs.lookup tag = some g ∧ tellV t.fld fs v ∧ ∀ p, H p = none → Q (.ref p) (upd H p (.tup [g, v]))) ∧ (b = false → told K tag r cls d H Q)
def TTref (K : PySem.W.Frag) (tag : Str) (l : List Told) : (XK → Hp → VK → Prop) → Hp → VK → Prop := fun tl H Q => ∀ p0, H p0 = none → tl (fun cls d H' => told K tag l cls d H' Q) (upd H p0 (.tup [.str "", .non])) (fun _ H' => Q (.ref p0) H')
def tellT (K : PySem.W.Frag) (i ie : Nat) (tag : Str) (f : Option Str) (a : Addr) (cls : Value) (d : Option Addr) : L2.TS := fun D σ H => σ[ie]? = some (some (V.ref a)) ∧ ∃ C dd fs g v, cls = .ref C ∧ ToldC K tag f C ∧ d = some dd ∧ H dd = some (.xd fs) ∧ fs.lookup tag = some g ∧ tellV f fs v ∧
  ∀ p, H p = none → D.nx (σ.set i (some (.ref p))) (upd H p (.tup [g, v]))
section
variable {X : Cx} {a : Addr} {oe : Obj} {cls : Value} {d : Option Addr} {pn : List (Addr × Obj)} {x e tag f : Str} {p0 p1 p2 p3 p4 p5 p6 : Pos} {k j i ie : Nat}
theorem suite_none (hz : Zc cls d oe) (hf : ∃ vs, oe.data = .fields vs) (hN : X.N.Nodup) (hi : X.N[i]? = some x) (he : X.N[ie]? = some e) (kx : X.env.scope.names.lookup x = some .local) (ke : X.env.scope.names.lookup e = some .local)
    (ed : (e == ("__debug__" : Str)) = false) (ec : (e == ("__classdict__" : Str)) = false) : PSs (X.suite a ((a, oe) :: pn)) [.Assign [.Name x p0] (.Tuple [.Attribute (.Name e p1) tag p2, .Constant .none j p3] k p5) p6] (tellT X.K i ie tag none a cls d) := by
  refine ⟨fun pins s σ H D I ⟨hσ, C, dd, fs, g, v, ec1, T, ed1, hdd, hg, hv, h⟩ => ?_⟩
  have one : PSs (X.suite a ((a, oe) :: pn)) [.Assign [.Name x p0] (.Tuple [.Attribute (.Name e p1) tag p2, .Constant .none j p3] k p5) p6] _ := pss_one (ps_set hN hi (.inl kx) (pe_tup (pa_cons (pe_xf T.xf T.tg hz hf (pe_var he (.inl ke) ed ec)) (pa_cons pe_non pa_nil))) (by rfl) (.inr kx))
  have hv : v = .non := hv
  subst hv
  exact one.run pins s σ H D I ⟨.ref a, hσ, rfl, ec1, dd, fs, g, ed1, hdd, hg, by simp [sizeLine_eq], h⟩
theorem suite_some (hz : Zc cls d oe) (hf : ∃ vs, oe.data = .fields vs) (hN : X.N.Nodup) (hi : X.N[i]? = some x) (he : X.N[ie]? = some e) (kx : X.env.scope.names.lookup x = some .local) (ke : X.env.scope.names.lookup e = some .local)
    (ed : (e == ("__debug__" : Str)) = false) (ec : (e == ("__classdict__" : Str)) = false) : PSs (X.suite a ((a, oe) :: pn)) [.Assign [.Name x p0] (.Tuple [.Attribute (.Name e p1) tag p2, .Attribute (.Name e p3) f p4] k p5) p6] (tellT X.K i ie tag (some f) a cls d) := by
  refine ⟨fun pins s σ H D I ⟨hσ, C, dd, fs, g, v, ec1, T, ed1, hdd, hg, hv, h⟩ => ?_⟩
  have one : PSs (X.suite a ((a, oe) :: pn)) [.Assign [.Name x p0] (.Tuple [.Attribute (.Name e p1) tag p2, .Attribute (.Name e p3) f p4] k p5) p6] _ := pss_one (ps_set hN hi (.inl kx) (pe_tup (pa_cons (pe_xf T.xf T.tg hz hf (pe_var he (.inl ke) ed ec)) (pa_cons (pe_xf T.xf (T.fl f rfl) hz hf (pe_var he (.inl ke) ed ec)) pa_nil))) (by rfl) (.inr kx))
  exact one.run pins s σ H D I ⟨.ref a, hσ, rfl, ec1, dd, fs, g, ed1, hdd, hg, .ref a, hσ, rfl, ec1, dd, fs, v, ed1, hdd, hv, by simp [sizeLine_eq], h⟩
end
/-- an error that leaves a state of the context: its slots are as many as its names -/
theorem takes_len {X : Cx} {W : WX} (tk : Takes X W) : Takes X (fun cls d σ H => σ.length = X.N.length → W cls d σ H) := fun u s' ⟨a, B, sI, pins, σ, H, cls, d, e, I, nb, up, sky, na, os, ag, w⟩ =>
  tk u s' ⟨a, B, sI, pins, σ, H, cls, d, e, I, nb, up, sky, na, os, ag, w I.len⟩
def claOf (K : PySem.W.Frag) (i ie : Nat) (tag : Str) (t : Told) : Cla := (t.cs.map Value.ref, fun a cls d => tellT K i ie tag t.fld a cls d)
theorem wTold_of {K : PySem.W.Frag} {i ie : Nat} {tag : Str} {Q : VK} {rt : VK} {bk ct : L2.St → Hp → Prop} {cls : Value} {d : Option Addr} {σ : L2.St} {H : Hp} (hi : i < σ.length) (hie : ie < σ.length) (hne : i ≠ ie) : ∀ {l : List Told}, told K tag l cls d H Q →
    wTold K ie (fun _ _ _ _ => False) { nx := fun σ' H' => ∃ v, σ'[i]? = some (some v) ∧ Q v H', rt := rt, bk := bk, ct := ct } (l.map (claOf K i ie tag)) cls d σ H
  | [], h => h
  | t :: r, h => by
    obtain ⟨b, h1, h2, h3⟩ := h
    refine ⟨b, h1, fun hb a ha => ?_, fun hb => wTold_of hi hie hne (h3 hb)⟩
    obtain ⟨C, dd, fs, g, v, e1, T, e2, hdd, hg, hv, hq⟩ := h2 hb
    refine ⟨by rw [List.getElem?_set_self hie], C, dd, fs, g, v, e1, T, e2, hdd, hg, hv, fun p hp => ⟨.ref p, ?_, hq p hp⟩⟩
    rw [List.getElem?_set_ne (Ne.symm hne), List.getElem?_set_self (by simpa using hi)]
section
variable {X : Cx} {Ng : List Str} {xn a x e q tag : Str} {sg : Scope} {g : Addr} {cdg : Value} {i ie : Nat} {l : List Told} {h0 : ExceptHandler} {hds : List ExceptHandler} {q0 q1 q2 q3 q4 q5 q6 q7 q8 p1 p2 : Pos} {j1 j2 k : Nat}
theorem refused_gives (i0 : Ng[0]? = some a) (hi : Ng[i]? = some x) (hie : Ng[ie]? = some e) (hne : i ≠ ie) (h0i : i ≠ 0) (nd : Ng.Nodup) (kx : sg.names.lookup x = some .local) (ke : sg.names.lookup e = some .local) (xd : (x == ("__debug__" : Str)) = false) (xc : (x == ("__classdict__" : Str)) = false)
    (hcl : ∀ (s : Shared) (H : Hp), Clauses (cxOf C8.CX0 X.prog X.w X.K X.mg X.base Ng xn sg g cdg X.A X.stack s H C8.E0).nox e (h0 :: hds) (l.map (claOf X.K i ie tag))) :
    GivesTo X Ng xn sg g cdg [.Assign [.Name x q0] (.Tuple [.Constant (.str "") j1 q1, .Constant .none j2 q2] k q3) q4, .Try [.Expr (.Call (.Name a p1) [] [] p2) q5] (h0 :: hds) [] [] q6, .Return (some (.Name x q7)) q8] a q (TTref X.K tag l) := by
  intro f c' s H Q tl act hc h
  have li := (List.getElem?_eq_some_iff.mp hi).1
  have lie := (List.getElem?_eq_some_iff.mp hie).1
  have l0 := (List.getElem?_eq_some_iff.mp i0).1
  refine ⟨_, pss_cons (ps_set (X := (cxOf C8.CX0 X.prog X.w X.K X.mg X.base Ng xn sg g cdg X.A X.stack s H C8.E0).nox) nd hi (.inl kx) (pe_tup (pa_cons pe_str (pa_cons pe_non pa_nil))) (by rfl) (.inr kx)) (pss_cons (ps_told (X := (cxOf C8.CX0 X.prog X.w X.K X.mg X.base Ng xn sg g cdg X.A X.stack s H C8.E0).nox) (n := e) (i := ie) (l := l.map (claOf X.K i ie tag)) (Wout := fun _ _ _ _ => False)
      (tb := fun W D σ H => ∃ Ech : XK, (∀ cls d σ' H', Ech cls d H' → σ'.length = Ng.length → W cls d σ' H') ∧ σ[0]? = some (some (.ref f)) ∧ H c' = some (CodeO c' q) ∧ tl Ech H (fun _ H' => D.nx σ H'))
      rfl rfl nd hie ke LamX.takes0 (fun W pn xe tk _ => ?_) (hcl s H)) (pss_one (ps_ret (pe_var hi (.inl kx) xd xc)))), ?_⟩
  · refine ⟨fun pins s' σ H' D I ⟨Ech, hW, h1, h2, h3⟩ => ?_⟩
    have hp := act _ pn xe Ech p1 p2 (takes_len tk) (fun cls d σ' H' z len => hW cls d σ' H' z len)
    exact (pss_one (ps_expr hp (by rfl))).run pins s' σ H' D I ⟨h1, h2, h3⟩
  · refine ⟨by simp [sizeLine_eq], fun p0 n0 => ?_⟩
    have sl : (L2.start Ng [V.ref f]).length = Ng.length := by
      unfold L2.start
      rw [List.length_append, List.length_map, List.length_replicate, List.length_singleton]
      omega
    have same : (fun (_ : V) (H' : Hp) => ∃ v, ((L2.start Ng [V.ref f]).set i (some (V.ref p0)))[i]? = some (some v) ∧ Q v H') = (fun (_ : V) (H' : Hp) => Q (.ref p0) H') := by
      funext _ H'
      refine propext ⟨fun ⟨v, e, z⟩ => ?_, fun z => ⟨.ref p0, by rw [List.getElem?_set_self (by omega)], z⟩⟩
      rw [List.getElem?_set_self (by omega)] at e
      rw [← Option.some.inj (Option.some.inj e)] at z
      exact z
    have hh := h p0 n0
    rw [← same] at hh
    refine ⟨fun cls d H' => told X.K tag l cls d H' Q, fun cls d σ' H' z len => wTold_of (by omega) (by omega) hne z, ?_, ?_, hh⟩
    · rw [List.getElem?_set_ne h0i]
      rfl
    · rw [upd_ne (ne_of_none hc n0)]
      exact hc
end
end G
namespace LamX
open PySem PySem.Spec PyProof.Rows L2
theorem dmM {H : Hp} {P c' : Addr} {ps ps' : Array Value} {q : Str} (hP : H P = some (.tbl ps)) (nC : H c' = none) {b : Addr} (hb : upd (upd H P (.tbl ps')) c' (CodeO c' q) b = none) : H b = none := by
  by_cases h1 : b = c'
  · rw [h1]; exact nC
  · rw [upd_ne h1] at hb
    by_cases h2 : b = P
    · rw [h2, upd_same] at hb; cases hb
    · rw [upd_ne h2] at hb; exact hb
def tLamM (T : List (Addr × Str)) (TT : (XK → Hp → VK → Prop) → Hp → VK → Prop) (t : XK → TE) : TE := fun σ H Q => Tabs T H ∧ ∀ H1, ExtN H H1 → (∀ b, H1 b = none → H b = none) → Tabs T H1 → TT (fun E H' Q' => t E σ H' Q') H1 Q
section
variable {X : Cx} {pins : List (Addr × Obj)} {σ : L2.St} {H : Hp} {s : Shared}
/-- the lambda is made: its code object is new, or found in the table -/
theorem lam_makeM {T : List (Addr × Str)} {c P : Addr} {params : Arguments} {body : Expr} {scope : Scope} {pos : Pos} {E : Value → Shared → Prop} {Q : Value → Shared → Prop} (I : Inv X pins σ H s) (TB : TabB X.base X.mg c P) (hcode : X.env.code = .ref c)
    (hm : (P, X.env.qual ++ "<lambda>") ∈ T) (hu : ∀ p ∈ T, p.1 = P → p.2 = X.env.qual ++ "<lambda>") (hT : Tabs T H) (hdef : defaultsOf params X.env = ([], [])) (hfree : ∀ y ∈ scope.names, y.2 = .free → ∃ c, X.env.cells.lookup y.1 = some c)
    (h : ∀ (f c' : Addr) (pm ctv : Value) (H1 : Hp) (s' : Shared), Inv X pins σ H1 s' → ExtN H H1 → (∀ b, H1 b = Option.none → H b = Option.none) → Tabs T H1 →
      s'.heap.get? f = some (PySem.W.kla_obj "<lambda>" (X.env.qual ++ "<lambda>") params body scope (cloFrom X.env.cells scope.names []) pm c' ctv) → H1 f = none → f ∉ frs X.stack → H1 c' = some (CodeO c' (X.env.qual ++ "<lambda>")) → Q (.ref f) s') :
    wpAny (model X.prog X.w) X.A (eval (.Lambda params body scope pos) X.env) Q E s := by
  obtain ⟨ps, hP, ht, ha⟩ := hT _ hm
  refine PySem.W.kla_eval hdef ?_
  have bP : s.heap.BuiltinsAt X.mg P := TB.bm.keeps I.bk
  have hP' : s.heap.get? P = some { cls := .none, data := .fields ps } := I.hok P _ hP
  have nofr : ∀ f, s.heap.objs.size ≤ f → f ∉ frs X.stack := fun f hf z => by
    rcases List.mem_cons.mp (I.stkSub _ z) with e | e
    · have h1 := I.lt
      rw [← e] at h1
      exact Nat.lt_irrefl _ (Nat.lt_of_lt_of_le h1 hf)
    · exact I.nofs hf e
  cases hc : codeAmong pos ps.toList with
  | none =>
    refine PySem.W.kla_makeFunction (mg := X.mg) (c := c) (P := P) (ps := ps) (closure_ok hfree) I.ok.glob (I.mod.glob.keeps I.bk) hcode (TB.code.keeps I.bk) hP' ht hc TB.gP bP fun c' ctv h' tk hx hge hlt hrec htb => ?_
    obtain ⟨c2, oc, vs, t, e2, hoc, hd, hv⟩ := hrec
    cases e2
    have hsz : s.heap.objs.size ≤ h'.objs.size := Nat.le_trans hge (Nat.le_of_lt hlt)
    have nC : H c' = none := I.hok.fresh hge
    have I1 := inv_table (t' := tk) (more := #[rawInt pos.line, rawInt pos.col, .ref c']) (h' := h'.push (PySem.W.kla_obj "<lambda>" (X.env.qual ++ "<lambda>") params body scope (cloFrom X.env.cells scope.names []) ((X.mg "__name__").getD .none) c' ctv)) I hP
      (fun b o hb e => Heap.get?_push_of_some _ (hx b o hb e)) (Heap.get?_push_of_some _ htb) hge ⟨oc, vs, t, Heap.get?_push_of_some _ hoc, hd, hv⟩
    have hE : ExtN H (upd (upd H P (.tbl (ps ++ #[rawInt pos.line, rawInt pos.col, .ref c']))) c' (CodeO c' (X.env.qual ++ "<lambda>"))) := fun b o e n => by
      rw [upd_ne (ne_of_none e nC), upd_ne (fun z => n ps (Option.some.inj (e.symm.trans (by rw [z]; exact hP))))]
      exact e
    have eL : (ps ++ #[rawInt pos.line, rawInt pos.col, .ref c']).toList = ps.toList ++ [rawInt pos.line, rawInt pos.col, .ref c'] := by simp
    refine h h'.objs.size c' ((X.mg "__name__").getD .none) ctv _ _ I1 hE (fun b hb => dmM hP nC hb) (fun p hp => ?_) (Heap.get?_push_size _ rfl) ?_ (nofr _ hsz) upd_same
    · by_cases hb : p.1 = P
      · rw [hu p hp hb, hb]
        refine ⟨_, by rw [upd_ne (ne_of_none hP nC), upd_same], by rw [eL]; exact PySem.TriplesOk_snoc _ _ _ _ ht, fun p' cv hcv => ?_⟩
        rw [eL] at hcv
        rcases among_app _ ht hcv with z | z
        · obtain ⟨c0, e1, e2⟩ := ha p' cv z
          exact ⟨c0, e1, hE _ _ e2 codeO_ne⟩
        · exact ⟨c', z, upd_same⟩
      · obtain ⟨ps', a1, a2, a3⟩ := hT p hp
        refine ⟨ps', by rw [upd_ne (ne_of_none a1 nC), upd_ne hb]; exact a1, a2, fun p' cv hcv => ?_⟩
        obtain ⟨c0, e1, e2⟩ := a3 p' cv hcv
        exact ⟨c0, e1, hE _ _ e2 codeO_ne⟩
    · have n1 : h'.objs.size ≠ c' := Nat.ne_of_gt hlt
      have n2 : h'.objs.size ≠ P := Nat.ne_of_gt (Nat.lt_of_lt_of_le (Heap.lt_size hP') hsz)
      rw [upd_ne n1, upd_ne n2]
      exact I.hok.fresh hsz
  | some cv =>
    obtain ⟨c', e, hco⟩ := ha pos cv hc
    subst e
    refine PySem.W.kla_makeFunctionHit (mg := X.mg) (c := c) (P := P) (ps := ps) (closure_ok hfree) I.ok.glob (I.mod.glob.keeps I.bk) hcode (TB.code.keeps I.bk) hP' ht hc bP fun ctv h' tk hx hsz => ?_
    have I1 : Inv X pins σ H { s with heap := h'.push (PySem.W.kla_obj "<lambda>" (X.env.qual ++ "<lambda>") params body scope (cloFrom X.env.cells scope.names []) ((X.mg "__name__").getD .none) c' ctv), toks := tk } := I.kept fun b o e => Heap.get?_push_of_some _ (hx b o e)
    exact h h'.objs.size c' ((X.mg "__name__").getD .none) ctv H _ I1 (ExtN.refl H) (fun _ hb => hb) hT (Heap.get?_push_size _ rfl) (I.hok.fresh hsz) (nofr _ hsz) hco
end
section
variable {X : Cx}
/-- x(lambda: body) -/
theorem pe_lamcallM {T : List (Addr × Str)} {TT : (XK → Hp → VK → Prop) → Hp → VK → Prop} {x a : Str} {g c P : Addr} {k : Nat} {pg : Arguments} {bg : List Stmt} {sg : Scope} {dV kV doc pm cdv ct oc : Value} {an od : Option Addr} {osl : Array (Option Value)} {Ng : List Str}
    {params : Arguments} {body : Expr} {scope : Scope} {t : XK → TE} {p lpos pos : Pos} (hg : Gl X x) (hm : X.mg x = some (.ref g)) (hk : PySem.W.keepIn X.K (.ref g) = true)
    (lk : X.K.lookup g = some ⟨oc, od, .func (PySem.W.fnOf x x pg bg sg dV kV doc pm an cdv ct), osl⟩) (hcg : PySem.W.codeIn X.K cdv x = true) (hb : L2.Binds X.K (PySem.W.fnOf x x pg bg sg dV kV doc pm an cdv ct) [a] []) (Sg : FnScope Ng [a] sg) (hNg : Ng[0]? = some a) (hva : Vis sg a)
    (hG : GivesTo X Ng x sg g cdv bg a (X.env.qual ++ "<lambda>") TT)
    (TB : TabB X.base X.mg c P) (hcode : X.env.code = .ref c) (hmT : (P, X.env.qual ++ "<lambda>") ∈ T) (hu : ∀ p ∈ T, p.1 = P → p.2 = X.env.qual ++ "<lambda>") (hr : Room (k + 2) X.A) (L : LamS X.env.scope scope) (hdef : defaultsOf params X.env = ([], []))
    (hbind : ∀ (q : Str) (cl : List (Str × Addr)) (pm cv ctv : Value), bindArgs (PySem.W.kla_fn "<lambda>" q params body scope cl pm cv ctv) ⟨[], []⟩ = pure [])
    (hbody : ∀ (A : Around) (outer : List Env) (s : Shared) (H : Hp) (E : XK) (f c' : Addr), Room k (A.deeper (lamEnv X scope s.heap.objs.size f c')) → PE (lamCx X A outer s H E scope f c') body (t E))
    (hdb : (x == ("__debug__" : Str)) = false := by decide) (hd : (a == ("__debug__" : Str)) = false := by decide) (hcd : (a == ("__classdict__" : Str)) = false := by decide) :
    PE X (.Call (.Name x p) [.Lambda params body scope lpos] [] pos) (tLamM T TT t) := by
  refine ⟨fun pins s σ H Q I h => ?_⟩
  obtain ⟨hT, h⟩ := h
  refine wpAny_Call_Name_kw (ld_glob I hg hm ?_ hdb)
  refine PySem.W.callWith_K (h₀ := X.base) I.ok.mod.kin hk ?_ (by rfl) (by rfl)
  show wpAny _ _ (spliced ((false, eval (.Lambda params body scope lpos) X.env) :: backTo pos (starEach [] X.env))) _ _ s
  refine Calls.spliced_cons (lam_makeM I TB hcode hmT hu hT hdef (L.has I.ok) fun f c' pm' ctv H1 s' I1 eN dm T1 hf hfn hfr hco => ?_)
  refine Calls.spliced_nil ⟨I1.kIn, ?_⟩
  have rc : codeAny (model X.prog X.w) X.A (.call (.ref g) ⟨[.ref f], []⟩) (CR C8.CX0 X.stack X.prog X.w H1 s' Q C8.E0) s' := by
    refine run_ofS (N := Ng) (ps := [a]) (us := [.ref f]) (vs := [.ref f]) lk hcg Sg hr I1.env0 (hb s' [.ref f] I1.kIn rfl) (.cons rfl .nil) rfl fun hr' => ?_
    obtain ⟨t', ht', hq'⟩ := hG f c' s' H1 Q (fun E H' Q' => t E σ H' Q') (fun W pn xe E p1 p2 tk hW => pe_act (i := 0) I1 L hf hfn hfr (hbind _ _ _ _ _) tk hW hr' (fun A outer s H hr2 => hbody A outer s H E f c' hr2) hNg hva hd hcd) hco (h H1 eN dm T1)
    exact ⟨t', ht'.nox, hq'⟩
  refine wpAny_call (codeAny_mono rc fun r s2 hq => ?_)
  cases r with
  | error e => exact (show False from hq).elim
  | ok fl =>
    cases fl with
    | ret u => exact I1.after hq
    | next => exact False.elim hq
    | brk => exact False.elim hq
    | cont => exact False.elim hq
end
end LamX
namespace G
open PySem PySem.Spec PyProof.Rows L2 LamX
section
variable {B : Bd} {g : Gh} {env : Envr} {st : Store} {σ : L2.St} {H H1 : Hp}
theorem BOk.growN (k : BOk B g env st σ H) (e : ExtN H H1) (dm : ∀ b, H1 b = none → H b = none) (tt : B.C.TT H1) : BOk B g env st σ H1 := by
  have nl : ∀ {a : Addr} {xs : List V}, H a = some (.lst xs) → H1 a = some (.lst xs) := fun h => e _ _ h fun ps z => by cases z
  refine ⟨⟨fun a o h => e _ _ (k.ok.p a o h) fun ps z => k.ok.nt a ps (z ▸ h), k.ok.nt, k.ok.np, k.ok.inj, fun n c h => ?_, k.ok.dom, tt⟩, k.nx.trans ⟨.refl g, fun a o h t _ => e a o h t, dm, fun _ _ h => .inl h, fun _ _ h => .inl h⟩, ⟨k.en.len, k.en.val, fun i ds h => ?_, k.en.dis⟩⟩
  · obtain ⟨a, h1, h2⟩ := k.ok.cell n c h
    refine ⟨a, h1, ?_⟩
    cases c with
    | lst ds => obtain ⟨xs, h, r⟩ := h2; exact ⟨xs, nl h, r⟩
    | ins c fs => obtain ⟨dx, fv, h, r⟩ := h2; exact ⟨dx, fv, e _ _ h (fun ps z => by cases z), r⟩
  · obtain ⟨a, xs, h1, h2, h3⟩ := k.en.own i ds h
    exact ⟨a, xs, h1, nl h2, h3⟩
theorem nx_growN (k : BOk B g env st σ H) (e : ExtN H H1) (dm : ∀ b, H1 b = none → H b = none) : Nx g H g H1 := ⟨.refl g, fun a o h t _ => e a o h t, dm, fun _ _ h => .inl h, fun _ _ h => .inl h⟩
end
/-- a clause, by numbers -/
abbrev TellN := List Nat × Option Nat
def tellX (tg : Nat) : List TellN → Exc → Store → QE → Prop
  | [], _, _, _ => False
  | (cs, f) :: r, x, st, Q => (x.c ∈ cs ∧ ∃ g v, x.fs.lookup tg = some g ∧ (match f with | none => v = D.non | some i => x.fs.lookup i = some v) ∧ Q (.tup [g, v]) st) ∨ (x.c ∉ cs ∧ tellX tg r x st Q)
/-- own lists are out of a lambda's sight -/
def noS : Slot → Slot
  | .own _ => .no
  | s => s
def wRef (tg : Nat) (cl : List TellN) (we : WE) : WE := fun env st Q R => we (env.map noS) st (fun _ st1 => Q (.tup [.str "", .non]) st1) (fun x st1 => tellX tg cl x st1 Q)
def toldOf (C : Con) (t : TellN) : Told := ⟨t.1.map C.ca, t.2.map C.fn⟩
/-- what is known of the classes that the clauses name -/
structure TellK (C : Con) (tg : Nat) (cl : List TellN) : Prop where
  inj : ∀ i j, C.fn i = C.fn j → i = j
  exm : ∀ t ∈ cl, ∀ u ∈ cl, ∀ c ∈ u.1, PySem.W.exmAny C.K (.ref (C.ca c)) ((t.1.map C.ca).map Value.ref) = some (decide (c ∈ t.1))
  cls : ∀ t ∈ cl, ∀ c ∈ t.1, ToldC C.K (C.fn tg) (t.2.map C.fn) (C.ca c)
theorem repF_look {C : Con} {g : Gh} (inj : ∀ i j, C.fn i = C.fn j → i = j) {i : Nat} {d : D} : ∀ {fs : List (Nat × D)} {vs : List (Str × V)}, RepF C g fs vs → fs.lookup i = some d → ∃ v, vs.lookup (C.fn i) = some v ∧ Rep C g d v
  | [], _, _, h => by simp [List.lookup] at h
  | (j, e) :: fs, vs, r, h => by
    unfold RepF at r
    obtain ⟨v, r, rfl, rv, rr⟩ := r
    by_cases hj : i = j
    · subst hj
      simp [List.lookup] at h
      subst h
      exact ⟨v, by simp [List.lookup], rv⟩
    · have n1 : (i == j) = false := by simpa using hj
      have n2 : (C.fn i == C.fn j) = false := by
        have := mt (inj i j) hj
        simpa using this
      simp only [List.lookup, n1] at h
      obtain ⟨v', h1, h2⟩ := repF_look inj rr h
      exact ⟨v', by simp only [List.lookup, n2]; exact h1, h2⟩
section
variable {B : Bd} {gb g : Gh} {Hb : Hp} {env : Envr} {st : Store} {σ : L2.St} {H : Hp} {Q : QE} {x : Exc} {cls : Value} {d : Option Addr} {tg : Nat}
theorem told_of {all : List TellN} (K : TellK B.C tg all) (ck : ConOk B.C) (l : Nx gb Hb g H) (bo : BOk B g env st σ H) (xr : XRep B.C g H x cls d) (mem : ∃ u ∈ all, x.c ∈ u.1) : ∀ {cl : List TellN}, (∀ t ∈ cl, t ∈ all) → tellX tg cl x st Q → told B.C.K (B.C.fn tg) (cl.map (toldOf B.C)) cls d H (QV B gb Hb env σ Q)
  | [], _, h => h
  | (cs, f) :: r, hm, h => by
    obtain ⟨ec, dd, fv, ed, hdd, rf⟩ := xr
    obtain ⟨u, hu, hc⟩ := mem
    have ex := K.exm (cs, f) (hm _ List.mem_cons_self) u hu x.c hc
    rw [← ec] at ex
    refine ⟨decide (x.c ∈ cs), ex, fun hb => ?_, fun hb => ?_⟩
    · have hin : x.c ∈ cs := of_decide_eq_true hb
      rcases h with ⟨_, gd, vd, h1, h2, q⟩ | ⟨no, _⟩
      · obtain ⟨gv, g1, g2⟩ := repF_look K.inj rf h1
        have T := K.cls (cs, f) (hm _ List.mem_cons_self) x.c hin
        cases f with
        | none =>
          have h2 : vd = .non := h2
          subst h2
          exact ⟨_, dd, fv, gv, .non, ec, T, ed, hdd, g1, rfl, fun p hp => QV.tup ck l bo (Reps.cons g2 (Reps.cons rep_non Reps.nil)) q hp⟩
        | some i =>
          obtain ⟨vv, v1, v2⟩ := repF_look K.inj rf h2
          exact ⟨_, dd, fv, gv, vv, ec, T, ed, hdd, g1, v1, fun p hp => QV.tup ck l bo (Reps.cons g2 (Reps.cons v2 Reps.nil)) q hp⟩
      · exact absurd hin no
    · have hno : x.c ∉ cs := of_decide_eq_false hb
      rcases h with ⟨yes, _⟩ | ⟨_, h⟩
      · exact absurd yes hno
      · exact told_of K ck l bo ⟨ec, dd, fv, ed, hdd, rf⟩ ⟨u, hu, hc⟩ (fun t ht => hm t (List.mem_cons_of_mem _ ht)) h
theorem tell_mem {st1 : Store} : ∀ {cl : List TellN}, tellX tg cl x st1 Q → ∃ u ∈ cl, x.c ∈ u.1
  | [], h => h.elim
  | (cs, f) :: r, h => by
    rcases h with ⟨yes, _⟩ | ⟨_, h⟩
    · exact ⟨_, List.mem_cons_self, yes⟩
    · obtain ⟨u, hu, hc⟩ := tell_mem h
      exact ⟨u, List.mem_cons_of_mem _ hu, hc⟩
end
theorem BOk.noOwn {B : Bd} {g : Gh} {env : Envr} {st : Store} {σ : L2.St} {H : Hp} (k : BOk B g env st σ H) : BOk ⟨B.C, g, H⟩ g (env.map noS) st σ H := by
  have at_ : ∀ {i : Nat} {s : Slot}, (env.map noS)[i]? = some s → ∃ s0, env[i]? = some s0 ∧ noS s0 = s := fun {i s} h => by
    rw [List.getElem?_map, Option.map_eq_some_iff] at h
    exact h
  refine ⟨k.ok, .refl g H, ⟨by rw [List.length_map]; exact k.en.len, fun i d h => ?_, fun i ds h => ?_, fun i j ds es a _ h => ?_⟩⟩
  · obtain ⟨s0, h1, h2⟩ := at_ h
    cases s0 <;> simp [noS] at h2
    subst h2
    exact k.en.val i _ h1
  · obtain ⟨s0, h1, h2⟩ := at_ h
    cases s0 <;> simp [noS] at h2
  · obtain ⟨s0, h1, h2⟩ := at_ h
    cases s0 <;> simp [noS] at h2
section
variable {B : Bd} {X : Cx} {W : WX}
theorem g_refused (j : J B X W) {tn : Nat} {cl : List TellN} (TK : TellK B.C tn cl) {T : List (Addr × Str)} (hTT : ∀ H, B.C.TT H ↔ Tabs T H) {we : WE}
    {x a : Str} {gA c P : Addr} {k : Nat} {pg : Arguments} {bg : List Stmt} {sg : Scope} {dV kV doc pm cdv ct oc : Value} {an od : Option Addr} {osl : Array (Option Value)} {Ng : List Str} {params : Arguments} {body : Expr} {scope : Scope} {p lpos pos : Pos} (hg : Gl X x) (hm : X.mg x = some (.ref gA)) (hk : PySem.W.keepIn X.K (.ref gA) = true)
    (lk : X.K.lookup gA = some ⟨oc, od, .func (PySem.W.fnOf x x pg bg sg dV kV doc pm an cdv ct), osl⟩) (hcg : PySem.W.codeIn X.K cdv x = true) (hb : L2.Binds X.K (PySem.W.fnOf x x pg bg sg dV kV doc pm an cdv ct) [a] []) (Sg : FnScope Ng [a] sg) (hNg : Ng[0]? = some a) (hva : Vis sg a)
    (hG : GivesTo X Ng x sg gA cdv bg a (X.env.qual ++ "<lambda>") (TTref X.K (B.C.fn tn) (cl.map (toldOf B.C)))) (TB : TabB X.base X.mg c P) (hcode : X.env.code = .ref c) (hmT : (P, X.env.qual ++ "<lambda>") ∈ T) (hu : ∀ p ∈ T, p.1 = P → p.2 = X.env.qual ++ "<lambda>") (hr : Room (k + 2) X.A) (L : LamS X.env.scope scope)
    (hdef : defaultsOf params X.env = ([], [])) (hbind : ∀ (q : Str) (cl : List (Str × Addr)) (pm cv ctv : Value), bindArgs (PySem.W.kla_fn "<lambda>" q params body scope cl pm cv ctv) ⟨[], []⟩ = pure [])
    (hbody : ∀ (g : Gh) (H : Hp) (A : Around) (outer : List Env) (s : Shared) (HZ : Hp) (E : XK) (f c' : Addr), Room k (A.deeper (lamEnv X scope s.heap.objs.size f c')) → J ⟨B.C, g, H⟩ (lamCx X A outer s HZ E scope f c') (fun cls d _ H' => E cls d H') → PEg ⟨B.C, g, H⟩ (lamCx X A outer s HZ E scope f c') (fun cls d _ H' => E cls d H') body we)
    (hdb : (x == ("__debug__" : Str)) = false := by decide) (hd : (a == ("__debug__" : Str)) = false := by decide) (hcd : (a == ("__classdict__" : Str)) = false := by decide) : PEg B X W (.Call (.Name x p) [.Lambda params body scope lpos] [] pos) (wRef tn cl we) := by
  refine PEg.of (pe_lamcallM (T := T) (TT := TTref X.K (B.C.fn tn) (cl.map (toldOf B.C))) (t := fun E σ H Q => ∃ g0 H0, tg ⟨B.C, g0, H0⟩ (fun cls d _ H' => E cls d H') we σ H Q) hg hm hk lk hcg hb Sg hNg hva hG TB hcode hmT hu hr L hdef hbind (fun A outer s HZ E f c' hr' => ?_) hdb hd hcd) fun σ H g env st Q R bo rw hw => ⟨(hTT H).mp bo.ok.tab, fun H1 eN dm T1 p0 n0 => ?_⟩
  · refine ⟨fun pins s' σ H Q I ⟨g0, H0, h⟩ => ?_⟩
    have jj : J ⟨B.C, g0, H0⟩ (lamCx X A outer s HZ E scope f c') (fun cls d _ H' => E cls d H') :=
      { ck := j.ck, hK := j.hK, tk := takes_of rfl rfl rfl rfl, po := passes_of rfl, calm := rfl, nd := j.nd, hd := hr'.hd, hu := hr'.units, hu2 := by have h := hr'.un; show (A.deeper _).units + 150 < cLine; omega }
    exact ((hbody g0 H0 A outer s HZ E f c' hr' jj).pe).run pins s' σ H Q I h
  · have b1 := bo.growN eN dm ((hTT H1).mpr T1)
    have l1 := nx_growN bo eN dm
    have nt : ∀ ps, HO.tup [V.str "", V.non] ≠ .tbl ps := fun ps z => by cases z
    have b2 := b1.new j.ck n0 nt (b1.cellNe n0)
    have l2 := l1.trans (b1.ok.nx_new (o := .tup [V.str "", V.non]) n0)
    refine ⟨g.add p0 (.tup [.str "", .non]), upd H1 p0 (.tup [.str "", .non]), g.add p0 (.tup [.str "", .non]), env.map noS, st, fun _ st1 => Q (.tup [.str "", .non]) st1, fun x st1 => tellX tn cl x st1 Q, b2.noOwn, fun x g3 st3 H3 cls d b3 xr h => ?_, hw, fun v H' ⟨d, st3, g3, nx3, b3, rv, q⟩ => ?_⟩
    · have hK := j.hK
      rw [hK]
      exact told_of TK j.ck (l2.trans b3.nx) (b2.of_sp b3.nx.le b3.ok b3.nx) xr (tell_mem h) (fun t ht => ht) h
    · refine ⟨.tup [.str "", .non], st3, g3, l2.trans nx3, b2.of_sp nx3.le b3.ok nx3, ?_, q⟩
      unfold Rep
      exact ⟨p0, _, rfl, nx3.le.p _ _ upd_same, Reps.cons rep_str (Reps.cons rep_non Reps.nil)⟩
end
end G
namespace G
open PySem PySem.Spec PyProof.Rows L2 NdefX
def oexB (C : Addr) (K : PySem.W.Frag) : Bool := (match K.lookup C with
  | some ⟨.type "type", _, .cls cd, sl⟩ => (match cd.mro, sl.toList with
    | .ref D :: bm, [_, _, _, _, some (.builtin n), _] => decide (D = C) && (decide (n = "ValueError.__new__") && (!cd.hasDel && (cd.hasDict && HandSPX.refsVE bm)))
    | _, _ => false)
  | _ => false) && (He.eqO (PySem.W.findIn K (.ref C) "__setattr__") (some (some (.builtin "object.__setattr__"))) && (decide (PySem.W.subIn K (.ref C) (.type "BaseException") = some true) && (He.eqO ((PySem.W.typeIn K (.ref C)).map some) (some (some (.type "type"))) && PySem.W.keepIn K (.ref C))))
theorem oexB_ok {C : Addr} {K : PySem.W.Frag} (h : oexB C K = true) : OexC K C := by
  obtain ⟨h1, h⟩ := He.ba h
  obtain ⟨h2, h⟩ := He.ba h
  obtain ⟨h3, h⟩ := He.ba h
  obtain ⟨h4, h5⟩ := He.ba h
  refine ⟨?_, He.eqO_ok h2, of_decide_eq_true h3, ?_, h5⟩
  · split at h1
    · rename_i dd cd sl e
      split at h1
      · rename_i D bm j0 j1 j2 j3 n j5 em es
        obtain ⟨g1, g⟩ := He.ba h1
        obtain ⟨g2, g⟩ := He.ba g
        obtain ⟨g3, g⟩ := He.ba g
        obtain ⟨g4, g5⟩ := He.ba g
        obtain ⟨nm, bs, mro, ns, qn, hd, sn, sb, ab, col, del⟩ := cd
        have e1 : D = C := of_decide_eq_true g1
        have e2 : n = "ValueError.__new__" := of_decide_eq_true g2
        have e3 : del = false := by simpa using g3
        have e4 : hd = true := g4
        subst e1; subst e2; subst e3; subst e4
        have em' : mro = .ref D :: bm := em
        subst em'
        have es' : sl = #[j0, j1, j2, j3, some (.builtin "ValueError.__new__"), j5] := by
          obtain ⟨l⟩ := sl
          have es : l = _ := es
          rw [es]
        subst es'
        exact ⟨nm, qn, ns, bs, bm, sn, sb, ab, col, dd, j0, j1, j2, j3, j5, e, g5⟩
      · cases h1
    · cases h1
  · have := He.eqO_ok h4
    cases e : PySem.W.typeIn K (.ref C) with
    | none => rw [e] at this; cases this
    | some v => rw [e] at this; exact congrArg some (Option.some.inj (Option.some.inj this))
/-- the function at a, its closure left out -/
def fnWS (K : PySem.W.Frag) (a : Addr) : He.FnW := match K.lookup a with
  | some o => (match o.data with
    | .func fd => some (fd.name, fd.qualname, fd.params, fd.body, fd.scope, fd.globals, [], fd.builtins)
    | _ => none)
  | none => none
/-- the cell of the class, the code object -/
def supParts (K : PySem.W.Frag) (a : Addr) : Option (Addr × Addr) := match K.lookup a with
  | some o => (match o.data with
    | .func fd => (match fd.closure, fd.code, fd.defaults, fd.kwdefaults, fd.annotations with
      | [(n, cc)], .ref c, .none, .none, none => if n = ("__class__" : Str) then some (cc, c) else none
      | _, _, _, _, _ => none)
    | _ => none)
  | none => none
def DefX.okS (file : Str) (C : PySem.W.Frag → Addr) (K : PySem.W.Frag) (d : DefX) : Bool := match supParts K (d.at_ K) with
  | some (cc, c) => PySem.W.codeIn K (.ref c) d.qual && ((match K.lookup cc with
    | some o => (match o.data with
      | .cell (some (.ref D)) => decide (D = C K)
      | _ => false)
    | none => false) && (match K.lookup c with
    | some o => (match o.data with
      | .fields vs => (match (vs[2]? : Option Value) with
        | some (Value.str f _) => f == file
        | _ => false)
      | _ => false)
    | none => false))
  | none => false
def supB (C : PySem.W.Frag → Addr) : Fab := fun K => oexB (C K) K && ((match PySem.W.clsIn K (C K) with
  | some cd => He.eqO (PySem.W.alongIn K "__init__" ((cd.mro.dropWhile (· != .ref (C K))).drop 1)) (some (some (.builtin "ValueError.__init__")))
  | none => false) && (decide (PySem.W.mroIn K (C K) (.ref (C K)) = some true) && (decide (PySem.W.subIn K (.ref (C K)) (.type "ValueError") = some true) && decide ((PySem.W.nsIn K cStatics "thirdparty.any").map (·.isNone) = some true))))
theorem DefX.supK {P : Program} {K : PySem.W.Frag} {d : DefX} {file x : Str} {C : PySem.W.Frag → Addr} (e : fnWS K (d.at_ K) = d.val) (c : d.okS file C K = true) (b : supB C K = true) (hf : ((P.main.file : Str) == file) = true) (top : (P.main.scope.names.lookup ("super" : Str)).isSome = false)
    (par : ∃ ar, (d.params.posonlyargs ++ d.params.args).head? = some ar ∧ ar.arg = ("self" : Str)) (sc : NScope [("self" : Str), x, "__class__"] ["self", x] ["__class__"] d.scope) (su : d.scope.names.lookup ("super" : Str) = some .globalImplicit) :
    ∃ cc cA, SupK P K (C K) (d.at_ K) cc ⟨d.name, d.qual, d.params, d.body, d.scope, [(("__class__" : Str), cc)], cA⟩ x := by
  obtain ⟨b1, b⟩ := He.ba b
  obtain ⟨b2, b⟩ := He.ba b
  obtain ⟨b3, b⟩ := He.ba b
  obtain ⟨b4, b5⟩ := He.ba b
  unfold DefX.okS at c
  cases hp : supParts K (d.at_ K) with
  | none => rw [hp] at c; cases c
  | some cp =>
    obtain ⟨cc, cA⟩ := cp
    rw [hp] at c
    obtain ⟨c1, c⟩ := He.ba (show (PySem.W.codeIn K (.ref cA) d.qual && (_ && _)) = true from c)
    obtain ⟨c2, c3⟩ := He.ba c
    refine ⟨cc, cA, oexB_ok b1, ?_, c1, ?_, ?_, rfl, ?_, of_decide_eq_true b3, of_decide_eq_true b4, ?_, top, par, sc, su⟩
    · unfold supParts at hp
      unfold fnWS at e
      split at hp
      · rename_i o ho
        split at hp
        · rename_i fd hd
          split at hp
          · rename_i n c0 c1' e1 e2 e3 e4 e5
            split at hp
            · rename_i hn
              rw [ho] at e
              obtain ⟨oc, od, dt, osl⟩ := o
              have hd' : dt = .func fd := hd
              subst hd'
              obtain ⟨n1, n2, n3, n4, n5, n6, n7, n8, n9, n10, n11, n12, n13, n14, n15⟩ := fd
              have ev : (some (n1, n2, n3, n4, n5, n6, [], n15) : He.FnW) = d.val := e
              unfold DefX.val at ev
              simp only [Option.some.injEq, Prod.mk.injEq] at ev hp
              obtain ⟨g1, g2, g3, g4, g5, g6, _, g8⟩ := ev
              obtain ⟨g9, g10⟩ := hp
              have e1 : n7 = [(n, c0)] := e1
              have e2 : n13 = .ref c1' := e2
              have e3 : n8 = .none := e3
              have e4 : n9 = .none := e4
              have e5 : n12 = none := e5
              subst g1; subst g2; subst g3; subst g4; subst g5; subst g6; subst g8; subst g9; subst g10; subst hn; subst e1; subst e2; subst e3; subst e4; subst e5
              exact ⟨oc, od, n10, n11, n14, osl, ho⟩
            · cases hp
          · cases hp
        · cases hp
      · cases hp
    · split at c3
      · rename_i o ho
        split at c3
        · rename_i vs hd
          split at c3
          · rename_i f tf hv
            obtain ⟨oc, od, dt, osl⟩ := o
            have hd' : dt = .fields vs := hd
            subst hd'
            have ef : f = file := by simpa using c3
            subst ef
            exact ⟨oc, od, vs, osl, f, tf, ho, hv, hf⟩
          · cases c3
        · cases c3
      · cases c3
    · split at c2
      · rename_i o ho
        split at c2
        · rename_i D hd
          obtain ⟨oc, od, dt, osl⟩ := o
          have hd' : dt = .cell (some (.ref D)) := hd
          subst hd'
          have eD : D = C K := of_decide_eq_true c2
          subst eD
          exact ⟨oc, od, osl, ho⟩
        · cases c2
      · cases c2
    · split at b2
      · rename_i cd hcd
        exact ⟨cd, hcd, He.eqO_ok b2⟩
      · cases b2
    · have := of_decide_eq_true b5
      cases e : PySem.W.nsIn K cStatics "thirdparty.any" with
      | none => rw [e] at this; cases this
      | some v =>
        rw [e] at this
        cases v with
        | none => rfl
        | some v => cases this
end G
namespace G
open PySem PySem.Spec PyProof.Rows L2 LamX
def toldB (tag : Str) (f : Option Str) (C : Addr) (K : PySem.W.Frag) : Bool := xfB K C && (He.eqO (PySem.W.findIn K (.ref C) tag) (some none) && (match f with
  | none => true
  | some g => He.eqO (PySem.W.findIn K (.ref C) g) (some none)))
theorem toldB_ok {tag : Str} {f : Option Str} {C : Addr} {K : PySem.W.Frag} (h : toldB tag f C K = true) : ToldC K tag f C := by
  obtain ⟨h1, h⟩ := He.ba h
  obtain ⟨h2, h3⟩ := He.ba h
  refine ⟨xfB_ok h1, He.eqO_ok h2, fun g e => ?_⟩
  subst e
  exact He.eqO_ok h3
def tellB (ca : PySem.W.Frag → Nat → Addr) (fn : Nat → Str) (tg : Nat) (cl : List TellN) : Fab := fun K => (cl.all fun t => cl.all fun u => u.1.all fun c => decide (PySem.W.exmAny K (.ref (ca K c)) ((t.1.map (ca K)).map Value.ref) = some (decide (c ∈ t.1)))) && (cl.all fun t => t.1.all fun c => toldB (fn tg) (t.2.map fn) (ca K c) K)
theorem tellB_ok {C : Con} {ca : PySem.W.Frag → Nat → Addr} {tg : Nat} {cl : List TellN} (inj : ∀ i j, C.fn i = C.fn j → i = j) (hca : C.ca = ca C.K) (h : tellB ca C.fn tg cl C.K = true) : TellK C tg cl := by
  obtain ⟨h1, h2⟩ := He.ba h
  refine ⟨inj, fun t ht u hu c hc => ?_, fun t ht c hc => ?_⟩
  · have a := List.all_eq_true.mp (List.all_eq_true.mp (List.all_eq_true.mp h1 t ht) u hu) c hc
    rw [hca]
    exact of_decide_eq_true a
  · have a := List.all_eq_true.mp (List.all_eq_true.mp h2 t ht) c hc
    rw [hca]
    exact toldB_ok a
section
variable {c f t tg tn : Nat} {T : Str} {wa we : WE} {env : Envr} {st : Store} {Dw : EW} {Q : QE} {R : XQ} {cl r : List TellN} {x : Exc}
theorem e_wRaise : wRaise c f t T wa env st Dw = wa env st (fun d st1 => Dw.ex ⟨c, [(t, .str T), (f, d)]⟩ env st1) (xe Dw env) := rfl
theorem e_wRef : wRef tn cl we env st Q R = we (env.map noS) st (fun _ st1 => Q (.tup [.str "", .non]) st1) (fun x st1 => tellX tn cl x st1 Q) := rfl
theorem noS_val {d : G.D} : noS (.val d) = .val d := rfl
theorem noS_no : noS .no = .no := rfl
/-- the clause that takes it, told -/
theorem tell_here {cs : List Nat} {fd : Nat} {y : Nat} {g v : G.D} {fs : List (Nat × G.D)} (h : y ∈ cs) (h1 : fs.lookup tg = some g) (h2 : fs.lookup fd = some v) (q : Q (.tup [g, v]) st) : tellX tg ((cs, some fd) :: r) ⟨y, fs⟩ st Q := .inl ⟨h, g, v, h1, h2, q⟩
theorem tell_next {cs : List Nat} {o : Option Nat} {y : Nat} {fs : List (Nat × G.D)} (h : y ∉ cs) (q : tellX tg r ⟨y, fs⟩ st Q) : tellX tg ((cs, o) :: r) ⟨y, fs⟩ st Q := .inr ⟨h, q⟩
end
end G
namespace G
open PySem PySem.Spec PyProof.Rows L2 LamX
/-- all but the tables -/
def noTab (H : Hp) : Hp := fun b => match H b with
  | some (.tbl _) => none
  | o => o
theorem noTab_le {H : Hp} {a : Addr} {o : HO} (h : noTab H a = some o) : H a = some o := by
  unfold noTab at h
  split at h
  · cases h
  · exact h
theorem noTab_of {H : Hp} {a : Addr} {o : HO} (h : H a = some o) (nt : ∀ ps, o ≠ .tbl ps) : noTab H a = some o := by
  unfold noTab
  rw [h]
  split
  · rename_i ps e
    exact absurd (Option.some.inj e) (nt ps)
  · rfl
theorem law_endT {C : Con} {φ : WF} {ns : List Int} {H : Hp} {a : Addr} (hl : SqL C.K H a (ns.map V.int)) (ht : C.TT H) (h : φ [.scr (ns.map D.int)] [] (fun d _ => d = .bl true) fun _ _ => False) : spOf C φ 1 [.ref a] H (fun v _ => v = .bl true) fun _ _ _ => False := by
  refine ⟨rfl, ⟨noTab H, fun _ => none⟩, [.scr (ns.map D.int)], [], _, _, ⟨fun _ _ h => noTab_le h, fun b ps e => ?_, fun _ _ h => (by cases h), fun _ _ _ h => (by cases h), fun n c h => (by simp at h), fun _ _ h => (by cases h), ht⟩, ?_, h, ?_, ?_⟩
  · have e : noTab H b = some (.tbl ps) := e
    have z := noTab_le e
    unfold noTab at e
    rw [z] at e
    cases e
  · refine Reps.cons ?_ Reps.nil
    unfold Rep
    refine ⟨a, _, rfl, ?_, rep_ints ns⟩
    rcases hl with (h | ⟨o, h⟩) | h
    · exact .inl (.inl (noTab_of h fun ps z => by cases z))
    · exact .inl (.inr ⟨o, noTab_of h fun ps z => by cases z⟩)
    · exact .inr h
  · rintro v H' ⟨d, st', g', _, _, _, r, rfl⟩
    exact r.blV
  · rintro cls dd H' ⟨x, st', g', _, _, _, _, z⟩
    exact z
theorem tabs_ok {T : List (Addr × Str)} {K : PySem.W.Frag} {ca : Nat → Addr} {fn mn : Nat → Str} : ConOk ⟨K, ca, fn, mn, fun H => Tabs T H⟩ := ⟨fun H H' h e p hp => by
  obtain ⟨ps, h1, h2, h3⟩ := h p hp
  refine ⟨ps, e _ _ h1 trivial, h2, fun pos cv hc => ?_⟩
  obtain ⟨c, e1, e2⟩ := h3 pos cv hc
  exact ⟨c, e1, e _ _ e2 trivial⟩⟩
end G
namespace G
open PySem PySem.Spec PyProof.Rows L2 NdefX
/-- an error class whose __init__ is known -/
structure ErrR (P : Program) (w : World) (C : Con) (mg : Str → Option Value) (base : Heap) (x : Str) (c f t : Nat) (T : Str) (k : Nat) : Prop where
  hm : mg x = some (.ref (C.ca c))
  ex : ∃ (fI : Addr) (fd : FuncData) (pn : Str), OexC C.K (C.ca c) ∧ PySem.W.findIn C.K (.ref (C.ca c)) "__init__" = some (some (.ref fI)) ∧ PySem.W.typeIn C.K (.ref fI) = some (.type "function") ∧
    FnOk P w C.K mg base (L2.CX P w) k fI fd [("self" : Str), pn] (supSp (C.ca c) (C.fn f) (C.fn t) T) ∧ L2.Binds C.K fd [("self" : Str), pn] []
section
variable {B : Bd} {X : Cx} {W : WX} {e : Expr} {we : WE}
theorem gs_raiseR (j : J B X W) {x T : Str} {c f t k m : Nat} {p pos pos2 : Pos} (Er : ErrR X.prog X.w B.C X.mg X.base x c f t T k) (hK : X.K = B.C.K) (hr : Room m X.A) (hg : Gl X x) (ha : PEg B X W e we) (hm : k + 1 ≤ m := by decide)
    (hdb : (x == ("__debug__" : Str)) = false := by decide) (he : starEach [e] X.env = (false, eval e X.env) :: starEach [] X.env := by rfl) (hpl : (backTo pos (starEach [] X.env)).any (·.1) = false := by rfl) :
    PSg B X W (.Raise (some (.Call (.Name x p) [e] [] pos)) none pos2) (wRaise c f t T we) := by
  obtain ⟨fI, fd, pn, h1, h2, h3, h4, h5⟩ := Er.ex
  exact gs_raise j (k := k) (pn := pn) (fI := fI) (fd := fd) (by rw [hK]; exact h1) (by rw [hK]; exact h2) (by rw [hK]; exact h3) (by rw [hK]; exact h4) (hr.mono hm) (by rw [hK]; exact h5) hg Er.hm ha hdb he hpl
end
/-- what is looked at for such a class -/
def errB (Cf aI : PySem.W.Frag → Addr) (f t : Str) : Fab := fun K => supB Cf K && (He.eqO (PySem.W.findIn K (.ref (Cf K)) "__init__") (some (some (.ref (aI K)))) && (He.eqO ((PySem.W.typeIn K (.ref (aI K))).map some) (some (some (.type "function"))) &&
  (He.eqO (PySem.W.findIn K (.ref (Cf K)) f) (some none) && He.eqO (PySem.W.findIn K (.ref (Cf K)) t) (some none))))
theorem errR_of {P : Program} {w : World} {C : Con} {mg : Str → Option Value} {base : Heap} {k : Nat} {x pn T file : Str} {c f t : Nat} {d : DefX} {Cf : PySem.W.Frag → Addr} {p : Nat → Pos} {j : Nat} (hc : C.ca c = Cf C.K) (su : fnWS C.K (d.at_ C.K) = d.val) (sk : d.okS file Cf C.K = true)
    (b : errB Cf d.at_ (C.fn f) (C.fn t) C.K = true) (hf : ((P.main.file : Str) == file) = true) (top : (P.main.scope.names.lookup ("super" : Str)).isSome = false) (par : ∃ ar, (d.params.posonlyargs ++ d.params.args).head? = some ar ∧ ar.arg = ("self" : Str))
    (sc : NScope [("self" : Str), pn, "__class__"] ["self", pn] ["__class__"] d.scope) (hsu : d.scope.names.lookup ("super" : Str) = some .globalImplicit) (hbody : d.body = supBody pn (C.fn f) (C.fn t) T p j) (msup : mg "super" = none) (he : Plain (p 0) (p 1) (p 2) (p 3) (p 4) pn)
    (xd : (pn == ("__debug__" : Str)) = false) (xc : (pn == ("__classdict__" : Str)) = false) (tf : C.fn f ≠ C.fn t)
    (hb : ∀ (cc cA : Addr) (doc pm ctv : Value), L2.Binds C.K (NF.fd ⟨d.name, d.qual, d.params, d.body, d.scope, [(("__class__" : Str), cc)], cA⟩ doc pm ctv) [("self" : Str), pn] []) (hm : mg x = some (.ref (C.ca c))) : ErrR P w C mg base x c f t T (k + 1) := by
  obtain ⟨b1, b⟩ := He.ba b
  obtain ⟨b2, b⟩ := He.ba b
  obtain ⟨b3, b⟩ := He.ba b
  obtain ⟨b4, b5⟩ := He.ba b
  obtain ⟨cc, cA, S⟩ := DefX.supK (P := P) (x := pn) su sk b1 hf top par sc hsu
  obtain ⟨fd, _, ⟨doc, pm, ctv, e2⟩, ok⟩ := sup_fn (P := P) (w := w) (mg := mg) (base := base) (CX := L2.CX P w) (k := k) (f := C.fn f) (t := C.fn t) (T := T) (p := p) (j := j) S hbody msup (He.eqO_ok b4) (He.eqO_ok b5) he xd xc tf
  have h3 := He.eqO_ok b3
  refine ⟨hm, d.at_ C.K, fd, pn, ?_, ?_, ?_, ?_, ?_⟩
  · rw [hc]; exact S.oex
  · rw [hc]; exact He.eqO_ok b2
  · cases e : PySem.W.typeIn C.K (.ref (d.at_ C.K)) with
    | none => rw [e] at h3; cases h3
    | some v => rw [e] at h3; exact congrArg some (Option.some.inj (Option.some.inj h3))
  · rw [hc]; exact ok
  · rw [e2]; exact hb cc cA doc pm ctv
/-- the def that asks and tells -/
structure RefR (P : Program) (w : World) (C : Con) (mg : Str → Option Value) (base : Heap) (x a : Str) (tn : Nat) (cl : List TellN) : Prop where
  tk : TellK C tn cl
  ex : ∃ (gA : Addr) (pg : Arguments) (bg : List Stmt) (sg : Scope) (dV kV doc pm cdv ct oc : Value) (an od : Option Addr) (osl : Array (Option Value)) (Ng : List Str), mg x = some (.ref gA) ∧ PySem.W.keepIn C.K (.ref gA) = true ∧
    C.K.lookup gA = some ⟨oc, od, .func (PySem.W.fnOf x x pg bg sg dV kV doc pm an cdv ct), osl⟩ ∧ PySem.W.codeIn C.K cdv x = true ∧ L2.Binds C.K (PySem.W.fnOf x x pg bg sg dV kV doc pm an cdv ct) [a] [] ∧ FnScope Ng [a] sg ∧ Ng[0]? = some a ∧ Vis sg a ∧
    ∀ (X : Cx) (q : Str), X.prog = P → X.w = w → X.K = C.K → X.mg = mg → X.base = base → LamX.GivesTo X Ng x sg gA cdv bg a q (TTref C.K (C.fn tn) (cl.map (toldOf C)))
theorem refR_of {P : Program} {w : World} {C : Con} {mg : Str → Option Value} {base : Heap} {x a : Str} {tn : Nat} {cl : List TellN} {gA : Addr} {pg : Arguments} {bg : List Stmt} {sg : Scope} {fd : FuncData} {Ng : List Str} (tk : TellK C tn cl) (F : FunD C.K x x pg bg sg [] [] gA fd)
    (hm : mg x = some (.ref gA)) (hb : L2.Binds C.K fd [a] []) (S : FnScope Ng [a] sg) (h0 : Ng[0]? = some a) (hv : Vis sg a)
    (G : ∀ (X : Cx) (q : Str) (cdv : Value), X.prog = P → X.w = w → X.K = C.K → X.mg = mg → X.base = base → LamX.GivesTo X Ng x sg gA cdv bg a q (TTref C.K (C.fn tn) (cl.map (toldOf C)))) : RefR P w C mg base x a tn cl := by
  obtain ⟨oc, od, dV, kV, doc, pm, an, cdv, ct, osl, rfl, lk, hcd, _, _⟩ := F.ex
  exact ⟨tk, gA, pg, bg, sg, dV, kV, doc, pm, cdv, ct, oc, an, od, osl, Ng, hm, F.kp, lk, hcd, hb, S, h0, hv, fun X q => G X q cdv⟩
/-- the table of the code objects that a def makes -/
structure LamT (C : Con) (mg : Str → Option Value) (base : Heap) (c P : Addr) (q : Str) : Prop where
  tb : LamX.TabB base mg c P
  ex : ∃ T : List (Addr × Str), (∀ H, C.TT H ↔ LamX.Tabs T H) ∧ (P, q) ∈ T ∧ ∀ p ∈ T, p.1 = P → p.2 = q
section
variable {B : Bd} {X : Cx} {W : WX}
theorem g_ref (j : J B X W) {x a q : Str} {tn : Nat} {cl : List TellN} {we : WE} {c P : Addr} {k m : Nat} {params : Arguments} {body : Expr} {scope : Scope} {p lpos pos : Pos} (R : RefR X.prog X.w B.C X.mg X.base x a tn cl) (L : LamT B.C X.mg X.base c P q) (hg : Gl X x) (hq : X.env.qual ++ "<lambda>" = q)
    (hr : Room m X.A) (hm : k + 2 ≤ m) (hcode : X.env.code = .ref c) (LS : LamX.LamS X.env.scope scope) (hdef : defaultsOf params X.env = ([], []))
    (hbind : ∀ (q : Str) (cl : List (Str × Addr)) (pm cv ctv : Value), bindArgs (PySem.W.kla_fn "<lambda>" q params body scope cl pm cv ctv) ⟨[], []⟩ = pure [])
    (hbody : ∀ (g : Gh) (H : Hp) (A : Around) (outer : List Env) (s : Shared) (HZ : Hp) (E : XK) (f c' : Addr), Room k (A.deeper (LamX.lamEnv X scope s.heap.objs.size f c')) → J ⟨B.C, g, H⟩ (LamX.lamCx X A outer s HZ E scope f c') (fun cls d _ H' => E cls d H') → PEg ⟨B.C, g, H⟩ (LamX.lamCx X A outer s HZ E scope f c') (fun cls d _ H' => E cls d H') body we)
    (hdb : (x == ("__debug__" : Str)) = false := by decide) (hd : (a == ("__debug__" : Str)) = false := by decide) (hcd : (a == ("__classdict__" : Str)) = false := by decide) : PEg B X W (.Call (.Name x p) [.Lambda params body scope lpos] [] pos) (wRef tn cl we) := by
  obtain ⟨gA, pg, bg, sg, dV, kV, doc, pm, cdv, ct, oc, an, od, osl, Ng, h1, h2, h3, h4, h5, h6, h7, h8, h9⟩ := R.ex
  obtain ⟨T, t1, t2, t3⟩ := L.ex
  subst hq
  exact g_refused j R.tk t1 hg h1 (by rw [j.hK]; exact h2) (by rw [j.hK]; exact h3) (by rw [j.hK]; exact h4) (by rw [j.hK]; exact h5) h6 h7 h8 (by rw [j.hK]; exact h9 X _ rfl rfl j.hK rfl rfl) L.tb hcode t2 t3 (hr.mono hm) LS hdef hbind hbody hdb hd hcd
end
def lawC (x : Str) (K : PySem.W.Frag) : Addr := match K.lookup (He.ga K x) with
  | some o => (match o.data with
    | .func fd => (match fd.code with
      | .ref c => c
      | _ => 0)
    | _ => 0)
  | none => 0
def lawP (x : Str) (K : PySem.W.Frag) : Addr := match K.lookup (lawC x K) with
  | some o => (match o.data with
    | .fields vs => (match (vs[11]? : Option Value) with
      | some (.ref P) => P
      | _ => 0)
    | _ => 0)
  | none => 0
def lawTabB (x : Str) : Fab := fun K => (match K.lookup (lawC x K) with
  | some o => (match o.data with
    | .fields vs => (match (vs[11]? : Option Value) with
      | some (.ref _) => true
      | _ => false)
    | _ => false)
  | none => false) && (K.lookup (lawP x K)).isNone
theorem law_tab {K : PySem.W.Frag} {h : Heap} {x qual : Str} {f : Addr} {fd : FuncData} {params : Arguments} {body : List Stmt} {scope : Scope} (X : K.In h) (b : lawTabB x K = true) (hf : f = He.ga K x) (F : FunD K x qual params body scope [] [] f fd)
    (ht : ∃ (o : Obj) (fd : FuncData) (c P : Addr), h.get? f = some o ∧ o.data = .func fd ∧ fd.code = .ref c ∧ h.IsCode c P #[] ∧ h.TableAt c P #[]) :
    fd.code = .ref (lawC x K) ∧ h.get? (lawP x K) = some { cls := .none, data := .fields #[] } ∧ K.lookup (lawP x K) = none ∧ PySem.W.CodeHd h (lawC x K) (lawP x K) := by
  obtain ⟨oc, od, dV, kV, doc, pm, an, cdv, ct, osl, efd, lk, hcd, _, _⟩ := F.ex
  obtain ⟨o, fd2, c, P, h1, h2, h3, h4, h5⟩ := ht
  obtain ⟨b1, b2⟩ := He.ba b
  rw [X _ _ lk] at h1
  cases h1
  have e2 : fd = fd2 := by cases h2; rfl
  subst e2
  subst hf
  have ec : lawC x K = c := by
    unfold lawC
    rw [lk]
    show (match fd.code with | .ref c => c | _ => 0) = c
    rw [h3]
  rw [ec] at b1
  have hd := PySem.W.CodeHd.of h4 h5
  obtain ⟨⟨o3, vs3, e1, _, e3, e4⟩, hP⟩ := id h5
  have eP : lawP x K = P := by
    unfold lawP
    rw [ec]
    cases q : K.lookup c with
    | none => rw [q] at b1; cases b1
    | some o4 =>
      have := X _ _ q
      rw [e1] at this
      cases this
      show (match o3.data with
        | .fields vs => (match (vs[11]? : Option Value) with
          | some (.ref P) => P
          | _ => 0)
        | _ => 0) = P
      rw [e3]
      show (match (vs3[11]? : Option Value) with
          | some (.ref P) => P
          | _ => 0) = P
      rw [e4]
  rw [eP] at b2 ⊢
  rw [ec]
  refine ⟨h3, hP, ?_, hd⟩
  cases q : K.lookup P with
  | none => rfl
  | some o4 => rw [q] at b2; cases b2
/-- THE RULE for the law's def where its code object is known -/
theorem fn_okC {P : Program} {w : World} {C : Con} {mg : Str → Option Value} {base : Heap} {x qual : Str} {params : Arguments} {body : List Stmt} {scope : Scope} {dvs : List V} {kws : List (Str × V)} {f cA : Addr} {fd : FuncData} {N ps : List Str} {k : Nat} {wb : WS}
    (ck : ConOk C) (F : FunD C.K x qual params body scope dvs kws f fd) (S : FnScope N ps scope) (fc : fd.code = .ref cA)
    (h : ∀ (A : Around) (outer : List Env) (s : Shared) (H : Hp) (E : XK) (g : Gh) (W : WX), Room k (A.deeper (envOfC qual scope s.heap.objs.size f (.ref cA))) → J ⟨C, g, H⟩ (cxOf (L2.CX P w) P w C.K mg base N qual scope f (.ref cA) A outer s H E) W →
      PSsg ⟨C, g, H⟩ (cxOf (L2.CX P w) P w C.K mg base N qual scope f (.ref cA) A outer s H E) W body wb) : FnOk P w C.K mg base (L2.CX P w) (k + 1) f fd ps (spOf C (wfn N.length ps.length wb) ps.length) := by
  obtain ⟨oc, od, dV, kV, doc, pm, an, cdv, ct, osl, rfl, lk, hcd, _, _⟩ := F.ex
  obtain rfl : cdv = .ref cA := fc
  refine fn_of lk hcd S (fun vs H Q E h => h.1) fun A outer s H vs Q E hr ⟨hn, g, ds, st, Qg, R, ok, r, hw, hQ, hE⟩ => ?_
  have j : J ⟨C, g, H⟩ (cxOf (L2.CX P w) P w C.K mg base N qual scope f (.ref cA) A outer s H E) (fun cls d _ H' => E cls d H') :=
    { ck := ck, hK := rfl, tk := takes_of rfl rfl rfl rfl, po := passes_of rfl, calm := rfl, nd := S.nd, hd := hr.hd, hu := hr.units, hu2 := by have h := hr.un; show (A.deeper _).units + 150 < cLine; omega }
  refine ⟨_, (h A outer s H E g _ hr j).ps, ?_⟩
  refine ⟨g, startE N.length ds, st, _, start_ok ok r, ?_, hw.2, ?_, ?_, ?_, ?_⟩
  · intro x g' env' st' σ H' cls d b x' q
    exact hE cls d H' ⟨x, st', g', b.nx.le, b.ok, b.nx, x', q⟩
  · rintro σ' H' ⟨env', st', g', l, b, q⟩
    exact hQ .non H' ⟨.non, st', g', l, b.ok, b.nx, rep_non, q⟩
  · rintro v H' ⟨d, st', g', l, ok', nx, rv, q⟩
    exact hQ v H' ⟨d, st', g', l, ok', nx, rv, q⟩
  · rintro σ' H' ⟨env', st', g', l, b, q⟩
    exact q.elim
  · rintro σ' H' ⟨env', st', g', l, b, q⟩
    exact q.elim
open PySem.W PyProof.Rows in
/-- a law with tables of code objects, its own table given -/
theorem walk_ofL {l : PySem.W.OpenLaw} {n k : Nat} {q : Program} {loose : List Str} {XP : (Str → Option Value) → Heap → Prop} {YP : World → Heap → Prop} {d : DefRec} {x : Str}
    (hn : l.most = some n) (hn2 : n ≤ sizeLine) (hdf : d.params.defaults = []) (hr : Room k callerA) (hrec : ((recsOf q).any fun r => r.name == d.name) = true)
    (F : ∀ (w : World) (mg : Str → Option Value) (fa : Addr) (h : Heap), YP w h → h.Ns mainGlobals mg → mg d.name = some (.ref fa) → (∃ (o : Obj) (fd : FuncData) (c P : Addr), h.get? fa = some o ∧ o.data = .func fd ∧ fd.code = .ref c ∧ h.IsCode c P #[] ∧ h.TableAt c P #[]) →
      ∃ (K : PySem.W.Frag) (fd : FuncData) (cs : List (Addr × Addr)) (sp : Sp), K.In h ∧ (∀ p ∈ cs, h.get? p.2 = some { cls := .none, data := .fields #[] }) ∧ (∀ p ∈ cs, K.lookup p.2 = none) ∧ (∀ p ∈ cs, PySem.W.CodeHd h p.1 p.2) ∧ (∀ (s : Shared) (u : Value), BindsTo s fd ⟨[u], []⟩ [(x, u)]) ∧
        (∀ (H : Hp) (a : Addr) (ns : List Int), ns.length ≤ n → (∀ p ∈ cs, H p.2 = some (.tbl #[])) → SqL K H a (ns.map V.int) → sp [.ref a] H (fun v _ => v = .bl true) fun _ _ _ => False) ∧
        ∀ base : Heap, K.In base → base.Ns mainGlobals mg → (∀ p ∈ cs, LamX.TabB base mg p.1 p.2) → FnOk l.prog w K mg base (L2.CX l.prog w) k fa fd [x] sp) :
    PySem.W.WalkO q loose XP YP l.row.toRowW d [] (fun f vs => PySem.call f vs) := by
  refine Att.attach_callB hn hdf fun w s₀ s₁ mg mb fa o pm cd doc a vs ns G Y ho hd hcd hmg hobj hints hlen _ hg => ?_
  have ht : ∃ (o : Obj) (fd : FuncData) (c P : Addr), s₁.heap.get? fa = some o ∧ o.data = .func fd ∧ fd.code = .ref c ∧ s₁.heap.IsCode c P #[] ∧ s₁.heap.TableAt c P #[] := by
    obtain ⟨r, hr1, hr2⟩ := List.any_eq_true.mp hrec
    obtain ⟨a2, o2, fd2, c, P, m1, m2, m3, m4, m5, m6⟩ := G.T.tab r hr1
    rw [beq_iff_eq.mp hr2, hmg] at m1
    cases m1
    exact ⟨o2, fd2, c, P, m2, m3, m4, m5, m6⟩
  obtain ⟨K, fd, cs, sp, KX, hT, nT, C, hb, hsp, hF⟩ := F w mg fa _ Y G.T.g hmg ht
  exact LamX.law_callTs KX G.T.g G.T.b G.T.builtins G.T.nolimit hg hT nT C G.T.bmain hobj hints (Nat.le_trans hlen hn2) hr hF hb (fun H hH hS => hsp H a ns hlen hH hS) fun H e s' ⟨_, _, _, _, _, _, _, _, _, _, _, _, q⟩ => q.elim
end G
namespace G
open PySem PySem.Spec PyProof.Rows L2
/-- the clauses, by the numbers of the classes and of the fields -/
def tcl : List TellN := [([2, 3, 5, 8], some 0), ([4], some 2), ([6], some 3), ([7, 12], some 4), ([9, 10, 15], some 5), ([11, 16], some 6), ([13], some 7), ([14], some 8), ([17], none)]
/-- an error's __init__, where it stands, its file, its class -/
structure SupX where
  d : DefX
  file : Str
  C : PySem.W.Frag → Addr
def SupX.ok (K : PySem.W.Frag) (s : SupX) : Bool := s.d.okS s.file s.C K
/-- the table of a global def's code object -/
def tabG (g : Addr → Option Obj) (x : Str) : Addr := match g (He.ga (He.frG g [mainGlobals]) x) with
  | some o => (match o.data with
    | .func fd => (match fd.code with
      | .ref c => (match g c with
        | some oc => (match oc.data with
          | .fields vs => (match (vs[11]? : Option Value) with
            | some (.ref P) => P
            | _ => 0)
          | _ => 0)
        | none => 0)
      | _ => 0)
    | _ => 0)
  | none => 0
abbrev AlY : Type := He.AlD × He.AlD
def obsY (fa : List Fab) (fn : List DefX) (su : List SupX) (K : PySem.W.Frag) : AlY := (obsX fa fn K, (su.all fun s => s.ok K, su.map fun s => fnWS K (s.d.at_ K)))
def valY (fn : List DefX) (su : List SupX) : AlY := (valX fn, (true, su.map fun s => s.d.val))
def SaysY (fa : List Fab) (fn : List DefX) (su : List SupX) (K : PySem.W.Frag) : Prop := obsY fa fn su K = valY fn su
section
variable {fa : List Fab} {fn : List DefX} {su : List SupX} {K : PySem.W.Frag}
theorem SaysY.x (c : SaysY fa fn su K) : SaysX fa fn K := congrArg (fun z : AlY => z.1) c
theorem SaysY.fact (c : SaysY fa fn su K) (i : Nat) {f : Fab} (h : fa[i]? = some f := by rfl) : f K = true := c.x.fact i h
theorem SaysY.def_ (c : SaysY fa fn su K) (i : Nat) {d : DefX} (h : fn[i]? = some d := by rfl) : ∃ fd, FunD K d.name d.qual d.params d.body d.scope [] [] (d.at_ K) fd := c.x.def_ i h
theorem SaysY.sup (c : SaysY fa fn su K) (i : Nat) {s : SupX} (h : su[i]? = some s := by rfl) : fnWS K (s.d.at_ K) = s.d.val ∧ s.d.okS s.file s.C K = true := by
  have e1 : (su.all fun s => s.ok K) = true := congrArg (fun z : AlY => z.2.1) c
  have e2 : (su.map fun s => fnWS K (s.d.at_ K)) = su.map fun s => s.d.val := congrArg (fun z : AlY => z.2.2) c
  have e3 : (su.map fun s => fnWS K (s.d.at_ K))[i]? = (su.map fun s => s.d.val)[i]? := by rw [e2]
  rw [List.getElem?_map, List.getElem?_map, h] at e3
  exact ⟨Option.some.inj e3, List.all_eq_true.mp e1 s (List.mem_of_getElem? h)⟩
end
theorem obs_partsY {α : Type} {e : Option α} {f : List Fab} {fn : List DefX} {su : List SupX} {K : α → PySem.W.Frag} (h1 : e.map (fun s => f.all fun x => x (K s)) = some true) (h2 : e.map (fun s => ((fn.all fun d => d.ok (K s)), fn.map fun d => fnWX (K s) (d.at_ (K s)))) = some (true, fn.map DefX.val))
    (h3 : e.map (fun s => ((su.all fun d => d.ok (K s)), su.map fun d => fnWS (K s) (d.d.at_ (K s)))) = some (true, su.map fun d => d.d.val)) : e.map (fun s => obsY f fn su (K s)) = some (valY fn su) := by
  cases e with
  | none => simp at h1
  | some s =>
    simp only [Option.map_some, Option.some.injEq, Prod.mk.injEq] at h1 h2 h3 ⊢
    unfold obsY valY obsX valX
    rw [h1, h2.1, h2.2, h3.1, h3.2]
    rfl
/-- the places in such an __init__ -/
def supPos (b : List Stmt) : Nat → Pos := match b with
  | [.Expr (.Call (.Attribute (.Call (.Name _ p0) _ _ p1) _ p2) [.Name _ p3] _ p4) p5, .Assign [.Attribute (.Name _ p6) _ p7] (.Name _ p8) p9, .Assign [.Attribute (.Name _ p10) _ p11] (.Constant _ _ p12) p13] => fun i => [p0, p1, p2, p3, p4, p5, p6, p7, p8, p9, p10, p11, p12, p13].getD i p0
  | _ => fun _ => ⟨0, 0, 0, 0⟩
def supJ (b : List Stmt) : Nat := match b with
  | [_, _, .Assign _ (.Constant _ j _) _] => j
  | _ => 0
end G
namespace G
open PySem PySem.Spec PyProof.Rows L2 LamX
section
variable {B : Bd} {X : Cx} {W : WX}
theorem g_glo {x : Str} {i : Int} {pos : Pos} (hg : Gl X x) (hm : ∃ t, X.mg x = some (.int i t)) (hd : (x == ("__debug__" : Str)) = false := by decide +kernel) : PEg B X W (.Name x pos) (wC (.int i)) := by
  obtain ⟨t, e⟩ := hm
  exact g_const (t := tC (.int i)) (pe_glob (v := V.int i) hg e ⟨t, rfl⟩ hd) fun _ => rfl
end
/-- a code object is no set of ints -/
theorem code_set {w : World} {c p : Addr} {q : Str} {S : Int → Bool} {n : Nat} (h : CodeO c q = IntSet w p S n) : False := by
  unfold CodeO IntSet at h
  injection h with h
  let X : Obj := ⟨.none, none, .fields #[.none, .str q 0], #[]⟩
  have e := congrFun h { objs := Array.replicate (c + p + 1) X }
  have at_ : ∀ a, a ≤ c + p → (Heap.get? { objs := Array.replicate (c + p + 1) X } a) = some X := fun a ha => by
    have z : (Array.replicate (c + p + 1) X)[a]? = some X := by rw [Array.getElem?_replicate, if_pos (Nat.lt_succ_of_le ha)]
    show (match (Array.replicate (c + p + 1) X)[a]? with
      | some ⟨_, _, .freed, _⟩ => none
      | o => o) = some X
    rw [z]
  have z : SetR w { objs := Array.replicate (c + p + 1) X } p S n := by
    rw [← e]
    exact ⟨X, #[.none, .str q 0], 0, at_ c (Nat.le_add_right c p), rfl, rfl⟩
  obtain ⟨o, es, ep, t, ho, _, hd, _⟩ := z
  rw [at_ p (Nat.le_add_left p c)] at ho
  cases ho
  cases hd
theorem tabs_ts {T : List (Addr × Str)} {K : PySem.W.Frag} {ca : Nat → Addr} {fn mn : Nat → Str} : TS ⟨K, ca, fn, mn, fun H => LamX.Tabs T H⟩ := fun w H p S S' n n' hT hp q hq => by
  obtain ⟨ps, h1, h2, h3⟩ := hT q hq
  have np : q.1 ≠ p := fun z => by
    rw [z, hp] at h1
    cases h1
  refine ⟨ps, by rw [upd_ne np]; exact h1, h2, fun pos cv hc => ?_⟩
  obtain ⟨c, e1, e2⟩ := h3 pos cv hc
  refine ⟨c, e1, ?_⟩
  have nc : c ≠ p := fun z => by
    rw [z, hp] at e2
    exact code_set (Option.some.inj e2).symm
  rw [upd_ne nc]
  exact e2
end G
namespace G
open PySem PySem.Spec PyProof.Rows L2
/-- a def of the text, where it stands; dvs: the values of the last parameters -/
structure DefAtK (C : Con) (mg : Str → Option Value) (x : Str) (params : Arguments) (body : List Stmt) (scope : Scope) (ps : List Str) (dvs : List V) : Prop where
  ex : ∃ f fd kws ds, FunD C.K x x params body scope [] kws f fd ∧ mg x = some (.ref f) ∧ Vals dvs ds ∧ L2.Binds C.K fd ps ds
/-- a def whose promise is kept, called without its last parameters -/
structure FnpK (P : Program) (w : World) (C : Con) (mg : Str → Option Value) (base : Heap) (x : Str) (n k : Nat) (φ : WF) (dvs : List V) : Prop where
  len : ∀ ds st Q R, φ ds st Q R → ds.length = n
  ex : ∃ f fd ps ds, FnOk P w C.K mg base (L2.CX P w) k f fd ps (spOf C φ n) ∧ ps.length = n ∧ mg x = some (.ref f) ∧ PySem.W.keepIn C.K (.ref f) = true ∧ Vals dvs ds ∧ L2.Binds C.K fd ps ds
theorem FnpK.of {P : Program} {w : World} {C : Con} {mg : Str → Option Value} {base : Heap} {x : Str} {params : Arguments} {body : List Stmt} {scope : Scope} {N ps : List Str} {k : Nat} {wb : WS} {dvs : List V}
    (ck : ConOk C) (D : DefAtK C mg x params body scope ps dvs) (S : FnScope N ps scope)
    (h : ∀ (f : Addr) (cdv : Value) (A : Around) (outer : List Env) (s : Shared) (H : Hp) (E : XK) (g : Gh) (W : WX), Room k (A.deeper (envOfC x scope s.heap.objs.size f cdv)) → J ⟨C, g, H⟩ (cxOf (L2.CX P w) P w C.K mg base N x scope f cdv A outer s H E) W →
      PSsg ⟨C, g, H⟩ (cxOf (L2.CX P w) P w C.K mg base N x scope f cdv A outer s H E) W body wb) : FnpK P w C mg base x ps.length (k + 1) (wfn N.length ps.length wb) dvs := by
  obtain ⟨f, fd, kws, ds, F, hm, hv, hb⟩ := D.ex
  exact ⟨wfn_len, f, fd, ps, ds, fn_ok ck F S (h f), rfl, hm, F.kp, hv, hb⟩
structure FunGK (B : Bd) (X : Cx) (x : Str) (n : Nat) (φ : WF) (dvs : List V) : Prop where
  len : ∀ ds st Q R, φ ds st Q R → ds.length = n
  ex : ∃ k f fd ps ds, Room k X.A ∧ FnOk X.prog X.w X.K X.mg X.base (L2.CX X.prog X.w) k f fd ps (spOf B.C φ n) ∧ ps.length = n ∧ X.mg x = some (.ref f) ∧ PySem.W.keepIn X.K (.ref f) = true ∧ Vals dvs ds ∧ L2.Binds X.K fd ps ds
theorem FnpK.at {B : Bd} {X : Cx} {x : Str} {n k m : Nat} {φ : WF} {dvs : List V} (h : FnpK X.prog X.w B.C X.mg X.base x n k φ dvs) (hK : X.K = B.C.K) (hr : Room m X.A) (hk : k ≤ m := by decide) : FunGK B X x n φ dvs := by
  obtain ⟨f, fd, ps, ds, ok, hn, hm, hk', hv, hb⟩ := h.ex
  exact ⟨h.len, k, f, fd, ps, ds, hr.mono hk, by rw [hK]; exact ok, hn, hm, by rw [hK]; exact hk', hv, by rw [hK]; exact hb⟩
end G
namespace G
open PySem PySem.Spec PyProof.Rows L2
def QVF (B : Bd) (gb : Gh) (Hb : Hp) (env : Envr) (σ : L2.St) (Q : QE) : VK := fun v H' => ∃ D xs ds st' g', v = .ref D ∧ Nx gb Hb g' H' ∧ BOk B g' env st' σ H' ∧ Anon B g' env σ D ∧ H' D = some (.lst xs) ∧ Reps B.C g' ds xs ∧ Q (.lst ds) st'
def tgF (B : Bd) (W : WX) (w : WE) : TE := fun σ H Q => ∃ g env st Qg R, BOk B g env st σ H ∧ RW B W env σ R ∧ w env st Qg R ∧ ∀ v H', QVF B g H env σ Qg v H' → Q v H'
structure PEgF (B : Bd) (X : Cx) (W : WX) (e : Expr) (w : WE) : Prop where
  pe : PE X e (tgF B W w)
section
variable {B : Bd} {X : Cx} {W : WX} {e : Expr} {es : List Expr} {pos : Pos}
theorem PEgF.of {t : TE} {w : WE} (h : PE X e t) (k : ∀ (σ : L2.St) (H : Hp) (g : Gh) (env : Envr) (st : Store) (Q : QE) (R : XQ) (Q' : VK), BOk B g env st σ H → RW B W env σ R → w env st Q R → (∀ v H', QVF B g H env σ Q v H' → Q' v H') → t σ H Q') : PEgF B X W e w :=
  ⟨⟨fun pins s σ H Q I ⟨g, env, st, Qg, R, b, r, hw, hq⟩ => h.run pins s σ H Q I (k σ H g env st Qg R Q b r hw hq)⟩⟩
def QRF (B : Bd) (g : Gh) (Q : QE) : VK := fun v H' => ∃ D xs ds st' g', v = .ref D ∧ g.le g' ∧ GOk B.C g' H' st' ∧ Nx B.g0 B.H0 g' H' ∧ H' D = some (.lst xs) ∧ g'.P D = none ∧ (∀ n, g'.ad n ≠ some D) ∧ B.H0 D = none ∧ Reps B.C g' ds xs ∧ Q (.lst ds) st'
def EndsF (B : Bd) (g : Gh) (D : EW) : Ends := { nx := QN B g D.nx, rt := QRF B g D.rt, bk := QN B g D.bk, ct := QN B g D.ct }
structure PSsgF (B : Bd) (X : Cx) (W : WX) (st : List Stmt) (w : WS) : Prop where
  run : ∀ (pins : List (Addr × Obj)) (s : Shared) (σ : L2.St) (H : Hp) (g : Gh) (env : Envr) (sto : Store) (D : EW), Inv X pins σ H s → BOk B g env sto σ H → RWs B W D.ex → w env sto D →
    wpAny (model X.prog X.w) X.A (execs st X.env) (SP X pins (EndsF B g D)) X.xe s
theorem EndsF.le {g g' : Gh} {D : EW} (l : g.le g') {pins : List (Addr × Obj)} {f : Flow} {s : Shared} (h : SP X pins (EndsF B g' D) f s) : SP X pins (EndsF B g D) f s := by
  cases f with
  | next => obtain ⟨σ', H', I, env', st', g2, l2, b, q⟩ := h; exact ⟨σ', H', I, env', st', g2, l.trans l2, b, q⟩
  | brk => obtain ⟨σ', H', I, env', st', g2, l2, b, q⟩ := h; exact ⟨σ', H', I, env', st', g2, l.trans l2, b, q⟩
  | cont => obtain ⟨σ', H', I, env', st', g2, l2, b, q⟩ := h; exact ⟨σ', H', I, env', st', g2, l.trans l2, b, q⟩
  | ret u =>
    obtain ⟨v, σ', H', I, rv, Dd, xs, ds, st', g2, e, l2, k⟩ := h
    exact ⟨v, σ', H', I, rv, Dd, xs, ds, st', g2, e, l.trans l2, k⟩
end
def SpQF (C : Con) (g : Gh) (H : Hp) (Q : QE) (v : V) (H' : Hp) : Prop := ∃ D xs ds st' g', v = .ref D ∧ g.le g' ∧ GOk C g' H' st' ∧ Nx g H g' H' ∧ H' D = some (.lst xs) ∧ g'.P D = none ∧ (∀ n, g'.ad n ≠ some D) ∧ H D = none ∧ Reps C g' ds xs ∧ Q (.lst ds) st'
def spOfF (C : Con) (φ : WF) (n : Nat) : Sp := fun vs H Q E => vs.length = n ∧ ∃ g ds st Qg R, GOk C g H st ∧ Reps C g ds vs ∧ φ ds st Qg R ∧ (∀ v H', SpQF C g H Qg v H' → Q v H') ∧ (∀ cls dd H', SpR C g H R cls dd H' → E cls dd H')
/-- a body w over m names, the first n parameters; it always returns -/
def wfnF (m n : Nat) (w : WS) : WF := fun ds st Q R => ds.length = n ∧ w (startE m ds) st { nx := fun _ _ => False, rt := Q, bk := fun _ _ => False, ct := fun _ _ => False, ex := fun x _ st' => R x st' }
end G
namespace G
open PySem PySem.Spec PyProof.Rows L2
end G
namespace G
open PySem PySem.Spec PyProof.Rows L2
end G
namespace G
open PySem PySem.Spec PyProof.Rows L2
structure DefAtN (C : Con) (mg : Str → Option Value) (x : Str) (params : Arguments) (body : List Stmt) (scope : Scope) (ps : List Str) (dvs : List V) (n : Nat) (ks : List Str) : Prop where
  ex : ∃ f fd kws ds gg, FunD C.K x x params body scope [] kws f fd ∧ mg x = some (.ref f) ∧ Vals dvs ds ∧ L2.Binds C.K fd ps ds ∧ KBn C.K fd ps n ks gg (fun vs zs => vs ++ zs)
structure FnpN (P : Program) (w : World) (C : Con) (mg : Str → Option Value) (base : Heap) (x : Str) (n k : Nat) (φ : WF) (dvs : List V) (m : Nat) (ks : List Str) : Prop where
  len : ∀ ds st Q R, φ ds st Q R → ds.length = n
  ex : ∃ f fd ps ds gg, FnOk P w C.K mg base (L2.CX P w) k f fd ps (spOf C φ n) ∧ ps.length = n ∧ mg x = some (.ref f) ∧ PySem.W.keepIn C.K (.ref f) = true ∧ Vals dvs ds ∧ L2.Binds C.K fd ps ds ∧ KBn C.K fd ps m ks gg (fun vs zs => vs ++ zs)
structure FnpKF (P : Program) (w : World) (C : Con) (mg : Str → Option Value) (base : Heap) (x : Str) (n k : Nat) (φ : WF) (dvs : List V) : Prop where
  len : ∀ ds st Q R, φ ds st Q R → ds.length = n
  ex : ∃ f fd ps ds, FnOk P w C.K mg base (L2.CX P w) k f fd ps (spOfF C φ n) ∧ ps.length = n ∧ mg x = some (.ref f) ∧ PySem.W.keepIn C.K (.ref f) = true ∧ Vals dvs ds ∧ L2.Binds C.K fd ps ds
theorem wfnF_len {m n : Nat} {w : WS} : ∀ ds st Q R, wfnF m n w ds st Q R → ds.length = n := fun _ _ _ _ h => h.1
section
variable {P : Program} {w : World} {C : Con} {mg : Str → Option Value} {base : Heap} {x qual : Str} {params : Arguments} {body : List Stmt} {scope : Scope} {dvs : List V} {kws : List (Str × V)} {f : Addr} {fd : FuncData} {N ps : List Str} {k m : Nat} {wb : WS} {ks : List Str}
theorem FnpN.of (ck : ConOk C) (D : DefAtN C mg x params body scope ps dvs m ks) (S : FnScope N ps scope)
    (h : ∀ (f : Addr) (cdv : Value) (A : Around) (outer : List Env) (s : Shared) (H : Hp) (E : XK) (g : Gh) (W : WX), Room k (A.deeper (envOfC x scope s.heap.objs.size f cdv)) → J ⟨C, g, H⟩ (cxOf (L2.CX P w) P w C.K mg base N x scope f cdv A outer s H E) W →
      PSsg ⟨C, g, H⟩ (cxOf (L2.CX P w) P w C.K mg base N x scope f cdv A outer s H E) W body wb) : FnpN P w C mg base x ps.length (k + 1) (wfn N.length ps.length wb) dvs m ks := by
  obtain ⟨f, fd, kws, ds, gg, F, hm, hv, hb, hk⟩ := D.ex
  exact ⟨wfn_len, f, fd, ps, ds, gg, fn_ok ck F S (h f), rfl, hm, F.kp, hv, hb, hk⟩
theorem fnF_ok (ck : ConOk C) (F : FunD C.K x qual params body scope [] kws f fd) (S : FnScope N ps scope)
    (h : ∀ (cdv : Value) (A : Around) (outer : List Env) (s : Shared) (H : Hp) (E : XK) (g : Gh) (W : WX), Room k (A.deeper (envOfC qual scope s.heap.objs.size f cdv)) → J ⟨C, g, H⟩ (cxOf (L2.CX P w) P w C.K mg base N qual scope f cdv A outer s H E) W →
      PSsgF ⟨C, g, H⟩ (cxOf (L2.CX P w) P w C.K mg base N qual scope f cdv A outer s H E) W body wb) : FnOk P w C.K mg base (L2.CX P w) (k + 1) f fd ps (spOfF C (wfnF N.length ps.length wb) ps.length) := by
    refine F.ok (CX := L2.CX P w) S (fun vs H Q E h => h.1) fun cdv A outer s H vs Q E hr ⟨hn, g, ds, st, Qg, R, ok, r, hw, hQ, hE⟩ => ?_
    have j : J ⟨C, g, H⟩ (cxOf (L2.CX P w) P w C.K mg base N qual scope f cdv A outer s H E) (fun cls d _ H' => E cls d H') :=
      { ck := ck, hK := rfl, tk := takes_of rfl rfl rfl rfl, po := passes_of rfl, calm := rfl, nd := S.nd, hd := hr.hd, hu := hr.units, hu2 := by have h := hr.un; show (A.deeper _).units + 150 < cLine; omega }
    refine ⟨fun D σ H' => ∃ g0 env st0 D0, BOk ⟨C, g, H⟩ g0 env st0 σ H' ∧ RWs ⟨C, g, H⟩ (fun cls d _ H' => E cls d H') D0.ex ∧ wb env st0 D0 ∧ (∀ σ' H', QN ⟨C, g, H⟩ g0 D0.nx σ' H' → D.nx σ' H') ∧ (∀ v H', QRF ⟨C, g, H⟩ g0 D0.rt v H' → D.rt v H') ∧ (∀ σ' H', QN ⟨C, g, H⟩ g0 D0.bk σ' H' → D.bk σ' H') ∧ (∀ σ' H', QN ⟨C, g, H⟩ g0 D0.ct σ' H' → D.ct σ' H'), ⟨fun pins s' σ H' D I ⟨g0, env, st0, D0, bo, rw, hw, k1, k2, k3, k4⟩ => ?_⟩, ?_⟩
    · exact thn ((h cdv A outer s H E g _ hr j).run pins s' σ H' g0 env st0 D0 I bo rw hw) fun _ _ z => SP.imp z k1 k2 k3 k4
    · refine ⟨g, startE N.length ds, st, _, start_ok ok r, ?_, hw.2, ?_, ?_, ?_, ?_⟩
      · exact fun x g' env' st' σ H' cls d b x' q => hE cls d H' ⟨x, st', g', b.nx.le, b.ok, b.nx, x', q⟩
      · exact fun σ' H' ⟨env', st', g', l, b, q⟩ => q.elim
      · exact fun v H' ⟨Dd, xs, ds', st', g', e, l, ok', nx, hH, np, nc, h0, rv, q⟩ => hQ v H' ⟨Dd, xs, ds', st', g', e, l, ok', nx, hH, np, nc, h0, rv, q⟩
      · exact fun σ' H' ⟨env', st', g', l, b, q⟩ => q.elim
      · exact fun σ' H' ⟨env', st', g', l, b, q⟩ => q.elim
theorem FnpKF.of (ck : ConOk C) (D : DefAtN C mg x params body scope ps dvs m ks) (S : FnScope N ps scope)
    (h : ∀ (f : Addr) (cdv : Value) (A : Around) (outer : List Env) (s : Shared) (H : Hp) (E : XK) (g : Gh) (W : WX), Room k (A.deeper (envOfC x scope s.heap.objs.size f cdv)) → J ⟨C, g, H⟩ (cxOf (L2.CX P w) P w C.K mg base N x scope f cdv A outer s H E) W →
      PSsgF ⟨C, g, H⟩ (cxOf (L2.CX P w) P w C.K mg base N x scope f cdv A outer s H E) W body wb) : FnpKF P w C mg base x ps.length (k + 1) (wfnF N.length ps.length wb) dvs := by
  obtain ⟨f, fd, kws, ds, gg, F, hm, hv, hb, hk⟩ := D.ex
  exact ⟨wfnF_len, f, fd, ps, ds, fnF_ok ck F S (h f), rfl, hm, F.kp, hv, hb⟩
end
structure FunGKF (B : Bd) (X : Cx) (x : Str) (n : Nat) (φ : WF) (dvs : List V) : Prop where
  len : ∀ ds st Q R, φ ds st Q R → ds.length = n
  ex : ∃ k f fd ps ds, Room k X.A ∧ FnOk X.prog X.w X.K X.mg X.base (L2.CX X.prog X.w) k f fd ps (spOfF B.C φ n) ∧ ps.length = n ∧ X.mg x = some (.ref f) ∧ PySem.W.keepIn X.K (.ref f) = true ∧ Vals dvs ds ∧ L2.Binds X.K fd ps ds
theorem FnpKF.at {B : Bd} {X : Cx} {x : Str} {n k m : Nat} {φ : WF} {dvs : List V} (h : FnpKF X.prog X.w B.C X.mg X.base x n k φ dvs) (hK : X.K = B.C.K) (hr : Room m X.A) (hk : k ≤ m := by decide) : FunGKF B X x n φ dvs := by
  obtain ⟨f, fd, ps, ds, ok, hn, hm, hk', hv, hb⟩ := h.ex
  exact ⟨h.len, k, f, fd, ps, ds, hr.mono hk, by rw [hK]; exact ok, hn, hm, by rw [hK]; exact hk', hv, by rw [hK]; exact hb⟩
structure FunGN (B : Bd) (X : Cx) (x : Str) (n : Nat) (φ : WF) (m : Nat) (ks : List Str) : Prop where
  len : ∀ ds st Q R, φ ds st Q R → ds.length = n
  ex : ∃ k f fd ps gg, Room k X.A ∧ FnOk X.prog X.w X.K X.mg X.base (L2.CX X.prog X.w) k f fd ps (spOf B.C φ n) ∧ X.mg x = some (.ref f) ∧ PySem.W.keepIn X.K (.ref f) = true ∧ KBn X.K fd ps m ks gg (fun vs zs => vs ++ zs)
theorem FnpN.at {B : Bd} {X : Cx} {x : Str} {n k m q : Nat} {φ : WF} {dvs : List V} {ks : List Str} (h : FnpN X.prog X.w B.C X.mg X.base x n k φ dvs q ks) (hK : X.K = B.C.K) (hr : Room m X.A) (hk : k ≤ m := by decide) : FunGN B X x n φ q ks := by
  obtain ⟨f, fd, ps, ds, gg, ok, hn, hm, hk', hv, hb, hkb⟩ := h.ex
  exact ⟨h.len, k, f, fd, ps, gg, hr.mono hk, by rw [hK]; exact ok, hm, by rw [hK]; exact hk', by rw [hK]; exact hkb⟩
end G
namespace G
open PySem PySem.Spec PyProof.Rows L2
def nowZ {α : Type} (m : Nat) (f : Nat → α) : α := match m with
  | 0 => f 0
  | k + 1 => f (k + 1)
def putZ : List Addr → Nat → List Addr → (Nat → List Addr → List Addr) → List Addr
  | [], m, acc, k => k m acc
  | a :: as, m, acc, k => match Nat.beq (Nat.land (Nat.shiftRight m a) 1) 1 with
    | true => putZ as m acc k
    | false => nowZ (Nat.lor m (Nat.shiftLeft 1 a)) fun m2 => putZ as m2 (a :: acc) k
def growZ (g : Addr → Option Obj) : Nat → Nat → List Addr → List Addr → List Addr
  | 0, _, _, out => out
  | n + 1, m, fr, out => putZ (fr.flatMap fun a => match g a with
    | some o => He.refsD o
    | none => []) m [] fun m2 new => growZ g n m2 new (out ++ new)
/-- the tables of the defs tb are left out -/
def maskZ (tb : List Str) (g : Addr → Option Obj) : Nat := tb.foldr (fun x m => Nat.lor m (Nat.shiftLeft 1 (tabG g x))) (Nat.shiftLeft 1 mainGlobals)
def asZ (tb : List Str) (g : Addr → Option Obj) (n : Nat) : List Addr := cStatics :: nowZ (maskZ tb g) fun m => growZ g n m [mainGlobals] [mainGlobals]
def obsZG (tb : List Str) (n : Nat) (fa : List Fab) (fn : List DefX) (su : List SupX) (g : Addr → Option Obj) : AlY := obsY fa fn su (He.frG g (asZ tb g n))
def hookZ (tb : List Str) (n : Nat) (fa : List Fab) (fn : List DefX) (su : List SupX) : PySem.W.Hook where
  α := AlY
  obs := fun s => obsZG tb n fa fn su s.heap.get?
  val := fun _ => valY fn su
  says := fun _ h => ∃ K : PySem.W.Frag, K.In h ∧ SaysY fa fn su K
  of := fun _ _ e => ⟨_, He.frG_in, e⟩
  keeps := fun _ _ _ ⟨K, hK, c⟩ k => ⟨K, PySem.W.Frag.In.keeps hK k, c⟩
theorem obsZG_eq {tb : List Str} {n : Nat} {fa : List Fab} {fn : List DefX} {su : List SupX} {g : Addr → Option Obj} {s : Shared} (h : ∀ a, g a = s.heap.get? a) : obsZG tb n fa fn su g = (hookZ tb n fa fn su).obs s := by
  have e : g = s.heap.get? := funext h
  rw [e] <;> rfl
end G
namespace G
open PySem PySem.Spec PyProof.Rows L2
open Builtin Builtin.ObjectAttr
/-- a built-in class of errors that own classes stand on -/
structure BaseX (Bn newId initId : String) (tl : List Value) : Prop where
  F : ExcBaseFacts Bn newId initId tl
  K : PySem.W.KxsFacts Bn initId
  obj : tl.contains (.type "object") = true
  pass : ∀ self, refuseLoop self "__setattr__" tl = pure ()
  ne : tl ≠ []
  qu : ∀ args, (Code.builtin initId args).quiet = true
/-- own classes, then the built-in ones -/
def RefsB (tl l : List Value) : Prop := ∃ rs : List Addr, l = rs.map Value.ref ++ tl
theorem RefsB.cons {tl l : List Value} (h : RefsB tl l) (c : Addr) : RefsB tl (.ref c :: l) := by
  obtain ⟨rs, rfl⟩ := h
  exact ⟨c :: rs, rfl⟩
theorem RefsB.contains {tl l : List Value} (h : RefsB tl l) (X : String) : l.contains (.type X) = tl.contains (.type X) := by
  obtain ⟨rs, rfl⟩ := h
  induction rs with
  | nil => rfl
  | cons c r ih => rw [List.map_cons, List.cons_append, List.contains_cons, ih]; rfl
theorem RefsB.ne {Bn newId initId : String} {tl : List Value} (bx : BaseX Bn newId initId tl) {l : List Value} (h : RefsB tl l) : l.isEmpty = false := by
  obtain ⟨rs, rfl⟩ := h
  cases rs with
  | nil => cases tl with
    | nil => exact absurd rfl bx.ne
    | cons _ _ => rfl
  | cons _ _ => rfl
/-- what the written part says of such a class -/
structure OexB (newId : String) (tl : List Value) (K : PySem.W.Frag) (C : Addr) : Prop where
  cls : ∃ nm q N bs bm sn sub ab col dd k0 k1 k2 k3 k5, K.lookup C = some (excClassObj nm q C N bs bm true sn sub ab col dd k0 k1 k2 k3 k5 newId) ∧ RefsB tl bm
  sa : PySem.W.findIn K (.ref C) "__setattr__" = some (some (.builtin "object.__setattr__"))
  exC : PySem.W.subIn K (.ref C) (.type "BaseException") = some true
  tyC : PySem.W.typeIn K (.ref C) = some (.type "type")
  kC : PySem.W.keepIn K (.ref C) = true
section
variable {Bn newId initId : String} {tl : List Value} {X : Cx} {pins : List (Addr × Obj)} {σ : L2.St} {H : Hp} {s : Shared} {a C dx : Addr} {f : Str} {y : V} {u : Value} {fs : List (Str × V)} {Q : Unit → Shared → Prop} {E : Value → Shared → Prop} {A : Around}
theorem OexB.cd {K : PySem.W.Frag} (T : OexB newId tl K C) : ∃ cd, PySem.W.clsIn K C = some cd ∧ RefsB tl cd.mro ∧ cd.hasDict = true := by
  obtain ⟨nm, q, N, bs, bm, sn, sub, ab, col, dd, k0, k1, k2, k3, k5, hC, hbm⟩ := T.cls
  exact ⟨{ name := nm, bases := bs, mro := .ref C :: bm, ns := N, qualname := q, hasDict := true, slotNames := sn, subclasses := sub, abstract := ab, collection := col, hasDel := false }, by unfold PySem.W.clsIn; rw [hC] <;> rfl, hbm.cons C, rfl⟩
end
end G
namespace G
open PySem PySem.Spec PyProof.Rows L2 NdefX
end G
namespace G
open PySem PySem.Spec PyProof.Rows L2 NdefX
end G
namespace G
open PySem PySem.Spec PyProof.Rows L2 NdefX
end G
namespace LK
open PySem PySem.Spec PyProof.Rows L2 G
abbrev NamesA : List Str := (["given", "tag", "number", "prime", "most", "name", "point", "first", "at", "kept", "whole", "units", "read", "halves", "size", "mirrored", "content", "divided", "text", "columns", "under", "still", "cube", "four", "spread", "rows", "image", "power", "own_turn", "plain"] : List Str) ++ (["of_ring", "turn", "coordinates", "ring", "turned", "steps", "one_in", "basis", "within", "narrowed", "points", "words", "word", "step", "either", "both", "single", "product", "factor", "table", "spots", "done", "past", "future", "held", "busy", "widest", "share", "limit", "change_limit"] : List Str) ++ (["names", "grain", "grains", "marks", "homes", "spread_of", "commands", "history", "set_grain", "check_new", "add_mark", "drop_mark", "execute", "state", "become", "apply", "apply_all", "undo", "redo", "twin", "blank", "tried", "running", "place", "block", "ask", "named", "long"] : List Str)
def top (i : Nat) : Stmt := PySem.Challenge.pw_grainmeet_k44_texts_that_are_no_conditio.main.body.getD i (.Pass ⟨0, 0, 0, 0⟩)
abbrev s__law_take : Stmt := top 28
abbrev N__law_take : List Str := ["_law_feed_here", "_law_many", "_law_cell", "_law_mixed", "_law_found"]
abbrev s__law_pick : Stmt := top 29
abbrev N__law_pick : List Str := ["_law_feed_here", "_law_things"]
abbrev s__law_condition : Stmt := top 31
abbrev N__law_condition : List Str := ["_law_feed_here", "_law_names", "_law_depth_it", "_law_kind", "_law_one"]
abbrev s__law_condition_text : Stmt := top 32
abbrev N__law_condition_text : List Str := ["_law_condition_here", "_law_level", "_law_word", "_law_own", "_law_text"]
abbrev s__law_feed : Stmt := top 27
abbrev N__law_feed : List Str := ["_law_script", "_law_cells", "_law_mark", "_law_cell"]
abbrev s__law_first_fault : Stmt := top 33
abbrev N__law_first_fault : List Str := ["_law_words", "_law_opened", "_law_wanted", "_law_at", "_law_word", "_law_good", "_law_sign"]
abbrev s_Reader___init__ : Stmt := (clsBody (top 24)).getD 0 (.Pass ⟨0, 0, 0, 0⟩)
abbrev N_Reader___init__ : List Str := ["self", "text"]
abbrev s_Reader_word : Stmt := (clsBody (top 24)).getD 1 (.Pass ⟨0, 0, 0, 0⟩)
abbrev N_Reader_word : List Str := ["self"]
abbrev s_Reader_step : Stmt := (clsBody (top 24)).getD 2 (.Pass ⟨0, 0, 0, 0⟩)
abbrev N_Reader_step : List Str := ["self", "word"]
abbrev s_is_name : Stmt := top 21
abbrev N_is_name : List Str := ["text", "sign"]
abbrev s_Reader_singleE : Stmt := (clsBody (top 24)).getD 5 (.Pass ⟨0, 0, 0, 0⟩)
abbrev N_Reader_singleE : List Str := ["self", "at", "word", "found"]
abbrev s_Reader_bothE : Stmt := (clsBody (top 24)).getD 4 (.Pass ⟨0, 0, 0, 0⟩)
abbrev N_Reader_bothE : List Str := ["self", "found"]
abbrev s_Reader_eitherE : Stmt := (clsBody (top 24)).getD 3 (.Pass ⟨0, 0, 0, 0⟩)
abbrev N_Reader_eitherE : List Str := ["self", "found"]
abbrev s_read_conditionE : Stmt := top 25
abbrev N_read_conditionE : List Str := ["text", "reader", "found"]
abbrev s_law : Stmt := top 34
abbrev N_law : List Str := ["_law_script", "_law_feed_here", "_law_odd", "_law_turn", "_law_words", "_law_k", "_law_at", "_law_text", "_law_due", "_law_told", "_law_long", "_law_bad"]
abbrev s_E_ParseError : Stmt := (clsBody (top 15)).getD 0 (.Pass ⟨0, 0, 0, 0⟩)
abbrev s_refd : Stmt := top 30
abbrev clsN : List Str := ["GrainError", "Missing", "InvalidFour", "InvalidNumber", "InvalidRing", "InvalidOrder", "NotApart", "TooFar", "InvalidLimit", "InvalidName", "DuplicateName", "DuplicateMark", "CapacityExceeded", "InvalidCommand", "ParseError", "UnknownName", "UnknownMark", "NothingLeft", "Four", "Turn", "Grain", "Grid", "Reader", "Block", "Trial", "PlainBlock", "Desk"]
abbrev caOf (K : PySem.W.Frag) : Nat → Addr := fun c => He.ga K (clsN.getD c "")
def fns : List DefX := [⟨atG "_law_take", "_law_take", "_law_take", defArgs s__law_take, defBody s__law_take, defScope s__law_take⟩, ⟨atG "_law_pick", "_law_pick", "_law_pick", defArgs s__law_pick, defBody s__law_pick, defScope s__law_pick⟩, ⟨atG "_law_condition", "_law_condition", "_law_condition", defArgs s__law_condition, defBody s__law_condition, defScope s__law_condition⟩, ⟨atG "_law_condition_text", "_law_condition_text", "_law_condition_text", defArgs s__law_condition_text, defBody s__law_condition_text, defScope s__law_condition_text⟩, ⟨atG "_law_feed", "_law_feed", "_law_feed", defArgs s__law_feed, defBody s__law_feed, defScope s__law_feed⟩, ⟨atG "_law_first_fault", "_law_first_fault", "_law_first_fault", defArgs s__law_first_fault, defBody s__law_first_fault, defScope s__law_first_fault⟩, ⟨atM "Reader" "__init__", "__init__", "Reader.__init__", defArgs s_Reader___init__, defBody s_Reader___init__, defScope s_Reader___init__⟩, ⟨atM "Reader" "word", "word", "Reader.word", defArgs s_Reader_word, defBody s_Reader_word, defScope s_Reader_word⟩, ⟨atM "Reader" "step", "step", "Reader.step", defArgs s_Reader_step, defBody s_Reader_step, defScope s_Reader_step⟩, ⟨atG "is_name", "is_name", "is_name", defArgs s_is_name, defBody s_is_name, defScope s_is_name⟩, ⟨atM "Reader" "single", "single", "Reader.single", defArgs s_Reader_singleE, defBody s_Reader_singleE, defScope s_Reader_singleE⟩, ⟨atM "Reader" "both", "both", "Reader.both", defArgs s_Reader_bothE, defBody s_Reader_bothE, defScope s_Reader_bothE⟩, ⟨atM "Reader" "either", "either", "Reader.either", defArgs s_Reader_eitherE, defBody s_Reader_eitherE, defScope s_Reader_eitherE⟩, ⟨atG "read_condition", "read_condition", "read_condition", defArgs s_read_conditionE, defBody s_read_conditionE, defScope s_read_conditionE⟩, ⟨atG "law", "law", "law", defArgs s_law, defBody s_law, defScope s_law⟩, ⟨atG "_law_refused", "_law_refused", "_law_refused", defArgs s_refd, defBody s_refd, defScope s_refd⟩]
def sups : List SupX := [⟨⟨atM "ParseError" "__init__", "__init__", "ParseError.__init__", defArgs s_E_ParseError, defBody s_E_ParseError, defScope s_E_ParseError⟩, "/claim/cut.py", fun K => He.ga K "ParseError"⟩]
def fas0 : List Fab := [faB (.int "MOST_WORDS" 60), faB (.str "LETTERS" "abcdefghijklmnopqrstuvwxyz"), faB (.free "all"), faB (.free "int"), faB (.free "len"), faB (.free "list"), faB (.free "range"), faB (.free "super"), faB (.cls "Reader"), faB (.glo "Reader"), faB (.glo "InvalidFour"), faB (.glo "InvalidNumber")]
def fas1 : List Fab := [faB (.glo "InvalidOrder"), faB (.glo "InvalidLimit"), faB (.glo "InvalidRing"), faB (.glo "NotApart"), faB (.glo "TooFar"), faB (.glo "CapacityExceeded"), faB (.glo "InvalidName"), faB (.glo "DuplicateName"), faB (.glo "UnknownName"), faB (.glo "DuplicateMark"), faB (.glo "UnknownMark"), faB (.glo "InvalidCommand")]
def fas2 : List Fab := [faB (.glo "ParseError"), faB (.glo "NothingLeft"), faB (.noat "Reader" "words"), faB (.noat "Reader" "at"), errB (fun K => He.ga K "ParseError") (atM "ParseError" "__init__") "at" "tag", tellB caOf (nameOf NamesA) 1 tcl, faB (.glo "_law_refused"), faB (.glo "_law_take"), faB (.glo "_law_pick"), faB (.glo "_law_condition"), faB (.glo "_law_condition_text"), faB (.glo "_law_feed")]
def fas3 : List Fab := [faB (.glo "_law_first_fault"), faB (.glo "is_name"), faB (.glo "read_condition"), faB (.glo "law"), lawTabB "law", faB (.mkr "Reader"), faB (.meth "Reader" "word"), sfB "Reader", faB (.meth "Reader" "step"), faB (.meth "Reader" "single"), faB (.meth "Reader" "both"), faB (.meth "Reader" "either")]
def fas : List Fab := (fas0 ++ (fas1 ++ (fas2 ++ fas3)))
abbrev R : PySem.W.OpenRow := PySem.W.OpenLaw.row PySem.Challenge.rw_grainmeet_k44_texts_that_are_no_conditio
abbrev hk : PySem.W.Hook := hookZ ["law"] 5 fas fns sups
def ob (s : PySem.W.SharedT) : AlY := obsZG ["law"] 5 fas fns sups (HandSHeadRun.getT s)
theorem ob_eq (s : PySem.W.SharedT) : ob s = hk.obs s.abs := obsZG_eq (HandSHeadRun.getT_eq s)
abbrev loose : List Str := (["GrainError", "Missing", "InvalidFour", "InvalidNumber", "InvalidRing", "InvalidOrder", "NotApart", "TooFar", "InvalidLimit", "InvalidName", "DuplicateName", "DuplicateMark", "CapacityExceeded", "InvalidCommand", "ParseError", "UnknownName", "UnknownMark", "NothingLeft", "LETTERS", "is_name", "MOST_WORDS", "Reader", "read_condition", "_law_feed", "_law_take", "_law_pick", "_law_refused", "_law_condition", "_law_condition_text", "_law_first_fault"] : List Str)
noncomputable abbrev endT (w : World) (os : OsState) := HandSHeadRun.endF (HandSHeadRun.stepQ (HandSHeadRun.denQ HandSHeadRun.tabQ) R.prog w) 12000 R.prog w os
abbrev knT (s : PySem.W.SharedT) : PySem.W.Frag := He.frG (HandSHeadRun.getT s) (asZ ["law"] (HandSHeadRun.getT s) 5)
theorem two_maps {α β γ : Type} {e : Option α} {f : α → β} {g : α → γ} {a : β} {b : γ} (h1 : e.map f = some a) (h2 : e.map g = some b) : e.map (fun s => (f s, g s)) = some (a, b) := by cases e with | none => simp at h1 | some s => simp at h1 h2 ⊢; exact ⟨h1, h2⟩
theorem three_maps {α β γ δ : Type} {e : Option α} {f : α → β} {g : α → γ} {h : α → δ} {a : β} {b : γ} {c : δ} (h1 : e.map (fun s => (f s, g s)) = some (a, b)) (h2 : e.map h = some c) : e.map (fun s => (f s, g s, h s)) = some (a, b, c) := by cases e with | none => simp at h1 | some s => simp at h1 h2 ⊢; exact ⟨h1.1, h1.2, h2⟩
theorem all_parts {α : Type} {e : Option α} {f g : List Fab} {K : α → PySem.W.Frag} (h1 : e.map (fun s => f.all fun x => x (K s)) = some true) (h2 : e.map (fun s => g.all fun x => x (K s)) = some true) : e.map (fun s => (f ++ g).all fun x => x (K s)) = some true := by cases e with | none => simp at h1 | some s => simp only [Option.map_some, Option.some.injEq, List.all_append] at h1 h2 ⊢; rw [h1, h2]; rfl
theorem run_l (w : World) (os : OsState) : (endT w os).map (fun s => (HandSHeadRun.looksF R.prog (PySem.W.boot_heap w.params) s.abs, HandSHeadRun.seenQ (PySem.W.view R.prog [34]) loose (importedModules R.prog.main.body) (fun s => PySem.W.xlAt (PySem.W.view R.prog [34]) [] s && PySem.W.recOk R.toRowW.records s) s.abs)) = some (true, PySem.W.openGood (PySem.W.view R.prog [34]) loose) := by kernel_rfl
theorem run_f0 (w : World) (os : OsState) : (endT w os).map (fun s => fas0.all fun x => x (knT s)) = some true := by kernel_rfl
theorem run_f1 (w : World) (os : OsState) : (endT w os).map (fun s => fas1.all fun x => x (knT s)) = some true := by kernel_rfl
theorem run_f2 (w : World) (os : OsState) : (endT w os).map (fun s => fas2.all fun x => x (knT s)) = some true := by kernel_rfl
theorem run_f3 (w : World) (os : OsState) : (endT w os).map (fun s => fas3.all fun x => x (knT s)) = some true := by kernel_rfl
theorem run_k (w : World) (os : OsState) : (endT w os).map (fun s => fns.all fun d => d.ok (knT s)) = some true := by kernel_rfl
theorem run_v (w : World) (os : OsState) : (endT w os).map (fun s => fns.map fun d => fnWX (knT s) (d.at_ (knT s))) = some (fns.map DefX.val) := by kernel_rfl
theorem run_sk (w : World) (os : OsState) : (endT w os).map (fun s => sups.all fun d => d.ok (knT s)) = some true := by kernel_rfl
theorem run_sv (w : World) (os : OsState) : (endT w os).map (fun s => sups.map fun d => fnWS (knT s) (d.d.at_ (knT s))) = some (sups.map fun d => d.d.val) := by kernel_rfl
theorem run (w : World) : HandSHeadRun.RunEq R (PySem.W.view R.prog [34]) hk ob 12000 loose w := fun os => three_maps (run_l w os) (obs_partsY (all_parts (run_f0 w os) (all_parts (run_f1 w os) (all_parts (run_f2 w os) (run_f3 w os)))) (two_maps (run_k w os) (run_v w os)) (two_maps (run_sk w os) (run_sv w os)))
end LK
namespace LamX
open PySem PySem.Spec PyProof.Rows L2
/-- an object known whole -/
def RawO (a : Addr) (o : Obj) : HO := .ext fun h => h.get? a = some o
theorem rawO_ne {a : Addr} {o : Obj} (ps : Array Value) : RawO a o ≠ .tbl ps := fun z => by
  unfold RawO at z
  cases z
/-- a lambda's names: captured ones, globals, parameters that the maker doesn't know -/
structure LamSD (N : List Str) (sc scope : Scope) : Prop where
  kind : scope.kind = .function
  co : scope.isCoroutine = false
  gen : scope.isGenerator = false
  own : ∀ y ∈ scope.names, y.2 ≠ .cell
  loc : ∀ y ∈ scope.names, y.2 = .local → y.1 ∉ N
  free : ∀ y ∈ scope.names, y.2 = .free → sc.names.lookup y.1 = some .cell ∨ sc.names.lookup y.1 = some .free
theorem LamSD.has {X : Cx} {scope : Scope} (L : LamSD X.N X.env.scope scope) (ok : X.Ok) : ∀ y ∈ scope.names, y.2 = .free → ∃ c, X.env.cells.lookup y.1 = some c := fun y hy e => by
  rcases L.free y hy e with k | k
  · exact ok.has _ (.inl k)
  · exact ok.has _ (.inr k)
abbrev lamObj (X : Cx) (params : Arguments) (body : Expr) (scope : Scope) (dV doc pm : Value) (c' : Addr) (ctv : Value) : Obj := PySem.W.kdv_obj "<lambda>" (X.env.qual ++ "<lambda>") params (.expr body) scope (cloFrom X.env.cells scope.names []) dV doc pm c' ctv
def DflAt (H : Hp) (dV : Value) : Option Str → Prop
  | none => dV = .none
  | some _ => ∃ t u, dV = .ref t ∧ H t = some (RawO t (PySem.W.kdv_tup [u]))
/-- a lambda of the maker X lies at f, its code object at c' -/
structure LamAt (X : Cx) (params : Arguments) (body : Expr) (scope : Scope) (par : Option Str) (f c' : Addr) (H : Hp) : Prop where
  co : H c' = some (CodeO c' (X.env.qual ++ "<lambda>"))
  ex : ∃ dV doc pm ctv, H f = some (RawO f (lamObj X params body scope dV doc pm c' ctv)) ∧ DflAt H dV par
theorem LamAt.ext {X : Cx} {params : Arguments} {body : Expr} {scope : Scope} {par : Option Str} {f c' : Addr} {H H1 : Hp} (l : LamAt X params body scope par f c' H) (e : ExtN H H1) : LamAt X params body scope par f c' H1 := by
  obtain ⟨co, dV, doc, pm, ctv, hf, hd⟩ := l
  refine ⟨e _ _ co codeO_ne, dV, doc, pm, ctv, e _ _ hf rawO_ne, ?_⟩
  cases par with
  | none => exact hd
  | some x =>
    obtain ⟨t, u, e1, e2⟩ := hd
    exact ⟨t, u, e1, e _ _ e2 rawO_ne⟩
end LamX
namespace LamX
open PySem PySem.Spec PyProof.Rows L2
end LamX
namespace LamX
open PySem PySem.Spec PyProof.Rows L2
end LamX
namespace G
open PySem PySem.Spec PyProof.Rows L2 LamX
/-- a lambda of the list: its parameter with a default, what its body gives -/
structure LamI where
  params : Arguments
  body : Expr
  scope : Scope
  par : Option Str
  pos : Pos
  we : WE
def LamAts (X : Cx) : List LamI → List (Addr × Addr) → Hp → Prop
  | [], fs, _ => fs = []
  | l :: ls, fs, H => ∃ f c' r, fs = (f, c') :: r ∧ LamAt X l.params l.body l.scope l.par f c' H ∧ LamAts X ls r H
theorem LamAts.len {X : Cx} {H : Hp} : ∀ {ls : List LamI} {fs : List (Addr × Addr)}, LamAts X ls fs H → fs.length = ls.length
  | [], _, h => by
    have h : _ = _ := h
    rw [h]; rfl
  | _ :: _, _, ⟨_, _, _, e, _, h⟩ => by rw [e, List.length_cons, List.length_cons, LamAts.len h]
theorem LamAts.at {X : Cx} {H : Hp} : ∀ {ls : List LamI} {fs : List (Addr × Addr)} {n : Nat} {p : Addr × Addr}, LamAts X ls fs H → fs[n]? = some p → ∃ l, ls[n]? = some l ∧ LamAt X l.params l.body l.scope l.par p.1 p.2 H
  | [], _, _, _, h, q => by
    have h : _ = _ := h
    rw [h] at q
    simp at q
  | l :: ls, _, 0, p, ⟨f, c', r, e, la, h⟩, q => by
    rw [e] at q
    obtain rfl : (f, c') = p := by simpa using q
    exact ⟨l, rfl, la⟩
  | l :: ls, _, n + 1, p, ⟨f, c', r, e, la, h⟩, q => by
    rw [e] at q
    exact LamAts.at (ls := ls) (fs := r) (n := n) h (by simpa using q)
theorem LamAts.ext {X : Cx} {H H1 : Hp} : ∀ {ls : List LamI} {fs : List (Addr × Addr)}, LamAts X ls fs H → ExtN H H1 → LamAts X ls fs H1
  | [], _, h, _ => h
  | _ :: _, _, ⟨f, c', r, e, la, h⟩, x => ⟨f, c', r, e, la.ext x, LamAts.ext h x⟩
theorem lamAt_keep {X : Cx} {params : Arguments} {body : Expr} {scope : Scope} {par : Option Str} {f c' : Addr} {H H1 : Hp} (l : LamAt X params body scope par f c' H) (k : ∀ a φ, H a = some (.ext φ) → H1 a = some (.ext φ)) : LamAt X params body scope par f c' H1 := by
  obtain ⟨co, dV, doc, pm, ctv, hf, hd⟩ := l
  refine ⟨k _ _ co, dV, doc, pm, ctv, k _ _ hf, ?_⟩
  cases par with
  | none => exact hd
  | some x =>
    obtain ⟨t, u, e1, e2⟩ := hd
    exact ⟨t, u, e1, k _ _ e2⟩
def wRunL (tn : Nat) (cl : List TellN) : List WE → Envr → List D → Store → (List D → Store → Prop) → Prop
  | [], _, acc, st, Q => Q acc st
  | we :: wes, env, acc, st, Q => wRef tn cl we env st (fun d st1 => acc.length < sizeLine ∧ wRunL tn cl wes env (acc ++ [d]) st1 Q) noX
end G
namespace G
open PySem PySem.Spec PyProof.Rows L2 LamX
end G
namespace G
open PySem PySem.Spec PyProof.Rows L2 LamX
end G
namespace G
end G
namespace G
open PySem PySem.Spec PyProof.Rows L2
section
variable {B : Bd} {X : Cx} {W : WX} {a b c e o : Expr} {es : List Expr} {wa wb wc : WE} {ta : WA} {pos apos : Pos} {M : MT}
def oFmt : O1 := fun d st Q R => match d with
  | .str y => y.length ≤ sizeLine ∧ Q (.str y) st
  | .int i => i.natAbs.log2 < 1920 ∧ Q (.str (toString i)) st
  | _ => False
/-- the texts one behind the other -/
def wJs : List WE → Str → WE
  | [], acc => fun _ st Q _ => Q (.str acc) st
  | w :: ws, acc => fun env st Q R => w env st (fun d st1 => match d with
    | .str y => (acc ++ y).length ≤ sizeLine ∧ wJs ws (acc ++ y) env st1 Q R
    | _ => False) R
theorem strs_rep {C : Con} {g : Gh} : ∀ {ds : List D} {vs : List V} {bs : List Str}, Reps C g ds vs → D.strs ds = some bs → vs = bs.map V.str
  | [], vs, bs, r, h => by unfold Reps at r; subst r; simp [D.strs] at h; subst h; rfl
  | d :: ds, vs, bs, r, h => by
    unfold Reps at r
    obtain ⟨v, q, rfl, a, b⟩ := r
    cases d with
    | str k =>
      simp only [D.strs, Option.map_eq_some_iff] at h
      obtain ⟨cs, h1, rfl⟩ := h
      rw [a.strV, strs_rep b h1]
      rfl
    | _ => simp [D.strs] at h
def joinOk (x : Str) (ys : List Str) : Prop := (ys.map (·.length)).sum + ys.length * x.length ≤ 16777216
def oJoin (x : Str) : O1 := fun d2 st Q R => match d2 with
  | .lst ds => (match D.strs ds with | some ys => joinOk x ys ∧ Q (.str (Txt.join x ys)) st | none => False)
  | .tup ds => (match D.strs ds with | some ys => joinOk x ys ∧ Q (.str (Txt.join x ys)) st | none => False)
  | _ => False
/-- a text's method of one argument: wo the text -/
def wTx (o : Str → O1) (wa wb : WE) : WE := fun env st Q R => wa env st (fun d st1 => match d with
  | .str x => wb env st1 (fun d2 st2 => o x d2 st2 Q R) R
  | _ => False) R
theorem g_join (j : J B X W) (ho : PBg B X W o wa) (he : PBg B X W e wb) (hs : starEach [e] X.env = [(false, eval e X.env)] := by rfl) (hbase : attributeBase o "join" X.env (eval o X.env) = eval o X.env := by rfl) (hline : (apos.endLine == pos.line) = true := by rfl) :
    PEg B X W (.Call (.Attribute o "join" apos) [e] [] pos) (wTx oJoin wa wb) := by
  refine PEg.of (pe_join ho.pe he.pe hs hbase hline) fun σ H g env st Q R bo rw hw => ?_
  refine ⟨g, env, st, _, R, bo, rw, hw, fun x H1 ⟨d1, st1, g1, l1, b1, r1, h1⟩ => ?_⟩
  cases d1 with
  | str a =>
    have e1 := r1.strV
    subst e1
    refine ⟨⟨a, rfl⟩, g1, env, st1, _, R, b1, rw, h1, fun y H2 ⟨d2, st2, g2, l2, b2, r2, h2⟩ => ?_⟩
    have h2 : oJoin a d2 st2 Q R := h2
    unfold oJoin at h2
    split at h2
    · split at h2
      · rename_i ys hb
        obtain ⟨p, vs, rfl, hx, rr⟩ := r2.lstV b2
        exact ⟨a, p, ys, rfl, rfl, .inl (by rw [← strs_rep rr hb]; exact SqL.of hx), h2.1, QV.same (l1.trans l2) b2 rep_str h2.2⟩
      · exact h2.elim
    · split at h2
      · rename_i ys hb
        obtain ⟨p, vs, rfl, hx, rr⟩ := r2.tupV b2
        exact ⟨a, p, ys, rfl, rfl, .inr (by rw [j.hK, ← strs_rep rr hb]; exact hx.t), h2.1, QV.same (l1.trans l2) b2 rep_str h2.2⟩
      · exact h2.elim
    · exact h2.elim
  | _ => exact h1.elim
def oStr : ON := fun ds st Q R => match ds with
  | [.int i] => i.natAbs.log2 < 1920 ∧ Q (.str (toString i)) st
  | [.str y] => Q (.str y) st
  | _ => False
def oRepr (M : MT) : O1 := fun d st Q R => match d with
  | .ob c fs => callM M c .repr [.ob c fs] st (fun r st1 => match r with | .str y => Q (.str y) st1 | _ => False) R
  | _ => False
def oBoolc (M : MT) : O1 := fun d st Q R => match d with
  | .ob c fs => callM M c .bool [.ob c fs] st (fun r st1 => match r with | .bl y => Q (.bl y) st1 | _ => False) R
  | _ => False
end
end G
namespace G
open PySem PySem.Spec PyProof.Rows L2
section
variable {B : Bd} {X : Cx} {W : WX} {a b c e o : Expr} {es : List Expr} {wa wb wc : WE} {ta : WA} {pos apos : Pos} {M : MT}
def ownEqX (T : Nat → Nat → Option WF) (c i : Nat) (fs : List (Nat × D)) (d : D) (st : Store) (Q : QE) (R : XQ) : Prop := match T c i with
  | some φ => φ [.ob c fs, d] st (fun r st1 => match r with | .bl b => Q (.bl b) st1 | _ => False) R
  | none => False
def oEqX (T : Nat → Nat → Option WF) : O2 := fun d1 d2 st Q R => match d1, d2 with
  | .ob c fs, .ob c' gs => ownEqX T c (c' + 2) fs (.ob c' gs) st Q R
  | .ob c fs, .tup xs => ownEqX T c 0 fs (.tup xs) st Q R
  | .ob c fs, .int i => ownEqX T c 1 fs (.int i) st Q R
  | d1, d2 => oEqD d1 d2 st Q R
theorem g_gloS {x z : Str} (hg : Gl X x) (hm : ∃ t, X.mg x = some (.str z t)) (hd : (x == ("__debug__" : Str)) = false := by decide +kernel) : PEg B X W (.Name x pos) (wC (.str z)) := by
  obtain ⟨t, e⟩ := hm
  exact g_const (t := tC (.str z)) (pe_glob (v := V.str z) hg e ⟨t, rfl⟩ hd) fun _ => rep_str
end
end G
namespace G
open PySem PySem.Spec PyProof.Rows L2 LamX
theorem LamAts.keep {X : Cx} {H H1 : Hp} (k : ∀ a φ, H a = some (.ext φ) → H1 a = some (.ext φ)) : ∀ {ls : List LamI} {fs : List (Addr × Addr)}, LamAts X ls fs H → LamAts X ls fs H1
  | [], _, h => h
  | _ :: _, _, ⟨f, c', r, e, la, h⟩ => ⟨f, c', r, e, lamAt_keep la k, LamAts.keep k h⟩
def wAsksD (tn : Nat) (cl : List TellN) (i kd : Nat) (wes : List WE) (wd wr : WE) (wth : WS) : WS := fun env st D => wd (env.set i .no) st (fun d st0 => wRunL tn cl wes ((env.set i .no).set kd (.val d)) [] st0 fun ds st1 =>
  wr ((env.set i .no).set kd (.val d)) st1 (fun r st2 => oNeD (.lst ds) r st2 (fun z st3 => match z with | .bl b => if b = true then wth ((env.set i .no).set kd (.val d)) st3 D else D.nx ((env.set i .no).set kd (.val d)) st3 | _ => False) (xe D ((env.set i .no).set kd (.val d)))) (xe D ((env.set i .no).set kd (.val d)))) (xe D (env.set i .no))
end G
namespace G
open PySem PySem.Spec PyProof.Rows L2
abbrev rk (r : List Int) : List Key := r.map Sum.inl
theorem rk_inj {r s : List Int} (h : rk r = rk s) : r = s := (List.map_inj_right fun a b e => by cases e; rfl).mp h
/-- in its place, or at the end -/
def dputR (acc : List (List Int × D)) (r : List Int) (d : D) : List (List Int × D) :=
  if (acc.any fun p => decide (p.1 = r)) = true then acc.map (fun p => if p.1 = r then (p.1, d) else p) else acc ++ [(r, d)]
def dgetR (acc : List (List Int × D)) (r : List Int) : Option D := (acc.find? fun p => decide (p.1 = r)).map (·.2)
def RepR (C : Con) (g : Gh) : List (List Int × D) → List (List Key × V) → Prop
  | [], vs => vs = []
  | (r, d) :: ds, vs => ∃ v q, vs = (rk r, v) :: q ∧ Rep C g d v ∧ RepR C g ds q
section
variable {C : Con} {g g' : Gh}
theorem RepR.mono (l : g.le g') : ∀ {acc : List (List Int × D)} {xs : List (List Key × V)}, RepR C g acc xs → RepR C g' acc xs
  | [], _, h => h
  | (r, d) :: ds, _, ⟨v, q, e, a, b⟩ => ⟨v, q, e, a.mono l, RepR.mono l b⟩
theorem RepR.len : ∀ {acc : List (List Int × D)} {xs : List (List Key × V)}, RepR C g acc xs → acc.length = xs.length
  | [], _, h => by
    have h : _ = _ := h
    rw [h]; rfl
  | (r, d) :: ds, _, ⟨v, q, e, a, b⟩ => by rw [e, List.length_cons, List.length_cons, RepR.len b]
theorem RepR.append : ∀ {acc ac2 : List (List Int × D)} {xs ys : List (List Key × V)}, RepR C g acc xs → RepR C g ac2 ys → RepR C g (acc ++ ac2) (xs ++ ys)
  | [], _, _, _, h, k => by
    have h : _ = _ := h
    rw [h]; exact k
  | (r, d) :: ds, _, _, _, ⟨v, q, e, a, b⟩, k => by rw [e]; exact ⟨v, _, rfl, a, RepR.append b k⟩
theorem RepR.any {r : List Int} : ∀ {acc : List (List Int × D)} {xs : List (List Key × V)}, RepR C g acc xs → (xs.any fun kv => decide (kv.1 = rk r)) = acc.any fun p => decide (p.1 = r)
  | [], _, h => by
    have h : _ = _ := h
    rw [h]; rfl
  | (s, d) :: ds, _, ⟨v, q, e, a, b⟩ => by
    rw [e, List.any_cons, List.any_cons, RepR.any b]
    congr 1
    rw [decide_eq_decide]
    exact ⟨rk_inj, fun h => by have h : s = r := h; rw [h]⟩
theorem RepR.repl {r : List Int} {d : D} {v : V} (rv : Rep C g d v) : ∀ {acc : List (List Int × D)} {xs : List (List Key × V)}, RepR C g acc xs → RepR C g (acc.map fun p => if p.1 = r then (p.1, d) else p) (xs.map fun kv => if kv.1 = rk r then (kv.1, v) else kv)
  | [], _, h => by
    have h : _ = _ := h
    rw [h]; rfl
  | (s, e) :: ds, _, ⟨w, q, e1, a, b⟩ => by
    rw [e1, List.map_cons, List.map_cons]
    by_cases h : s = r
    · rw [if_pos h, if_pos (by rw [h])]
      exact ⟨v, _, rfl, rv, RepR.repl rv b⟩
    · rw [if_neg h, if_neg fun z => h (rk_inj z)]
      exact ⟨w, _, rfl, a, RepR.repl rv b⟩
theorem RepR.put {r : List Int} {d : D} {v : V} {acc : List (List Int × D)} {xs : List (List Key × V)} (h : RepR C g acc xs) (rv : Rep C g d v) : RepR C g (dputR acc r d) (putK xs (rk r) v) := by
  unfold dputR putK
  rw [h.any (r := r)]
  split
  · exact RepR.repl rv h
  · exact h.append ⟨v, [], rfl, rv, rfl⟩
theorem RepR.val {r : List Int} : ∀ {acc : List (List Int × D)} {xs : List (List Key × V)} {d : D}, RepR C g acc xs → dgetR acc r = some d → ∃ v, valV xs (rk r) = some v ∧ Rep C g d v
  | [], _, _, _, h => by cases h
  | (s, e) :: ds, _, d, ⟨v, q, e1, a, b⟩, h => by
    rw [e1]
    unfold dgetR at h
    rw [List.find?_cons] at h
    by_cases hs : s = r
    · rw [decide_eq_true hs] at h
      cases h
      exact ⟨v, valV_pos (by rw [hs]), a⟩
    · rw [decide_eq_false hs] at h
      obtain ⟨w, h1, h2⟩ := RepR.val b h
      exact ⟨w, by rw [valV_neg fun z => hs (rk_inj z)]; exact h1, h2⟩
end
end G
namespace G
open PySem PySem.Spec PyProof.Rows L2
end G
namespace G
open PySem PySem.Spec PyProof.Rows L2
theorem reps_strs {C : Con} {g : Gh} : ∀ ys : List Str, Reps C g (ys.map D.str) (ys.map V.str)
  | [] => by
    show Reps C g [] []
    unfold Reps; rfl
  | y :: ys => by
    show Reps C g (D.str y :: ys.map D.str) (V.str y :: ys.map V.str)
    unfold Reps
    exact ⟨_, _, rfl, rep_str, reps_strs ys⟩
def oneS (d : D) (P : Str → Prop) : Prop := match d with | .str x => P x | _ => False
theorem oneS_of {d : D} {P : Str → Prop} (h : oneS d P) : ∃ x, d = .str x ∧ P x := by
  cases d with
  | str x => exact ⟨x, rfl, h⟩
  | _ => exact h.elim
/-- x.m() : yes or no -/
def wSq (f : Str → Bool) (wa : WE) : WE := fun env st Q R => wa env st (fun d st1 => oneS d fun x => Q (.bl (f x)) st1) R
/-- x.m(y) : yes or no -/
def wSq1 (f : Str → Str → Bool) (wa wb : WE) : WE := fun env st Q R => wa env st (fun d st1 => oneS d fun x => wb env st1 (fun d2 st2 => oneS d2 fun y => Q (.bl (f x y)) st2) R) R
/-- x.m(y) : a text -/
def wSt1 (f : Str → Str → Str) (wa wb : WE) : WE := fun env st Q R => wa env st (fun d st1 => oneS d fun x => wb env st1 (fun d2 st2 => oneS d2 fun y => x.length ≤ sizeLine ∧ Q (.str (f x y)) st2) R) R
/-- x.split(y) -/
def wSpl (wa wb : WE) : WE := fun env st Q R => wa env st (fun d st1 => oneS d fun x => wb env st1 (fun d2 st2 => oneS d2 fun y => (y.length == 0) = false ∧ x.length + 2 ≤ sizeLine ∧ Q (.lst ((Txt.split x y).map D.str)) st2) R) R
/-- x.replace("y", "z") -/
def wRpl (y z : Str) (wa : WE) : WE := fun env st Q R => wa env st (fun d st1 => oneS d fun x => x.length + (x.length + 1) * z.length ≤ 16777216 ∧ Q (.str (Txt.replace x y z)) st1) R
section
variable {B : Bd} {X : Cx} {W : WX} {o e : Expr} {wa wb : WE} {pos apos : Pos}
theorem g_split (j : J B X W) (ho : PBg B X W o wa) (he : PBg B X W e wb) (hs : starEach [e] X.env = [(false, eval e X.env)] := by rfl) (hbase : attributeBase o "split" X.env (eval o X.env) = eval o X.env := by rfl) (hline : (apos.endLine == pos.line) = true := by rfl) :
    PEg B X W (.Call (.Attribute o "split" apos) [e] [] pos) (wSpl wa wb) := by
  refine PEg.of (pe_split ho.pe he.pe hs hbase hline) fun σ H g env st Q R bo rw hw => ?_
  refine ⟨g, env, st, _, R, bo, rw, hw, ?_⟩
  rintro x H1 ⟨d, st1, g1, l1, b1, r1, h1⟩
  obtain ⟨a, rfl, q⟩ := oneS_of h1
  have e1 := r1.strV
  subst e1
  refine ⟨⟨a, rfl⟩, g1, env, st1, _, R, b1, rw, q, ?_⟩
  rintro y H2 ⟨d2, st2, g2, l2, b2, r2, h2⟩
  obtain ⟨b, rfl, z1, z2, q⟩ := oneS_of h2
  have e2 := r2.strV
  subst e2
  exact ⟨a, b, rfl, rfl, z1, z2, fun p hp => QV.lst j.ck (l1.trans l2) b2 (reps_strs _) q hp⟩
def oIntT : ON := fun ds st Q R => match ds with
  | [.str a] => ∃ n, PySem.intText? a = some n ∧ a.length ≤ 640 ∧ Q (.int n) st
  | _ => False
end
end G
namespace G
open PySem PySem.Spec PyProof.Rows L2
end G
namespace G
open PySem PySem.Spec PyProof.Rows L2
section
variable {B : Bd} {X : Cx} {W : WX} {a b e : Expr} {wa wb wk : WE} {ta : WA} {pos : Pos}
def wSlS (wa : WE) (wl wh : WO) : WE := fun env st Q R => wa env st (fun d st1 => wl env st1 (fun l st2 => wh env st2 (fun h st3 => oneS d fun z => z.length ≤ sizeLine ∧ Q (.str (cutS z l h)) st3) R) R) R
def enumD (k : Nat) : List D → List D
  | [] => []
  | d :: ds => .tup [.int (k : Nat), d] :: enumD (k + 1) ds
def wiEnum (ta : WA) : WI := fun env st Q R => ta env st (fun ds st1 => match ds with | [.lst xs] => Q (enumD 0 xs) st1 | _ => False) R
def wAugAt (i : Nat) (wk wa : WE) : WS := fun env st D => match env[i]? with
  | some (Slot.own ds) => wk env st (fun k st1 => ∃ (n : Nat) (x : Int), k = .int n ∧ ds[n]? = some (.int x) ∧ n < 1000000 ∧ wa env st1 (fun d st2 => ∃ y : Int, d = .int y ∧ D.nx (env.set i (.own (ds.set n (.int (x + y))))) st2) (xe D env)) (xe D env)
  | _ => False
end
end G
namespace G
open PySem PySem.Spec PyProof.Rows L2
structure ClsmK (K : PySem.W.Frag) (C : Addr) (m : Str) (f : Addr) : Prop where
  rd : ClX.CRead K C (.type "type")
  at_ : ∃ p, ClX.CMet K C (.type "type") m p f
structure ClsmG (B : Bd) (X : Cx) (x m : Str) (c : Nat) (φ : WF) : Prop where
  ex : ∃ k f, Room k X.A ∧ FnA X B.C k f φ ∧ ClsmK X.K (B.C.ca c) m f
  mg : X.mg x = some (.ref (B.C.ca c))
structure ClsmR (P : Program) (w : World) (C : Con) (mg : Str → Option Value) (base : Heap) (x m : Str) (c : Nat) (k : Nat) (φ : WF) : Prop where
  ex : ∃ f, Fna P w C mg base k f φ ∧ ClsmK C.K (C.ca c) m f
  mg : mg x = some (.ref (C.ca c))
section
variable {B : Bd} {X : Cx} {W : WX} {e : Expr} {es : List Expr} {wa : WE} {ta : WA} {pos apos p : Pos} {x y m : Str} {c k n : Nat} {φ : WF}
theorem ClsmR.at (h : ClsmR X.prog X.w B.C X.mg X.base x y c k φ) (hK : X.K = B.C.K) (hr : Room n X.A) (hk : k ≤ n := by decide) : ClsmG B X x y c φ := by
  have ⟨f, F, ck⟩ := h.ex
  refine ⟨⟨k, f, hr.mono hk, ?_, hK ▸ ck⟩, h.mg⟩
  unfold FnA
  rw [hK]
  exact F
/-- x.m(e, ..), x a class, m a method of the class: the class is the first argument -/
def wCallC (c : Nat) (φ : WF) (ta : WA) : WE := fun env st Q R => ta env st (fun ds st1 => φ (.cls c :: ds) st1 Q R) R
/-- the slot i holds the class c -/
def wAtC (i c : Nat) (w : WE) : WE := fun env st Q R => env[i]? = some (Slot.val (.cls c)) ∧ w env st Q R
def wTix (ss : List Str) (wa : WE) : WE := fun env st Q R => wa env st (fun d st1 => oneS d fun z => ∃ k, ss[k]? = some z ∧ (∀ m, m < k → ss[m]? ≠ some z) ∧ Q (.int (k : Nat)) st1) R
end
end G
namespace G
open PySem PySem.Spec PyProof.Rows L2
end G
namespace G
open PySem PySem.Spec PyProof.Rows L2
section
variable {B : Bd} {X : Cx} {W : WX} {o value : Expr} {wa wb : WE} {pos tpos : Pos}
def wFldAug (F : Nat → Nat → Bool) (i : Nat) (wo wv : WE) : WS := fun env st D => wo env st (fun x st1 => match x with
  | .cel n => (match st1[n]? with
    | some (.ins c fs) => F c i = true ∧ ∃ a : Int, getD' i fs = some (.int a) ∧ wv env st1 (fun y st2 => ∃ b : Int, y = .int b ∧ ∃ fs', st2[n]? = some (.ins c fs') ∧ fs'.length < 1000 ∧ D.nx env (st2.set n (.ins c (putD i (.int (a + b)) fs')))) (xe D env)
    | _ => False)
  | _ => False) (xe D env)
theorem gs_fldAug {F : Nat → Nat → Bool} (j : J B X W) (fo : FOk B X F) (i : Nat) {f : Str} (hf : B.C.fn i = f) (ho : PEg B X W o wa) (hv : PEg B X W value wb) : PSg B X W (.AugAssign (.Attribute o f tpos) .Add value pos) (wFldAug F i wa wb) := by
  subst hf
  refine ⟨fun pins s σ H g env st D I bo rw hw => ?_⟩
  refine (ps_fldaug ho.pe hv.pe in_add).run pins s σ H _ I ?_
  refine ⟨g, env, st, _, _, bo, rw.at env σ, hw, ?_⟩
  rintro x H1 ⟨d, st1, g1, l1, b1, r1, h1⟩
  cases d with
  | cel n =>
    dsimp only at h1
    split at h1
    · rename_i cc fs hst
      obtain ⟨hF, a, ha, h1⟩ := h1
      obtain ⟨hc, hn⟩ := fo.at_ cc i hF
      obtain ⟨p, e1, rfl⟩ := r1.celV
      obtain ⟨p2, q1, dx, fv, q3, q4⟩ := b1.ok.cell n _ hst
      rw [e1] at q1
      cases q1
      obtain ⟨v, hv1, hv2⟩ := q4.some fo.inj ha
      have e2 := hv2.intV
      subst e2
      refine ⟨p, _, dx, fv, _, rfl, q3, hc, hn, hv1, g1, env, st1, _, _, b1, rw.at env σ, h1, ?_⟩
      rintro y H2 ⟨d2, st2, g2, l2, b2, r2, b, rfl, fs', hst2, hl, h2⟩
      obtain ⟨p3, q5, dx2, fv2, q6, q7⟩ := b2.ok.cell n _ hst2
      have e3 : g2.ad n = some p := l2.le.a n p e1
      rw [e3] at q5
      cases q5
      refine ⟨a, b, rfl, r2.intV, dx2, fv2, q6, by rw [← q7.length]; exact hl, ?_⟩
      exact ⟨env, _, g2, (l1.trans l2).le, b2.chCell j.ck (c := .ins cc (putD i (.int (a + b)) fs')) (List.getElem?_eq_some_iff.mp hst2).1 e3 ⟨_, q6, fun z => z⟩ ⟨dx2, _, upd_same, q7.put fo.inj rep_int⟩, h2⟩
    · exact h1.elim
  | _ => exact h1.elim
end
end G
namespace G
open PySem PySem.Spec PyProof.Rows L2
section
variable {B : Bd} {X : Cx} {W : WX} {a b c e : Expr} {es : List Expr} {wa wb wc : WE} {ta : WA} {pos : Pos}
def RepS (C : Con) (g : Gh) : List (Str × D) → List (L2.Key × V) → Prop
  | [], vs => vs = []
  | (z, d) :: ds, vs => ∃ v q, vs = (Sum.inr z, v) :: q ∧ Rep C g d v ∧ RepS C g ds q
theorem RepS.mono {C : Con} {g g' : Gh} (l : g.le g') : ∀ {acc : List (Str × D)} {xs : List (L2.Key × V)}, RepS C g acc xs → RepS C g' acc xs
  | [], _, h => h
  | (r, d) :: ds, _, ⟨v, q, e, a, b⟩ => ⟨v, q, e, a.mono l, RepS.mono l b⟩
end
end G
namespace G
open PySem PySem.Spec PyProof.Rows L2
abbrev WEo := Envr → Store → (D → Envr → Store → Prop) → (Exc → Envr → Store → Prop) → Prop
def QVo (B : Bd) (g : Gh) (σ : L2.St) (Q : D → Envr → Store → Prop) : VK := fun v H' => ∃ d env' st' g', g.le g' ∧ BOk B g' env' st' σ H' ∧ Rep B.C g' d v ∧ Q d env' st'
structure PEo (B : Bd) (X : Cx) (W : WX) (e : Expr) (w : WEo) : Prop where
  run : ∀ (pins : List (Addr × Obj)) (s : Shared) (σ : L2.St) (H : Hp) (g : Gh) (env : Envr) (st : Store) (Q : D → Envr → Store → Prop) (R : Exc → Envr → Store → Prop), Inv X pins σ H s → BOk B g env st σ H → RWs B W R → w env st Q R →
    wpAny (model X.prog X.w) X.A (eval e X.env) (EP X pins σ (QVo B g σ Q)) X.xe s
def tgo (B : Bd) (W : WX) (w : WEo) : TE := fun σ H Q => ∃ g env st Qg R, BOk B g env st σ H ∧ RWs B W R ∧ w env st Qg R ∧ ∀ v H', QVo B g σ Qg v H' → Q v H'
theorem QVo.le {B : Bd} {g g1 : Gh} {σ : L2.St} {Q : D → Envr → Store → Prop} {v : V} {H : Hp} (l : g.le g1) (h : QVo B g1 σ Q v H) : QVo B g σ Q v H := by
  obtain ⟨d, e, st, g', a, b⟩ := h
  exact ⟨d, e, st, g', l.trans a, b⟩
section
variable {B : Bd} {X : Cx} {W : WX} {a b c e : Expr} {es : List Expr} {wa wb wc : WE} {wo uo : WEo} {ta : WA} {pos : Pos} {w u : WS}
theorem PEo.pe (h : PEo B X W e wo) : PE X e (tgo B W wo) := ⟨fun pins s σ H Q I ⟨g, env, st, Qg, R, b, r, hw, k⟩ =>
  thn (h.run pins s σ H g env st Qg R I b r hw) fun _ _ z => EP.imp z k⟩
end
end G
namespace G
open PySem PySem.Spec PyProof.Rows L2
section
variable {B : Bd} {X : Cx} {W : WX} {a b c e : Expr} {es : List Expr} {wa wb wc : WE} {ta : WA} {pos : Pos} {w u : WS} {stm : Stmt} {rest : List Stmt}
theorem QVF.lst (ck : ConOk B.C) {g gb : Gh} {Hb : Hp} {env : Envr} {st : Store} {σ : L2.St} {H : Hp} {Q : QE} {ds : List D} {xs : List V} (l : Nx gb Hb g H) (bo : BOk B g env st σ H) (r : Reps B.C g ds xs) (q : Q (.lst ds) st) {p : Addr} (hp : H p = none) :
    QVF B gb Hb env σ Q (.ref p) (upd H p (.lst xs)) := by
  have up : ∀ a o, H a = some o → upd H p (.lst xs) a = some o := fun a o q => by rw [upd_ne (ne_of_none q hp)]; exact q
  have nD : Nx g H g (upd H p (.lst xs)) := ⟨.refl g, fun a o q _ _ => up a o q, dm_of up, fun _ _ h => .inl h, fun _ _ h => .inl h⟩
  exact ⟨p, xs, ds, st, g, rfl, l.trans nD, bo.grow ck up, Anon.new bo hp, upd_same, r, q⟩
end
structure FnpF (P : Program) (w : World) (C : Con) (mg : Str → Option Value) (base : Heap) (x : Str) (n k : Nat) (φ : WF) : Prop where
  len : ∀ ds st Q R, φ ds st Q R → ds.length = n
  ex : ∃ f fd ps, FnOk P w C.K mg base (L2.CX P w) k f fd ps (spOfF C φ n) ∧ ps.length = n ∧ mg x = some (.ref f) ∧ PySem.W.keepIn C.K (.ref f) = true ∧ L2.Binds C.K fd ps []
theorem FnpF.of {P : Program} {w : World} {C : Con} {mg : Str → Option Value} {base : Heap} {x : Str} {params : Arguments} {body : List Stmt} {scope : Scope} {N ps : List Str} {k : Nat} {wb : WS}
    (ck : ConOk C) (D : DefAt C mg x params body scope ps) (S : FnScope N ps scope)
    (h : ∀ (f : Addr) (cdv : Value) (A : Around) (outer : List Env) (s : Shared) (H : Hp) (E : XK) (g : Gh) (W : WX), Room k (A.deeper (envOfC x scope s.heap.objs.size f cdv)) → J ⟨C, g, H⟩ (cxOf (L2.CX P w) P w C.K mg base N x scope f cdv A outer s H E) W →
      PSsgF ⟨C, g, H⟩ (cxOf (L2.CX P w) P w C.K mg base N x scope f cdv A outer s H E) W body wb) : FnpF P w C mg base x ps.length (k + 1) (wfnF N.length ps.length wb) := by
  obtain ⟨f, fd, F, hm, hb⟩ := D.ex
  exact ⟨wfnF_len, f, fd, ps, fnF_ok ck F S (h f), rfl, hm, F.kp, hb⟩
structure FunGF (B : Bd) (X : Cx) (x : Str) (n : Nat) (φ : WF) : Prop where
  len : ∀ ds st Q R, φ ds st Q R → ds.length = n
  ex : ∃ k f fd ps, Room k X.A ∧ FnOk X.prog X.w X.K X.mg X.base (L2.CX X.prog X.w) k f fd ps (spOfF B.C φ n) ∧ ps.length = n ∧ X.mg x = some (.ref f) ∧ PySem.W.keepIn X.K (.ref f) = true ∧ L2.Binds X.K fd ps []
theorem FnpF.at {B : Bd} {X : Cx} {x : Str} {n k m : Nat} {φ : WF} (h : FnpF X.prog X.w B.C X.mg X.base x n k φ) (hK : X.K = B.C.K) (hr : Room m X.A) (hk : k ≤ m := by decide) : FunGF B X x n φ := by
  obtain ⟨f, fd, ps, ok, hn, hm, hk', hb⟩ := h.ex
  exact ⟨h.len, k, f, fd, ps, hr.mono hk, by rw [hK]; exact ok, hn, hm, by rw [hK]; exact hk', by rw [hK]; exact hb⟩
end G
namespace G
open PySem PySem.Spec PyProof.Rows L2
end G
namespace G
open PySem PySem.Spec PyProof.Rows L2
/-- a list of tuples that begin with texts -/
def Mk (g : Gh) (a : Addr) : Prop := ∃ p xs z zs, g.P a = some (.lst (.ref p :: xs)) ∧ g.P p = some (.tup (.str z :: zs))
end G
namespace G
open PySem PySem.Spec PyProof.Rows L2
end G
namespace G
open PySem PySem.Spec PyProof.Rows L2
variable {B : Bd} {X : Cx} {W : WX}
theorem RepK.length {C : Con} {g : Gh} : ∀ {ds : List (D × D)} {vs : List (L2.Key × V)}, RepK C g ds vs → vs.length = ds.length
  | [], vs, h => by unfold RepK at h; rw [h]; rfl
  | (k, d) :: ds, vs, h => by
    unfold RepK at h
    obtain ⟨key, v, r, e, _, _, h2⟩ := h
    rw [e, List.length_cons, List.length_cons, RepK.length h2]
end G
namespace G
open PySem PySem.Spec PyProof.Rows L2
theorem gss_none {B : Bd} {X : Cx} {W : WX} {ss : List Stmt} : PSsg B X W ss (fun _ _ _ => False) := ⟨fun _ _ _ _ _ _ _ _ _ _ _ hw => hw.elim⟩
theorem DefC.never {P : Program} {w : World} {C : Con} {mg : Str → Option Value} {base : Heap} {x qual : Str} {params : Arguments} {body : List Stmt} {scope : Scope} {f : Addr} {N ps : List Str} {k : Nat} (ck : ConOk C) (D : DefC C f x qual params body scope ps) (S : FnScope N ps scope) :
    Fna P w C mg base (k + 1) f (wfn N.length ps.length fun _ _ _ => False) := D.fna ck S fun _ _ _ _ _ _ _ _ _ _ => gss_none
end G
namespace G
open PySem PySem.Spec PyProof.Rows L2
variable {B : Bd} {X : Cx} {W : WX} {e : Expr} {wa : WE}
abbrev signsD (x : Str) : List D := x.cps.toList.map fun c => D.str ⟨#[c]⟩
theorem itrep_str {σ : L2.St} {g : Gh} {x : Str} : ItRep B σ (Its x) g (signsD x) := by
  intro g' env st σ' H l bo
  refine ⟨fun i d hd => ?_, by show x.cps.size ≤ (signsD x).length; simp⟩
  rw [List.getElem?_map, Option.map_eq_some_iff] at hd
  obtain ⟨c, h1, rfl⟩ := hd
  have h2 : x.cps[i]? = some c := by rw [← Array.getElem?_toList]; exact h1
  refine ⟨(Array.getElem?_eq_some_iff.mp h2).1, fun y H' ⟨e, c', h3, e2⟩ => ?_⟩
  subst e
  rw [h2] at h3
  cases h3
  subst e2
  exact ⟨g', .refl g' _, bo, rep_str⟩
def wiStr (wa : WE) : WI := fun env st Q R => wa env st (fun d st1 => match d with | .str x => Q (signsD x) st1 | _ => False) R
theorem gi_str (j : J B X W) {tg : Expr} (h : PEg B X W e wa) : PIg B X W tg e (wiStr wa) := ⟨⟨_, pi_str h.pe, fun σ H g env st Q R Rr bo rw hw k => ⟨g, env, st, _, R, bo, rw, hw, fun x H1 ⟨d, st1, g1, l1, b1, r1, h1⟩ => by
  cases d with
  | str y =>
    obtain rfl := r1.strV
    exact ⟨y, rfl, k _ _ ⟨_, st1, g1, l1, b1, itrep_str, h1⟩⟩
  | _ => exact h1.elim⟩⟩⟩
end G
namespace G
open PySem PySem.Spec PyProof.Rows L2
variable {B : Bd} {X : Cx} {W : WX} {w : WS}
theorem J.nox (j : J B X W) : J B X.nox (fun _ _ _ _ => False) where
  ck := j.ck
  hK := j.hK
  tk := fun u s' ⟨_, _, _, _, _, _, _, _, _, _, _, _, _, _, _, _, z⟩ => z.elim
  po := fun e s h => h.elim
  calm := j.calm
  nd := j.nd
  hd := j.hd
  hu := j.hu
  hu2 := j.hu2
end G
namespace G
open PySem PySem.Spec PyProof.Rows L2
end G
namespace G
open PySem PySem.Spec PyProof.Rows L2
end G
namespace G
open PySem PySem.Spec PyProof.Rows L2
def spOfV (C : Con) (φ : WF) : Sp := fun vs H Q _ => vs.length ≤ 5 ∧ ∃ g ds st Qg, GOk C g H st ∧ Reps C g ds vs ∧ φ [.tup ds] st Qg noX ∧ ∀ v H', SpQ C g H Qg v H' → Q v H'
def BindsV (fd : FuncData) (pv : Str) : Prop := ∀ us : List Value, us.length ≤ 5 → bindArgs fd ⟨us, []⟩ = (newTuple us >>= fun t => pure [(pv, t)])
section
variable {P : Program} {w : World} {C : Con} {mg : Str → Option Value} {base : Heap} {x qual : Str} {params : Arguments} {body : List Stmt} {scope : Scope} {dvs : List V} {kws : List (Str × V)} {f : Addr} {fd : FuncData} {N : List Str} {pv : Str} {k : Nat} {wb : WS}
theorem fnV_of (ck : ConOk C) (F : FunD C.K x qual params body scope dvs kws f fd) (S : FnScope N [pv] scope) (hb : BindsV fd pv)
    (h : ∀ (cdv : Value) (A : Around) (outer : List Env) (s : Shared) (H : Hp) (E : XK) (g : Gh) (W : WX), Room k (A.deeper (envOfC qual scope s.heap.objs.size f cdv)) → J ⟨C, g, H⟩ (cxOf (L2.CX P w) P w C.K mg base N qual scope f cdv A outer s H E) W →
      PSsg ⟨C, g, H⟩ (cxOf (L2.CX P w) P w C.K mg base N qual scope f cdv A outer s H E).nox W0 body wb) : L2.FnR P w C.K mg base (L2.CX P w) (k + 1) f (spOfV C (wfn N.length 1 wb)) := by
  obtain ⟨oc, od, dV, kV, doc, pm, an, cdv, ct, osl, rfl, lk, hcd, _, _⟩ := F.ex
  intro A outer s H us vs Q E hr e0 r ⟨hl, g, ds, st, Qg, ok, rs, hφ, hQ⟩
  have hlu : us.length ≤ 5 := by rw [← r.length]; exact hl
  have hz : us.length ≤ sizeLine := Nat.le_trans hlu (by decide)
  have KX : C.K.In s.heap := e0.mod.kin.keeps fun b o e => (e0.bs b o e).1
  obtain ⟨p, hp⟩ : ∃ p, p = s.heap.objs.size := ⟨_, rfl⟩
  have hn : H p = none := by rw [hp]; exact e0.hok.fresh (Nat.le_refl _)
  obtain ⟨H2, hH2⟩ : ∃ H2, H2 = upd H p (.tup vs) := ⟨_, rfl⟩
  obtain ⟨s2, hs2⟩ : ∃ s2 : Shared, s2 = { s with heap := s.heap.push ({ cls := .type "tuple", data := .seq us.toArray } : Obj) } := ⟨_, rfl⟩
  have kp : ∀ b o, s.heap.get? b = some o → s2.heap.get? b = some o := fun b o e => by rw [hs2]; exact Heap.get?_push_of_some _ e
  have at2 : s2.heap.get? p = some ({ cls := .type "tuple", data := .seq us.toArray } : Obj) := by rw [hs2, hp]; exact Heap.get?_push_size _ rfl
  have new : ObjOk P w H2 s2.heap p (.tup vs) := ⟨by rw [r.length]; exact hz, us, r, ⟨_, at2, rfl, _, rfl⟩⟩
  have sz2 : s.heap.objs.size ≤ s2.heap.objs.size := by rw [hs2]; show _ ≤ (s.heap.push _).objs.size; rw [Heap.size_push]; exact Nat.le_succ _
  have hok2 : HOk P w H2 s2.heap := by rw [hH2] at new ⊢; exact e0.hok.laid kp (by rw [hp]; exact Nat.le_refl _) new
  have un : Un (frs outer) [] H H2 s.heap s2.heap := by rw [hH2]; exact Un.laid kp (by rw [hp]; exact Nat.le_refl _) hn
  have nep : ∀ {b : Addr}, b < s.heap.objs.size → H2 b = H b := fun {b} hb => by rw [hH2]; exact upd_ne (by rw [hp]; exact Nat.ne_of_lt hb)
  have e2 : Env0 P w C.K mg base A outer s2 H2 := by
    refine ⟨e0.frames, e0.mod, fun b o e => ⟨kp b o (e0.bs b o e).1, ?_⟩, Nat.le_trans e0.bsz sz2, Heap.FunFrames.of_keeps (fun b o e _ => ⟨o, kp b o e, rfl⟩) e0.funs, fun b hb' => ?_, hok2, by rw [hs2]; exact e0.bare⟩
    · rw [nep (Heap.lt_size (e0.bs b o e).1)]
      exact (e0.bs b o e).2
    · obtain ⟨_, o, ho, _⟩ := e0.funs.mem hb'
      rw [nep (Heap.lt_size ho)]
      exact e0.frf b hb'
  have lim : s2.heap.NoLimit := e0.mod.nolimit.keeps fun b o e => (e2.bs b o e).1
  have hkind : ∀ y ∈ [pv].zip [Value.ref p], scope.names.lookup y.1 = some .local ∨ (scope.names.lookup y.1 = some .cell ∧ ((cellsFrom (s2.heap.objs.size + 1) scope.names []).lookup y.1).isSome = true) := fun y hy => by
    rcases S.par y.1 (List.of_mem_zip hy).1 with q | q
    · exact .inl q
    · exact .inr ⟨q, PySem.W.cellsFrom_some _ _ _ (.inl q)⟩
  obtain ⟨d', st', g', nx, b', rp, rfl, rfl⟩ : QV ⟨C, g, H⟩ g H (startE ([] : List Str).length []) (L2.start ([] : List Str) []) (fun d st' => d = .tup ds ∧ st' = st) (.ref p) H2 := by
    rw [hH2]
    exact QV.tup ck (.refl g H) (start_ok (N := []) ok Reps.nil) rs ⟨rfl, rfl⟩ hn
  refine codeAny_call_function hr.depth (KX _ _ lk) rfl S.co S.gen rfl (PySem.W.codeRec_of KX hcd) ?_
  rw [hb us hlu]
  refine wpAny_bind (wpAny_newTuple (wpAny_pure ?_) hz)
  rw [← hp, ← hs2]
  refine wpAny_newFunctionEnv_cells (s := s2) S.kind hkind fun env he s1 xx => ?_
  subst he
  refine ⟨lim.keeps xx.toInCall.keep, codeAny_func ?_⟩
  have hrd := hr.deeper (envOfC qual scope s2.heap.objs.size f cdv)
  have j : J ⟨C, g', H2⟩ (cxOf (L2.CX P w) P w C.K mg base N qual scope f cdv A outer s2 H2 E) (fun cls d _ H' => E cls d H') :=
    { ck := ck, hK := rfl, tk := takes_of rfl rfl rfl rfl, po := passes_of rfl, calm := rfl, nd := S.nd, hd := hrd.hd, hu := hrd.units, hu2 := by have h := hrd.un; show (A.deeper _).units + 150 < cLine; omega }
  have I : Inv (cxOf (L2.CX P w) P w C.K mg base N qual scope f cdv A outer s2 H2 E) [] (L2.start N [.ref p]) H2 s1 :=
    inv_start S hr.hd e2 rfl (.cons rfl .nil) xx
  have hbody := (h cdv A outer s2 H2 E g' _ (hr.deeper _) j).run [] s1 (L2.start N [.ref p]) H2 g' (startE N.length [.tup ds]) st' { nx := fun _ st' => Qg .non st', rt := Qg, bk := fun _ _ => False, ct := fun _ _ => False, ex := fun x _ st' => noX x st' } (I.wish fun _ _ => False) (start_ok b'.ok (Reps.cons rp Reps.nil)) (fun _ _ _ _ _ _ _ _ _ _ q => q.elim) hφ.2
  refine wpAny_mono hbody (fun fl s' hs => ?_) fun e s' hs => hs.elim
  have fin : ∀ {σ' : L2.St} {H' : Hp} {v' : V} {u' : Value}, Inv (cxOf (L2.CX P w) P w C.K mg base N qual scope f cdv A outer s2 H2 E).nox [] σ' H' s' → RelV v' u' → Q v' H' → CE outer P w H s Q u' s' :=
    fun {σ' H' v' u'} J rv' q => ⟨v', H', by rw [J.os, hs2]; rfl, J.bare, un.trans J.base, J.hok, rv', q⟩
  cases fl with
  | ret u' =>
    obtain ⟨v', σ', H', J', rv', d, st2, g2, l2, ok2, nx2, r2, q2⟩ := hs
    exact fin J' rv' (hQ v' H' ⟨d, st2, g2, nx.le.trans nx2.le, ok2, nx.trans nx2, r2, q2⟩)
  | next =>
    obtain ⟨σ', H', J', env', st2, g2, l2, b2, q2⟩ := hs
    exact fin (v' := V.non) (u' := Value.none) J' rfl (hQ .non H' ⟨.non, st2, g2, nx.le.trans b2.nx.le, b2.ok, nx.trans b2.nx, rep_non, q2⟩)
  | brk =>
    obtain ⟨_, _, _, _, _, _, _, _, q⟩ := hs
    exact q.elim
  | cont =>
    obtain ⟨_, _, _, _, _, _, _, _, q⟩ := hs
    exact q.elim
structure DefAtV (C : Con) (mg : Str → Option Value) (x : Str) (params : Arguments) (body : List Stmt) (scope : Scope) (pv : Str) : Prop where
  ex : ∃ f fd, FunD C.K x x params body scope [] [] f fd ∧ mg x = some (.ref f) ∧ BindsV fd pv
/-- such a def whose promise is kept -/
structure FnpV (P : Program) (w : World) (C : Con) (mg : Str → Option Value) (base : Heap) (x : Str) (k : Nat) (φ : WF) : Prop where
  ex : ∃ f, L2.FnR P w C.K mg base (L2.CX P w) k f (spOfV C φ) ∧ mg x = some (.ref f) ∧ PySem.W.keepIn C.K (.ref f) = true
theorem FnpV.of {x : Str} (ck : ConOk C) (D : DefAtV C mg x params body scope pv) (S : FnScope N [pv] scope)
    (h : ∀ (f : Addr) (cdv : Value) (A : Around) (outer : List Env) (s : Shared) (H : Hp) (E : XK) (g : Gh) (W : WX), Room k (A.deeper (envOfC x scope s.heap.objs.size f cdv)) → J ⟨C, g, H⟩ (cxOf (L2.CX P w) P w C.K mg base N x scope f cdv A outer s H E) W →
      PSsg ⟨C, g, H⟩ (cxOf (L2.CX P w) P w C.K mg base N x scope f cdv A outer s H E).nox W0 body wb) : FnpV P w C mg base x (k + 1) (wfn N.length 1 wb) := by
  obtain ⟨f, fd, F, hm, hb⟩ := D.ex
  exact ⟨f, fnV_of ck F S hb (h f), hm, F.kp⟩
end
structure FunGV (B : Bd) (X : Cx) (x : Str) (φ : WF) : Prop where
  ex : ∃ k f, Room k X.A ∧ L2.FnR X.prog X.w B.C.K X.mg X.base (L2.CX X.prog X.w) k f (spOfV B.C φ) ∧ X.mg x = some (.ref f) ∧ PySem.W.keepIn X.K (.ref f) = true
theorem FnpV.at {B : Bd} {X : Cx} {x : Str} {k m : Nat} {φ : WF} (h : FnpV X.prog X.w B.C X.mg X.base x k φ) (hK : X.K = B.C.K) (hr : Room m X.A) (hk : k ≤ m := by decide) : FunGV B X x φ := by
  obtain ⟨f, ok, hm, hk'⟩ := h.ex
  exact ⟨k, f, hr.mono hk, ok, hm, by rw [hK]; exact hk'⟩
end G
namespace G
open PySem PySem.Spec PyProof.Rows L2
end G
namespace G
open PySem PySem.Spec PyProof.Rows L2
end G
namespace L2
open PySem PySem.Spec PyProof.Rows
end L2
namespace G
open PySem PySem.Spec PyProof.Rows L2
/-- three keywords, the last for the first parameter -/
def rot3 {α : Type} : List α → List α
  | [a, b, c] => [c, a, b]
  | l => l
structure DefAtW (C : Con) (mg : Str → Option Value) (x : Str) (params : Arguments) (body : List Stmt) (scope : Scope) (ps : List Str) (dvs : List V) (n : Nat) (ks kt : List Str) : Prop where
  ex : ∃ f fd kws ds gg g3, FunD C.K x x params body scope [] kws f fd ∧ mg x = some (.ref f) ∧ Vals dvs ds ∧ L2.Binds C.K fd ps ds ∧ KBn C.K fd ps n ks gg (fun vs zs => vs ++ zs) ∧ KBn C.K fd ps 0 kt g3 (fun _ zs => rot3 zs)
structure FnpW (P : Program) (w : World) (C : Con) (mg : Str → Option Value) (base : Heap) (x : Str) (n k : Nat) (φ : WF) (dvs : List V) (m : Nat) (ks kt : List Str) : Prop where
  len : ∀ ds st Q R, φ ds st Q R → ds.length = n
  ex : ∃ f fd ps ds gg g3, FnOk P w C.K mg base (L2.CX P w) k f fd ps (spOf C φ n) ∧ ps.length = n ∧ mg x = some (.ref f) ∧ PySem.W.keepIn C.K (.ref f) = true ∧ Vals dvs ds ∧ L2.Binds C.K fd ps ds ∧ KBn C.K fd ps m ks gg (fun vs zs => vs ++ zs) ∧ KBn C.K fd ps 0 kt g3 (fun _ zs => rot3 zs)
section
variable {P : Program} {w : World} {C : Con} {mg : Str → Option Value} {base : Heap} {x : Str} {params : Arguments} {body : List Stmt} {scope : Scope} {dvs : List V} {N ps : List Str} {k m n : Nat} {wb : WS} {ks kt : List Str} {φ : WF}
theorem FnpW.of (ck : ConOk C) (D : DefAtW C mg x params body scope ps dvs m ks kt) (S : FnScope N ps scope)
    (h : ∀ (f : Addr) (cdv : Value) (A : Around) (outer : List Env) (s : Shared) (H : Hp) (E : XK) (g : Gh) (W : WX), Room k (A.deeper (envOfC x scope s.heap.objs.size f cdv)) → J ⟨C, g, H⟩ (cxOf (L2.CX P w) P w C.K mg base N x scope f cdv A outer s H E) W →
      PSsg ⟨C, g, H⟩ (cxOf (L2.CX P w) P w C.K mg base N x scope f cdv A outer s H E) W body wb) : FnpW P w C mg base x ps.length (k + 1) (wfn N.length ps.length wb) dvs m ks kt := by
  obtain ⟨f, fd, kws, ds, gg, g3, F, hm, hv, hb, hk, h3⟩ := D.ex
  exact ⟨wfn_len, f, fd, ps, ds, gg, g3, fn_ok (N := N) ck F S (h f), rfl, hm, F.kp, hv, hb, hk, h3⟩
end
structure FunGW (B : Bd) (X : Cx) (x : Str) (φ : WF) (kt : List Str) : Prop where
  len : ∀ ds st Q R, φ ds st Q R → ds.length = 3
  ex : ∃ k f fd ps gg, Room k X.A ∧ FnOk X.prog X.w X.K X.mg X.base (L2.CX X.prog X.w) k f fd ps (spOf B.C φ 3) ∧ X.mg x = some (.ref f) ∧ PySem.W.keepIn X.K (.ref f) = true ∧ KBn X.K fd ps 0 kt gg (fun _ zs => rot3 zs)
theorem FnpW.at {B : Bd} {X : Cx} {x : Str} {k m q : Nat} {φ : WF} {dvs : List V} {ks kt : List Str} (h : FnpW X.prog X.w B.C X.mg X.base x 3 k φ dvs q ks kt) (hK : X.K = B.C.K) (hr : Room m X.A) (hk : k ≤ m := by decide) : FunGW B X x φ kt := by
  obtain ⟨f, fd, ps, ds, gg, g3, ok, hn, hm, hk', hv, hb, hkb, h3⟩ := h.ex
  exact ⟨h.len, k, f, fd, ps, g3, hr.mono hk, by rw [hK]; exact ok, hm, by rw [hK]; exact hk', by rw [hK]; exact h3⟩
end G
namespace G
open PySem PySem.Spec PyProof.Rows L2
end G
namespace G
open PySem PySem.Spec PyProof.Rows L2
end G
namespace G
open PySem PySem.Spec PyProof.Rows L2
end G
namespace G
open PySem PySem.Spec PyProof.Rows L2 LamX
theorem LamAts.append {X : Cx} {H : Hp} : ∀ {ls ls2 : List LamI} {fs fs2 : List (Addr × Addr)}, LamAts X ls fs H → LamAts X ls2 fs2 H → LamAts X (ls ++ ls2) (fs ++ fs2) H
  | [], ls2, fs, fs2, h, h2 => by
    have h : fs = [] := h
    subst h
    exact h2
  | l :: ls, ls2, fs, fs2, h, h2 => by
    obtain ⟨f, c', r, e, la, las⟩ := h
    subst e
    exact ⟨f, c', r ++ fs2, rfl, la, LamAts.append las h2⟩
end G
namespace G
open PySem PySem.Spec PyProof.Rows L2
end G
namespace G
open PySem PySem.Spec PyProof.Rows L2
theorem e_wNext  {env st D} : wNext  env st D = (D.nx env st) := rfl
theorem e_wBin {o : O2} {wa wb : WE} {env st Q R} : wBin o wa wb env st Q R = (wa env st (fun d1 st1 => wb env st1 (fun d2 st2 => o d1 d2 st2 Q R) R) R) := rfl
theorem e_wUn {o : O1} {wa : WE} {env st Q R} : wUn o wa env st Q R = (wa env st (fun d st1 => o d st1 Q R) R) := rfl
theorem e_wArgs {o : ON} {ta : WA} {env st Q R} : wArgs o ta env st Q R = (ta env st (fun ds st1 => o ds st1 Q R) R) := rfl
theorem e_wC {d : D} {x0 st Q x3} : wC d x0 st Q x3 = (Q d st) := rfl
theorem e_waNil  {x0 st Q x3} : waNil  x0 st Q x3 = (Q [] st) := rfl
theorem e_waCons {wa : WE} {ta : WA} {env st Q R} : waCons wa ta env st Q R = (wa env st (fun d st1 => ta env st1 (fun ds st2 => Q (d :: ds) st2) R) R) := rfl
theorem e_wTup {ta : WA} {env st Q R} : wTup ta env st Q R = (ta env st (fun ds st1 => ds.length ≤ sizeLine ∧ Q (.tup ds) st1) R) := rfl
theorem e_wLst {ta : WA} {env st Q R} : wLst ta env st Q R = (ta env st (fun ds st1 => ds.length ≤ sizeLine ∧ Q (.lst ds) st1) R) := rfl
theorem e_wCell {ta : WA} {env st Q R} : wCell ta env st Q R = (ta env st (fun ds st1 => ds.length ≤ sizeLine ∧ Q (.cel st1.length) (st1 ++ [.lst ds])) R) := rfl
theorem e_wNotT {w : WT} {env st Q R} : wNotT w env st Q R = (w env st (fun b st1 => Q (!b) st1) R) := rfl
theorem e_wIsN {w : WE} {env st Q R} : wIsN w env st Q R = (w env st (fun d st1 => Q (.bl d.isNon) st1) R) := rfl
theorem e_wNotN {w : WE} {env st Q R} : wNotN w env st Q R = (w env st (fun d st1 => Q (.bl (!d.isNon)) st1) R) := rfl
theorem e_wTru {M : MT} {w : WE} {env st Q R} : wTru M w env st Q R = (w env st (fun d st1 => oTru M d st1 Q R) R) := rfl
theorem e_wSl {wa : WE} {wl wh : WO} {env st Q R} : wSl wa wl wh env st Q R = (wa env st (fun d st1 => wl env st1 (fun l st2 => wh env st2 (fun h st3 => oSl d l h st3 Q R) R) R) R) := rfl
theorem e_woNone  {x0 st Q x3} : woNone  x0 st Q x3 = (Q none st) := rfl
theorem e_wSet {i : Nat} {wa : WE} {env st D} : wSet i wa env st D = (wa env st (fun d st1 => D.nx (env.set i (.val d)) st1) (xe D env)) := rfl
theorem e_wRet {wa : WE} {env st D} : wRet wa env st D = (wa env st D.rt (xe D env)) := rfl
theorem e_wRetN  {env st D} : wRetN  env st D = (D.rt .non st) := rfl
theorem e_wExpr {wa : WE} {env st D} : wExpr wa env st D = (wa env st (fun _ st1 => D.nx env st1) (xe D env)) := rfl
theorem e_wFrz {is : List Nat} {w : WS} {env st D} : wFrz is w env st D = (w (frz is env) st D) := rfl
theorem e_wBrk  {env st D} : wBrk  env st D = (D.bk env st) := rfl
theorem e_wCnt  {env st D} : wCnt  env st D = (D.ct env st) := rfl
theorem e_wAsg {wa : WE} {t : WG} {env st D} : wAsg wa t env st D = (wa env st (fun d st1 => t d env st1 D.nx) (xe D env)) := rfl
theorem e_wgName {i : Nat} {d env st Q} : wgName i d env st Q = (Q (env.set i (.val d)) st) := rfl
theorem e_wOwn {i : Nat} {ta : WA} {env st D} : wOwn i ta env st D = (ta env st (fun ds st1 => ds.length ≤ sizeLine ∧ D.nx (env.set i (.own ds)) st1) (xe D env)) := rfl
def seqK (D : EW) (K : Envr → Store → Prop) : EW := { D with nx := K }
theorem seqK_nx {D : EW} {K : Envr → Store → Prop} : (seqK D K).nx = K := rfl
theorem seqK_rt {D : EW} {K : Envr → Store → Prop} : (seqK D K).rt = D.rt := rfl
theorem seqK_bk {D : EW} {K : Envr → Store → Prop} : (seqK D K).bk = D.bk := rfl
theorem seqK_ct {D : EW} {K : Envr → Store → Prop} : (seqK D K).ct = D.ct := rfl
theorem seqK_ex {D : EW} {K : Envr → Store → Prop} : (seqK D K).ex = D.ex := rfl
def loopK (D : EW) (K : Envr → Store → Prop) : EW := { D with nx := K, ct := K, bk := D.nx }
theorem loopK_nx {D : EW} {K : Envr → Store → Prop} : (loopK D K).nx = K := rfl
theorem loopK_rt {D : EW} {K : Envr → Store → Prop} : (loopK D K).rt = D.rt := rfl
theorem loopK_bk {D : EW} {K : Envr → Store → Prop} : (loopK D K).bk = D.nx := rfl
theorem loopK_ct {D : EW} {K : Envr → Store → Prop} : (loopK D K).ct = K := rfl
theorem loopK_ex {D : EW} {K : Envr → Store → Prop} : (loopK D K).ex = D.ex := rfl
theorem e_wSeq {w u : WS} {env st D} : wSeq w u env st D = w env st (seqK D (fun env' st' => u env' st' D)) := rfl
theorem seq_i (P : Envr → Store → Prop) {w u : WS} {env : Envr} {st : Store} {D : EW} (h1 : ∀ K : Envr → Store → Prop, (∀ e s, P e s → K e s) → w env st (seqK D K)) (h2 : ∀ e s, P e s → u e s D) : wSeq w u env st D := h1 _ h2
inductive Shut {α : Sort _} (a : α) : Type | mk | mk2
def iteW (b : Bool) (P Q : Prop) (_ : Shut P) (_ : Shut Q) : Prop := if b = true then P else Q
theorem iteW_t {P Q : Prop} {x : Shut P} {y : Shut Q} : iteW true P Q x y = P := rfl
theorem iteW_f {P Q : Prop} {x : Shut P} {y : Shut Q} : iteW false P Q x y = Q := rfl
theorem iteW_i {b : Bool} {P Q : Prop} {x : Shut P} {y : Shut Q} (h1 : b = true → P) (h2 : b = false → Q) : iteW b P Q x y := by cases b; exact h2 rfl; exact h1 rfl
def callW (φ : WF) (ds : List D) (st : Store) (Q : QE) (R : XQ) (_ : Shut Q) (_ : Shut R) : Prop := φ ds st Q R
theorem callW_i {φ : WF} {ds : List D} {st : Store} {Q : QE} {R : XQ} {x : Shut Q} {y : Shut R} (h : φ ds st Q R) : callW φ ds st Q R x y := h
def forW (t : WG) (w : WS) (D0 : EW) (ds : List D) (env : Envr) (st : Store) (_ : Shut t) (_ : Shut w) (_ : Shut D0) : Prop := wForL t w D0 ds env st
def whileW (t : WT) (w : WS) (D0 : EW) (env : Envr) (st : Store) (_ : Shut t) (_ : Shut w) (_ : Shut D0) : Prop := wWhile t w env st D0
def lcW (vs : List Nat) (t : WG) (tt : WT) (we : WE) (Q : List D → Store → Prop) (env : Envr) (ds acc : List D) (st : Store) (_ : Shut t) (_ : Shut tt) (_ : Shut we) (_ : Shut Q) : Prop := wLcL vs t tt we env Q ds acc st
theorem e_wCall {φ : WF} {ta : WA} {env st Q R} : wCall φ ta env st Q R = ta env st (fun ds st1 => callW φ ds st1 Q R .mk .mk) R := rfl
theorem e_wIfS {t : WT} {w u : WS} {env st D} : wIfS t w u env st D = t env st (fun b st1 => iteW b (w env st1 D) (u env st1 D) .mk .mk) (xe D env) := rfl
theorem e_wIf {t : WT} {w u : WE} {env st Q R} : wIf t w u env st Q R = t env st (fun b st1 => iteW b (w env st1 Q R) (u env st1 Q R) .mk .mk) R := rfl
theorem e_wAndT {w u : WT} {env st Q R} : wAndT w u env st Q R = (w env st (fun b st1 => iteW b (u env st1 Q R) (Q false st1) .mk .mk) R) := rfl
theorem e_wOrT {w u : WT} {env st Q R} : wOrT w u env st Q R = (w env st (fun b st1 => iteW b (Q true st1) (u env st1 Q R) .mk .mk) R) := rfl
theorem e_wFor {wi : WI} {t : WG} {w : WS} {env st D} : wFor wi t w env st D = (wi env st (fun ds st1 => forW t w D ds env st1 .mk .mk .mk) (xe D env)) := rfl
theorem e_wWhile {t : WT} {w : WS} {env st D} : wWhile t w env st D = whileW t w D env st .mk .mk .mk := rfl
theorem e_wLc {wi : WI} {vs : List Nat} {t : WG} {tt : WT} {we : WE} {env st Q R} : wLc wi vs t tt we env st Q R = wi env st (fun ds st1 => lcW vs t tt we (fun acc st2 => Q (.lst acc) st2) env ds [] st1 .mk .mk .mk .mk) R := rfl
/-- a truth value taken apart -/
def blW (d : D) (P : Bool → Prop) : Prop := match d with | .bl b => P b | _ => False
theorem blW_b {b : Bool} {P : Bool → Prop} : blW (.bl b) P = P b := rfl
theorem e_wBool {w : WE} {env st Q R} : wBool w env st Q R = (w env st (fun d st1 => blW d fun b => Q b st1) R) := by
  rfl
theorem e_wAnd {w u : WE} {env st Q R} : wAnd w u env st Q R = (w env st (fun d st1 => blW d fun b => iteW b (u env st1 Q R) (Q (.bl false) st1) .mk .mk) R) := by
  unfold wAnd; congr
  funext d st1
  cases d <;> first | rfl | (rename_i b; cases b <;> rfl)
theorem e_wOr {w u : WE} {env st Q R} : wOr w u env st Q R = (w env st (fun d st1 => blW d fun b => iteW b (Q (.bl true) st1) (u env st1 Q R) .mk .mk) R) := by
  unfold wOr; congr
  funext d st1
  cases d <;> first | rfl | (rename_i b; cases b <;> rfl)
theorem e_wNot {w : WT} {env st Q R} : wNot w env st Q R = (w env st (fun b st1 => Q (.bl (!b)) st1) R) := rfl
theorem e_wChain {o o' : O2} {wa wb wc : WE} {env st Q R} : wChain o o' wa wb wc env st Q R = wa env st (fun d1 st1 => wb env st1 (fun d2 st2 => o d1 d2 st2 (fun z st3 => blW z fun b => iteW b (wc env st3 (fun d3 st4 => o' d2 d3 st4 Q R) R) (Q (.bl false) st3) .mk .mk) R) R) R := by
  unfold wChain; congr
  funext d1 st1
  congr
  funext d2 st2
  congr
  funext z st3
  cases z <;> first | rfl | (rename_i b; cases b <;> rfl)
def parW (i k : Nat) (env : Envr) (D : EW) (ds : List G.D) (st : Store) : Prop := match ds with
  | [d1, d2] => D.nx ((env.set i (.val d1)).set k (.val d2)) st
  | _ => False
def intW (d : D) (P : Int → Prop) : Prop := match d with | .int i => P i | _ => False
def lstW (d : D) (P : List D → Prop) : Prop := match d with | .lst i => P i | _ => False
def tupW (d : D) (P : List D → Prop) : Prop := match d with | .tup i => P i | _ => False
def r1W (ds : List D) (P : Int → Prop) : Prop := match ds with | [.int k] => P k | _ => False
def r2W (ds : List D) (P : Int → Int → Prop) : Prop := match ds with | [.int i, .int k] => P i k | _ => False
def zipW (ds : List D) (P : List D → Prop) : Prop := match ds with | [.lst xs, .lst ys] => P (zipD xs ys) | [.tup xs, .tup ys] => P (zipD xs ys) | _ => False
def natW (o : Option Nat) (P : Nat → Prop) (_ : Shut P) : Prop := match o with | some n => P n | none => False
def blsW (o : Option (List Bool)) (P : List Bool → Prop) (_ : Shut P) : Prop := match o with | some n => P n | none => False
def intsW (o : Option (List Int)) (P : List Int → Prop) (_ : Shut P) : Prop := match o with | some n => P n | none => False
def bo1W (o : Option Bool) (P : Bool → Prop) (_ : Shut P) : Prop := match o with | some n => P n | none => False
def bo2 (o : Option Bool) : Option Bool := match o with | some _ => some true | none => none
def putW (o : Option Slot) (i : Nat) (wk wa : WE) (env : Envr) (st : Store) (D : EW) (_ : Shut D) : Prop := match o with
  | some (Slot.own ds) => wa env st (fun d st1 => wk env st1 (fun k st2 => match k with
    | .int k => (match ixN ds.length k with | some m => D.nx (env.set i (.own (ds.set m d))) st2 | none => False)
    | _ => False) (xe D env)) (xe D env)
  | some (Slot.val (.cel n)) => wa env st (fun d st1 => wk env st1 (fun k st2 => match k with
    | .int k => (match st2[n]? with
      | some (.lst ds) => (match ixN ds.length k with | some m => D.nx env (st2.set n (.lst (ds.set m d))) | none => False)
      | _ => False)
    | _ => False) (xe D env)) (xe D env)
  | _ => False
def augW (v : Option Slot) (i : Nat) (o : O2) (wa : WE) (env : Envr) (st : Store) (D : EW) (_ : Shut D) : Prop := match v with
  | some (Slot.val d1) => wa env st (fun d2 st1 => o d1 d2 st1 (fun d st2 => D.nx (env.set i (.val d)) st2) (xe D env)) (xe D env)
  | _ => False
def appW (v : Option Slot) (i : Nat) (wa : WE) (env : Envr) (st : Store) (D : EW) (_ : Shut D) : Prop := match v with
  | some (Slot.own ds) => wa env st (fun d st1 => ds.length < sizeLine ∧ D.nx (env.set i (.own (ds ++ [d]))) st1) (xe D env)
  | _ => False
theorem e_var0 {d : D} {e : Envr} {st Q R} : wVar 0 (.val d :: e) st Q R = Q d st := rfl
theorem e_varS {i : Nat} {x : Slot} {e : Envr} {st Q R} : wVar (i + 1) (x :: e) st Q R = wVar i e st Q R := rfl
theorem e_varB0 {d : D} {e : Envr} {st Q R} : wVarB 0 (.val d :: e) st Q R = Q d st := rfl
theorem e_varB1 {ds : List D} {e : Envr} {st Q R} : wVarB 0 (.own ds :: e) st Q R = Q (.lst ds) st := rfl
theorem e_varBS {i : Nat} {x : Slot} {e : Envr} {st Q R} : wVarB (i + 1) (x :: e) st Q R = wVarB i e st Q R := rfl
theorem e_set0 {x y : Slot} {e : Envr} : List.set (x :: e) 0 y = y :: e := rfl
theorem e_setS {i : Nat} {x y : Slot} {e : Envr} : List.set (x :: e) (i + 1) y = x :: List.set e i y := rfl
section
variable {M : MT} {I : IS} {i j : Int} {xs ys : List D} {x y : Str} {st : Store} {Q : QE} {R : XQ} {c : Nat} {fs gs : List (Nat × D)}
theorem e_add : oAdd M (.int i) (.int j) st Q R = Q (.int (i + j)) st := rfl
theorem e_addS : oAdd M (.str x) (.str y) st Q R = (x.length + y.length ≤ sizeLine ∧ Q (.str (x ++ y)) st) := rfl
theorem e_addL : oAdd M (.lst xs) (.lst ys) st Q R = (xs.length + ys.length ≤ sizeLine ∧ Q (.lst (xs ++ ys)) st) := rfl
theorem e_addO : oAdd M (.ob c fs) (.ob c gs) st Q R = callM M c .add [.ob c fs, .ob c gs] st Q R := by unfold oAdd; simp
theorem e_sub : oSub M (.int i) (.int j) st Q R = Q (.int (i - j)) st := rfl
theorem e_subO : oSub M (.ob c fs) (.ob c gs) st Q R = callM M c .sub [.ob c fs, .ob c gs] st Q R := by unfold oSub; simp
theorem e_mul : oMul M (.int i) (.int j) st Q R = (MulOk i j ∧ Q (.int (i * j)) st) := rfl
theorem e_mulL : oMul M (.lst xs) (.int j) st Q R = ((0 ≤ j ∧ j < 1000 ∧ xs.length * j.toNat ≤ sizeLine) ∧ Q (.lst ((List.replicate j.toNat xs).flatten)) st) := rfl
theorem e_mulO : oMul M (.ob c fs) (.ob c gs) st Q R = callM M c .mul [.ob c fs, .ob c gs] st Q R := by unfold oMul; simp
theorem e_fdiv : oFdiv (.int i) (.int j) st Q R = (DivOk j ∧ Q (.int (Int.fdiv i j)) st) := rfl
theorem e_mod : oMod (.int i) (.int j) st Q R = (j ≠ 0 ∧ Q (.int (Int.fmod i j)) st) := rfl
theorem e_pow : oPow (.int i) (.int j) st Q R = (PowOk i j ∧ Q (.int (i ^ j.toNat)) st) := rfl
theorem e_lt : oLt (.int i) (.int j) st Q R = Q (.bl (decide (i < j))) st := rfl
theorem e_le : oLe (.int i) (.int j) st Q R = Q (.bl (decide (i ≤ j))) st := rfl
theorem e_gt : oGt (.int i) (.int j) st Q R = Q (.bl (decide (j < i))) st := rfl
theorem e_ge : oGe (.int i) (.int j) st Q R = Q (.bl (decide (j ≤ i))) st := rfl
theorem e_neg : oNeg M (.int i) st Q R = Q (.int (-i)) st := rfl
theorem e_negO : oNeg M (.ob c fs) st Q R = callM M c .neg [.ob c fs] st Q R := rfl
theorem datOk_ii : DatOk (.int i) (.int j) := ⟨rfl, rfl, by simp [D.dep], by simp [D.dep]⟩
theorem datOk_bb {b b' : Bool} : DatOk (.bl b) (.bl b') := ⟨rfl, rfl, by simp [D.dep], by simp [D.dep]⟩
theorem e_eqI : oEqD (.int i) (.int j) st Q R = Q (.bl (decide (i = j))) st := propext ⟨fun h => by have := h.2; simpa [eqD] using this, fun h => ⟨datOk_ii, by simpa [eqD] using h⟩⟩
theorem e_neI : oNeD (.int i) (.int j) st Q R = Q (.bl (decide (i ≠ j))) st := propext ⟨fun h => by have := h.2; simpa [eqD] using this, fun h => ⟨datOk_ii, by simpa [eqD] using h⟩⟩
theorem e_eqB {b b' : Bool} : oEqD (.bl b) (.bl b') st Q R = Q (.bl (b == b')) st := propext ⟨fun h => by have := h.2; simpa [eqD] using this, fun h => ⟨datOk_bb, by simpa [eqD] using h⟩⟩
theorem e_neB {b b' : Bool} : oNeD (.bl b) (.bl b') st Q R = Q (.bl (!(b == b'))) st := propext ⟨fun h => by have := h.2; simpa [eqD] using this, fun h => ⟨datOk_bb, by simpa [eqD] using h⟩⟩
theorem e_eqS : oEqD (.str x) (.str y) st Q R = (DatOk (.str x) (.str y) ∧ Q (.bl (decide (x = y))) st) := by unfold oEqD; simp [eqD]
theorem e_neS : oNeD (.str x) (.str y) st Q R = (DatOk (.str x) (.str y) ∧ Q (.bl (!decide (x = y))) st) := by unfold oNeD; simp [eqD]
/-- a list's or a store's place -/
def getW (o : Option D) (P : D → Prop) (_ : Shut P) : Prop := match o with | some d => P d | none => False
theorem getW_s {d : D} {P : D → Prop} {z : Shut P} : getW (some d) P z = P d := rfl
theorem getW_i {o : Option D} {d : D} {P : D → Prop} {z : Shut P} (h : o = some d) (p : P d) : getW o P z := by rw [h]; exact p
theorem e_ixL : oIx (.lst xs) (.int i) st Q R = getW (atI xs i) (fun d => Q d st) .mk := by
  unfold oIx getW; rfl
theorem e_ixT : oIx (.tup xs) (.int i) st Q R = getW (atI xs i) (fun d => Q d st) .mk := by
  unfold oIx getW; rfl
def celW (o : Option Cell) (P : List D → Prop) (_ : Shut P) : Prop := match o with | some (.lst xs) => P xs | _ => False
theorem celW_s {xs : List D} {P : List D → Prop} {z : Shut P} : celW (some (.lst xs)) P z = P xs := rfl
theorem e_ixC {n : Nat} : oIx (.cel n) (.int i) st Q R = celW st[n]? (fun xs => getW (atI xs i) (fun d => Q d st) .mk) .mk := by
  unfold oIx celW getW; rfl
theorem atI_0 {d : D} {r : List D} : atI (d :: r) 0 = some d := by
  have : ixN (r.length + 1) 0 = some 0 := by unfold ixN; rw [if_pos (by omega), if_pos (by omega)]; rfl
  show (ixN (r.length + 1) 0).bind _ = _
  rw [this]; rfl
theorem atI_1 {d d1 : D} {r : List D} : atI (d :: d1 :: r) 1 = some d1 := by
  have : ixN (r.length + 1 + 1) 1 = some 1 := by unfold ixN; rw [if_pos (by omega), if_pos (by omega)]; rfl
  show (ixN (r.length + 1 + 1) 1).bind _ = _
  rw [this]; rfl
theorem atI_2 {d d1 d2 : D} {r : List D} : atI (d :: d1 :: d2 :: r) 2 = some d2 := by
  have : ixN (r.length + 1 + 1 + 1) 2 = some 2 := by unfold ixN; rw [if_pos (by omega), if_pos (by omega)]; rfl
  show (ixN (r.length + 1 + 1 + 1) 2).bind _ = _
  rw [this]; rfl
theorem atI_3 {d d1 d2 d3 : D} {r : List D} : atI (d :: d1 :: d2 :: d3 :: r) 3 = some d3 := by
  have : ixN (r.length + 1 + 1 + 1 + 1) 3 = some 3 := by unfold ixN; rw [if_pos (by omega), if_pos (by omega)]; rfl
  show (ixN (r.length + 1 + 1 + 1 + 1) 3).bind _ = _
  rw [this]; rfl
theorem atI_nat {xs : List D} {k : Nat} : atI xs (k : Int) = xs[k]? := by
  unfold atI ixN
  rw [if_pos (by omega)]
  by_cases h : k < xs.length
  · rw [if_pos (by omega)]; rfl
  · rw [if_neg (by omega)]
    exact (List.getElem?_eq_none (by omega)).symm
theorem ixN_10 : ixN 1 0 = some 0 := rfl
theorem ixN_20 : ixN 2 0 = some 0 := rfl
theorem ixN_21 : ixN 2 1 = some 1 := rfl
theorem ixN_30 : ixN 3 0 = some 0 := rfl
theorem ixN_31 : ixN 3 1 = some 1 := rfl
theorem ixN_32 : ixN 3 2 = some 2 := rfl
theorem ixN_40 : ixN 4 0 = some 0 := rfl
theorem ixN_41 : ixN 4 1 = some 1 := rfl
theorem ixN_42 : ixN 4 2 = some 2 := rfl
theorem ixN_43 : ixN 4 3 = some 3 := rfl
theorem ixN_l0 {n : Nat} (h : 0 < n) : ixN n 0 = some 0 := by unfold ixN; rw [if_pos (by omega), if_pos (by omega)]; rfl
theorem e_lenL : oLen [.lst xs] st Q R = Q (.int xs.length) st := rfl
theorem e_lenT : oLen [.tup xs] st Q R = Q (.int xs.length) st := rfl
theorem e_lenS : oLen [.str y] st Q R = (y.length ≤ sizeLine ∧ Q (.int y.length) st) := rfl
theorem e_abs : oAbs [.int i] st Q R = Q (.int i.natAbs) st := by
  have : (if i < 0 then -i else i) = (i.natAbs : Int) := by omega
  unfold oAbs; simp only [this]
theorem e_intI : oInt [.int i] st Q R = Q (.int i) st := rfl
theorem e_intB {b : Bool} : oInt [.bl b] st Q R = Q (.int (if b then 1 else 0)) st := rfl
theorem e_listL : oList [.lst xs] st Q R = Q (.lst xs) st := rfl
theorem e_listT : oList [.tup xs] st Q R = Q (.lst xs) st := rfl
theorem e_tupleL : oTuple [.lst xs] st Q R = Q (.tup xs) st := rfl
theorem e_tupleT : oTuple [.tup xs] st Q R = Q (.tup xs) st := rfl
theorem e_slL {a b : Option Int} : oSl (.lst xs) a b st Q R = Q (.lst (cutD xs a b)) st := rfl
theorem intW_i {P : Int → Prop} : intW (.int i) P = P i := rfl
theorem e_woSome {w : WE} {env : Envr} {Qo : Option Int → Store → Prop} : woSome w env st Qo R = w env st (fun d st1 => intW d fun i => Qo (some i) st1) R := by
  rfl
theorem e_slR {a b : Option Int} : oSl (.scr xs) a b st Q R = Q (.lst (cutD xs a b)) st := rfl
theorem e_par {i k : Nat} {ta : WA} {env : Envr} {D : EW} : wPar i k ta env st D = ta env st (fun ds st1 => parW i k env D ds st1) (xe D env) := by
  unfold wPar; rfl
theorem e_parW {i k : Nat} {env : Envr} {D : EW} {d1 d2 : G.D} : parW i k env D [d1, d2] st = D.nx ((env.set i (.val d1)).set k (.val d2)) st := rfl
theorem e_gTup {n : Nat} {t : WGs} {ds : List D} {env : Envr} {Qe : Envr → Store → Prop} : wgTup n t (.tup ds) env st Qe = (ds.length = n ∧ t ds env st Qe) := rfl
theorem e_gTupL {n : Nat} {t : WGs} {ds : List D} {env : Envr} {Qe : Envr → Store → Prop} : wgTup n t (.lst ds) env st Qe = (ds.length = n ∧ t ds env st Qe) := rfl
theorem e_gsNil {env : Envr} {Qe : Envr → Store → Prop} : wgsNil [] env st Qe = Qe env st := rfl
theorem e_gsCons {t : WG} {u : WGs} {d : D} {r : List D} {env : Envr} {Qe : Envr → Store → Prop} : wgsCons t u (d :: r) env st Qe = t d env st (fun env' st' => u r env' st' Qe) := rfl
theorem e_iLst {wa : WE} {env : Envr} {Qi : List D → Store → Prop} : wiLst wa env st Qi R = wa env st (fun d st1 => lstW d fun ds => Qi ds st1) R := by
  rfl
theorem lstW_i {P : List D → Prop} : lstW (.lst xs) P = P xs := rfl
theorem e_iTup {wa : WE} {env : Envr} {Qi : List D → Store → Prop} : wiTup wa env st Qi R = wa env st (fun d st1 => tupW d fun ds => Qi ds st1) R := by
  rfl
theorem tupW_i {P : List D → Prop} : tupW (.tup xs) P = P xs := rfl
theorem e_iR1 {ta : WA} {env : Envr} {Qi : List D → Store → Prop} : wiR1 ta env st Qi R = ta env st (fun ds st1 => r1W ds fun k => (-(2 ^ 62) ≤ k ∧ k < 2 ^ 62) ∧ Qi (rngD 0 k.toNat) st1) R := by
  unfold wiR1; rfl
theorem r1W_i {P : Int → Prop} : r1W [.int i] P = P i := rfl
theorem e_iR2 {ta : WA} {env : Envr} {Qi : List D → Store → Prop} : wiR2 ta env st Qi R = ta env st (fun ds st1 => r2W ds fun i k => (-(2 ^ 62) ≤ i ∧ i < 2 ^ 62 ∧ -(2 ^ 62) ≤ k ∧ k < 2 ^ 62) ∧ Qi (rngD i (k - i).toNat) st1) R := by
  unfold wiR2; rfl
theorem r2W_i {P : Int → Int → Prop} : r2W [.int i, .int j] P = P i j := rfl
theorem e_iZip {ta : WA} {env : Envr} {Qi : List D → Store → Prop} : wiZip ta env st Qi R = ta env st (fun ds st1 => zipW ds fun zs => Qi zs st1) R := by
  rfl
theorem zipW_l {P : List D → Prop} : zipW [.lst xs, .lst ys] P = P (zipD xs ys) := rfl
theorem zipW_t {P : List D → Prop} : zipW [.tup xs, .tup ys] P = P (zipD xs ys) := rfl
theorem e_put {i : Nat} {wk wa : WE} {env : Envr} {D : EW} : wPut i wk wa env st D = putW env[i]? i wk wa env st D .mk := by
  unfold wPut putW; rfl
theorem e_putO {i : Nat} {wk wa : WE} {env : Envr} {D : EW} {ds : List G.D} {z : Shut D} : putW (some (.own ds)) i wk wa env st D z = wa env st (fun d st1 => wk env st1 (fun k st2 => intW k fun k => natW (ixN ds.length k) (fun m => D.nx (env.set i (.own (ds.set m d))) st2) .mk) (xe D env)) (xe D env) := rfl
theorem e_putC {i n : Nat} {wk wa : WE} {env : Envr} {D : EW} {z : Shut D} : putW (some (.val (.cel n))) i wk wa env st D z = wa env st (fun d st1 => wk env st1 (fun k st2 => intW k fun k => celW st2[n]? (fun ds => natW (ixN ds.length k) (fun m => D.nx env (st2.set n (.lst (ds.set m d)))) .mk) .mk) (xe D env)) (xe D env) := rfl
theorem natW_s {n : Nat} {P : Nat → Prop} {z : Shut P} : natW (some n) P z = P n := rfl
theorem e_aug {i : Nat} {o : O2} {wa : WE} {env : Envr} {D : EW} : wAug i o wa env st D = augW env[i]? i o wa env st D .mk := by
  unfold wAug augW; rfl
theorem e_augV {i : Nat} {o : O2} {wa : WE} {env : Envr} {D : EW} {d1 : G.D} {z : Shut D} : augW (some (.val d1)) i o wa env st D z = wa env st (fun d2 st1 => o d1 d2 st1 (fun d st2 => D.nx (env.set i (.val d)) st2) (xe D env)) (xe D env) := rfl
theorem e_app {i : Nat} {wa : WE} {env : Envr} {D : EW} : wApp i wa env st D = appW env[i]? i wa env st D .mk := by
  unfold wApp appW; rfl
theorem e_appV {i : Nat} {wa : WE} {env : Envr} {D : EW} {ds : List G.D} {z : Shut D} : appW (some (.own ds)) i wa env st D z = wa env st (fun d st1 => ds.length < sizeLine ∧ D.nx (env.set i (.own (ds ++ [d]))) st1) (xe D env) := rfl
theorem e_addI : oAddI (.int i) (.int j) st Q R = Q (.int (i + j)) st := rfl
theorem e_addIS : oAddI (.str x) (.str y) st Q R = (x.length + y.length ≤ sizeLine ∧ Q (.str (x ++ y)) st) := rfl
theorem e_subI : oSubI (.int i) (.int j) st Q R = Q (.int (i - j)) st := rfl
theorem e_mulI : oMulI (.int i) (.int j) st Q R = (((-(2 ^ 64) < i ∧ i < 2 ^ 64) ∨ (-(2 ^ 64) < j ∧ j < 2 ^ 64)) ∧ Q (.int (i * j)) st) := rfl
theorem e_fdivI : oFdivI (.int i) (.int j) st Q R = ((0 < j ∧ j < 1073741824) ∧ Q (.int (i / j)) st) := rfl
theorem e_frzN {env : Envr} : frz [] env = env := rfl
theorem e_frzO {ds : List D} {e : Envr} : frz1 (.own ds :: e) 0 = .val (.lst ds) :: e := rfl
theorem e_frzV {d : D} {e : Envr} : frz1 (.val d :: e) 0 = .val d :: e := rfl
theorem e_frzX {e : Envr} : frz1 (.no :: e) 0 = .no :: e := rfl
theorem e_frzS {i : Nat} {x : Slot} {e : Envr} : frz1 (x :: e) (i + 1) = x :: frz1 e i := by
  unfold frz1
  rw [List.getElem?_cons_succ]
  cases h : e[i]? with
  | none => rfl
  | some v => cases v <;> rfl
theorem e_frzC {i : Nat} {is : List Nat} {env : Envr} : frz (i :: is) env = frz is (frz1 env i) := rfl
theorem e_all : oAll [.lst xs] st Q R = blsW (D.bls xs) (fun bs => Q (.bl (bs.all id)) st) .mk := rfl
theorem e_any : oAny [.lst xs] st Q R = blsW (D.bls xs) (fun bs => Q (.bl (bs.any id)) st) .mk := rfl
theorem e_sum : oSum [.lst xs] st Q R = intsW (D.ints xs) (fun bs => Q (.int bs.sum) st) .mk := rfl
theorem blsW_s {bs : List Bool} {P : List Bool → Prop} {z : Shut P} : blsW (some bs) P z = P bs := rfl
theorem intsW_s {bs : List Int} {P : List Int → Prop} {z : Shut P} : intsW (some bs) P z = P bs := rfl
theorem e_truN {Qb : Bool → Store → Prop} : oTru M .non st Qb R = Qb false st := rfl
theorem e_truB {b : Bool} {Qb : Bool → Store → Prop} : oTru M (.bl b) st Qb R = Qb b st := rfl
theorem e_truI {Qb : Bool → Store → Prop} : oTru M (.int i) st Qb R = Qb (i != 0) st := rfl
theorem e_truL {Qb : Bool → Store → Prop} : oTru M (.lst xs) st Qb R = Qb (!xs.isEmpty) st := rfl
theorem e_truT {Qb : Bool → Store → Prop} : oTru M (.tup xs) st Qb R = Qb (!xs.isEmpty) st := rfl
theorem e_isiT {d : D} {cs : List D} : oIsi I [d, .tup cs] st Q R = bo1W (isiDs I d cs) (fun r => cs ≠ [] ∧ Q (.bl r) st) .mk := rfl
theorem e_isiC {d : D} {c : Nat} : oIsi I [d, .cls c] st Q R = bo1W (isiD I d (.cls c)) (fun r => Q (.bl r) st) .mk := rfl
theorem e_isiY {d : D} {s : String} : oIsi I [d, .ty s] st Q R = bo1W (isiD I d (.ty s)) (fun r => Q (.bl r) st) .mk := rfl
theorem bo1W_s {b : Bool} {P : Bool → Prop} {z : Shut P} : bo1W (some b) P z = P b := rfl
theorem isi_ii : isiD I (.int i) (.ty "int") = some true := rfl
theorem isi_is : isiD I (.int i) (.ty "str") = some false := rfl
theorem isi_ib : isiD I (.int i) (.ty "bool") = some false := rfl
theorem isi_it : isiD I (.int i) (.ty "tuple") = some false := rfl
theorem isi_il : isiD I (.int i) (.ty "list") = some false := rfl
theorem isi_bi {b : Bool} : isiD I (.bl b) (.ty "int") = some true := rfl
theorem isi_bs {b : Bool} : isiD I (.bl b) (.ty "str") = some false := rfl
theorem isi_bb {b : Bool} : isiD I (.bl b) (.ty "bool") = some true := rfl
theorem isi_bt {b : Bool} : isiD I (.bl b) (.ty "tuple") = some false := rfl
theorem isi_bll {b : Bool} : isiD I (.bl b) (.ty "list") = some false := rfl
theorem isi_ni : isiD I .non (.ty "int") = some false := rfl
theorem isi_ns : isiD I .non (.ty "str") = some false := rfl
theorem isi_nb : isiD I .non (.ty "bool") = some false := rfl
theorem isi_nt : isiD I .non (.ty "tuple") = some false := rfl
theorem isi_nl : isiD I .non (.ty "list") = some false := rfl
theorem isi_si : isiD I (.str x) (.ty "int") = some false := rfl
theorem isi_ss : isiD I (.str x) (.ty "str") = some true := rfl
theorem isi_sb : isiD I (.str x) (.ty "bool") = some false := rfl
theorem isi_st : isiD I (.str x) (.ty "tuple") = some false := rfl
theorem isi_sl : isiD I (.str x) (.ty "list") = some false := rfl
theorem isi_ti : isiD I (.tup xs) (.ty "int") = some false := rfl
theorem isi_ts : isiD I (.tup xs) (.ty "str") = some false := rfl
theorem isi_tb : isiD I (.tup xs) (.ty "bool") = some false := rfl
theorem isi_tt : isiD I (.tup xs) (.ty "tuple") = some true := rfl
theorem isi_tl : isiD I (.tup xs) (.ty "list") = some false := rfl
theorem isi_li : isiD I (.lst xs) (.ty "int") = some false := rfl
theorem isi_ls : isiD I (.lst xs) (.ty "str") = some false := rfl
theorem isi_lb : isiD I (.lst xs) (.ty "bool") = some false := rfl
theorem isi_lt : isiD I (.lst xs) (.ty "tuple") = some false := rfl
theorem isi_ll : isiD I (.lst xs) (.ty "list") = some true := rfl
theorem isi_ds0 {d : D} : isiDs I d [] = some false := rfl
theorem isi_dsT {d c : D} {cs : List D} (h : isiD I d c = some true) : isiDs I d (c :: cs) = bo2 (isiDs I d cs) := by
  unfold bo2; rw [isiDs, h] <;> rfl
theorem isi_isI : isiDs I (.int i) [.ty "int", .ty "str"] = some true := rfl
theorem isi_isS : isiDs I (.str x) [.ty "int", .ty "str"] = some true := rfl
theorem isi_isB {b : Bool} : isiDs I (.bl b) [.ty "int", .ty "str"] = some true := rfl
theorem isi_isN : isiDs I (.non) [.ty "int", .ty "str"] = some false := rfl
theorem isi_isT : isiDs I (.tup xs) [.ty "int", .ty "str"] = some false := rfl
theorem isi_isL : isiDs I (.lst xs) [.ty "int", .ty "str"] = some false := rfl
theorem ixZ_0 : (0 ≤ sizeLine) = True := eq_true (by decide)
theorem ixZ_1 : (1 ≤ sizeLine) = True := eq_true (by decide)
theorem ixZ_2 : (2 ≤ sizeLine) = True := eq_true (by decide)
theorem ixZ_3 : (3 ≤ sizeLine) = True := eq_true (by decide)
theorem ixZ_4 : (4 ≤ sizeLine) = True := eq_true (by decide)
theorem ixZ_5 : (5 ≤ sizeLine) = True := eq_true (by decide)
theorem ixZ_6 : (6 ≤ sizeLine) = True := eq_true (by decide)
theorem ixZ_7 : (7 ≤ sizeLine) = True := eq_true (by decide)
theorem ixZ_8 : (8 ≤ sizeLine) = True := eq_true (by decide)
theorem ixZ_9 : (9 ≤ sizeLine) = True := eq_true (by decide)
theorem ixZ_10 : (10 ≤ sizeLine) = True := eq_true (by decide)
theorem ixZ_11 : (11 ≤ sizeLine) = True := eq_true (by decide)
theorem ixZ_12 : (12 ≤ sizeLine) = True := eq_true (by decide)
theorem ixZ_13 : (13 ≤ sizeLine) = True := eq_true (by decide)
theorem ixZ_14 : (14 ≤ sizeLine) = True := eq_true (by decide)
theorem ixZ_15 : (15 ≤ sizeLine) = True := eq_true (by decide)
theorem ixZ_16 : (16 ≤ sizeLine) = True := eq_true (by decide)
theorem bo2_s {b : Bool} : bo2 (some b) = some true := rfl
theorem isi_dsF {d c : D} {cs : List D} (h : isiD I d c = some false) : isiDs I d (c :: cs) = isiDs I d cs := by
  rw [isiDs, h]
theorem e_nonN : D.isNon .non = true := rfl
theorem e_nonI : D.isNon (.int i) = false := rfl
theorem e_nonB {b : Bool} : D.isNon (.bl b) = false := rfl
theorem e_nonS : D.isNon (.str x) = false := rfl
theorem e_nonT : D.isNon (.tup xs) = false := rfl
theorem e_nonL : D.isNon (.lst xs) = false := rfl
theorem e_nonO : D.isNon (.ob c fs) = false := rfl
end
/-- a def's ends -/
def fnW (Q : QE) (R : XQ) : EW := { nx := fun _ st' => Q .non st', rt := Q, bk := fun _ _ => False, ct := fun _ _ => False, ex := fun x _ st' => R x st' }
theorem fnW_rt {Q : QE} {R : XQ} : (fnW Q R).rt = Q := rfl
theorem fnW_nx {Q : QE} {R : XQ} {env : Envr} {st : Store} : (fnW Q R).nx env st = Q .non st := rfl
theorem fnW_ex {Q : QE} {R : XQ} {x : Exc} {env : Envr} {st : Store} : (fnW Q R).ex x env st = R x st := rfl
theorem forW_i {t : WG} {w : WS} {D0 : EW} {z1 z2 z3} (I : Nat → Envr → Store → Prop) : ∀ {ds : List D} {env : Envr} {st : Store}, I 0 env st →
    (∀ i d env st, ds[i]? = some d → I i env st → ∀ K : Envr → Store → Prop, (∀ e s, I (i + 1) e s → K e s) → t d env st (fun env1 st1 => w env1 st1 (loopK D0 K))) →
    (∀ env st, I ds.length env st → D0.nx env st) → forW t w D0 ds env st z1 z2 z3 := by
  intro ds
  induction ds generalizing I with
  | nil => intro env st h0 _ he; exact he _ _ h0
  | cons d ds ih =>
    intro env st h0 hs he
    show wForL t w D0 (d :: ds) env st
    unfold wForL
    exact hs 0 d env st rfl h0 _ fun e s h => ih (fun i => I (i + 1)) h (fun i d' env st hd hi K hK => hs (i + 1) d' env st (by simpa using hd) hi K hK) fun env st hx => he env st hx
theorem whileW_i {t : WT} {w : WS} {D0 : EW} {z1 z2 z3} (I : Nat → Envr → Store → Prop) {env : Envr} {st : Store} {m : Nat} (h0 : I m env st)
    (hs : ∀ m env st, I m env st → ∀ K : Envr → Store → Prop, (∀ m' e s, m' < m → I m' e s → K e s) → t env st (fun b st1 => iteW b (w env st1 (loopK D0 K)) (D0.nx env st1) .mk .mk) (xe D0 env)) : whileW t w D0 env st z1 z2 z3 :=
  ⟨I, ⟨m, h0⟩, fun m env st h => hs m env st h _ fun m' e s hm hi => ⟨m', hm, hi⟩⟩
theorem lcW_i {vs : List Nat} {t : WG} {tt : WT} {we : WE} {Q : List D → Store → Prop} {env : Envr} {z1 z2 z3 z4} (I : Nat → List D → Store → Prop) : ∀ {ds acc : List D} {st : Store}, I 0 acc st →
    (∀ i d acc st, ds[i]? = some d → I i acc st → ∀ K : List D → Store → Prop, (∀ a s, I (i + 1) a s → K a s) → t d (wipeE env vs) st (fun env1 st1 => tt env1 st1 (fun b st2 => iteW b (we env1 st2 (fun y st3 => acc.length < sizeLine ∧ K (acc ++ [y]) st3) noX) (K acc st2) .mk .mk) noX)) →
    (∀ acc st, I ds.length acc st → Q acc st) → lcW vs t tt we Q env ds acc st z1 z2 z3 z4 := by
  intro ds
  induction ds generalizing I with
  | nil => intro acc st h0 _ he; exact he _ _ h0
  | cons d ds ih =>
    intro acc st h0 hs he
    show wLcL vs t tt we env Q (d :: ds) acc st
    unfold wLcL
    exact hs 0 d acc st rfl h0 _ fun e s h => ih (fun i => I (i + 1)) h (fun i d' env st hd hi K hK => hs (i + 1) d' env st (by simpa using hd) hi K hK) fun env st hx => he env st hx
theorem e_wipe0 {env : Envr} : wipeE env [] = env := rfl
theorem e_wipe1 {env : Envr} {v : Nat} {vs : List Nat} : wipeE env (v :: vs) = (wipeE env vs).set v Slot.no := rfl
theorem e_wYes {env : Envr} {st : Store} {Qb : Bool → Store → Prop} {R : XQ} : wYes env st Qb R = Qb true st := rfl
end G
namespace G
open PySem PySem.Spec PyProof.Rows L2
def mW (o : Option WF) (ds : List D) (st : Store) (Q : QE) (R : XQ) (_ : Shut Q) (_ : Shut R) : Prop := match o with
  | some φ => callW φ ds st Q R .mk .mk
  | none => False
theorem mW_s {φ : WF} {ds : List D} {st : Store} {Q : QE} {R : XQ} {x : Shut Q} {y : Shut R} : mW (some φ) ds st Q R x y = callW φ ds st Q R .mk .mk := rfl
theorem e_callM {M : MT} {c : Nat} {m : Mn} {ds : List D} {st : Store} {Q : QE} {R : XQ} : callM M c m ds st Q R = mW (M c m) ds st Q R .mk .mk := by
  unfold callM mW
  cases M c m <;> rfl
def attW (o : Option WF) (b : Bool) (v : Option D) (d : D) (st : Store) (Q : QE) (_ : Shut Q) : Prop := match o with
  | some φ => callW φ [d] st Q noX .mk .mk
  | none => b = true ∧ (match v with | some x => Q x st | none => False)
theorem attW_p {φ : WF} {b : Bool} {v : Option D} {d : D} {st : Store} {Q : QE} {z : Shut Q} : attW (some φ) b v d st Q z = callW φ [d] st Q noX .mk .mk := rfl
theorem attW_f {x d : D} {st : Store} {Q : QE} {z : Shut Q} : attW none true (some x) d st Q z = Q x st := by unfold attW; simp
theorem e_attO {F : Nat → Nat → Bool} {T : Nat → Nat → Option WF} {i c : Nat} {fs : List (Nat × D)} {st : Store} {Q : QE} {R : XQ} : oAtt F T i (.ob c fs) st Q R = attW (T c i) (F c i) (getD' i fs) (.ob c fs) st Q .mk := by
  unfold oAtt attOb attW
  dsimp only
  cases T c i <;> rfl
def insW (o : Option Cell) (P : Nat → List (Nat × D) → Prop) (_ : Shut P) : Prop := match o with
  | some (.ins c fs) => P c fs
  | _ => False
theorem insW_s {c : Nat} {fs : List (Nat × D)} {P : Nat → List (Nat × D) → Prop} {z : Shut P} : insW (some (.ins c fs)) P z = P c fs := rfl
theorem e_attC {F : Nat → Nat → Bool} {T : Nat → Nat → Option WF} {i n : Nat} {st : Store} {Q : QE} {R : XQ} : oAtt F T i (.cel n) st Q R = insW st[n]? (fun c fs => attW (T c i) (F c i) (getD' i fs) (.cel n) st Q .mk) .mk := by
  have at_ : ∀ c fs, attOb F T i (.cel n) c fs st Q = attW (T c i) (F c i) (getD' i fs) (.cel n) st Q .mk := fun c fs => by
    unfold attOb attW
    cases T c i <;> rfl
  unfold oAtt insW
  dsimp only
  cases st[n]? with
  | none => rfl
  | some cl =>
    cases cl with
    | lst xs => rfl
    | ins c fs => exact at_ c fs
theorem e_getC {i k : Nat} {x : D} {r : List (Nat × D)} : getD' i ((k, x) :: r) = if k = i then some x else getD' i r := rfl
theorem e_getN {i : Nat} : getD' i [] = none := rfl
theorem e_putC' {i k : Nat} {x d : D} {r : List (Nat × D)} : putD i d ((k, x) :: r) = if k = i then (k, d) :: r else (k, x) :: putD i d r := rfl
theorem e_putN {i : Nat} {d : D} : putD i d [] = [(i, d)] := rfl
def mthW (o : Option (Nat × List (Nat × D))) (M : MT) (i : Nat) (d : D) (ta : WA) (env : Envr) (st : Store) (Q : QE) (R : XQ) (_ : Shut Q) (_ : Shut R) : Prop := match o with
  | some (c, fs) => getD' i fs = none ∧ (match M c (.nm i) with
    | some φ => ta env st (fun ds st2 => φ (d :: ds) st2 Q R) R
    | none => False)
  | none => False
theorem e_wMeth {M : MT} {i : Nat} {wa : WE} {ta : WA} {env : Envr} {st : Store} {Q : QE} {R : XQ} : wMeth M i wa ta env st Q R = wa env st (fun d st1 => mthW (clsOf d st1) M i d ta env st1 Q R .mk .mk) R := by
  unfold wMeth mthW; rfl
theorem e_clsO {c : Nat} {fs : List (Nat × D)} {st : Store} : clsOf (.ob c fs) st = some (c, fs) := rfl
theorem e_clsC {n : Nat} {st : Store} : clsOf (.cel n) st = (match st[n]? with | some (.ins c fs) => some (c, fs) | _ => none) := rfl
def mthZW (o : Option WF) (d : D) (ta : WA) (env : Envr) (st : Store) (Q : QE) (R : XQ) (_ : Shut Q) (_ : Shut R) : Prop := match o with
  | some φ => ta env st (fun ds st2 => callW φ (d :: ds) st2 Q R .mk .mk) R
  | none => False
theorem mthW_s {c : Nat} {fs : List (Nat × D)} {M : MT} {i : Nat} {d : D} {ta : WA} {env : Envr} {st : Store} {Q : QE} {R : XQ} {x : Shut Q} {y : Shut R} : mthW (some (c, fs)) M i d ta env st Q R x y = (getD' i fs = none ∧ mthZW (M c (.nm i)) d ta env st Q R .mk .mk) := by
  unfold mthW mthZW
  dsimp only
  cases M c (.nm i) <;> rfl
theorem mthZW_s {φ : WF} {d : D} {ta : WA} {env : Envr} {st : Store} {Q : QE} {R : XQ} {x : Shut Q} {y : Shut R} : mthZW (some φ) d ta env st Q R x y = ta env st (fun ds st2 => callW φ (d :: ds) st2 Q R .mk .mk) R := rfl
def ownW (o : Option WF) (neg : Bool) (c : Nat) (fs gs : List (Nat × D)) (st : Store) (Q : QE) (R : XQ) (_ : Shut Q) (_ : Shut R) : Prop := match o with
  | some φ => callW φ [.ob c fs, .ob c gs] st (fun r st1 => blW r fun b => Q (.bl (b != neg)) st1) R .mk .mk
  | none => False
theorem ownW_s {φ : WF} {neg : Bool} {c : Nat} {fs gs : List (Nat × D)} {st : Store} {Q : QE} {R : XQ} {x : Shut Q} {y : Shut R} : ownW (some φ) neg c fs gs st Q R x y = callW φ [.ob c fs, .ob c gs] st (fun r st1 => blW r fun b => Q (.bl (b != neg)) st1) R .mk .mk := rfl
theorem own_eq {T : Nat → Option WF} {neg : Bool} {c : Nat} {fs gs : List (Nat × D)} {st : Store} {Q : QE} {R : XQ} : ownEq T neg c fs gs st Q R = ownW (T c) neg c fs gs st Q R .mk .mk := by
  unfold ownEq ownW
  cases T c with
  | none => rfl
  | some φ => rfl
theorem e_eqOO {T : Nat → Option WF} {c : Nat} {fs gs : List (Nat × D)} {st : Store} {Q : QE} {R : XQ} : oEqO T (.ob c fs) (.ob c gs) st Q R = ownW (T c) false c fs gs st Q R .mk .mk := by
  rw [← own_eq]; unfold oEqO; simp
theorem e_neOO {T : Nat → Option WF} {c : Nat} {fs gs : List (Nat × D)} {st : Store} {Q : QE} {R : XQ} : oNeO T (.ob c fs) (.ob c gs) st Q R = ownW (T c) true c fs gs st Q R .mk .mk := by
  rw [← own_eq]; unfold oNeO; simp
theorem e_eqOI {T : Nat → Option WF} {i j : Int} {st : Store} {Q : QE} {R : XQ} : oEqO T (.int i) (.int j) st Q R = Q (.bl (decide (i = j))) st := e_eqI (R := R)
theorem e_neOI {T : Nat → Option WF} {i j : Int} {st : Store} {Q : QE} {R : XQ} : oNeO T (.int i) (.int j) st Q R = Q (.bl (decide (i ≠ j))) st := e_neI (R := R)
theorem e_eqOT {T : Nat → Option WF} {xs ys : List D} {st : Store} {Q : QE} {R : XQ} : oEqO T (.tup xs) (.tup ys) st Q R = oEqD (.tup xs) (.tup ys) st Q R := rfl
theorem e_neOT {T : Nat → Option WF} {xs ys : List D} {st : Store} {Q : QE} {R : XQ} : oNeO T (.tup xs) (.tup ys) st Q R = oNeD (.tup xs) (.tup ys) st Q R := rfl
theorem e_eqOL {T : Nat → Option WF} {xs ys : List D} {st : Store} {Q : QE} {R : XQ} : oEqO T (.lst xs) (.lst ys) st Q R = oEqD (.lst xs) (.lst ys) st Q R := rfl
theorem e_neOL {T : Nat → Option WF} {xs ys : List D} {st : Store} {Q : QE} {R : XQ} : oNeO T (.lst xs) (.lst ys) st Q R = oNeD (.lst xs) (.lst ys) st Q R := rfl
theorem e_eqTT {xs ys : List D} {st : Store} {Q : QE} {R : XQ} : oEqD (.tup xs) (.tup ys) st Q R = (DatOk (.tup xs) (.tup ys) ∧ Q (.bl (eqDs xs ys)) st) := by unfold oEqD; simp [eqD]
theorem e_neTT {xs ys : List D} {st : Store} {Q : QE} {R : XQ} : oNeD (.tup xs) (.tup ys) st Q R = (DatOk (.tup xs) (.tup ys) ∧ Q (.bl (!eqDs xs ys)) st) := by unfold oNeD; simp [eqD]
theorem e_eqLL {xs ys : List D} {st : Store} {Q : QE} {R : XQ} : oEqD (.lst xs) (.lst ys) st Q R = (DatOk (.lst xs) (.lst ys) ∧ Q (.bl (eqDs xs ys)) st) := by unfold oEqD; simp [eqD]
theorem e_neLL {xs ys : List D} {st : Store} {Q : QE} {R : XQ} : oNeD (.lst xs) (.lst ys) st Q R = (DatOk (.lst xs) (.lst ys) ∧ Q (.bl (!eqDs xs ys)) st) := by unfold oNeD; simp [eqD]
def mkW (v : Bool) (c : Nat) (φ : WF) (ds : List D) (st : Store) (Q : QE) (R : XQ) (_ : Shut Q) (_ : Shut R) : Prop := (if v = true then mkV c φ else mkC c φ) ds st Q R
theorem e_wMk {v : Bool} {c : Nat} {φ : WF} {ta : WA} {env : Envr} {st : Store} {Q : QE} {R : XQ} : wMk v c φ ta env st Q R = ta env st (fun ds st1 => mkW v c φ ds st1 Q R .mk .mk) R := rfl
def sqW (d : D) (P : List D → Prop) : Prop := match d with | .tup xs => P xs | .lst xs => P xs | _ => False
theorem sqW_t {xs : List D} {P : List D → Prop} : sqW (.tup xs) P = P xs := rfl
theorem sqW_l {xs : List D} {P : List D → Prop} : sqW (.lst xs) P = P xs := rfl
theorem e_wMkS {v : Bool} {c : Nat} {φ : WF} {wa : WE} {env : Envr} {st : Store} {Q : QE} {R : XQ} : wMkS v c φ wa env st Q R = wa env st (fun d st1 => sqW d fun ds => mkW v c φ ds st1 Q R .mk .mk) R := by
  rfl
theorem mkW_v {c : Nat} {φ : WF} {ds : List D} {st : Store} {Q : QE} {R : XQ} {x : Shut Q} {y : Shut R} (h : φ (.cel st.length :: ds) (st ++ [.ins c []]) (fun r st2 => r = .non ∧ ∃ fs, st2 = st ++ [.ins c fs] ∧ D.nocF st.length fs ∧ Q (.ob c fs) st) (fun x st2 => ∃ fs, st2 = st ++ [.ins c fs] ∧ D.nocF st.length x.fs ∧ R x st)) : mkW true c φ ds st Q R x y := h
theorem mkW_c {c : Nat} {φ : WF} {ds : List D} {st : Store} {Q : QE} {R : XQ} {x : Shut Q} {y : Shut R} (h : φ (.cel st.length :: ds) (st ++ [.ins c []]) (fun r st2 => r = .non ∧ Q (.cel st.length) st2) R) : mkW false c φ ds st Q R x y := h
def fldW (F : Nat → Nat → Bool) (i : Nat) (y x : D) (env : Envr) (st : Store) (D0 : EW) (_ : Shut D0) : Prop := match x with
  | .cel n => insW st[n]? (fun c fs => F c i = true ∧ fs.length < 1000 ∧ D0.nx env (st.set n (.ins c (putD i y fs)))) .mk
  | _ => False
theorem fldW_c {F : Nat → Nat → Bool} {i n : Nat} {y : D} {env : Envr} {st : Store} {D0 : EW} {z : Shut D0} : fldW F i y (.cel n) env st D0 z = insW st[n]? (fun c fs => F c i = true ∧ fs.length < 1000 ∧ D0.nx env (st.set n (.ins c (putD i y fs)))) .mk := rfl
theorem e_wFld {F : Nat → Nat → Bool} {i : Nat} {wo wv : WE} {env : Envr} {st : Store} {D0 : EW} : wFld F i wo wv env st D0 = wv env st (fun y st1 => wo env st1 (fun x st2 => fldW F i y x env st2 D0 .mk) (xe D0 env)) (xe D0 env) := by
  rfl
theorem st_last {st : Store} {c : Cell} : (st ++ [c])[st.length]? = some c := by simp
theorem st_setL {st : Store} {c c' : Cell} : (st ++ [c]).set st.length c' = st ++ [c'] := by
  rw [List.set_append_right _ _ (Nat.le_refl _)]; simp
def isW (vs : List Nat) (t : WG) (we : WE) (Q : List Int → Store → Prop) (env : Envr) (ds : List D) (acc : List Int) (st : Store) (_ : Shut t) (_ : Shut we) (_ : Shut Q) : Prop := wIsL vs t we env Q ds acc st
theorem e_wLenIs {wi : WI} {vs : List Nat} {t : WG} {we : WE} {env : Envr} {st : Store} {Q : QE} {R : XQ} : wLenIs wi vs t we env st Q R = wi env st (fun ds st1 => isW vs t we (fun acc st2 => (acc.length : Int) < 2 ^ 63 ∧ Q (.int acc.length) st2) env ds [] st1 .mk .mk .mk) R := rfl
theorem isW_i {vs : List Nat} {t : WG} {we : WE} {Q : List Int → Store → Prop} {env : Envr} {z1 z2 z3} (I : Nat → List Int → Store → Prop) : ∀ {ds : List D} {acc : List Int} {st : Store}, I 0 acc st →
    (∀ i d acc st, ds[i]? = some d → I i acc st → ∀ K : List Int → Store → Prop, (∀ a s, I (i + 1) a s → K a s) → t d (wipeE env vs) st (fun env1 st1 => we env1 st1 (fun y st2 => intW y fun k => acc.length + 1 < scanBound ∧ K (if k ∈ acc then acc else acc ++ [k]) st2) noX)) →
    (∀ acc st, I ds.length acc st → Q acc st) → isW vs t we Q env ds acc st z1 z2 z3 := by
  intro ds
  induction ds generalizing I with
  | nil => intro acc st h0 _ he; exact he _ _ h0
  | cons d ds ih =>
    intro acc st h0 hs he
    show wIsL vs t we env Q (d :: ds) acc st
    unfold wIsL
    exact hs 0 d acc st rfl h0 _ fun e s h => ih (fun i => I (i + 1)) h (fun i d' acc st hd hi K hK => hs (i + 1) d' acc st (by simpa using hd) hi K hK) fun acc st hx => he acc st hx
theorem e_addT {c i c' i' : Nat} {φ : WF} {T : Nat → Nat → Option WF} : addT c i φ T c' i' = if c' = c ∧ i' = i then some φ else T c' i' := rfl
theorem e_addF {c i c' i' : Nat} {F : Nat → Nat → Bool} : addF c i F c' i' = ((decide (c' = c) && decide (i' = i)) || F c' i') := rfl
theorem e_addM {c c' : Nat} {m m' : Mn} {φ : WF} {M : MT} : addM c m φ M c' m' = if c' = c ∧ m' = m then some φ else M c' m' := rfl
theorem e_addE {c c' : Nat} {φ : WF} {T : Nat → Option WF} : addE c φ T c' = if c' = c then some φ else T c' := rfl
theorem e_F0 {c i : Nat} : F0 c i = false := rfl
theorem e_P0 {c i : Nat} : P0 c i = none := rfl
theorem e_T0 {c : Nat} : T0 c = none := rfl
theorem e_M0 {c : Nat} {m : Mn} : M0 c m = none := rfl
theorem e_lcN {vs : List Nat} {t : WG} {tt : WT} {we : WE} {Q : List D → Store → Prop} {env : Envr} {acc : List D} {st : Store} {z1 z2 z3 z4} : lcW vs t tt we Q env [] acc st z1 z2 z3 z4 = Q acc st := rfl
theorem e_lcC {vs : List Nat} {t : WG} {tt : WT} {we : WE} {Q : List D → Store → Prop} {env : Envr} {d : D} {ds acc : List D} {st : Store} {z1 z2 z3 z4} : lcW vs t tt we Q env (d :: ds) acc st z1 z2 z3 z4 =
    t d (wipeE env vs) st (fun env1 st1 => tt env1 st1 (fun b st2 => iteW b (we env1 st2 (fun y st3 => acc.length < sizeLine ∧ lcW vs t tt we Q env ds (acc ++ [y]) st3 .mk .mk .mk .mk) noX) (lcW vs t tt we Q env ds acc st2 .mk .mk .mk .mk) .mk .mk) noX) := rfl
theorem e_zipC {x y : D} {xs ys : List D} : zipD (x :: xs) (y :: ys) = .tup [x, y] :: zipD xs ys := rfl
theorem e_zipN {ys : List D} : zipD [] ys = [] := rfl
theorem e_intsN : D.ints [] = some [] := rfl
theorem e_intsC {i : Int} {ds : List D} : D.ints (.int i :: ds) = (D.ints ds).map (i :: ·) := rfl
theorem e_blsN : D.bls [] = some [] := rfl
theorem e_blsC {i : Bool} {ds : List D} : D.bls (.bl i :: ds) = (D.bls ds).map (i :: ·) := rfl
theorem e_ltz0 : (0 < sizeLine) = True := eq_true (by decide)
theorem e_ltz1 : (1 < sizeLine) = True := eq_true (by decide)
theorem e_ltz2 : (2 < sizeLine) = True := eq_true (by decide)
theorem e_ltz3 : (3 < sizeLine) = True := eq_true (by decide)
theorem e_ltz4 : (4 < sizeLine) = True := eq_true (by decide)
theorem e_ltz5 : (5 < sizeLine) = True := eq_true (by decide)
theorem e_ltz6 : (6 < sizeLine) = True := eq_true (by decide)
theorem e_ltz7 : (7 < sizeLine) = True := eq_true (by decide)
theorem e_ltz8 : (8 < sizeLine) = True := eq_true (by decide)
theorem e_ltz9 : (9 < sizeLine) = True := eq_true (by decide)
theorem e_ltz10 : (10 < sizeLine) = True := eq_true (by decide)
theorem e_ltz11 : (11 < sizeLine) = True := eq_true (by decide)
theorem e_ltz12 : (12 < sizeLine) = True := eq_true (by decide)
theorem e_ltz13 : (13 < sizeLine) = True := eq_true (by decide)
theorem e_ltz14 : (14 < sizeLine) = True := eq_true (by decide)
theorem e_ltz15 : (15 < sizeLine) = True := eq_true (by decide)
theorem e_ltz16 : (16 < sizeLine) = True := eq_true (by decide)
theorem e_ltz17 : (17 < sizeLine) = True := eq_true (by decide)
theorem e_ltz18 : (18 < sizeLine) = True := eq_true (by decide)
theorem e_ltz19 : (19 < sizeLine) = True := eq_true (by decide)
theorem e_ltz20 : (20 < sizeLine) = True := eq_true (by decide)
theorem e_ltz21 : (21 < sizeLine) = True := eq_true (by decide)
theorem e_ltz22 : (22 < sizeLine) = True := eq_true (by decide)
theorem e_ltz23 : (23 < sizeLine) = True := eq_true (by decide)
theorem e_ltz24 : (24 < sizeLine) = True := eq_true (by decide)
theorem e_cst0 : ((0 : Nat) : Int) = 0 := rfl
theorem e_cst1 : ((1 : Nat) : Int) = 1 := rfl
theorem e_cst2 : ((2 : Nat) : Int) = 2 := rfl
theorem e_cst3 : ((3 : Nat) : Int) = 3 := rfl
theorem e_cst4 : ((4 : Nat) : Int) = 4 := rfl
theorem e_cst5 : ((5 : Nat) : Int) = 5 := rfl
theorem e_cst6 : ((6 : Nat) : Int) = 6 := rfl
theorem e_cst7 : ((7 : Nat) : Int) = 7 := rfl
theorem e_cst8 : ((8 : Nat) : Int) = 8 := rfl
theorem e_cst9 : ((9 : Nat) : Int) = 9 := rfl
theorem e_cst10 : ((10 : Nat) : Int) = 10 := rfl
theorem e_cst11 : ((11 : Nat) : Int) = 11 := rfl
theorem e_cst12 : ((12 : Nat) : Int) = 12 := rfl
theorem e_cst13 : ((13 : Nat) : Int) = 13 := rfl
theorem e_cst14 : ((14 : Nat) : Int) = 14 := rfl
theorem e_cst15 : ((15 : Nat) : Int) = 15 := rfl
theorem e_cst16 : ((16 : Nat) : Int) = 16 := rfl
theorem e_cst17 : ((17 : Nat) : Int) = 17 := rfl
theorem e_cst18 : ((18 : Nat) : Int) = 18 := rfl
theorem e_cst19 : ((19 : Nat) : Int) = 19 := rfl
theorem e_cst20 : ((20 : Nat) : Int) = 20 := rfl
theorem e_cst21 : ((21 : Nat) : Int) = 21 := rfl
theorem e_cst22 : ((22 : Nat) : Int) = 22 := rfl
theorem e_cst23 : ((23 : Nat) : Int) = 23 := rfl
theorem e_cst24 : ((24 : Nat) : Int) = 24 := rfl
end G
namespace G
open PySem PySem.Spec PyProof.Rows L2
theorem e_wiSeq {wa : WE} {env st Q R} : wiSeq wa env st Q R = wa env st (fun d st1 => sqW d fun ds => Q ds st1) R := by
  unfold wiSeq
  congr
  funext d st1
  cases d <;> rfl
def extW (v : Option Slot) (i : Nat) (wa : WE) (env : Envr) (st : Store) (D : EW) (_ : Shut D) : Prop := match v with
  | some (Slot.own ds) => wa env st (fun d st1 => lstW d fun fs => ds.length + fs.length ≤ sizeLine ∧ D.nx (env.set i (.own (ds ++ fs))) st1) (xe D env)
  | _ => False
theorem e_ext {i : Nat} {wa : WE} {env : Envr} {st : Store} {D0 : EW} : wExt i wa env st D0 = extW env[i]? i wa env st D0 .mk := by
  unfold wExt extW
  split <;> first | rfl | (rename_i h; rw [h]; rfl) | (rename_i h; split <;> first | rfl | (rename_i h2; exact absurd h2 (h _)))
theorem e_extO {ds : List D} {i : Nat} {wa : WE} {env : Envr} {st : Store} {D0 : EW} {z : Shut D0} : extW (some (Slot.own ds)) i wa env st D0 z = wa env st (fun d st1 => lstW d fun fs => ds.length + fs.length ≤ sizeLine ∧ D0.nx (env.set i (.own (ds ++ fs))) st1) (xe D0 env) := rfl
def gfldW (F : Nat → Nat → Bool) (i : Nat) (y x : D) (env : Envr) (st : Store) (Q : Envr → Store → Prop) (_ : Shut Q) : Prop := match x with
  | .cel n => insW st[n]? (fun c fs => F c i = true ∧ fs.length < 1000 ∧ Q env (st.set n (.ins c (putD i y fs)))) .mk
  | _ => False
theorem gfldW_c {F : Nat → Nat → Bool} {i n : Nat} {y : D} {env : Envr} {st : Store} {Q : Envr → Store → Prop} {z : Shut Q} : gfldW F i y (.cel n) env st Q z = insW st[n]? (fun c fs => F c i = true ∧ fs.length < 1000 ∧ Q env (st.set n (.ins c (putD i y fs)))) .mk := rfl
theorem e_wgFld {F : Nat → Nat → Bool} {i : Nat} {wo : WE} {d : D} {env : Envr} {st : Store} {Q : Envr → Store → Prop} : wgFld F i wo d env st Q = wo env st (fun x st2 => gfldW F i d x env st2 Q .mk) noX := by
  unfold wgFld
  show wo env st _ _ = wo env st _ _
  rfl
def lpW (t : WG) (tt : WT) (vs : List Nat) (env : Envr) (cs : List CG) (we : WE) (Q : List D → Store → Prop) (ds acc : List D) (st : Store) (_ : Shut t) (_ : Shut tt) (_ : Shut we) (_ : Shut cs) (_ : Shut Q) : Prop := wLpN t tt vs env (fun e a s k => wTaskN we cs e a s k) Q ds acc st
theorem e_wLcN {wi : WI} {t : WG} {tt : WT} {vs sl : List Nat} {cs : List CG} {we : WE} {env st Q R} : wLcN ⟨wi, t, tt, vs, sl⟩ cs we env st Q R = wi env st (fun ds st1 => lpW t tt vs env cs we (fun acc st2 => Q (.lst acc) st2) ds [] st1 .mk .mk .mk .mk .mk) R := rfl
def tskW (we : WE) (cs : List CG) (env : Envr) (acc : List D) (st : Store) (Q : List D → Store → Prop) (_ : Shut we) (_ : Shut cs) (_ : Shut Q) : Prop := wTaskN we cs env acc st Q
theorem e_tskN {we : WE} {env : Envr} {acc : List D} {st : Store} {Q : List D → Store → Prop} {x y z} : tskW we [] env acc st Q x y z = we env st (fun y st3 => acc.length < sizeLine ∧ Q (acc ++ [y]) st3) noX := rfl
theorem e_tskC {wi : WI} {t : WG} {tt : WT} {vs sl : List Nat} {cs : List CG} {we : WE} {env : Envr} {acc : List D} {st : Store} {Q : List D → Store → Prop} {x y z} : tskW we (⟨wi, t, tt, vs, sl⟩ :: cs) env acc st Q x y z = wi env st (fun ds st1 => lpW t tt vs env cs we Q ds acc st1 .mk .mk .mk .mk .mk) noX := rfl
theorem e_lpN {t : WG} {tt : WT} {vs : List Nat} {env : Envr} {cs : List CG} {we : WE} {Q : List D → Store → Prop} {acc : List D} {st : Store} {a b c d e} : lpW t tt vs env cs we Q [] acc st a b c d e = Q acc st := rfl
theorem e_lpC {t : WG} {tt : WT} {vs : List Nat} {env : Envr} {cs : List CG} {we : WE} {Q : List D → Store → Prop} {d0 : D} {ds acc : List D} {st : Store} {a b c d e} : lpW t tt vs env cs we Q (d0 :: ds) acc st a b c d e =
    t d0 (wipeE env vs) st (fun env1 st1 => tt env1 st1 (fun b st2 => iteW b (tskW we cs env1 acc st2 (fun acc' st3 => lpW t tt vs env cs we Q ds acc' st3 .mk .mk .mk .mk .mk) .mk .mk .mk) (lpW t tt vs env cs we Q ds acc st2 .mk .mk .mk .mk .mk) .mk .mk) noX) := rfl
theorem lcW_map {α : Type} {xs : List α} {g f : α → D} {vs : List Nat} {t : WG} {tt : WT} {we : WE} {Q : List D → Store → Prop} {env : Envr} {st : Store} {z1 z2 z3 z4} (hz : xs.length ≤ sizeLine)
    (h : ∀ x ∈ xs, ∀ (acc : List D) (K : List D → Store → Prop), acc.length < sizeLine → K (acc ++ [f x]) st → t (g x) (wipeE env vs) st (fun env1 st1 => tt env1 st1 (fun b st2 => iteW b (we env1 st2 (fun y st3 => acc.length < sizeLine ∧ K (acc ++ [y]) st3) noX) (K acc st2) .mk .mk) noX))
    (q : Q (xs.map f) st) : lcW vs t tt we Q env (xs.map g) [] st z1 z2 z3 z4 := by
  refine lcW_i (fun i acc s => i ≤ xs.length ∧ s = st ∧ acc = (xs.take i).map f) ⟨Nat.zero_le _, rfl, rfl⟩ ?_ ?_
  · rintro i d acc s hd ⟨hi, rfl, rfl⟩ K hK
    rw [List.getElem?_map, Option.map_eq_some_iff] at hd
    obtain ⟨x, hx, rfl⟩ := hd
    have hlt := (List.getElem?_eq_some_iff.mp hx).1
    refine h x (List.mem_of_getElem? hx) _ K (by simp; omega) (hK _ _ ⟨hlt, rfl, ?_⟩)
    rw [List.take_add_one, hx]; simp
  · rintro acc s ⟨_, rfl, rfl⟩
    rw [List.length_map, List.take_length]
    exact q
def calW (o : Option WF) (c : Nat) (fs : List (Nat × D)) (ds : List D) (st : Store) (Q : QE) (R : XQ) (_ : Shut Q) (_ : Shut R) : Prop := match o with
  | some φ => callW φ (.ob c fs :: ds) st Q R .mk .mk
  | none => False
theorem calW_s {φ : WF} {c : Nat} {fs : List (Nat × D)} {ds : List D} {st : Store} {Q : QE} {R : XQ} {x : Shut Q} {y : Shut R} : calW (some φ) c fs ds st Q R x y = callW φ (.ob c fs :: ds) st Q R .mk .mk := rfl
def obW (d : D) (P : Nat → List (Nat × D) → Prop) : Prop := match d with | .ob c fs => P c fs | _ => False
theorem obW_o {c : Nat} {fs : List (Nat × D)} {P : Nat → List (Nat × D) → Prop} : obW (.ob c fs) P = P c fs := rfl
theorem e_wCal {T : Nat → Option WF} {wf : WE} {ta : WA} {env st Q R} : wCal T wf ta env st Q R = wf env st (fun d st1 => obW d fun c fs => ta env st1 (fun ds st2 => calW (T c) c fs ds st2 Q R .mk .mk) R) R := by
  rfl
def srtW (xs : List D) (st : Store) (Q : QE) (R : XQ) (_ : Shut Q) : Prop := oSorted [.lst xs] st Q R
theorem e_srt {xs : List D} {st : Store} {Q : QE} {R : XQ} : oSorted [.lst xs] st Q R = srtW xs st Q R .mk := rfl
theorem rows_none {r : List Int} {rs : List (List Int)} : D.ints ((r :: rs).map itup) = none := rfl
theorem srt_rows {rs : List (List Int)} {st : Store} {Q : QE} {R : XQ} {x} (hne : ∀ r ∈ rs, r ≠ []) (h : ∀ ms : List (List Int), ms.Perm rs → ms.Pairwise (fun a b => HT.lexLt b a = false) → Q (.lst (ms.map itup)) st) : srtW (rs.map itup) st Q R x := by
  unfold srtW oSorted
  cases rs with
  | nil =>
    simp only [List.map_nil, D.ints]
    intro ms hp _
    have : ms = [] := List.Perm.eq_nil hp
    subst this
    exact h [] (List.Perm.refl _) List.Pairwise.nil
  | cons r rs =>
    simp only [rows_none, D.rows_map]
    exact ⟨hne, h⟩
def maxW (ds : List D) (st : Store) (Q : QE) (R : XQ) (_ : Shut Q) : Prop := oMax ds st Q R
theorem e_max {ds : List D} {st : Store} {Q : QE} {R : XQ} : oMax ds st Q R = maxW ds st Q R .mk := rfl
theorem max_2 {i j : Int} {st : Store} {Q : QE} {R : XQ} {x} : maxW [.int i, .int j] st Q R x = Q (.int (if j > i then j else i)) st := rfl
theorem max_rows {rs : List (List Int)} {st : Store} {Q : QE} {R : XQ} {x} (h0 : 0 < rs.length) (h : ∀ r : List Int, r ∈ rs → (∀ r' ∈ rs, HT.lexLt r r' = false) → Q (itup r) st) : maxW [.lst (rs.map itup)] st Q R x := by
  unfold maxW oMax
  cases rs with
  | nil => simp at h0
  | cons r rs =>
    simp only [rows_none, D.rows_map]
    exact ⟨h0, h⟩
def minW (ds : List D) (st : Store) (Q : QE) (R : XQ) (_ : Shut Q) : Prop := oMin ds st Q R
theorem e_min {ds : List D} {st : Store} {Q : QE} {R : XQ} : oMin ds st Q R = minW ds st Q R .mk := rfl
theorem min_2 {i j : Int} {st : Store} {Q : QE} {R : XQ} {x} : minW [.int i, .int j] st Q R x = Q (.int (if j < i then j else i)) st := rfl
def optW (o : Option Bool) (P : Bool → Prop) (_ : Shut P) : Prop := match o with | some n => P n | none => False
theorem optW_s {n : Bool} {P : Bool → Prop} {x : Shut P} : optW (some n) P x = P n := rfl
theorem e_gtA {i j : Int} {st : Store} {Q : QE} {R : XQ} : oGtA (.int i) (.int j) st Q R = Q (.bl (decide (j < i))) st := rfl
theorem e_ltA {i j : Int} {st : Store} {Q : QE} {R : XQ} : oLtA (.int i) (.int j) st Q R = Q (.bl (decide (i < j))) st := rfl
theorem e_gtT {xs ys : List D} {st : Store} {Q : QE} {R : XQ} : oGtA (.tup xs) (.tup ys) st Q R = optW (lexD ys xs) (fun b => Q (.bl b) st) .mk := by
  show (match lexD ys xs with | some b => Q (.bl b) st | none => False) = _
  unfold optW; cases lexD ys xs <;> rfl
theorem e_ltT {xs ys : List D} {st : Store} {Q : QE} {R : XQ} : oLtA (.tup xs) (.tup ys) st Q R = optW (lexD xs ys) (fun b => Q (.bl b) st) .mk := by
  show (match lexD xs ys with | some b => Q (.bl b) st | none => False) = _
  unfold optW; cases lexD xs ys <;> rfl
theorem lexD_4 {a b c d x y z w : Int} : lexD [.int a, .int b, .int c, .int d] [.int x, .int y, .int z, .int w] = some (HT.lexLt [a, b, c, d] [x, y, z, w]) := rfl
theorem e_inL {neg : Bool} {M : MT} {d : D} {es : List D} {st : Store} {Q : QE} {R : XQ} : oIn neg M d (.lst es) st Q R = (DatOk d (.lst es) ∧ Q (.bl ((es.any fun z => eqD z d) != neg)) st) := rfl
theorem e_inT {neg : Bool} {M : MT} {d : D} {es : List D} {st : Store} {Q : QE} {R : XQ} : oIn neg M d (.tup es) st Q R = (d.flat = true ∧ es.all D.flat = true ∧ Q (.bl ((es.any fun z => eqD z d) != neg)) st) := rfl
theorem e_inO {neg : Bool} {M : MT} {ds : List D} {c : Nat} {fs : List (Nat × D)} {st : Store} {Q : QE} {R : XQ} : oIn neg M (.tup ds) (.ob c fs) st Q R = callM M c .contains [.ob c fs, .tup ds] st (fun r st1 => blW r fun b => Q (.bl (b != neg)) st1) R := by
  unfold oIn
  have : (∀ es, D.tup ds ≠ .lst es) := fun es h => by cases h
  simp only [this, implies_true, true_and, ne_eq, not_false_eq_true, reduceCtorEq]
  rfl
theorem e_isBB {neg a b : Bool} {st : Store} {Q : QE} {R : XQ} : oIsB neg (.bl a) (.bl b) st Q R = Q (.bl (decide (a = b) != neg)) st := rfl
theorem bneF {b : Bool} : (b != false) = b := by cases b <;> rfl
theorem bneT {b : Bool} : (b != true) = !b := by cases b <;> rfl
def insL (r : List Int) : List (List Int) → List (List Int)
  | [] => [r]
  | x :: xs => if HT.lexLt x r = true then x :: insL r xs else r :: x :: xs
def isortL : List (List Int) → List (List Int)
  | [] => []
  | x :: xs => insL x (isortL xs)
theorem insL_perm (r : List Int) : ∀ xs : List (List Int), (insL r xs).Perm (r :: xs)
  | [] => List.Perm.refl _
  | x :: xs => by
    unfold insL
    split
    · exact ((insL_perm r xs).cons x).trans (List.Perm.swap r x xs)
    · exact List.Perm.refl _
theorem isortL_perm : ∀ xs : List (List Int), (isortL xs).Perm xs
  | [] => List.Perm.refl _
  | x :: xs => (insL_perm x (isortL xs)).trans ((isortL_perm xs).cons x)
theorem insL_srt (r : List Int) : ∀ {xs : List (List Int)}, xs.Pairwise (fun a b => HT.lexLt b a = false) → (insL r xs).Pairwise (fun a b => HT.lexLt b a = false)
  | [], _ => List.pairwise_singleton _ _
  | x :: xs, h => by
    obtain ⟨h1, h2⟩ := List.pairwise_cons.mp h
    unfold insL
    split
    · rename_i hx
      refine List.pairwise_cons.mpr ⟨fun y hy => ?_, insL_srt r h2⟩
      rcases List.mem_cons.mp ((insL_perm r xs).mem_iff.mp hy) with rfl | hy
      · exact lexLt_asym _ _ hx
      · exact h1 y hy
    · rename_i hx
      have hx' : HT.lexLt x r = false := by simpa using hx
      refine List.pairwise_cons.mpr ⟨fun y hy => ?_, h⟩
      rcases List.mem_cons.mp hy with rfl | hy
      · exact hx'
      · exact lexLt_ntr _ _ _ hx' (h1 y hy)
theorem isortL_srt : ∀ xs : List (List Int), (isortL xs).Pairwise (fun a b => HT.lexLt b a = false)
  | [] => List.Pairwise.nil
  | x :: xs => insL_srt x (isortL_srt xs)
theorem srt_uniq : ∀ {xs ys : List (List Int)}, xs.Perm ys → xs.Pairwise (fun a b => HT.lexLt b a = false) → ys.Pairwise (fun a b => HT.lexLt b a = false) → xs = ys
  | [], ys, h, _, _ => (List.Perm.eq_nil h.symm).symm
  | x :: xs, [], h, _, _ => absurd h.length_eq (by simp)
  | x :: xs, y :: ys, h, h1, h2 => by
    obtain ⟨a1, a2⟩ := List.pairwise_cons.mp h1
    obtain ⟨b1, b2⟩ := List.pairwise_cons.mp h2
    have e : x = y := by
      have m1 : y ∈ x :: xs := h.mem_iff.mpr (by simp)
      have m2 : x ∈ y :: ys := h.mem_iff.mp (by simp)
      rcases List.mem_cons.mp m1 with e | m1
      · exact e.symm
      · rcases List.mem_cons.mp m2 with e | m2
        · exact e
        · exact lexLt_tot _ _ (b1 x m2) (a1 y m1)
    subst e
    rw [srt_uniq h.cons_inv a2 b2]
theorem srt_rowsE {rs : List (List Int)} {st : Store} {Q : QE} {R : XQ} {x} (hne : ∀ r ∈ rs, r ≠ []) (h : Q (.lst ((isortL rs).map itup)) st) : srtW (rs.map itup) st Q R x :=
  srt_rows hne fun ms h1 h2 => by
    rw [srt_uniq (h1.trans (isortL_perm rs).symm) h2 (isortL_srt rs)]; exact h
theorem e_isiOb {I : IS} {c k : Nat} {fs : List (Nat × D)} : isiD I (.ob c fs) (.cls k) = if I c c = some true then I c k else none := rfl
theorem e_isiIc {I : IS} {k : Nat} {i : Int} : isiD I (.int i) (.cls k) = if I k k = some true then some false else none := by
  show (if I k k = some true ∧ tyN (.int i) ≠ none then some false else none) = _
  simp [tyN]
theorem e_isiTc {I : IS} {k : Nat} {xs : List D} : isiD I (.tup xs) (.cls k) = if I k k = some true then some false else none := by
  show (if I k k = some true ∧ tyN (.tup xs) ≠ none then some false else none) = _
  simp [tyN]
theorem e_isOf {c k a b : Nat} {v : Bool} {L : IsL} : isOf (((a, b), v) :: L) c k = if c = a ∧ k = b then some v else isOf L c k := by
  show (List.lookup (c, k) (((a, b), v) :: L)) = _
  by_cases h : c = a ∧ k = b
  · obtain ⟨rfl, rfl⟩ := h
    rw [if_pos ⟨rfl, rfl⟩]
    simp [List.lookup]
  · rw [if_neg h]
    have : ((c, k) == (a, b)) = false := by
      apply beq_false_of_ne
      intro z
      cases z
      exact h ⟨rfl, rfl⟩
    show (match (c, k) == (a, b) with | true => some v | false => List.lookup (c, k) L) = List.lookup (c, k) L
    rw [this]
theorem e_addAi {M : MT} {i j : Int} {st : Store} {Q : QE} {R : XQ} : oAddA M (.int i) (.int j) st Q R = Q (.int (i + j)) st := rfl
theorem e_addAs {M : MT} {x y : Str} {st : Store} {Q : QE} {R : XQ} : oAddA M (.str x) (.str y) st Q R = (x.length + y.length ≤ sizeLine ∧ Q (.str (x ++ y)) st) := rfl
theorem e_addAl {M : MT} {xs ys : List D} {st : Store} {Q : QE} {R : XQ} : oAddA M (.lst xs) (.lst ys) st Q R = (xs.length + ys.length ≤ sizeLine ∧ Q (.lst (xs ++ ys)) st) := rfl
theorem e_addAt {M : MT} {xs ys : List D} {st : Store} {Q : QE} {R : XQ} : oAddA M (.tup xs) (.tup ys) st Q R = (xs.length + ys.length ≤ sizeLine ∧ Q (.tup (xs ++ ys)) st) := rfl
theorem e_addAo {M : MT} {c : Nat} {fs gs : List (Nat × D)} {st : Store} {Q : QE} {R : XQ} : oAddA M (.ob c fs) (.ob c gs) st Q R = callM M c .add [.ob c fs, .ob c gs] st Q R := e_addO
theorem e_mulAi {M : MT} {i j : Int} {st : Store} {Q : QE} {R : XQ} : oMulA M (.int i) (.int j) st Q R = (MulOk i j ∧ Q (.int (i * j)) st) := rfl
theorem e_mulAl {M : MT} {xs : List D} {j : Int} {st : Store} {Q : QE} {R : XQ} : oMulA M (.lst xs) (.int j) st Q R = ((0 ≤ j ∧ j < 1000 ∧ xs.length * j.toNat ≤ sizeLine) ∧ Q (.lst ((List.replicate j.toNat xs).flatten)) st) := rfl
theorem e_mulAt {M : MT} {xs : List D} {j : Int} {st : Store} {Q : QE} {R : XQ} : oMulA M (.tup xs) (.int j) st Q R = ((xs ≠ [] ∧ j ≤ 1000 ∧ -1000 ≤ j ∧ xs.length ≤ 1000) ∧ Q (.tup ((List.replicate j.toNat xs).flatten)) st) := rfl
theorem e_mulAo {M : MT} {c : Nat} {fs gs : List (Nat × D)} {st : Store} {Q : QE} {R : XQ} : oMulA M (.ob c fs) (.ob c gs) st Q R = callM M c .mul [.ob c fs, .ob c gs] st Q R := e_mulO
theorem e_forN {t : WG} {w : WS} {D0 : EW} {env : Envr} {st : Store} {z1 z2 z3} : forW t w D0 [] env st z1 z2 z3 = D0.nx env st := rfl
theorem e_forC {t : WG} {w : WS} {D0 : EW} {d : D} {ds : List D} {env : Envr} {st : Store} {z1 z2 z3} : forW t w D0 (d :: ds) env st z1 z2 z3 = t d env st (fun env1 st1 => w env1 st1 (loopK D0 (fun e s => forW t w D0 ds e s .mk .mk .mk))) := rfl
def zipAW (ds : List D) (P : List D → Prop) : Prop := match ds with | [.lst xs, .lst ys] => P (zipD xs ys) | [.tup xs, .tup ys] => P (zipD xs ys) | [.tup xs, .lst ys] => P (zipD xs ys) | [.tup xs, .wtp ys] => P (zipD xs ys) | _ => False
theorem e_iZipA {ta : WA} {env : Envr} {st : Store} {R : XQ} {Qi : List D → Store → Prop} : wiZipA ta env st Qi R = ta env st (fun ds st1 => zipAW ds fun zs => Qi zs st1) R := by
  unfold wiZipA zipAW
  congr 1
theorem zipAW_l {xs ys : List D} {P : List D → Prop} : zipAW [.lst xs, .lst ys] P = P (zipD xs ys) := rfl
theorem zipAW_t {xs ys : List D} {P : List D → Prop} : zipAW [.tup xs, .tup ys] P = P (zipD xs ys) := rfl
theorem zipAW_w {xs ys : List D} {P : List D → Prop} : zipAW [.tup xs, .wtp ys] P = P (zipD xs ys) := rfl
theorem zipAW_m {xs ys : List D} {P : List D → Prop} : zipAW [.tup xs, .lst ys] P = P (zipD xs ys) := rfl
theorem e_truO {M : MT} {c : Nat} {fs : List (Nat × D)} {st : Store} {Q : Bool → Store → Prop} {R : XQ} : oTru M (.ob c fs) st Q R = callM M c .bool [.ob c fs] st (fun r st1 => blW r fun b => Q b st1) R := by
  show callM M c .bool [.ob c fs] st _ R = _
  congr 1
theorem e_wParO {i k : Nat} {ta : WA} {n : Int} {env st D} : wParO i k ta n env st D = (ta env st (fun ds st1 => ds.length ≤ sizeLine ∧ D.nx ((env.set i (.own ds)).set k (.val (.int n))) st1) (xe D env)) := rfl
def par3W (i k l : Nat) (env : Envr) (D : EW) (ds : List G.D) (st : Store) : Prop := match ds with
  | [d1, d2, d3] => D.nx (((env.set i (.val d1)).set k (.val d2)).set l (.val d3)) st
  | _ => False
theorem e_par3 {i k l : Nat} {ta : WA} {env st} {D : EW} : wPar3 i k l ta env st D = ta env st (fun ds st1 => par3W i k l env D ds st1) (xe D env) := by
  unfold wPar3; rfl
theorem e_par3W {i k l : Nat} {env : Envr} {st} {D : EW} {d1 d2 d3 : G.D} : par3W i k l env D [d1, d2, d3] st = D.nx (((env.set i (.val d1)).set k (.val d2)).set l (.val d3)) st := rfl
theorem e_eqLl {T : Nat → Option WF} {xs ys : List D} {st : Store} {Q : QE} {R : XQ} : oEqL T (.lst xs) (.lst ys) st Q R = (ownAll T st xs ys ∧ Q (.bl true) st) := rfl
theorem e_neLl {T : Nat → Option WF} {xs ys : List D} {st : Store} {Q : QE} {R : XQ} : oNeL T (.lst xs) (.lst ys) st Q R = (ownAll T st xs ys ∧ Q (.bl false) st) := rfl
theorem e_oaN {T : Nat → Option WF} {st : Store} : ownAll T st [] [] = True := by simp [ownAll]
theorem e_oaC {T : Nat → Option WF} {c : Nat} {fs gs : List (Nat × D)} {xs ys : List D} {st : Store} : ownAll T st (.ob c fs :: xs) (.ob c gs :: ys) = (ownW (T c) false c fs gs st (fun r st1 => r = .bl true ∧ st1 = st) (fun _ _ => False) .mk .mk ∧ ownAll T st xs ys) := by
  rw [← own_eq]; simp [ownAll]
end G
namespace G
open PySem PySem.Spec PyProof.Rows L2
end G
namespace G
open PySem PySem.Spec PyProof.Rows L2
section
variable {env : Envr} {st : Store} {Q : QE} {R : XQ} {M : MT}
def strW (d : D) (P : Str → Prop) : Prop := match d with | .str x => P x | _ => False
theorem strW_i {x : Str} {P : Str → Prop} : strW (.str x) P = P x := rfl
theorem e_fmtS {y : Str} : oFmt (.str y) st Q R = (y.length ≤ sizeLine ∧ Q (.str y) st) := rfl
theorem e_fmtI {i : Int} : oFmt (.int i) st Q R = (i.natAbs.log2 < 1920 ∧ Q (.str (toString i)) st) := rfl
theorem e_wJsN {acc : Str} : wJs [] acc env st Q R = Q (.str acc) st := rfl
theorem e_wJsC {w : WE} {ws : List WE} {acc : Str} : wJs (w :: ws) acc env st Q R = w env st (fun d st1 => strW d fun y => (acc ++ y).length ≤ sizeLine ∧ wJs ws (acc ++ y) env st1 Q R) R := rfl
theorem e_wTx {o : Str → O1} {wa wb : WE} : wTx o wa wb env st Q R = wa env st (fun d st1 => strW d fun x => wb env st1 (fun d2 st2 => o x d2 st2 Q R) R) R := rfl
def strsW (o : Option (List Str)) (P : List Str → Prop) (_ : Shut P) : Prop := match o with | some n => P n | none => False
theorem strsW_s {ss : List Str} {P : List Str → Prop} {z : Shut P} : strsW (some ss) P z = P ss := rfl
theorem e_joinL {x : Str} {ds : List D} : oJoin x (.lst ds) st Q R = strsW (D.strs ds) (fun ys => joinOk x ys ∧ Q (.str (Txt.join x ys)) st) .mk := rfl
theorem e_joinT {x : Str} {ds : List D} : oJoin x (.tup ds) st Q R = strsW (D.strs ds) (fun ys => joinOk x ys ∧ Q (.str (Txt.join x ys)) st) .mk := rfl
theorem e_strI {i : Int} : oStr [.int i] st Q R = (i.natAbs.log2 < 1920 ∧ Q (.str (toString i)) st) := rfl
theorem e_strS {x : Str} : oStr [.str x] st Q R = Q (.str x) st := rfl
theorem e_repr {c : Nat} {fs : List (Nat × D)} : oRepr M (.ob c fs) st Q R = callM M c .repr [.ob c fs] st (fun r st1 => strW r fun y => Q (.str y) st1) R := rfl
theorem e_boolc {c : Nat} {fs : List (Nat × D)} : oBoolc M (.ob c fs) st Q R = callM M c .bool [.ob c fs] st (fun r st1 => blW r fun b => Q (.bl b) st1) R := rfl
def eqxW (o : Option WF) (ds : List D) (st : Store) (Q : QE) (R : XQ) (_ : Shut Q) (_ : Shut R) : Prop := match o with
  | some φ => callW φ ds st (fun r st1 => blW r fun b => Q (.bl b) st1) R .mk .mk
  | none => False
theorem eqxW_s {φ : WF} {ds : List D} {x : Shut Q} {y : Shut R} : eqxW (some φ) ds st Q R x y = callW φ ds st (fun r st1 => blW r fun b => Q (.bl b) st1) R .mk .mk := rfl
theorem own_eqX {T : Nat → Nat → Option WF} {c i : Nat} {fs : List (Nat × D)} {d : D} : ownEqX T c i fs d st Q R = eqxW (T c i) [.ob c fs, d] st Q R .mk .mk := by
  unfold ownEqX eqxW
  cases T c i <;> rfl
theorem e_eqXO {T : Nat → Nat → Option WF} {c c' : Nat} {fs gs : List (Nat × D)} : oEqX T (.ob c fs) (.ob c' gs) st Q R = eqxW (T c (c' + 2)) [.ob c fs, .ob c' gs] st Q R .mk .mk := own_eqX
theorem e_eqXT {T : Nat → Nat → Option WF} {c : Nat} {fs : List (Nat × D)} {xs : List D} : oEqX T (.ob c fs) (.tup xs) st Q R = eqxW (T c 0) [.ob c fs, .tup xs] st Q R .mk .mk := own_eqX
theorem e_eqXI {T : Nat → Nat → Option WF} {c : Nat} {fs : List (Nat × D)} {i : Int} : oEqX T (.ob c fs) (.int i) st Q R = eqxW (T c 1) [.ob c fs, .int i] st Q R .mk .mk := own_eqX
theorem e_wAsksD {tn : Nat} {cl : List TellN} {i kd : Nat} {wes : List WE} {wd wr : WE} {wth : WS} {D0 : EW} : wAsksD tn cl i kd wes wd wr wth env st D0 = wd (env.set i .no) st (fun d st0 => wRunL tn cl wes ((env.set i .no).set kd (.val d)) [] st0 fun ds st1 =>
    wr ((env.set i .no).set kd (.val d)) st1 (fun r st2 => oNeD (.lst ds) r st2 (fun z st3 => blW z fun b => iteW b (wth ((env.set i .no).set kd (.val d)) st3 D0) (D0.nx ((env.set i .no).set kd (.val d)) st3) .mk .mk) (xe D0 ((env.set i .no).set kd (.val d)))) (xe D0 ((env.set i .no).set kd (.val d)))) (xe D0 (env.set i .no)) := by
  unfold wAsksD
  congr 1
end
end G
namespace G
open PySem PySem.Spec PyProof.Rows L2
end G
namespace G
open PySem PySem.Spec PyProof.Rows L2
end G
namespace G
open PySem PySem.Spec PyProof.Rows L2
section
variable {env : Envr} {st : Store} {Q : QE} {R : XQ} {wa wb wk : WE} {ta : WA} {w : WE} {D0 : EW}
theorem e_oneS {x : Str} {P : Str → Prop} : oneS (.str x) P = P x := rfl
theorem e_wSq {f : Str → Bool} : wSq f wa env st Q R = wa env st (fun d st1 => oneS d fun x => Q (.bl (f x)) st1) R := rfl
theorem e_wSq1 {f : Str → Str → Bool} : wSq1 f wa wb env st Q R = wa env st (fun d st1 => oneS d fun x => wb env st1 (fun d2 st2 => oneS d2 fun y => Q (.bl (f x y)) st2) R) R := rfl
theorem e_wSt1 {f : Str → Str → Str} : wSt1 f wa wb env st Q R = wa env st (fun d st1 => oneS d fun x => wb env st1 (fun d2 st2 => oneS d2 fun y => x.length ≤ sizeLine ∧ Q (.str (f x y)) st2) R) R := rfl
theorem e_wSpl : wSpl wa wb env st Q R = wa env st (fun d st1 => oneS d fun x => wb env st1 (fun d2 st2 => oneS d2 fun y => (y.length == 0) = false ∧ x.length + 2 ≤ sizeLine ∧ Q (.lst ((Txt.split x y).map D.str)) st2) R) R := rfl
theorem e_wRpl {y z : Str} : wRpl y z wa env st Q R = wa env st (fun d st1 => oneS d fun x => x.length + (x.length + 1) * z.length ≤ 16777216 ∧ Q (.str (Txt.replace x y z)) st1) R := rfl
theorem e_wSlS {wl wh : WO} : wSlS wa wl wh env st Q R = wa env st (fun d st1 => wl env st1 (fun l st2 => wh env st2 (fun h st3 => oneS d fun z => z.length ≤ sizeLine ∧ Q (.str (cutS z l h)) st3) R) R) R := rfl
theorem e_wTix {ss : List Str} : wTix ss wa env st Q R = wa env st (fun d st1 => oneS d fun z => ∃ k, ss[k]? = some z ∧ (∀ m, m < k → ss[m]? ≠ some z) ∧ Q (.int (k : Nat)) st1) R := rfl
theorem e_wAtC {i c : Nat} : wAtC i c w env st Q R = (env[i]? = some (Slot.val (.cls c)) ∧ w env st Q R) := rfl
theorem e_wCallC {c : Nat} {φ : WF} : wCallC c φ ta env st Q R = ta env st (fun ds st1 => callW φ (.cls c :: ds) st1 Q R .mk .mk) R := rfl
theorem e_intT {a : Str} : oIntT [.str a] st Q R = ∃ n, PySem.intText? a = some n ∧ a.length ≤ 640 ∧ Q (.int n) st := rfl
def enW (ds : List D) (P : List D → Prop) : Prop := match ds with | [.lst xs] => P (enumD 0 xs) | _ => False
theorem enW_l {xs : List D} {P : List D → Prop} : enW [.lst xs] P = P (enumD 0 xs) := rfl
theorem e_wiEnum {P : List D → Store → Prop} : wiEnum ta env st P R = ta env st (fun ds st1 => enW ds fun xs => P xs st1) R := by
  unfold wiEnum
  congr 1
def agW (o : Option Slot) (P : List D → Prop) : Prop := match o with | some (Slot.own ds) => P ds | _ => False
theorem agW_o {ds : List D} {P : List D → Prop} : agW (some (.own ds)) P = P ds := rfl
theorem e_wAugAt {i : Nat} : wAugAt i wk wa env st D0 = agW env[i]? fun ds => wk env st (fun k st1 => ∃ (n : Nat) (x : Int), k = .int n ∧ ds[n]? = some (.int x) ∧ n < 1000000 ∧ wa env st1 (fun d st2 => ∃ y : Int, d = .int y ∧ D0.nx (env.set i (.own (ds.set n (.int (x + y))))) st2) (xe D0 env)) (xe D0 env) := by
  unfold wAugAt agW
  cases env[i]? with
  | none => rfl
  | some x => cases x <;> rfl
end
end G
namespace G
open PySem PySem.Builtin PySem.Builtin.Str SX TL
end G
namespace G
open PySem PySem.Spec PyProof.Rows L2
/-- written texts, told apart -/
theorem s_lit {a b : String} : (Str.ofString a = Str.ofString b) = (a = b) := by
  rw [Str.ofString_eq_toList, Str.ofString_eq_toList]
  refine propext ⟨fun h => ?_, fun h => by rw [h]⟩
  have h1 : a.toList.map Char.toNat = b.toList.map Char.toNat := by
    injection h with h
    exact (Array.mk.inj h)
  have h2 : a.toList = b.toList := (List.map_inj_right fun x y e => Char.toNat_inj.mp e).mp h1
  exact String.toList_inj.mp h2
end G
namespace G
open PySem PySem.Spec PyProof.Rows L2
end G
namespace G
open PySem PySem.Spec PyProof.Rows L2
def fldAugW (F : Nat → Nat → Bool) (i : Nat) (x : D) (wv : WE) (env : Envr) (st1 : Store) (D0 : EW) (_ : Shut wv) (_ : Shut D0) : Prop := match x with
  | .cel n => (match st1[n]? with
    | some (.ins c fs) => F c i = true ∧ ∃ a : Int, getD' i fs = some (.int a) ∧ wv env st1 (fun y st2 => ∃ b : Int, y = .int b ∧ ∃ fs', st2[n]? = some (.ins c fs') ∧ fs'.length < 1000 ∧ D0.nx env (st2.set n (.ins c (putD i (.int (a + b)) fs')))) (xe D0 env)
    | _ => False)
  | _ => False
theorem e_wFldAug {F : Nat → Nat → Bool} {i : Nat} {wo wv : WE} {env : Envr} {st : Store} {D0 : EW} : wFldAug F i wo wv env st D0 = wo env st (fun x st1 => fldAugW F i x wv env st1 D0 .mk .mk) (xe D0 env) := rfl
theorem fldAug_i {F : Nat → Nat → Bool} {i n c : Nat} {fs : List (Nat × D)} {a b : Int} {env : Envr} {st : Store} {D0 : EW} {z1 z2} (h : st[n]? = some (.ins c fs)) (hF : F c i = true) (ha : getD' i fs = some (.int a)) (hl : fs.length < 1000) (q : D0.nx env (st.set n (.ins c (putD i (.int (a + b)) fs)))) :
    fldAugW F i (.cel n) (wC (.int b)) env st D0 z1 z2 := by
  unfold fldAugW
  simp only [h]
  exact ⟨hF, a, ha, b, rfl, fs, h, hl, q⟩
def sgnW (d : D) (Q : List D → Store → Prop) (st : Store) (_ : Shut Q) : Prop := match d with | .str x => Q (signsD x) st | _ => False
theorem e_wiStr {wa : WE} {env : Envr} {st : Store} {Q : List D → Store → Prop} {R : XQ} : wiStr wa env st Q R = wa env st (fun d st1 => sgnW d Q st1 .mk) R := rfl
theorem sgnW_s {x : Str} {Q : List D → Store → Prop} {st : Store} {z} : sgnW (.str x) Q st z = Q (signsD x) st := rfl
end G
namespace HQ
def par (a b c d : Int) : Prop := a % 2 = b % 2 ∧ b % 2 = c % 2 ∧ c % 2 = d % 2
instance (a b c d : Int) : Decidable (par a b c d) := by unfold par; infer_instance
structure Hur where
  a : Int
  b : Int
  c : Int
  d : Int
  h : par a b c d
theorem Hur.ext {p q : Hur} (h1 : p.a = q.a) (h2 : p.b = q.b) (h3 : p.c = q.c) (h4 : p.d = q.d) : p = q := by
  cases p; cases q; simp at *; exact ⟨h1, h2, h3, h4⟩
theorem Hur.ext_iff {p q : Hur} : p = q ↔ p.a = q.a ∧ p.b = q.b ∧ p.c = q.c ∧ p.d = q.d := ⟨fun e => by subst e; exact ⟨rfl, rfl, rfl, rfl⟩, fun ⟨a, b, c, d⟩ => Hur.ext a b c d⟩
instance : DecidableEq Hur := fun p q => decidable_of_iff _ (Hur.ext_iff (p := p) (q := q)).symm
namespace Hur
def whole (n : Int) : Hur := ⟨2 * n, 0, 0, 0, by unfold par; omega⟩
instance : Add Hur := ⟨fun p q => ⟨p.a + q.a, p.b + q.b, p.c + q.c, p.d + q.d, by have := p.h; have := q.h; unfold par at *; omega⟩⟩
instance : Sub Hur := ⟨fun p q => ⟨p.a - q.a, p.b - q.b, p.c - q.c, p.d - q.d, by have := p.h; have := q.h; unfold par at *; omega⟩⟩
instance : Neg Hur := ⟨fun p => ⟨-p.a, -p.b, -p.c, -p.d, by have := p.h; unfold par at *; omega⟩⟩
def bar (p : Hur) : Hur := ⟨p.a, -p.b, -p.c, -p.d, by have := p.h; unfold par at *; omega⟩
def mA (p q : Hur) : Int := p.a * q.a - p.b * q.b - p.c * q.c - p.d * q.d
def mB (p q : Hur) : Int := p.a * q.b + p.b * q.a + p.c * q.d - p.d * q.c
def mC (p q : Hur) : Int := p.a * q.c - p.b * q.d + p.c * q.a + p.d * q.b
def mD (p q : Hur) : Int := p.a * q.d + p.b * q.c - p.c * q.b + p.d * q.a
theorem mul_par (p q : Hur) : mA p q % 2 = 0 ∧ mB p q % 2 = 0 ∧ mC p q % 2 = 0 ∧ mD p q % 2 = 0 ∧ par (mA p q / 2) (mB p q / 2) (mC p q / 2) (mD p q / 2) := by
  obtain ⟨a, b, c, d, h⟩ := p
  obtain ⟨x, y, z, w, k⟩ := q
  unfold par at h k
  obtain ⟨b', rfl⟩ : ∃ b', b = a + 2 * b' := ⟨(b - a) / 2, by omega⟩
  obtain ⟨c', rfl⟩ : ∃ c', c = a + 2 * c' := ⟨(c - a) / 2, by omega⟩
  obtain ⟨d', rfl⟩ : ∃ d', d = a + 2 * d' := ⟨(d - a) / 2, by omega⟩
  obtain ⟨y', rfl⟩ : ∃ y', y = x + 2 * y' := ⟨(y - x) / 2, by omega⟩
  obtain ⟨z', rfl⟩ : ∃ z', z = x + 2 * z' := ⟨(z - x) / 2, by omega⟩
  obtain ⟨w', rfl⟩ : ∃ w', w = x + 2 * w' := ⟨(w - x) / 2, by omega⟩
  have e1 : mA ⟨a, a + 2 * b', a + 2 * c', a + 2 * d', h⟩ ⟨x, x + 2 * y', x + 2 * z', x + 2 * w', k⟩ = 2 * (-(a * x) - a * (y' + z' + w') - x * (b' + c' + d') - 2 * (b' * y' + c' * z' + d' * w')) := by simp only [mA]; grind
  have e2 : mB ⟨a, a + 2 * b', a + 2 * c', a + 2 * d', h⟩ ⟨x, x + 2 * y', x + 2 * z', x + 2 * w', k⟩ = 2 * (a * x + a * (y' + w' - z') + x * (b' + c' - d') + 2 * (c' * w' - d' * z')) := by simp only [mB]; grind
  have e3 : mC ⟨a, a + 2 * b', a + 2 * c', a + 2 * d', h⟩ ⟨x, x + 2 * y', x + 2 * z', x + 2 * w', k⟩ = 2 * (a * x + a * (z' + y' - w') + x * (c' + d' - b') + 2 * (d' * y' - b' * w')) := by simp only [mC]; grind
  have e4 : mD ⟨a, a + 2 * b', a + 2 * c', a + 2 * d', h⟩ ⟨x, x + 2 * y', x + 2 * z', x + 2 * w', k⟩ = 2 * (a * x + a * (w' + z' - y') + x * (b' + d' - c') + 2 * (b' * z' - c' * y')) := by simp only [mD]; grind
  rw [e1, e2, e3, e4]
  have f : ∀ n : Int, 2 * n / 2 = n := fun n => by omega
  rw [f, f, f, f]
  refine ⟨by omega, by omega, by omega, by omega, ?_⟩
  generalize a * x = t
  have g1 : -t - a * (y' + z' + w') - x * (b' + c' + d') - 2 * (b' * y' + c' * z' + d' * w') = (t + a * (y' + w' - z') + x * (b' + c' - d') + 2 * (c' * w' - d' * z')) + 2 * (-t - a * (y' + w') - x * (b' + c') - (b' * y' + c' * z' + d' * w') - (c' * w' - d' * z')) := by grind
  have g2 : (t + a * (y' + w' - z') + x * (b' + c' - d') + 2 * (c' * w' - d' * z')) = (t + a * (z' + y' - w') + x * (c' + d' - b') + 2 * (d' * y' - b' * w')) + 2 * (a * (w' - z') + x * (b' - d') + (c' * w' - d' * z') - (d' * y' - b' * w')) := by grind
  have g3 : (t + a * (z' + y' - w') + x * (c' + d' - b') + 2 * (d' * y' - b' * w')) = (t + a * (w' + z' - y') + x * (b' + d' - c') + 2 * (b' * z' - c' * y')) + 2 * (a * (y' - w') + x * (c' - b') + (d' * y' - b' * w') - (b' * z' - c' * y')) := by grind
  generalize -t - a * (y' + z' + w') - x * (b' + c' + d') - 2 * (b' * y' + c' * z' + d' * w') = r1 at *
  generalize (t + a * (y' + w' - z') + x * (b' + c' - d') + 2 * (c' * w' - d' * z')) = r2 at *
  generalize (t + a * (z' + y' - w') + x * (c' + d' - b') + 2 * (d' * y' - b' * w')) = r3 at *
  generalize (t + a * (w' + z' - y') + x * (b' + d' - c') + 2 * (b' * z' - c' * y')) = r4 at *
  unfold par
  omega
instance : Mul Hur := ⟨fun p q => ⟨mA p q / 2, mB p q / 2, mC p q / 2, mD p q / 2, (mul_par p q).2.2.2.2⟩⟩
@[simp] theorem add_a (p q : Hur) : (p + q).a = p.a + q.a := rfl
@[simp] theorem add_b (p q : Hur) : (p + q).b = p.b + q.b := rfl
@[simp] theorem add_c (p q : Hur) : (p + q).c = p.c + q.c := rfl
@[simp] theorem add_d (p q : Hur) : (p + q).d = p.d + q.d := rfl
@[simp] theorem sub_a (p q : Hur) : (p - q).a = p.a - q.a := rfl
@[simp] theorem sub_b (p q : Hur) : (p - q).b = p.b - q.b := rfl
@[simp] theorem sub_c (p q : Hur) : (p - q).c = p.c - q.c := rfl
@[simp] theorem sub_d (p q : Hur) : (p - q).d = p.d - q.d := rfl
@[simp] theorem neg_a (p : Hur) : (-p).a = -p.a := rfl
@[simp] theorem neg_b (p : Hur) : (-p).b = -p.b := rfl
@[simp] theorem neg_c (p : Hur) : (-p).c = -p.c := rfl
@[simp] theorem neg_d (p : Hur) : (-p).d = -p.d := rfl
@[simp] theorem bar_a (p : Hur) : (bar p).a = p.a := rfl
@[simp] theorem bar_b (p : Hur) : (bar p).b = -p.b := rfl
@[simp] theorem bar_c (p : Hur) : (bar p).c = -p.c := rfl
@[simp] theorem bar_d (p : Hur) : (bar p).d = -p.d := rfl
@[simp] theorem whole_a (n : Int) : (whole n).a = 2 * n := rfl
@[simp] theorem whole_b (n : Int) : (whole n).b = 0 := rfl
@[simp] theorem whole_c (n : Int) : (whole n).c = 0 := rfl
@[simp] theorem whole_d (n : Int) : (whole n).d = 0 := rfl
theorem mul_a (p q : Hur) : 2 * (p * q).a = p.a * q.a - p.b * q.b - p.c * q.c - p.d * q.d := by
  have h := (mul_par p q).1; show 2 * (mA p q / 2) = _; unfold mA at *; omega
theorem mul_b (p q : Hur) : 2 * (p * q).b = p.a * q.b + p.b * q.a + p.c * q.d - p.d * q.c := by
  have h := (mul_par p q).2.1; show 2 * (mB p q / 2) = _; unfold mB at *; omega
theorem mul_c (p q : Hur) : 2 * (p * q).c = p.a * q.c - p.b * q.d + p.c * q.a + p.d * q.b := by
  have h := (mul_par p q).2.2.1; show 2 * (mC p q / 2) = _; unfold mC at *; omega
theorem mul_d (p q : Hur) : 2 * (p * q).d = p.a * q.d + p.b * q.c - p.c * q.b + p.d * q.a := by
  have h := (mul_par p q).2.2.2.1; show 2 * (mD p q / 2) = _; unfold mD at *; omega
theorem mul_assoc (p q r : Hur) : (p * q) * r = p * (q * r) := by
  have a1 := mul_a p q; have a2 := mul_b p q; have a3 := mul_c p q; have a4 := mul_d p q
  have b1 := mul_a q r; have b2 := mul_b q r; have b3 := mul_c q r; have b4 := mul_d q r
  have c1 := mul_a (p * q) r; have c2 := mul_b (p * q) r; have c3 := mul_c (p * q) r; have c4 := mul_d (p * q) r
  have d1 := mul_a p (q * r); have d2 := mul_b p (q * r); have d3 := mul_c p (q * r); have d4 := mul_d p (q * r)
  generalize p * q = u at *
  generalize q * r = v at *
  generalize u * r = s at *
  generalize p * v = t at *
  have l1 : 2 * (2 * s.a) = (2 * u.a) * r.a - (2 * u.b) * r.b - (2 * u.c) * r.c - (2 * u.d) * r.d := by rw [c1]; grind (splits := 0)
  have m1 : 2 * (2 * t.a) = p.a * (2 * v.a) - p.b * (2 * v.b) - p.c * (2 * v.c) - p.d * (2 * v.d) := by rw [d1]; grind (splits := 0)
  rw [a1, a2, a3, a4] at l1; rw [b1, b2, b3, b4] at m1
  have e1 : 2 * (2 * s.a) = 2 * (2 * t.a) := by rw [l1, m1]; grind (splits := 0)
  have l2 : 2 * (2 * s.b) = (2 * u.a) * r.b + (2 * u.b) * r.a + (2 * u.c) * r.d - (2 * u.d) * r.c := by rw [c2]; grind (splits := 0)
  have m2 : 2 * (2 * t.b) = p.a * (2 * v.b) + p.b * (2 * v.a) + p.c * (2 * v.d) - p.d * (2 * v.c) := by rw [d2]; grind (splits := 0)
  rw [a1, a2, a3, a4] at l2; rw [b1, b2, b3, b4] at m2
  have e2 : 2 * (2 * s.b) = 2 * (2 * t.b) := by rw [l2, m2]; grind (splits := 0)
  have l3 : 2 * (2 * s.c) = (2 * u.a) * r.c - (2 * u.b) * r.d + (2 * u.c) * r.a + (2 * u.d) * r.b := by rw [c3]; grind (splits := 0)
  have m3 : 2 * (2 * t.c) = p.a * (2 * v.c) - p.b * (2 * v.d) + p.c * (2 * v.a) + p.d * (2 * v.b) := by rw [d3]; grind (splits := 0)
  rw [a1, a2, a3, a4] at l3; rw [b1, b2, b3, b4] at m3
  have e3 : 2 * (2 * s.c) = 2 * (2 * t.c) := by rw [l3, m3]; grind (splits := 0)
  have l4 : 2 * (2 * s.d) = (2 * u.a) * r.d + (2 * u.b) * r.c - (2 * u.c) * r.b + (2 * u.d) * r.a := by rw [c4]; grind (splits := 0)
  have m4 : 2 * (2 * t.d) = p.a * (2 * v.d) + p.b * (2 * v.c) - p.c * (2 * v.b) + p.d * (2 * v.a) := by rw [d4]; grind (splits := 0)
  rw [a1, a2, a3, a4] at l4; rw [b1, b2, b3, b4] at m4
  have e4 : 2 * (2 * s.d) = 2 * (2 * t.d) := by rw [l4, m4]; grind (splits := 0)
  exact Hur.ext (by omega) (by omega) (by omega) (by omega)
theorem mul_add (p q r : Hur) : p * (q + r) = p * q + p * r := by
  have a1 := mul_a p (q + r); have a2 := mul_b p (q + r); have a3 := mul_c p (q + r); have a4 := mul_d p (q + r)
  have b1 := mul_a p q; have b2 := mul_b p q; have b3 := mul_c p q; have b4 := mul_d p q
  have c1 := mul_a p r; have c2 := mul_b p r; have c3 := mul_c p r; have c4 := mul_d p r
  simp only [add_a, add_b, add_c, add_d] at *
  refine Hur.ext ?_ ?_ ?_ ?_ <;> simp only [add_a, add_b, add_c, add_d] <;> grind
theorem add_mul (p q r : Hur) : (p + q) * r = p * r + q * r := by
  have a1 := mul_a (p + q) r; have a2 := mul_b (p + q) r; have a3 := mul_c (p + q) r; have a4 := mul_d (p + q) r
  have b1 := mul_a p r; have b2 := mul_b p r; have b3 := mul_c p r; have b4 := mul_d p r
  have c1 := mul_a q r; have c2 := mul_b q r; have c3 := mul_c q r; have c4 := mul_d q r
  simp only [add_a, add_b, add_c, add_d] at *
  refine Hur.ext ?_ ?_ ?_ ?_ <;> simp only [add_a, add_b, add_c, add_d] <;> grind
end Hur
end HQ
namespace HQ
namespace Hur
def N (p : Hur) : Int := (p.a * p.a + p.b * p.b + p.c * p.c + p.d * p.d) / 4
theorem four_N (p : Hur) : 4 * N p = p.a * p.a + p.b * p.b + p.c * p.c + p.d * p.d := by
  obtain ⟨a, b, c, d, h⟩ := p
  unfold par at h
  obtain ⟨b', rfl⟩ : ∃ b', b = a + 2 * b' := ⟨(b - a) / 2, by omega⟩
  obtain ⟨c', rfl⟩ : ∃ c', c = a + 2 * c' := ⟨(c - a) / 2, by omega⟩
  obtain ⟨d', rfl⟩ : ∃ d', d = a + 2 * d' := ⟨(d - a) / 2, by omega⟩
  have e : a * a + (a + 2 * b') * (a + 2 * b') + (a + 2 * c') * (a + 2 * c') + (a + 2 * d') * (a + 2 * d') = 4 * (a * a + a * (b' + c' + d') + b' * b' + c' * c' + d' * d') := by grind
  simp only [N, e]
  omega
theorem sq_nonneg (x : Int) : 0 ≤ x * x := by
  rcases Int.le_total 0 x with h | h
  · exact Int.mul_nonneg h h
  · exact Int.mul_nonneg_of_nonpos_of_nonpos h h
theorem N_nonneg (p : Hur) : 0 ≤ N p := by
  have := four_N p; have := sq_nonneg p.a; have := sq_nonneg p.b; have := sq_nonneg p.c; have := sq_nonneg p.d; omega
theorem sq_zero {x : Int} (h : x * x ≤ 0) : x = 0 := by
  rcases Int.lt_trichotomy x 0 with z | z | z
  · have := Int.mul_pos_of_neg_of_neg z z; omega
  · exact z
  · have := Int.mul_pos z z; omega
def zero : Hur := whole 0
def one : Hur := whole 1
theorem N_zero_iff {p : Hur} : N p = 0 ↔ p = zero := by
  constructor
  · intro h
    have e := four_N p; have := sq_nonneg p.a; have := sq_nonneg p.b; have := sq_nonneg p.c; have := sq_nonneg p.d
    exact Hur.ext (sq_zero (by omega)) (sq_zero (by omega)) (sq_zero (by omega)) (sq_zero (by omega))
  · rintro rfl; rfl
theorem N_pos {p : Hur} (h : p ≠ zero) : 0 < N p := by
  have := N_nonneg p
  have : N p ≠ 0 := fun e => h (N_zero_iff.mp e)
  omega
theorem N_mul (p q : Hur) : N (p * q) = N p * N q := by
  have a1 := mul_a p q; have a2 := mul_b p q; have a3 := mul_c p q; have a4 := mul_d p q
  have h := four_N (p * q); have hp := four_N p; have hq := four_N q
  generalize p * q = u at *
  have e : 4 * (4 * N u) = (2 * u.a) * (2 * u.a) + (2 * u.b) * (2 * u.b) + (2 * u.c) * (2 * u.c) + (2 * u.d) * (2 * u.d) := by rw [h]; grind (splits := 0)
  rw [a1, a2, a3, a4] at e
  have e2 : (4 * N p) * (4 * N q) = (p.a * p.a + p.b * p.b + p.c * p.c + p.d * p.d) * (q.a * q.a + q.b * q.b + q.c * q.c + q.d * q.d) := by rw [hp, hq]
  have e3 : 4 * (4 * N u) = (4 * N p) * (4 * N q) := by rw [e, e2]; grind (splits := 0)
  have e4 : (4 * N p) * (4 * N q) = 16 * (N p * N q) := by grind (splits := 0)
  omega
@[simp] theorem N_whole (n : Int) : N (whole n) = n * n := by
  have h := four_N (whole n); simp only [whole_a, whole_b, whole_c, whole_d] at h
  have : 2 * n * (2 * n) = 4 * (n * n) := by grind (splits := 0)
  omega
@[simp] theorem N_one : N one = 1 := rfl
@[simp] theorem N_zero : N zero = 0 := rfl
@[simp] theorem N_neg (p : Hur) : N (-p) = N p := by
  have h := four_N (-p); have k := four_N p; simp only [neg_a, neg_b, neg_c, neg_d, Int.neg_mul_neg] at h; omega
@[simp] theorem N_bar (p : Hur) : N (bar p) = N p := by
  have h := four_N (bar p); have k := four_N p; simp only [bar_a, bar_b, bar_c, bar_d, Int.neg_mul_neg] at h; omega
@[simp] theorem bar_bar (p : Hur) : bar (bar p) = p := by refine Hur.ext ?_ ?_ ?_ ?_ <;> simp
theorem bar_mul (p q : Hur) : bar (p * q) = bar q * bar p := by
  have a1 := mul_a p q; have a2 := mul_b p q; have a3 := mul_c p q; have a4 := mul_d p q
  have b1 := mul_a (bar q) (bar p); have b2 := mul_b (bar q) (bar p); have b3 := mul_c (bar q) (bar p); have b4 := mul_d (bar q) (bar p)
  simp only [bar_a, bar_b, bar_c, bar_d] at *
  refine Hur.ext ?_ ?_ ?_ ?_ <;> simp only [bar_a, bar_b, bar_c, bar_d] <;> grind (splits := 0)
def sm (n : Int) (p : Hur) : Hur := ⟨n * p.a, n * p.b, n * p.c, n * p.d, by
  have h := p.h; unfold par at *; obtain ⟨h1, h2, h3⟩ := h
  refine ⟨?_, ?_, ?_⟩ <;> rw [Int.mul_emod] <;> conv => rhs; rw [Int.mul_emod]
  · rw [h1]
  · rw [h2]
  · rw [h3]⟩
@[simp] theorem sm_a (n : Int) (p : Hur) : (sm n p).a = n * p.a := rfl
@[simp] theorem sm_b (n : Int) (p : Hur) : (sm n p).b = n * p.b := rfl
@[simp] theorem sm_c (n : Int) (p : Hur) : (sm n p).c = n * p.c := rfl
@[simp] theorem sm_d (n : Int) (p : Hur) : (sm n p).d = n * p.d := rfl
theorem whole_mul (n : Int) (p : Hur) : whole n * p = sm n p := by
  have a1 := mul_a (whole n) p; have a2 := mul_b (whole n) p; have a3 := mul_c (whole n) p; have a4 := mul_d (whole n) p
  simp only [whole_a, whole_b, whole_c, whole_d] at *
  refine Hur.ext ?_ ?_ ?_ ?_ <;> simp only [sm_a, sm_b, sm_c, sm_d] <;> grind (splits := 0)
theorem mul_whole (n : Int) (p : Hur) : p * whole n = sm n p := by
  have a1 := mul_a p (whole n); have a2 := mul_b p (whole n); have a3 := mul_c p (whole n); have a4 := mul_d p (whole n)
  simp only [whole_a, whole_b, whole_c, whole_d] at *
  refine Hur.ext ?_ ?_ ?_ ?_ <;> simp only [sm_a, sm_b, sm_c, sm_d] <;> grind (splits := 0)
theorem sm_mul (n : Int) (p q : Hur) : sm n p * q = sm n (p * q) := by rw [← whole_mul, ← whole_mul, mul_assoc]
theorem mul_sm (n : Int) (p q : Hur) : p * sm n q = sm n (p * q) := by rw [← mul_whole, ← mul_whole, mul_assoc]
theorem sm_sm (m n : Int) (p : Hur) : sm m (sm n p) = sm (m * n) p := by refine Hur.ext ?_ ?_ ?_ ?_ <;> simp [Int.mul_assoc]
@[simp] theorem sm_one (p : Hur) : sm 1 p = p := by refine Hur.ext ?_ ?_ ?_ ?_ <;> simp
@[simp] theorem sm_zero (p : Hur) : sm 0 p = zero := by refine Hur.ext ?_ ?_ ?_ ?_ <;> simp [zero]
theorem sm_add (n : Int) (p q : Hur) : sm n (p + q) = sm n p + sm n q := by refine Hur.ext ?_ ?_ ?_ ?_ <;> simp [Int.mul_add]
theorem sm_inj {n : Int} (h : n ≠ 0) {p q : Hur} (e : sm n p = sm n q) : p = q := by
  obtain ⟨h1, h2, h3, h4⟩ := Hur.ext_iff.mp e
  exact Hur.ext (Int.eq_of_mul_eq_mul_left h h1) (Int.eq_of_mul_eq_mul_left h h2) (Int.eq_of_mul_eq_mul_left h h3) (Int.eq_of_mul_eq_mul_left h h4)
theorem sm_whole (m n : Int) : sm m (whole n) = whole (m * n) := by refine Hur.ext ?_ ?_ ?_ ?_ <;> simp <;> grind (splits := 0)
@[simp] theorem N_sm (n : Int) (p : Hur) : N (sm n p) = n * n * N p := by rw [← whole_mul, N_mul, N_whole]
@[simp] theorem bar_sm (n : Int) (p : Hur) : bar (sm n p) = sm n (bar p) := by refine Hur.ext ?_ ?_ ?_ ?_ <;> simp [Int.mul_neg]
@[simp] theorem bar_whole (n : Int) : bar (whole n) = whole n := by refine Hur.ext ?_ ?_ ?_ ?_ <;> simp
theorem mul_bar (p : Hur) : p * bar p = whole (N p) := by
  have a1 := mul_a p (bar p); have a2 := mul_b p (bar p); have a3 := mul_c p (bar p); have a4 := mul_d p (bar p)
  have h := four_N p
  simp only [bar_a, bar_b, bar_c, bar_d] at *
  refine Hur.ext ?_ ?_ ?_ ?_ <;> simp only [whole_a, whole_b, whole_c, whole_d] <;> grind (splits := 0)
theorem bar_mul_self (p : Hur) : bar p * p = whole (N p) := by
  have := mul_bar (bar p); rwa [bar_bar, N_bar] at this
@[simp] theorem one_mul (p : Hur) : one * p = p := by rw [one, whole_mul, sm_one]
@[simp] theorem mul_one (p : Hur) : p * one = p := by rw [one, mul_whole, sm_one]
@[simp] theorem zero_mul (p : Hur) : zero * p = zero := by rw [zero, whole_mul, sm_zero]; rfl
@[simp] theorem mul_zero (p : Hur) : p * zero = zero := by rw [zero, mul_whole, sm_zero]; rfl
@[simp] theorem add_zero (p : Hur) : p + zero = p := by refine Hur.ext ?_ ?_ ?_ ?_ <;> simp [zero]
@[simp] theorem zero_add (p : Hur) : zero + p = p := by refine Hur.ext ?_ ?_ ?_ ?_ <;> simp [zero]
@[simp] theorem sub_zero (p : Hur) : p - zero = p := by refine Hur.ext ?_ ?_ ?_ ?_ <;> simp [zero]
@[simp] theorem bar_zero : bar zero = zero := rfl
@[simp] theorem bar_one : bar one = one := rfl
theorem add_sub_cancel (p q : Hur) : p + (q - p) = q := by refine Hur.ext ?_ ?_ ?_ ?_ <;> simp <;> omega
theorem neg_neg (p : Hur) : - -p = p := by refine Hur.ext ?_ ?_ ?_ ?_ <;> simp
theorem add_comm (p q : Hur) : p + q = q + p := by refine Hur.ext ?_ ?_ ?_ ?_ <;> simp <;> omega
theorem neg_eq_sm (p : Hur) : -p = sm (-1) p := by refine Hur.ext ?_ ?_ ?_ ?_ <;> simp
theorem sub_eq (p q : Hur) : p - q = p + sm (-1) q := by refine Hur.ext ?_ ?_ ?_ ?_ <;> simp <;> omega
theorem neg_mul (p q : Hur) : -p * q = -(p * q) := by rw [neg_eq_sm, sm_mul, neg_eq_sm]
theorem mul_neg (p q : Hur) : p * -q = -(p * q) := by rw [neg_eq_sm, mul_sm, neg_eq_sm]
theorem mul_sub (p q r : Hur) : p * (q - r) = p * q - p * r := by rw [sub_eq, mul_add, mul_sm, sub_eq]
theorem sub_mul (p q r : Hur) : (p - q) * r = p * r - q * r := by rw [sub_eq, add_mul, sm_mul, sub_eq]
theorem mul_eq_zero {p q : Hur} (h : p * q = zero) : p = zero ∨ q = zero := by
  have e : N p * N q = 0 := by rw [← N_mul, h]; rfl
  rcases Int.mul_eq_zero.mp e with z | z
  · exact .inl (N_zero_iff.mp z)
  · exact .inr (N_zero_iff.mp z)
theorem mul_left_cancel {p q r : Hur} (h : p ≠ zero) (e : p * q = p * r) : q = r := by
  have e2 : bar p * (p * q) = bar p * (p * r) := by rw [e]
  rw [← mul_assoc, ← mul_assoc, bar_mul_self, whole_mul, whole_mul] at e2
  exact sm_inj (by have := N_pos h; omega) e2
theorem whole_inj {m n : Int} (h : whole m = whole n) : m = n := by have := congrArg Hur.a h; simp at this; omega
theorem whole_ne {n : Int} (h : n ≠ 0) : whole n ≠ zero := fun e => h (whole_inj e)
theorem bar_eq_zero {p : Hur} : bar p = zero ↔ p = zero := ⟨fun e => by rw [← bar_bar p, e, bar_zero], fun e => by rw [e, bar_zero]⟩
instance : Dvd Hur := ⟨fun g f => ∃ x, f = g * x⟩
theorem dvd_refl (p : Hur) : p ∣ p := ⟨one, (mul_one p).symm⟩
theorem dvd_trans {p q r : Hur} (h : p ∣ q) (k : q ∣ r) : p ∣ r := by
  obtain ⟨x, rfl⟩ := h; obtain ⟨y, rfl⟩ := k; exact ⟨x * y, mul_assoc _ _ _⟩
theorem dvd_zero (p : Hur) : p ∣ zero := ⟨zero, (mul_zero p).symm⟩
theorem dvd_mul_right (p q : Hur) : p ∣ p * q := ⟨q, rfl⟩
theorem dvd_mul_of {p q : Hur} (h : p ∣ q) (r : Hur) : p ∣ q * r := dvd_trans h ⟨r, rfl⟩
theorem dvd_add {p q r : Hur} (h : p ∣ q) (k : p ∣ r) : p ∣ q + r := by
  obtain ⟨x, rfl⟩ := h; obtain ⟨y, rfl⟩ := k; exact ⟨x + y, (mul_add _ _ _).symm⟩
theorem dvd_sub {p q r : Hur} (h : p ∣ q) (k : p ∣ r) : p ∣ q - r := by
  obtain ⟨x, rfl⟩ := h; obtain ⟨y, rfl⟩ := k; exact ⟨x - y, (mul_sub _ _ _).symm⟩
theorem mul_dvd_mul (r : Hur) {p q : Hur} (h : p ∣ q) : r * p ∣ r * q := by obtain ⟨x, rfl⟩ := h; exact ⟨x, (mul_assoc _ _ _).symm⟩
theorem of_mul_dvd_mul {r p q : Hur} (hr : r ≠ zero) (h : r * p ∣ r * q) : p ∣ q := by
  obtain ⟨x, e⟩ := h; rw [mul_assoc] at e; exact ⟨x, mul_left_cancel hr e⟩
theorem N_dvd {p q : Hur} (h : p ∣ q) : N p ∣ N q := by obtain ⟨x, rfl⟩ := h; exact ⟨N x, N_mul _ _⟩
theorem zero_dvd {q : Hur} (h : zero ∣ q) : q = zero := by obtain ⟨x, rfl⟩ := h; exact zero_mul x
theorem dvd_whole_N (p : Hur) : p ∣ whole (N p) := ⟨bar p, (mul_bar p).symm⟩
theorem whole_dvd {m n : Int} (h : m ∣ n) : whole m ∣ whole n := by obtain ⟨k, rfl⟩ := h; exact ⟨whole k, by rw [whole_mul, sm_whole]⟩
def IsU (u : Hur) : Prop := N u = 1
theorem unit_mul {u v : Hur} (h : IsU u) (k : IsU v) : IsU (u * v) := by unfold IsU at *; rw [N_mul, h, k]; rfl
theorem unit_bar {u : Hur} (h : IsU u) : IsU (bar u) := by unfold IsU at *; rw [N_bar, h]
theorem unit_mul_bar {u : Hur} (h : IsU u) : u * bar u = one := by rw [mul_bar, h]; rfl
theorem mul_unit_dvd {p q u : Hur} (h : IsU u) : p * u ∣ q ↔ p ∣ q := by
  constructor
  · exact fun k => dvd_trans (dvd_mul_right p u) k
  · rintro ⟨x, rfl⟩; exact ⟨bar u * x, by rw [mul_assoc, ← mul_assoc u, unit_mul_bar h, one_mul]⟩
theorem assoc_of_dvd {p q : Hur} (h : p ∣ q) (k : q ∣ p) : ∃ u, IsU u ∧ q = p * u := by
  by_cases hz : p = zero
  · subst hz; exact ⟨one, rfl, by rw [mul_one]; exact zero_dvd h⟩
  obtain ⟨x, rfl⟩ := h
  obtain ⟨y, e⟩ := k
  have e1 : p * one = p * (x * y) := by rw [mul_one, ← mul_assoc]; exact e
  have e2 := mul_left_cancel hz e1
  have e3 : N x * N y = 1 := by rw [← N_mul, ← e2]; rfl
  exact ⟨x, Int.eq_one_of_dvd_one (N_nonneg x) ⟨N y, e3.symm⟩, rfl⟩
end Hur
end HQ
namespace HQ
namespace Hur
def mk4 (t : Int × Int × Int × Int) : Hur := if h : par t.1 t.2.1 t.2.2.1 t.2.2.2 then ⟨t.1, t.2.1, t.2.2.1, t.2.2.2, h⟩ else zero
def unitRows : List (Int × Int × Int × Int) := [(-2,0,0,0),(-1,-1,-1,-1),(-1,-1,-1,1),(-1,-1,1,-1),(-1,-1,1,1),(-1,1,-1,-1),(-1,1,-1,1),(-1,1,1,-1),(-1,1,1,1),(0,-2,0,0),(0,0,-2,0),(0,0,0,-2),(0,0,0,2),(0,0,2,0),(0,2,0,0),(1,-1,-1,-1),(1,-1,-1,1),(1,-1,1,-1),(1,-1,1,1),(1,1,-1,-1),(1,1,-1,1),(1,1,1,-1),(1,1,1,1),(2,0,0,0)]
def units : List Hur := unitRows.map mk4
def lt4 (p q : Hur) : Bool := decide (p.a < q.a) || (decide (p.a = q.a) && (decide (p.b < q.b) || (decide (p.b = q.b) && (decide (p.c < q.c) || (decide (p.c = q.c) && decide (p.d < q.d))))))
theorem lt4_iff {p q : Hur} : lt4 p q = true ↔ p.a < q.a ∨ p.a = q.a ∧ (p.b < q.b ∨ p.b = q.b ∧ (p.c < q.c ∨ p.c = q.c ∧ p.d < q.d)) := by
  simp [lt4]
theorem lt4_irrefl (p : Hur) : lt4 p p = false := by
  rcases h : lt4 p p with _ | _
  · rfl
  · rw [lt4_iff] at h; omega
theorem lt4_trans {p q r : Hur} (h : lt4 p q = true) (k : lt4 q r = true) : lt4 p r = true := by
  rw [lt4_iff] at *; omega
theorem lt4_total {p q : Hur} (h : lt4 p q = false) (k : lt4 q p = false) : p = q := by
  have h : ¬ (lt4 p q = true) := by simp [h]
  have k : ¬ (lt4 q p = true) := by simp [k]
  rw [lt4_iff] at h k
  exact Hur.ext (by omega) (by omega) (by omega) (by omega)
theorem lt4_le {p q r : Hur} (h : lt4 p q = false) (k : lt4 q r = false) : lt4 p r = false := by
  have h : ¬ (lt4 p q = true) := by simp [h]
  have k : ¬ (lt4 q r = true) := by simp [k]
  rcases e : lt4 p r with _ | _
  · rfl
  · rw [lt4_iff] at h k e; omega
theorem unit_small {u : Hur} (h : IsU u) : u.a.natAbs ≤ 2 ∧ u.b.natAbs ≤ 2 ∧ u.c.natAbs ≤ 2 ∧ u.d.natAbs ≤ 2 := by
  have e := four_N u; unfold IsU at h; rw [h] at e
  have h1 := sq_nonneg u.a; have h2 := sq_nonneg u.b; have h3 := sq_nonneg u.c; have h4 := sq_nonneg u.d
  have key : ∀ x : Int, x * x ≤ 4 → x.natAbs ≤ 2 := fun x hx => by
    rcases Nat.lt_or_ge 2 x.natAbs with z | z
    · have : 3 * 3 ≤ x.natAbs * x.natAbs := Nat.mul_le_mul z z
      have e : x * x = ((x.natAbs * x.natAbs : Nat) : Int) := by rw [Int.natAbs_mul_self]
      omega
    · exact z
  exact ⟨key _ (by omega), key _ (by omega), key _ (by omega), key _ (by omega)⟩
theorem unit_check : ∀ a ∈ [-2, -1, 0, 1, 2], ∀ b ∈ [-2, -1, 0, 1, 2], ∀ c ∈ [-2, -1, 0, 1, 2], ∀ d ∈ [(-2 : Int), -1, 0, 1, 2], a * a + b * b + c * c + d * d = 4 → par a b c d → (a, b, c, d) ∈ unitRows := by decide +kernel
theorem unitRows_par : ∀ t ∈ unitRows, par t.1 t.2.1 t.2.2.1 t.2.2.2 := by decide +kernel
theorem mem_units {u : Hur} : u ∈ units ↔ IsU u := by
  constructor
  · have : ∀ u ∈ units, N u = 1 := by decide +kernel
    exact this u
  · intro h
    obtain ⟨h1, h2, h3, h4⟩ := unit_small h
    have e := four_N u; unfold IsU at h; rw [h] at e
    have l : ∀ x : Int, x.natAbs ≤ 2 → x ∈ [(-2 : Int), -1, 0, 1, 2] := fun x hx => by
      have : x = -2 ∨ x = -1 ∨ x = 0 ∨ x = 1 ∨ x = 2 := by omega
      simpa using this
    have m := unit_check u.a (l _ h1) u.b (l _ h2) u.c (l _ h3) u.d (l _ h4) e.symm u.h
    refine List.mem_map.mpr ⟨_, m, ?_⟩
    unfold mk4
    rw [dif_pos u.h]
/-- the best of a list -/
def best (p : Hur) : List Hur → Hur := List.foldl (fun b x => if lt4 b x then x else b) p
theorem best_mem : ∀ (l : List Hur) (p : Hur), best p l = p ∨ best p l ∈ l
  | [], p => .inl rfl
  | x :: l, p => by
    show best (if lt4 p x then x else p) l = p ∨ _
    rcases best_mem l (if lt4 p x then x else p) with h | h
    · rw [show best p (x :: l) = best (if lt4 p x then x else p) l from rfl, h]
      split
      · exact .inr (by simp)
      · exact .inl rfl
    · exact .inr (List.mem_cons_of_mem _ h)
theorem best_ge : ∀ (l : List Hur) (p : Hur), lt4 (best p l) p = false ∧ ∀ x ∈ l, lt4 (best p l) x = false
  | [], p => ⟨lt4_irrefl p, by simp⟩
  | y :: l, p => by
    obtain ⟨h1, h2⟩ := best_ge l (if lt4 p y then y else p)
    have e : best p (y :: l) = best (if lt4 p y then y else p) l := rfl
    rw [e]
    have k1 : lt4 (if lt4 p y then y else p) p = false := by
      split
      · rename_i h; rcases z : lt4 y p with _ | _
        · rfl
        · have := lt4_trans h z; rw [lt4_irrefl] at this; cases this
      · exact lt4_irrefl p
    have k2 : lt4 (if lt4 p y then y else p) y = false := by
      split
      · exact lt4_irrefl y
      · rename_i h; simpa using h
    refine ⟨lt4_le h1 k1, fun x hx => ?_⟩
    rcases List.mem_cons.mp hx with rfl | hx
    · exact lt4_le h1 k2
    · exact h2 x hx
def assoc (q : Hur) : Hur := best q (units.map (q * ·))
theorem assoc_eq_mul (q : Hur) : ∃ u, IsU u ∧ assoc q = q * u := by
  rcases best_mem (units.map (q * ·)) q with h | h
  · exact ⟨one, rfl, by rw [mul_one]; exact h⟩
  · obtain ⟨u, hu, e⟩ := List.mem_map.mp h
    exact ⟨u, mem_units.mp hu, e.symm⟩
theorem assoc_ge (q : Hur) {u : Hur} (h : IsU u) : lt4 (assoc q) (q * u) = false := (best_ge _ q).2 _ (List.mem_map.mpr ⟨u, mem_units.mpr h, rfl⟩)
theorem assoc_unique {q r : Hur} (h : ∃ u, IsU u ∧ r = q * u) (k : ∀ u, IsU u → lt4 r (q * u) = false) : r = assoc q := by
  obtain ⟨u, hu, rfl⟩ := h
  obtain ⟨v, hv, e⟩ := assoc_eq_mul q
  refine lt4_total ?_ ?_
  · rw [e]; exact k v hv
  · exact assoc_ge q hu
theorem assoc_mul_unit (q : Hur) {u : Hur} (h : IsU u) : assoc (q * u) = assoc q := by
  obtain ⟨v, hv, e⟩ := assoc_eq_mul (q * u)
  refine assoc_unique ⟨u * v, unit_mul h hv, by rw [e, mul_assoc]⟩ fun w hw => ?_
  have := assoc_ge (q * u) (u := bar u * w) (unit_mul (unit_bar h) hw)
  rwa [mul_assoc, ← mul_assoc u, unit_mul_bar h, one_mul] at this
theorem assoc_idem (q : Hur) : assoc (assoc q) = assoc q := by
  obtain ⟨u, hu, e⟩ := assoc_eq_mul q
  rw [e, assoc_mul_unit q hu, e]
theorem N_assoc (q : Hur) : N (assoc q) = N q := by
  obtain ⟨u, hu, e⟩ := assoc_eq_mul q
  rw [e, N_mul, hu, Int.mul_one]
theorem assoc_eq_of_dvd {p q : Hur} (h : p ∣ q) (k : q ∣ p) : assoc p = assoc q := by
  obtain ⟨u, hu, rfl⟩ := assoc_of_dvd h k
  exact (assoc_mul_unit p hu).symm
/-- nearest even and odd halves -/
def evenOf (p : Hur) (n : Int) : Hur := ⟨2 * ((p.a + n) / (2 * n)), 2 * ((p.b + n) / (2 * n)), 2 * ((p.c + n) / (2 * n)), 2 * ((p.d + n) / (2 * n)), by unfold par; omega⟩
def oddOf (p : Hur) (n : Int) : Hur := ⟨2 * (p.a / (2 * n)) + 1, 2 * (p.b / (2 * n)) + 1, 2 * (p.c / (2 * n)) + 1, 2 * (p.d / (2 * n)) + 1, by unfold par; omega⟩
def far (p : Hur) (n : Int) (q : Hur) : Int := (p.a - n * q.a) * (p.a - n * q.a) + (p.b - n * q.b) * (p.b - n * q.b) + (p.c - n * q.c) * (p.c - n * q.c) + (p.d - n * q.d) * (p.d - n * q.d)
theorem far_eq (p : Hur) (n : Int) (q : Hur) : far p n q = 4 * N (p - sm n q) := by rw [four_N]; rfl
def near (p : Hur) (n : Int) : Hur := if far p n (evenOf p n) ≤ far p n (oddOf p n) then evenOf p n else oddOf p n
/-- one coordinate: with e = x - n * even, o = x - n * odd: |e| + |o| = n, so e² + o² ≤ n² -/
theorem coord {x n : Int} (h : 0 < n) : ∃ e o : Int, x - n * (2 * ((x + n) / (2 * n))) = e ∧ x - n * (2 * (x / (2 * n)) + 1) = o ∧ e * e + o * o ≤ n * n ∧ (e * e + o * o = n * n → e * e = 0 ∨ o * o = 0) := by
  refine ⟨_, _, rfl, rfl, ?_⟩
  have h2 : 0 < 2 * n := by omega
  have d1 := Int.emod_add_mul_ediv (x + n) (2 * n); have m1 := Int.emod_nonneg (x + n) (b := 2 * n) (by omega); have l1 := Int.emod_lt_of_pos (x + n) h2
  have d2 := Int.emod_add_mul_ediv x (2 * n); have m2 := Int.emod_nonneg x (b := 2 * n) (by omega); have l2 := Int.emod_lt_of_pos x h2
  generalize (x + n) / (2 * n) = q1 at *
  generalize x / (2 * n) = q2 at *
  generalize (x + n) % (2 * n) = r1 at *
  generalize x % (2 * n) = r2 at *
  have a1 : 2 * n * q1 = n * (2 * q1) := by grind (splits := 0)
  have a2 : 2 * n * q2 = n * (2 * q2) := by grind (splits := 0)
  have a3 : n * (2 * q2 + 1) = n * (2 * q2) + n := by grind (splits := 0)
  rw [a1] at d1; rw [a2] at d2; rw [a3]
  -- q1 = q2 or q1 = q2 + 1
  have hq : q1 = q2 ∨ q1 = q2 + 1 := by
    have e : n * (2 * q1) - n * (2 * q2) = 2 * (n * (q1 - q2)) := by grind (splits := 0)
    have b1 : 2 * (n * (q1 - q2)) < 4 * n := by omega
    have b2 : -(2 * n) < 2 * (n * (q1 - q2)) := by omega
    have c1 : q1 - q2 < 2 := by
      rcases Int.lt_or_le (q1 - q2) 2 with z | z
      · exact z
      · have := Int.mul_le_mul_of_nonneg_left z (Int.le_of_lt h); omega
    have c2 : -1 < q1 - q2 := by
      rcases Int.lt_or_le (-1) (q1 - q2) with z | z
      · exact z
      · have := Int.mul_le_mul_of_nonneg_left z (Int.le_of_lt h); omega
    omega
  have hs : ∀ e f : Int, 0 ≤ e → 0 ≤ f → e + f = n → e * e + f * f ≤ n * n ∧ (e * e + f * f = n * n → e * e = 0 ∨ f * f = 0) := fun e f he hf hn => by
    have : n * n = e * e + f * f + 2 * (e * f) := by rw [← hn]; grind (splits := 0)
    have p := Int.mul_nonneg he hf
    refine ⟨by omega, fun z => ?_⟩
    have : e * f = 0 := by omega
    rcases Int.mul_eq_zero.mp this with z | z
    · exact .inl (by rw [z]; rfl)
    · exact .inr (by rw [z]; rfl)
  have neg : ∀ z : Int, z * z = (-z) * (-z) := fun z => by rw [Int.neg_mul_neg]
  rcases hq with rfl | rfl
  · -- e = x - 2nq = r2 = r1 - n.. , o = r2 - n ≤ 0
    have h1 : x - n * (2 * q1) = r2 := by omega
    have h3 : x - (n * (2 * q1) + n) = -(n - r2) := by omega
    rw [h1, h3, ← neg]
    exact hs _ _ m2 (by omega) (by omega)
  · have a4 : n * (2 * (q2 + 1)) = n * (2 * q2) + 2 * n := by grind (splits := 0)
    rw [a4] at d1 ⊢
    have h1 : x - (n * (2 * q2) + 2 * n) = -(2 * n - r2) := by omega
    have h3 : x - (n * (2 * q2) + n) = r2 - n := by omega
    rw [h1, h3, ← neg]
    exact hs _ _ (by omega) (by omega) (by omega)
theorem near_lt (p : Hur) {n : Int} (h : 0 < n) : N (p - sm n (near p n)) < n * n := by
  have key : far p n (near p n) < 4 * (n * n) := by
    obtain ⟨e1, o1, h1, k1, l1, s1⟩ := coord (x := p.a) h
    obtain ⟨e2, o2, h2, k2, l2, s2⟩ := coord (x := p.b) h
    obtain ⟨e3, o3, h3, k3, l3, s3⟩ := coord (x := p.c) h
    obtain ⟨e4, o4, h4, k4, l4, s4⟩ := coord (x := p.d) h
    have fe : far p n (evenOf p n) = e1 * e1 + e2 * e2 + e3 * e3 + e4 * e4 := by simp only [far, evenOf, h1, h2, h3, h4]
    have fo : far p n (oddOf p n) = o1 * o1 + o2 * o2 + o3 * o3 + o4 * o4 := by simp only [far, oddOf, k1, k2, k3, k4]
    have nn : 0 < n * n := Int.mul_pos h h
    have z1 := sq_nonneg e1; have z2 := sq_nonneg e2; have z3 := sq_nonneg e3; have z4 := sq_nonneg e4
    have y1 := sq_nonneg o1; have y2 := sq_nonneg o2; have y3 := sq_nonneg o3; have y4 := sq_nonneg o4
    unfold near
    split
    · rw [fe]; rw [fe, fo] at *; omega
    · rw [fo]; rw [fe, fo] at *; omega
  rw [far_eq] at key; omega
def quo (p q : Hur) : Hur := near (bar q * p) (N q)
def rem (p q : Hur) : Hur := p - q * quo p q
theorem quo_rem (p q : Hur) : q * quo p q + rem p q = p := add_sub_cancel _ _
theorem rem_lt (p : Hur) {q : Hur} (h : q ≠ zero) : N (rem p q) < N q := by
  have hn := N_pos h
  have k := near_lt (bar q * p) hn
  have e : bar q * rem p q = bar q * p - sm (N q) (quo p q) := by
    unfold rem; rw [mul_sub, ← mul_assoc, bar_mul_self, whole_mul]
  have e2 : N q * N (rem p q) = N (bar q * p - sm (N q) (quo p q)) := by rw [← e, N_mul, N_bar]
  have : N q * N (rem p q) < N q * N q := by rw [e2]; exact k
  exact Int.lt_of_mul_lt_mul_left this (Int.le_of_lt hn)
structure IsG (g p q : Hur) : Prop where
  l : g ∣ p
  r : g ∣ q
  lin : ∃ x y, g = p * x + q * y
theorem IsG.dvd {g p q : Hur} (h : IsG g p q) {d : Hur} (h1 : d ∣ p) (h2 : d ∣ q) : d ∣ g := by
  obtain ⟨x, y, e⟩ := h.lin; rw [e]; exact dvd_add (dvd_mul_of h1 x) (dvd_mul_of h2 y)
theorem IsG.symm {g p q : Hur} (h : IsG g p q) : IsG g q p := by
  obtain ⟨x, y, e⟩ := h.lin; exact ⟨h.r, h.l, y, x, by rw [e, add_comm]⟩
theorem IsG.base (p : Hur) : IsG p p zero := ⟨dvd_refl p, dvd_zero p, one, zero, by rw [mul_one, mul_zero, add_zero]⟩
theorem IsG.step {g p q : Hur} (h : IsG g q (rem p q)) : IsG g p q := by
  obtain ⟨x, y, e⟩ := h.lin
  have hp : g ∣ p := by have := dvd_add (dvd_mul_of h.l (quo p q)) h.r; rwa [quo_rem] at this
  refine ⟨hp, h.l, y, x - quo p q * y, ?_⟩
  rw [e]; unfold rem; rw [sub_mul, mul_sub, mul_assoc]
  refine Hur.ext ?_ ?_ ?_ ?_ <;> simp <;> omega
theorem IsG.unit {g p q u : Hur} (h : IsG g p q) (hu : IsU u) : IsG (g * u) p q := by
  obtain ⟨x, y, e⟩ := h.lin
  exact ⟨(mul_unit_dvd hu).mpr h.l, (mul_unit_dvd hu).mpr h.r, x * u, y * u, by rw [e, add_mul, mul_assoc, mul_assoc]⟩
theorem exG (p q : Hur) : ∃ g, IsG g p q := by
  suffices H : ∀ (n : Nat) (p q : Hur), (N q).toNat = n → ∃ g, IsG g p q from H _ p q rfl
  intro n
  induction n using Nat.strongRecOn with
  | _ n ih =>
    intro p q e
    by_cases h : q = zero
    · subst h; exact ⟨p, IsG.base p⟩
    · have l := rem_lt p h
      have := N_nonneg (rem p q)
      obtain ⟨g, hg⟩ := ih (N (rem p q)).toNat (by omega) q (rem p q) rfl
      exact ⟨g, hg.step⟩
noncomputable def cl (p q : Hur) : Hur := assoc (exG p q).choose
theorem cl_is (p q : Hur) : IsG (cl p q) p q := by
  obtain ⟨u, hu, e⟩ := assoc_eq_mul (exG p q).choose
  unfold cl; rw [e]; exact (exG p q).choose_spec.unit hu
theorem cl_assoc (p q : Hur) : assoc (cl p q) = cl p q := assoc_idem _
theorem cl_dvd_l (p q : Hur) : cl p q ∣ p := (cl_is p q).l
theorem cl_dvd_r (p q : Hur) : cl p q ∣ q := (cl_is p q).r
theorem dvd_cl {d p q : Hur} (h : d ∣ p) (k : d ∣ q) : d ∣ cl p q := (cl_is p q).dvd h k
/-- told by divisors alone -/
theorem cl_of_dvd {p q p' q' : Hur} (h : ∀ d, d ∣ p ∧ d ∣ q ↔ d ∣ p' ∧ d ∣ q') : cl p q = cl p' q' := by
  rw [← cl_assoc p q, ← cl_assoc p' q']
  refine assoc_eq_of_dvd ?_ ?_
  · obtain ⟨a, b⟩ := (h _).mp ⟨cl_dvd_l p q, cl_dvd_r p q⟩; exact dvd_cl a b
  · obtain ⟨a, b⟩ := (h _).mpr ⟨cl_dvd_l p' q', cl_dvd_r p' q'⟩; exact dvd_cl a b
end Hur
end HQ
namespace HQ
namespace Hur
def g4 (q : Hur) : Nat := Int.gcd (Int.gcd (Int.gcd (Int.gcd 0 q.a) q.b) q.c) q.d
def Prim (r : Hur) : Prop := ∀ (m : Int) (s : Hur), r = sm m s → m.natAbs = 1
theorem g4_dvd (q : Hur) : (g4 q : Int) ∣ q.a ∧ (g4 q : Int) ∣ q.b ∧ (g4 q : Int) ∣ q.c ∧ (g4 q : Int) ∣ q.d := by
  unfold g4
  have h1 := Int.gcd_dvd_right (a := (0 : Int)) (b := q.a)
  have h2 := Int.gcd_dvd_left (a := ((Int.gcd 0 q.a : Nat) : Int)) (b := q.b)
  have h2r := Int.gcd_dvd_right (a := ((Int.gcd 0 q.a : Nat) : Int)) (b := q.b)
  have h3 := Int.gcd_dvd_left (a := ((Int.gcd (Int.gcd 0 q.a) q.b : Nat) : Int)) (b := q.c)
  have h3r := Int.gcd_dvd_right (a := ((Int.gcd (Int.gcd 0 q.a) q.b : Nat) : Int)) (b := q.c)
  have h4 := Int.gcd_dvd_left (a := ((Int.gcd (Int.gcd (Int.gcd 0 q.a) q.b) q.c : Nat) : Int)) (b := q.d)
  have h4r := Int.gcd_dvd_right (a := ((Int.gcd (Int.gcd (Int.gcd 0 q.a) q.b) q.c : Nat) : Int)) (b := q.d)
  exact ⟨Int.dvd_trans h4 (Int.dvd_trans h3 (Int.dvd_trans h2 h1)), Int.dvd_trans h4 (Int.dvd_trans h3 h2r), Int.dvd_trans h4 h3r, h4r⟩
theorem dvd_g4 {q : Hur} {m : Int} (ha : m ∣ q.a) (hb : m ∣ q.b) (hc : m ∣ q.c) (hd : m ∣ q.d) : m ∣ (g4 q : Int) := by
  unfold g4
  exact Int.dvd_coe_gcd (Int.dvd_coe_gcd (Int.dvd_coe_gcd (Int.dvd_coe_gcd (Int.dvd_zero m) ha) hb) hc) hd
theorem g4_eq_zero {q : Hur} : g4 q = 0 ↔ q = zero := by
  constructor
  · intro h
    have ⟨h1, h2, h3, h4⟩ := g4_dvd q
    rw [h] at h1 h2 h3 h4
    refine Hur.ext ?_ ?_ ?_ ?_
    · exact Int.zero_dvd.mp h1
    · exact Int.zero_dvd.mp h2
    · exact Int.zero_dvd.mp h3
    · exact Int.zero_dvd.mp h4
  · rintro rfl; rfl
/-- the parts of a four over the gcd of its halves -/
theorem g4_parts {q : Hur} (h : q ≠ zero) : ∃ a b c d : Int, q.a = g4 q * a ∧ q.b = g4 q * b ∧ q.c = g4 q * c ∧ q.d = g4 q * d ∧ 0 < g4 q ∧ ∀ m : Int, m ∣ a → m ∣ b → m ∣ c → m ∣ d → m.natAbs = 1 := by
  obtain ⟨⟨a, ha⟩, ⟨b, hb⟩, ⟨c, hc⟩, ⟨d, hd⟩⟩ := g4_dvd q
  have g0 : 0 < g4 q := Nat.pos_of_ne_zero fun z => h (g4_eq_zero.mp z)
  refine ⟨a, b, c, d, ha, hb, hc, hd, g0, fun m h1 h2 h3 h4 => ?_⟩
  have k : (g4 q : Int) * m ∣ (g4 q : Int) := dvd_g4 (by rw [ha]; exact Int.mul_dvd_mul_left _ h1) (by rw [hb]; exact Int.mul_dvd_mul_left _ h2) (by rw [hc]; exact Int.mul_dvd_mul_left _ h3) (by rw [hd]; exact Int.mul_dvd_mul_left _ h4)
  obtain ⟨t, ht⟩ := k
  have e : (g4 q : Int) * (m * t) = (g4 q : Int) * 1 := by rw [← Int.mul_assoc, ← ht, Int.mul_one]
  have e2 := Int.eq_of_mul_eq_mul_left (by omega) e
  exact Int.natAbs_dvd_natAbs.mpr ⟨t, e2.symm⟩ |> Nat.dvd_one.mp
def cont (q : Hur) : Int := if g4 q = 0 then 0 else if (q.a / g4 q) % 2 = 1 ∧ (q.b / g4 q) % 2 = 1 ∧ (q.c / g4 q) % 2 = 1 ∧ (q.d / g4 q) % 2 = 1 then g4 q else g4 q / 2
theorem cont_spec {q : Hur} (h : q ≠ zero) : ∃ r, q = sm (cont q) r ∧ Prim r ∧ 0 < cont q := by
  obtain ⟨a, b, c, d, ha, hb, hc, hd, g0, hm⟩ := g4_parts h
  have da : q.a / g4 q = a := by rw [ha]; exact Int.mul_ediv_cancel_left _ (by omega)
  have db : q.b / g4 q = b := by rw [hb]; exact Int.mul_ediv_cancel_left _ (by omega)
  have dc : q.c / g4 q = c := by rw [hc]; exact Int.mul_ediv_cancel_left _ (by omega)
  have dd : q.d / g4 q = d := by rw [hd]; exact Int.mul_ediv_cancel_left _ (by omega)
  unfold cont
  rw [if_neg (by omega), da, db, dc, dd]
  split
  · rename_i ho
    obtain ⟨o1, o2, o3, o4⟩ := ho
    refine ⟨⟨a, b, c, d, by unfold par; omega⟩, Hur.ext ha hb hc hd, fun m s e => ?_, by omega⟩
    exact hm m ⟨s.a, congrArg Hur.a e⟩ ⟨s.b, congrArg Hur.b e⟩ ⟨s.c, congrArg Hur.c e⟩ ⟨s.d, congrArg Hur.d e⟩
  · rename_i ho
    have ev : (g4 q : Int) % 2 = 0 := by
      rcases Int.emod_two_eq (g4 q : Int) with z | z
      · exact z
      · exfalso
        have p := q.h
        unfold par at p
        have par2 : ∀ x y : Int, x = g4 q * y → x % 2 = y % 2 := fun x y e => by
          rw [e, Int.mul_emod, z, Int.one_mul, Int.emod_emod_of_dvd _ (Int.dvd_refl 2)]
        have qa := par2 _ _ ha; have qb := par2 _ _ hb; have qc := par2 _ _ hc; have qd := par2 _ _ hd
        have := hm 2 (by omega) (by omega) (by omega) (by omega)
        omega
    obtain ⟨k, hk⟩ : ∃ k : Int, (g4 q : Int) = 2 * k := ⟨g4 q / 2, by omega⟩
    have hk2 : (g4 q : Int) / 2 = k := by omega
    rw [hk2]
    refine ⟨⟨2 * a, 2 * b, 2 * c, 2 * d, by unfold par; omega⟩, Hur.ext ?_ ?_ ?_ ?_, fun m s e => ?_, by omega⟩
    · show q.a = k * (2 * a); rw [ha, hk]; grind (splits := 0)
    · show q.b = k * (2 * b); rw [hb, hk]; grind (splits := 0)
    · show q.c = k * (2 * c); rw [hc, hk]; grind (splits := 0)
    · show q.d = k * (2 * d); rw [hd, hk]; grind (splits := 0)
    · have ea : 2 * a = m * s.a := congrArg Hur.a e
      have eb : 2 * b = m * s.b := congrArg Hur.b e
      have ec : 2 * c = m * s.c := congrArg Hur.c e
      have ed : 2 * d = m * s.d := congrArg Hur.d e
      have p := s.h
      unfold par at p
      rcases Int.emod_two_eq s.a with z | z
      · have half : ∀ x y : Int, 2 * x = m * y → y % 2 = 0 → m ∣ x := fun x y e1 e2 => by
          obtain ⟨t, rfl⟩ : ∃ t, y = 2 * t := ⟨y / 2, by omega⟩
          exact ⟨t, by have : 2 * x = 2 * (m * t) := by rw [e1]; grind (splits := 0)
                       omega⟩
        exact hm m (half _ _ ea (by omega)) (half _ _ eb (by omega)) (half _ _ ec (by omega)) (half _ _ ed (by omega))
      · have em : m % 2 = 0 := by
          have : (m * s.a) % 2 = 0 := by omega
          rw [Int.mul_emod, z, Int.mul_one, Int.emod_emod_of_dvd _ (Int.dvd_refl 2)] at this
          exact this
        obtain ⟨t, rfl⟩ : ∃ t, m = 2 * t := ⟨m / 2, by omega⟩
        have red : ∀ x y : Int, 2 * x = 2 * t * y → x = t * y := fun x y e1 => by rw [Int.mul_assoc] at e1; omega
        have ra := red _ _ ea; have rb := red _ _ eb; have rc := red _ _ ec; have rd := red _ _ ed
        have ht := hm t ⟨_, ra⟩ ⟨_, rb⟩ ⟨_, rc⟩ ⟨_, rd⟩
        exfalso
        apply ho
        have : t = 1 ∨ t = -1 := by omega
        rcases this with rfl | rfl <;> omega
end Hur
end HQ
namespace HQ
namespace Hur
theorem whole_dvd_N {n : Int} {x s : Hur} (h0 : n ≠ 0) (h : whole (N x) = sm n s) : n ∣ N x := by
  have e := congrArg Hur.a h
  have e2 := congrArg Hur.b h
  have p := s.h
  unfold par at p
  simp at e e2
  have sb : s.b = 0 := (Int.mul_eq_zero.mp e2.symm).resolve_left h0
  obtain ⟨t, ht⟩ : ∃ t, s.a = 2 * t := ⟨s.a / 2, by omega⟩
  refine ⟨t, ?_⟩
  rw [ht, show n * (2 * t) = 2 * (n * t) by grind (splits := 0)] at e
  omega
theorem prim_ne {q : Hur} (h : Prim q) : q ≠ zero := fun e => by
  have := h 0 zero (by rw [e, sm_zero])
  simp at this
theorem bar_add' (p q : Hur) : bar (p + q) = bar p + bar q := by refine Hur.ext ?_ ?_ ?_ ?_ <;> simp <;> omega
theorem part_N {q : Hur} (hq : Prim q) {n : Int} (hn : 0 < n) (hd : n ∣ N q) : N (cl q (whole n)) = n := by
  have n0 : n ≠ 0 := by omega
  obtain ⟨hl, hr, x, y, e⟩ := cl_is q (whole n)
  generalize cl q (whole n) = d at hl hr e
  -- n divides N d
  obtain ⟨k, hk⟩ := hd
  have hA : q * x * (bar x * bar q) = sm n (whole (k * N x)) := by
    rw [mul_assoc, ← mul_assoc x, mul_bar, whole_mul, mul_sm, mul_bar, sm_whole, sm_whole, hk]
    congr 1
    grind (splits := 0)
  have h1 : whole (N d) = sm n (whole (k * N x) + (q * x * bar y + (y * (bar x * bar q) + y * sm n (bar y)))) := by
    rw [← mul_bar, e, bar_add', bar_mul, bar_mul, bar_whole, whole_mul, mul_whole, mul_add, add_mul, add_mul, hA, sm_add, sm_add, sm_add, mul_sm, sm_mul, sm_mul]
    refine Hur.ext ?_ ?_ ?_ ?_ <;> simp <;> omega
  have h2 := whole_dvd_N n0 h1
  obtain ⟨m, hm⟩ := h2
  obtain ⟨f, hf⟩ := hl
  obtain ⟨g, hg⟩ := hr
  have e1 : N d * N g = n * n := by rw [← N_mul, ← hg, N_whole]
  have m0 : 0 < m := by
    have a := N_nonneg d
    have dz : d ≠ zero := fun z => by rw [z, zero_mul] at hg; exact whole_ne n0 hg
    have b := N_pos dz
    rw [hm] at b
    rcases (show 0 < m ∨ m ≤ 0 by omega) with z | z
    · exact z
    · have := Int.mul_le_mul_of_nonneg_left z (Int.le_of_lt hn)
      rw [Int.mul_zero] at this
      omega
  -- bar d = m * g
  have e2 : sm n (bar d) = sm n (sm m g) := by
    have : bar d * whole n = bar d * (d * g) := by rw [hg]
    rw [← mul_assoc, bar_mul_self, hm, mul_whole, whole_mul, ← sm_sm] at this
    exact this
  have e3 := sm_inj n0 e2
  have e4 : d = sm m (bar g) := by rw [← bar_bar d, e3, bar_sm]
  have e5 := hq m (bar g * f) (by rw [← sm_mul, ← e4]; exact hf)
  have : m = 1 := by omega
  rw [hm, this, Int.mul_one]
theorem sq8 (x : Int) (h : x % 2 = 1) : x * x % 8 = 1 := by
  have : x % 8 = 1 ∨ x % 8 = 3 ∨ x % 8 = 5 ∨ x % 8 = 7 := by omega
  rw [Int.mul_emod]
  rcases this with z | z | z | z <;> rw [z] <;> rfl
theorem sq2 (x : Int) : x * x % 2 = x % 2 := by
  rw [Int.mul_emod]
  rcases Int.emod_two_eq x with z | z <;> rw [z] <;> rfl
/-- one and i -/
def oi : Hur := ⟨2, 2, 0, 0, by decide⟩
theorem even_div {q : Hur} (h : N q % 2 = 0) : ∃ s, q = oi * s ∧ N q = 2 * N s := by
  have e := four_N q
  have p := q.h
  unfold par at p
  have ev : q.a % 2 = 0 := by
    rcases Int.emod_two_eq q.a with z | z
    · exact z
    · have h1 := sq8 q.a z; have h2 := sq8 q.b (by omega); have h3 := sq8 q.c (by omega); have h4 := sq8 q.d (by omega)
      omega
  obtain ⟨a, ha⟩ : ∃ a, q.a = 2 * a := ⟨q.a / 2, by omega⟩
  obtain ⟨b, hb⟩ : ∃ b, q.b = 2 * b := ⟨q.b / 2, by omega⟩
  obtain ⟨c, hc⟩ : ∃ c, q.c = 2 * c := ⟨q.c / 2, by omega⟩
  obtain ⟨d, hd⟩ : ∃ d, q.d = 2 * d := ⟨q.d / 2, by omega⟩
  have e2 : N q = a * a + b * b + c * c + d * d := by
    rw [ha, hb, hc, hd] at e
    have : ∀ x : Int, 2 * x * (2 * x) = 4 * (x * x) := fun x => by grind (splits := 0)
    rw [this, this, this, this] at e
    omega
  have sp : (a + b + c + d) % 2 = 0 := by
    have := sq2 a; have := sq2 b; have := sq2 c; have := sq2 d
    omega
  refine ⟨⟨a + b, b - a, c + d, d - c, by unfold par; omega⟩, ?_, ?_⟩
  · refine Hur.ext ?_ ?_ ?_ ?_
    · have := mul_a oi ⟨a + b, b - a, c + d, d - c, by unfold par; omega⟩; simp [oi] at this ⊢; omega
    · have := mul_b oi ⟨a + b, b - a, c + d, d - c, by unfold par; omega⟩; simp [oi] at this ⊢; omega
    · have := mul_c oi ⟨a + b, b - a, c + d, d - c, by unfold par; omega⟩; simp [oi] at this ⊢; omega
    · have := mul_d oi ⟨a + b, b - a, c + d, d - c, by unfold par; omega⟩; simp [oi] at this ⊢; omega
  · have f := four_N ⟨a + b, b - a, c + d, d - c, by unfold par; omega⟩
    simp only at f
    have g : (a + b) * (a + b) + (b - a) * (b - a) + (c + d) * (c + d) + (d - c) * (d - c) = 2 * (a * a + b * b + c * c + d * d) := by grind (splits := 0)
    omega
theorem oi_sq (q : Hur) : oi * (oi * q) = sm 2 (⟨0, 2, 0, 0, by decide⟩ * q) := by
  rw [← mul_assoc, ← sm_mul]
  congr 1
theorem prim_not4 {t : Hur} (h : Prim t) : N t % 4 ≠ 0 := fun e => by
  obtain ⟨s, hs, h1⟩ := even_div (q := t) (by omega)
  obtain ⟨s2, hs2, _⟩ := even_div (q := s) (by omega)
  rw [hs2, oi_sq] at hs
  have := h 2 _ hs
  omega
theorem oddN {r t : Hur} {k : Int} (hr : Prim r) (he : N r % 2 = 0) (h : r * oi = sm k t) (ht : Prim t) : N t % 2 = 1 := by
  have e := congrArg N h
  rw [N_mul, N_sm, show N oi = 2 from rfl] at e
  have r4 := prim_not4 hr
  have t4 := prim_not4 ht
  rcases Int.emod_two_eq (N t) with z | z
  · exfalso
    obtain ⟨u, hu⟩ : ∃ u, N r = 2 * u := ⟨N r / 2, by omega⟩
    obtain ⟨v, hv⟩ : ∃ v, N t = 2 * v := ⟨N t / 2, by omega⟩
    rw [hu, hv, show k * k * (2 * v) = 2 * (k * k * v) by grind (splits := 0)] at e
    have kk := sq2 k
    rcases Int.emod_two_eq k with y | y
    · obtain ⟨w, rfl⟩ : ∃ w, k = 2 * w := ⟨k / 2, by omega⟩
      rw [show 2 * w * (2 * w) * v = 4 * (w * w * v) by grind (splits := 0)] at e
      omega
    · have k8 := sq8 k y
      obtain ⟨x, hx⟩ : ∃ x, k * k = 2 * x + 1 := ⟨k * k / 2, by omega⟩
      rw [hx, show (2 * x + 1) * v = 2 * (x * v) + v by grind (splits := 0)] at e
      omega
  · exact z
noncomputable def prp (q : Hur) : Hur := if h : q = zero then zero else (cont_spec h).choose
theorem prp_spec {q : Hur} (h : q ≠ zero) : q = sm (cont q) (prp q) ∧ Prim (prp q) ∧ 0 < cont q := by
  unfold prp
  rw [dif_neg h]
  exact (cont_spec h).choose_spec
def lead (q : Hur) : Int := if q.a ≠ 0 then q.a else if q.b ≠ 0 then q.b else if q.c ≠ 0 then q.c else q.d
noncomputable def low (q : Hur) : Hur := if 0 < lead (prp q) then prp q else -prp q
theorem Prim.neg {q : Hur} (h : Prim q) : Prim (-q) := fun m s e => h m (-s) (by rw [← neg_neg q, e]; refine Hur.ext ?_ ?_ ?_ ?_ <;> simp [Int.neg_mul, Int.mul_neg])
theorem low_prim {q : Hur} (h : q ≠ zero) : Prim (low q) := by
  unfold low
  split
  · exact (prp_spec h).2.1
  · exact (prp_spec h).2.1.neg
theorem low_eq {q : Hur} (h : q ≠ zero) : ∃ k : Int, k ≠ 0 ∧ q = sm k (low q) := by
  have ⟨h1, _, h3⟩ := prp_spec h
  unfold low
  split
  · exact ⟨_, by omega, h1⟩
  · refine ⟨-cont q, by omega, ?_⟩
    refine Eq.trans h1 ?_
    refine Hur.ext ?_ ?_ ?_ ?_ <;> simp [Int.neg_mul, Int.mul_neg]
end Hur
end HQ
namespace HQ
namespace Hur
theorem mul_ne {p q : Hur} (hp : p ≠ zero) (hq : q ≠ zero) : p * q ≠ zero := fun e => by
  have h := N_mul p q
  have h1 := Int.mul_pos (N_pos hp) (N_pos hq)
  rw [e, show N zero = 0 from rfl] at h
  omega
theorem ne_of_dvd {p q : Hur} (h : p ∣ q) (hq : q ≠ zero) : p ≠ zero := fun e => by
  obtain ⟨r, rfl⟩ := h
  rw [e, zero_mul] at hq
  exact hq rfl
theorem bar_ne {p : Hur} (h : p ≠ zero) : bar p ≠ zero := fun e => h (bar_eq_zero.mp e)
theorem sm_ne {t : Int} {p : Hur} (h : t ≠ 0) (k : p ≠ zero) : sm t p ≠ zero := fun e => by
  rw [← whole_mul] at e
  exact mul_ne (whole_ne h) k e
noncomputable def ownH (q : Hur) : Hur := assoc (if N (low q) % 2 = 0 then low (low q * oi) else low q)
theorem low_ne {q : Hur} (h : q ≠ zero) : low q ≠ zero := prim_ne (low_prim h)
theorem oi_ne : oi ≠ zero := by intro h; have := congrArg Hur.a h; simp [oi, zero] at this
theorem prim_mul_unit {q u : Hur} (h : Prim q) (hu : IsU u) : Prim (q * u) := fun m s e => by
  refine h m (s * bar u) ?_
  rw [← sm_mul, ← e, mul_assoc, unit_mul_bar hu, mul_one]
theorem prim_assoc {q : Hur} (h : Prim q) : Prim (assoc q) := by
  obtain ⟨u, hu, hq⟩ := assoc_eq_mul q
  rw [hq]
  exact prim_mul_unit h hu
theorem own_prim {q : Hur} (h : q ≠ zero) : Prim (ownH q) := by
  unfold ownH
  split
  · exact prim_assoc (low_prim (mul_ne (low_ne h) oi_ne))
  · exact prim_assoc (low_prim h)
theorem own_ne {q : Hur} (h : q ≠ zero) : ownH q ≠ zero := prim_ne (own_prim h)
theorem bezN (a b : Nat) : ∃ s t : Int, ((Nat.gcd a b : Nat) : Int) = s * a + t * b := by
  induction a, b using Nat.gcd.induction with
  | H0 n => exact ⟨0, 1, by simp⟩
  | H1 m n hm ih =>
    obtain ⟨s, t, e⟩ := ih
    rw [Nat.gcd_rec]
    refine ⟨t - s * ((n / m : Nat) : Int), s, ?_⟩
    rw [e]
    have h : ((n : Nat) : Int) = (m : Int) * ((n / m : Nat) : Int) + ((n % m : Nat) : Int) := by
      have := Nat.div_add_mod n m
      rw [← Int.natCast_mul, ← Int.natCast_add, this]
    rw [h]
    grind (splits := 0)
theorem cop (k m : Int) (hk : k ≠ 0) : ∃ g k' m' s t : Int, g ≠ 0 ∧ k = g * k' ∧ m = g * m' ∧ s * k' + t * m' = 1 := by
  obtain ⟨s, t, e⟩ := bezN k.natAbs m.natAbs
  obtain ⟨k', hk'⟩ := Int.gcd_dvd_left (a := k) (b := m)
  obtain ⟨m', hm'⟩ := Int.gcd_dvd_right (a := k) (b := m)
  have g0 : ((Int.gcd k m : Nat) : Int) ≠ 0 := fun z => by rw [z] at hk'; simp at hk'; exact hk hk'
  have e1 : ∃ s' : Int, s * (k.natAbs : Int) = s' * k := by
    rcases Int.natAbs_eq k with h | h
    · exact ⟨s, by rw [← h]⟩
    · exact ⟨-s, by have : (k.natAbs : Int) = -k := by omega
                    rw [this]; grind (splits := 0)⟩
  have e2 : ∃ t' : Int, t * (m.natAbs : Int) = t' * m := by
    rcases Int.natAbs_eq m with h | h
    · exact ⟨t, by rw [← h]⟩
    · exact ⟨-t, by have : (m.natAbs : Int) = -m := by omega
                    rw [this]; grind (splits := 0)⟩
  obtain ⟨s', hs⟩ := e1
  obtain ⟨t', ht⟩ := e2
  rw [hs, ht] at e
  change ((Int.gcd k m : Nat) : Int) = s' * k + t' * m at e
  generalize ((Int.gcd k m : Nat) : Int) = g at *
  refine ⟨g, k', m', s', t', g0, hk', hm', ?_⟩
  have : g * (s' * k' + t' * m') = g * 1 := by
    rw [Int.mul_one]
    refine Eq.trans ?_ e.symm
    rw [hk', hm']
    grind (splits := 0)
  exact Int.eq_of_mul_eq_mul_left g0 this
def Pr (x y : Hur) : Prop := ∃ k m : Int, k ≠ 0 ∧ m ≠ 0 ∧ sm k x = sm m y
theorem Pr.refl (x : Hur) : Pr x x := ⟨1, 1, by decide, by decide, rfl⟩
theorem Pr.symm {x y : Hur} (h : Pr x y) : Pr y x := by obtain ⟨k, m, h1, h2, e⟩ := h; exact ⟨m, k, h2, h1, e.symm⟩
theorem Pr.trans {x y z : Hur} (h : Pr x y) (g : Pr y z) : Pr x z := by
  obtain ⟨k, m, h1, h2, e⟩ := h
  obtain ⟨k', m', h3, h4, e'⟩ := g
  refine ⟨k' * k, m * m', Int.mul_ne_zero h3 h1, Int.mul_ne_zero h2 h4, ?_⟩
  rw [← sm_sm, e, ← sm_sm, ← e', sm_sm, sm_sm, Int.mul_comm]
theorem Pr.mul {x y z w : Hur} (h : Pr x y) (g : Pr z w) : Pr (x * z) (y * w) := by
  obtain ⟨k, m, h1, h2, e⟩ := h
  obtain ⟨k', m', h3, h4, e'⟩ := g
  refine ⟨k * k', m * m', Int.mul_ne_zero h1 h3, Int.mul_ne_zero h2 h4, ?_⟩
  rw [← sm_sm, ← mul_sm, ← sm_mul, e, e', sm_mul, mul_sm, sm_sm]
theorem Pr.bar {x y : Hur} (h : Pr x y) : Pr (Hur.bar x) (Hur.bar y) := by
  obtain ⟨k, m, h1, h2, e⟩ := h
  exact ⟨k, m, h1, h2, by rw [← bar_sm, e, bar_sm]⟩
theorem Pr.sm {k : Int} (hk : k ≠ 0) (x : Hur) : Pr (Hur.sm k x) x := ⟨1, k, by decide, hk, by rw [sm_one]⟩
theorem Pr.neg (x : Hur) : Pr (-x) x := by rw [neg_eq_sm]; exact Pr.sm (by decide) x
theorem Pr.ne {x y : Hur} (h : Pr x y) (hx : x ≠ zero) : y ≠ zero := fun z => by
  obtain ⟨k, m, h1, h2, e⟩ := h
  rw [z, show Hur.sm m zero = zero by refine Hur.ext ?_ ?_ ?_ ?_ <;> simp [zero]] at e
  exact sm_ne h1 hx e
theorem low_pr {q : Hur} (h : q ≠ zero) : Pr (low q) q := by
  obtain ⟨k, k0, e⟩ := low_eq h
  exact ⟨k, 1, k0, by decide, by rw [sm_one]; exact e.symm⟩
theorem pr_prim {x p : Hur} (h : Pr x p) (hp : Prim p) : ∃ j : Int, x = Hur.sm j p := by
  obtain ⟨k, m, h1, h2, e⟩ := h
  obtain ⟨g, k', m', s, t, g0, rfl, rfl, st⟩ := cop k m h1
  rw [← sm_sm, ← sm_sm] at e
  have e := sm_inj g0 e
  have e2 : p = Hur.sm k' (Hur.sm s p + Hur.sm t x) := by
    rw [sm_add, sm_sm, sm_sm, Int.mul_comm k' t, ← sm_sm t k', e, sm_sm]
    refine Hur.ext ?_ ?_ ?_ ?_ <;> simp <;> rw [← Int.add_mul, Int.mul_comm k' s, st, Int.one_mul]
  have := hp k' _ e2
  have : k' = 1 ∨ k' = -1 := by omega
  rcases this with rfl | rfl
  · rw [sm_one] at e; exact ⟨m', e⟩
  · refine ⟨-m', ?_⟩
    have e3 : Hur.sm (-1) (Hur.sm (-1) x) = Hur.sm (-1) (Hur.sm m' p) := by rw [e]
    rw [sm_sm, sm_sm] at e3
    simpa using e3
theorem prim_unique {x y : Hur} (hx : Prim x) (hy : Prim y) (h : Pr x y) : x = y ∨ x = -y := by
  obtain ⟨j, e⟩ := pr_prim h hy
  have := hx j y e
  have : j = 1 ∨ j = -1 := by omega
  rcases this with rfl | rfl
  · left; rw [e, sm_one]
  · right; rw [e, neg_eq_sm]
theorem lead_neg (q : Hur) : lead (-q) = -lead q := by
  unfold lead
  simp only [neg_a, neg_b, neg_c, neg_d]
  by_cases h1 : q.a = 0
  · by_cases h2 : q.b = 0
    · by_cases h3 : q.c = 0
      · simp [h1, h2, h3]
      · simp [h1, h2, h3]
    · simp [h1, h2]
  · simp [h1]
theorem lead_ne {q : Hur} (h : q ≠ zero) : lead q ≠ 0 := by
  unfold lead
  by_cases h1 : q.a = 0
  · by_cases h2 : q.b = 0
    · by_cases h3 : q.c = 0
      · by_cases h4 : q.d = 0
        · exact absurd (Hur.ext h1 h2 h3 h4) h
        · simp [h1, h2, h3, h4]
      · simp [h1, h2, h3]
    · simp [h1, h2]
  · simp [h1]
theorem low_lead {q : Hur} (h : q ≠ zero) : 0 < lead (low q) := by
  have hp := lead_ne (prim_ne (prp_spec h).2.1)
  unfold low
  split
  · assumption
  · rw [lead_neg]; omega
theorem low_unique {x y : Hur} (hx : Prim x) (hy : Prim y) (lx : 0 < lead x) (ly : 0 < lead y) (h : Pr x y) : x = y := by
  rcases prim_unique hx hy h with e | e
  · exact e
  · rw [e, lead_neg] at lx; omega
theorem low_congr {x y : Hur} (hx : x ≠ zero) (h : Pr x y) : low x = low y := by
  have hy := h.ne hx
  exact low_unique (low_prim hx) (low_prim hy) (low_lead hx) (low_lead hy) ((low_pr hx).trans (h.trans (low_pr hy).symm))
theorem own_congr {x y : Hur} (hx : x ≠ zero) (h : Pr x y) : ownH x = ownH y := by
  unfold ownH
  rw [low_congr hx h]
theorem low_pm {r q : Hur} (hp : Prim r) (h : Pr r q) : low q = r ∨ low q = -r := by
  have hq := h.ne (prim_ne hp)
  exact prim_unique (low_prim hq) hp ((low_pr hq).trans h.symm)
theorem unit_neg_one : IsU (whole (-1)) := rfl
theorem neg_eq_mul (r : Hur) : -r = r * whole (-1) := by rw [mul_whole, neg_eq_sm]
theorem low_unit {q u : Hur} (hq : q ≠ zero) (hu : IsU u) : ∃ u', IsU u' ∧ low (q * u) = low q * u' := by
  rcases low_pm (prim_mul_unit (low_prim hq) hu) ((low_pr hq).mul (Pr.refl u)) with e | e
  · exact ⟨u, hu, e⟩
  · exact ⟨u * whole (-1), unit_mul hu unit_neg_one, by rw [e, neg_eq_mul, mul_assoc]⟩
theorem unit_oi {u : Hur} (hu : IsU u) : ∃ v, IsU v ∧ u * oi = oi * v := by
  have key : ∀ u ∈ units, ∃ v ∈ units, (u * oi).a = (oi * v).a ∧ (u * oi).b = (oi * v).b ∧ (u * oi).c = (oi * v).c ∧ (u * oi).d = (oi * v).d := by decide +kernel
  obtain ⟨v, hv, h1, h2, h3, h4⟩ := key u (mem_units.mpr hu)
  exact ⟨v, mem_units.mp hv, Hur.ext h1 h2 h3 h4⟩
theorem unit_ne {u : Hur} (hu : IsU u) : u ≠ zero := fun e => by
  rw [e] at hu
  unfold IsU at hu
  rw [N_zero] at hu
  omega
theorem own_unit {q u : Hur} (hq : q ≠ zero) (hu : IsU u) : ownH (q * u) = ownH q := by
  obtain ⟨u', hu', e⟩ := low_unit hq hu
  unfold ownH
  rw [e, N_mul, hu', Int.mul_one]
  split
  · obtain ⟨v, hv, e2⟩ := unit_oi hu'
    obtain ⟨v', hv', e3⟩ := low_unit (mul_ne (low_ne hq) oi_ne) hv
    rw [mul_assoc, e2, ← mul_assoc, e3, assoc_mul_unit _ hv']
  · exact assoc_mul_unit _ hu'
theorem assoc_neg (r : Hur) : assoc (-r) = assoc r := by rw [neg_eq_mul, assoc_mul_unit _ unit_neg_one]
theorem own_self {r : Hur} (hp : Prim r) (ho : N r % 2 = 1) : ownH r = assoc r := by
  unfold ownH
  rcases low_pm hp (Pr.refl r) with e | e
  · rw [e, if_neg (by omega)]
  · rw [e, N_neg, if_neg (by omega), assoc_neg]
theorem even_oi {r t : Hur} {k : Int} (ho : N r % 2 = 1) (h : r * oi = sm k t) : N t % 2 = 0 := by
  have e := congrArg N h
  rw [N_mul, N_sm, show N oi = 2 from rfl] at e
  rcases Int.emod_two_eq (N t) with z | z
  · exact z
  · exfalso
    have kk := sq2 k
    rcases Int.emod_two_eq k with y | y
    · obtain ⟨w, rfl⟩ : ∃ w, k = 2 * w := ⟨k / 2, by omega⟩
      rw [show 2 * w * (2 * w) * N t = 4 * (w * w * N t) by grind (splits := 0)] at e
      omega
    · have : (k * k * N t) % 2 = 1 := by rw [Int.mul_emod, kk, y, z]; rfl
      omega
theorem oi_oi : oi * oi = sm 2 ⟨0, 2, 0, 0, by decide⟩ := Hur.ext rfl rfl rfl rfl
theorem own_oi {q : Hur} (hq : q ≠ zero) : ownH (q * oi) = ownH q := by
  have r0 := low_ne hq
  have e : low (q * oi) = low (low q * oi) := low_congr (mul_ne hq oi_ne) ((low_pr hq).symm.mul (Pr.refl oi))
  have ro := mul_ne r0 oi_ne
  obtain ⟨k, k0, ek⟩ := low_eq ro
  rcases Int.emod_two_eq (N (low q)) with z | z
  · have o := oddN (low_prim hq) z ek (low_prim ro)
    have l : ownH q = assoc (low (low q * oi)) := by unfold ownH; rw [if_pos z]
    have l2 : ownH (q * oi) = assoc (low (q * oi)) := by unfold ownH; rw [e, if_neg (by omega)]
    rw [l, l2, e]
  · have o := even_oi z ek
    have l : ownH q = assoc (low q) := by unfold ownH; rw [if_neg (by omega)]
    have l2 : ownH (q * oi) = assoc (low (low (q * oi) * oi)) := by unfold ownH; rw [if_pos (by rw [e]; exact o)]
    rw [l, l2, e]
    have p : Pr (low q * ⟨0, 2, 0, 0, by decide⟩) (low (low q * oi) * oi) := by
      refine Pr.trans ?_ ((low_pr ro).symm.mul (Pr.refl oi))
      rw [mul_assoc, oi_oi, mul_sm]
      exact (Pr.sm (by decide) _).symm
    rcases low_pm (prim_mul_unit (low_prim hq) (show IsU ⟨0, 2, 0, 0, by decide⟩ from rfl)) p with f | f
    · rw [f, assoc_mul_unit _ (show IsU ⟨0, 2, 0, 0, by decide⟩ from rfl)]
    · rw [f, assoc_neg, assoc_mul_unit _ (show IsU ⟨0, 2, 0, 0, by decide⟩ from rfl)]
structure Wv (v : Hur) : Prop where
  ne : v ≠ zero
  r : ∀ q, q ≠ zero → ownH (q * v) = ownH q
  b : ∀ q, q ≠ zero → ownH (q * bar v) = ownH q
theorem Wv.unit {u : Hur} (hu : IsU u) : Wv u := ⟨unit_ne hu, fun q hq => own_unit hq hu, fun q hq => own_unit hq (unit_bar hu)⟩
theorem bar_oi : bar oi = oi * ⟨0, -2, 0, 0, by decide⟩ := Hur.ext rfl rfl rfl rfl
theorem Wv.oi : Wv oi := ⟨oi_ne, fun q hq => own_oi hq, fun q hq => by
  rw [bar_oi, ← mul_assoc, own_unit (mul_ne hq oi_ne) (show IsU ⟨0, -2, 0, 0, by decide⟩ from rfl), own_oi hq]⟩
theorem Wv.bar {v : Hur} (h : Wv v) : Wv (Hur.bar v) := ⟨bar_ne h.ne, h.b, fun q hq => by rw [bar_bar]; exact h.r q hq⟩
theorem Wv.mul {v w : Hur} (h : Wv v) (g : Wv w) : Wv (v * w) := ⟨mul_ne h.ne g.ne, fun q hq => by rw [← mul_assoc, g.r _ (mul_ne hq h.ne), h.r q hq], fun q hq => by
  rw [bar_mul, ← mul_assoc, h.b _ (mul_ne hq (bar_ne g.ne)), g.b q hq]⟩
theorem own_form {q : Hur} (hq : q ≠ zero) : ∃ v, Wv v ∧ Pr q (ownH q * v) := by
  have hl := low_pr hq
  unfold ownH
  split
  · obtain ⟨u, hu, e⟩ := assoc_eq_mul (low (low q * Hur.oi))
    refine ⟨Hur.bar u * Hur.bar Hur.oi, (Wv.unit hu).bar.mul Wv.oi.bar, ?_⟩
    rw [e, ← mul_assoc, mul_assoc _ u, unit_mul_bar hu, mul_one]
    have h1 := (low_pr (mul_ne (low_ne hq) oi_ne)).mul (Pr.refl (Hur.bar Hur.oi))
    rw [mul_assoc, mul_bar, show N Hur.oi = 2 from rfl, mul_whole] at h1
    exact (h1.trans ((Pr.sm (by decide) _).trans hl)).symm
  · obtain ⟨u, hu, e⟩ := assoc_eq_mul (low q)
    refine ⟨Hur.bar u, (Wv.unit hu).bar, ?_⟩
    rw [e, mul_assoc, unit_mul_bar hu, mul_one]
    exact hl.symm
theorem own_right {x y : Hur} (hx : x ≠ zero) (hy : y ≠ zero) : ownH (x * ownH y) = ownH (x * y) := by
  obtain ⟨v, hv, e⟩ := own_form hy
  rw [own_congr (mul_ne hx hy) ((Pr.refl x).mul e), ← mul_assoc, hv.r _ (mul_ne hx (own_ne hy))]
noncomputable def nu (q : Hur) : Int := N (ownH q)
theorem nu_congr {x y : Hur} (hx : x ≠ zero) (h : Pr x y) : nu x = nu y := by unfold nu; rw [own_congr hx h]
theorem nu_eq {q : Hur} (hq : q ≠ zero) : nu q = if N (low q) % 2 = 0 then N (low q) / 2 else N (low q) := by
  unfold nu ownH
  rw [N_assoc]
  split
  · rename_i he
    have ro := mul_ne (low_ne hq) oi_ne
    obtain ⟨k, k0, ek⟩ := low_eq ro
    have ho := oddN (low_prim hq) he ek (low_prim ro)
    have r4 := prim_not4 (low_prim hq)
    have e := congrArg N ek
    rw [N_mul, N_sm, show N oi = 2 from rfl] at e
    have e2 : sm 2 (low q) = sm k (low (low q * oi) * bar oi) := by
      rw [← sm_mul, ← ek, mul_assoc, mul_bar, show N oi = 2 from rfl, mul_whole]
    have kk := sq2 k
    have kev : k % 2 = 0 := by
      rcases Int.emod_two_eq k with y | y
      · exact y
      · exfalso
        have : (k * k * N (low (low q * oi))) % 2 = 1 := by rw [Int.mul_emod, kk, y, ho]; rfl
        omega
    obtain ⟨w, rfl⟩ : ∃ w, k = 2 * w := ⟨k / 2, by omega⟩
    rw [← sm_sm] at e2
    have := low_prim hq w _ (sm_inj (by decide) e2)
    have w1 : w = 1 ∨ w = -1 := by omega
    have : 2 * w * (2 * w) = 4 := by rcases w1 with rfl | rfl <;> rfl
    rw [this] at e
    omega
  · rfl
theorem nu_bar {q : Hur} (hq : q ≠ zero) : nu (bar q) = nu q := by
  have pb : Prim (bar (low q)) := fun m s e => low_prim hq m (bar s) (by rw [← bar_bar (low q), e, bar_sm])
  have : N (low (bar q)) = N (low q) := by
    rcases low_pm pb (low_pr hq).bar with e | e
    · rw [e, N_bar]
    · rw [e, N_neg, N_bar]
  rw [nu_eq (bar_ne hq), nu_eq hq, this]
theorem nu_comm {x y : Hur} (hx : x ≠ zero) (hy : y ≠ zero) : nu (bar x * y) = nu (bar y * x) := by
  rw [← nu_bar (mul_ne (bar_ne hx) hy), bar_mul, bar_bar]
theorem nu_right {x y : Hur} (hx : x ≠ zero) (hy : y ≠ zero) : nu (x * ownH y) = nu (x * y) := by unfold nu; rw [own_right hx hy]
theorem nu_left {x y : Hur} (hx : x ≠ zero) (hy : y ≠ zero) : nu (bar (ownH x) * y) = nu (bar x * y) := by
  rw [nu_comm (own_ne hx) hy, nu_right (bar_ne hy) hx, nu_comm hy hx]
theorem nu_self {r : Hur} (hp : Prim r) (ho : N r % 2 = 1) : nu r = N r := by unfold nu; rw [own_self hp ho, N_assoc]
/-- turning both sides changes no spread -/
theorem nu_turn {t x y : Hur} (ht : t ≠ zero) (hx : x ≠ zero) (hy : y ≠ zero) : nu (bar (t * x) * (t * y)) = nu (bar x * y) := by
  rw [bar_mul, mul_assoc, ← mul_assoc (bar t), bar_mul_self, ← mul_assoc, mul_whole, sm_mul]
  exact nu_congr (sm_ne (by have := N_pos ht; omega) (mul_ne (bar_ne hx) hy)) (Pr.sm (by have := N_pos ht; omega) _)
end Hur
end HQ
namespace HQ
namespace Hur
theorem oddmul {x y : Int} : (x * y) % 2 = 1 ↔ x % 2 = 1 ∧ y % 2 = 1 := by
  rw [Int.mul_emod]
  rcases Int.emod_two_eq x with h | h <;> rcases Int.emod_two_eq y with g | g <;> rw [h, g] <;> simp
theorem cl_gcd {u : Hur} (hu : u ≠ zero) (m : Int) : cl u (whole m) = cl u (whole ((Int.gcd m (N u) : Nat) : Int)) := by
  refine cl_of_dvd fun d => ⟨fun h => ⟨h.1, ?_⟩, fun h => ⟨h.1, dvd_trans h.2 (whole_dvd (Int.gcd_dvd_left ..))⟩⟩
  have h2 : d ∣ whole (N u) := dvd_trans h.1 (dvd_whole_N u)
  have n0 : N u ≠ 0 := by have := N_pos hu; omega
  obtain ⟨g, k', m', s, t, g0, e1, e2, st⟩ := cop (N u) m n0
  have e : (g : Int) = s * N u + t * m := by
    rw [e1, e2]
    have : g * (s * k' + t * m') = g := by rw [st, Int.mul_one]
    refine Eq.trans this.symm ?_
    grind (splits := 0)
  have d1 : d ∣ whole g := by
    rw [e, show whole (s * N u + t * m) = whole (N u) * whole s + whole m * whole t by rw [whole_mul, whole_mul]; refine Hur.ext ?_ ?_ ?_ ?_ <;> simp <;> grind (splits := 0)]
    exact dvd_add (dvd_mul_of h2 _) (dvd_mul_of h.2 _)
  refine dvd_trans d1 (whole_dvd ?_)
  exact Int.dvd_coe_gcd ⟨m', e2⟩ ⟨k', e1⟩
/-- without a common left divisor the mirrored product is primitive -/
theorem copr {u v : Hur} (hu : Prim u) (hv : Prim v) (h : ∀ d, d ∣ u → d ∣ v → IsU d) : Prim (bar u * v) := by
  intro m s e
  have u0 := prim_ne hu; have v0 := prim_ne hv
  have m0 : m ≠ 0 := fun z => by rw [z, sm_zero] at e; exact mul_ne (bar_ne u0) v0 e
  have nu0 := N_pos u0
  have hd1 := cl_gcd u0 m
  have hg : (0 : Int) < (Int.gcd m (N u) : Nat) := by
    have : Int.gcd m (N u) ≠ 0 := fun z => by have := (Int.gcd_eq_zero_iff.mp z).1; exact m0 this
    omega
  have hn := part_N hu hg (Int.gcd_dvd_right ..)
  rw [← hd1] at hn
  obtain ⟨hl, hr, x, y, ed⟩ := cl_is u (whole m)
  obtain ⟨j, hj⟩ : ((Int.gcd m (N u) : Nat) : Int) ∣ m := Int.gcd_dvd_left ..
  generalize cl u (whole m) = d at hn hl hr ed
  rw [← hn] at hj
  have d0 : d ≠ zero := ne_of_dvd hl u0
  -- bar d * v = m * t
  have e2 : bar d * v = sm m (bar x * s + bar y * v) := by
    rw [ed, bar_add', bar_mul, bar_mul, bar_whole, add_mul, mul_assoc, e, mul_sm, mul_whole, sm_mul, ← sm_add]
  -- v = j d t
  have e3 : v = sm j (d * (bar x * s + bar y * v)) := by
    have : bar d * v = bar d * sm j (d * (bar x * s + bar y * v)) := by
      rw [e2, mul_sm, ← mul_assoc, bar_mul_self, whole_mul, sm_sm]
      conv => lhs; rw [hj]
      rw [Int.mul_comm]
    exact mul_left_cancel (bar_ne d0) this
  have j1 := hv j _ e3
  have hdv : d ∣ v := by
    have : j = 1 ∨ j = -1 := by omega
    rcases this with rfl | rfl
    · rw [sm_one] at e3; exact ⟨_, e3⟩
    · refine ⟨sm (-1) (bar x * s + bar y * v), ?_⟩
      rw [mul_sm]; exact e3
  have ud : N d = 1 := h d hl hdv
  rw [ud, Int.one_mul] at hj
  rw [hj]; exact j1
theorem prim_of_mul_left {d q : Hur} (h : Prim (d * q)) : Prim q ∧ Prim d := ⟨fun m s e => h m (d * s) (by rw [e, mul_sm]), fun m s e => h m (s * q) (by rw [e, sm_mul])⟩
theorem odd_of_mul {d q : Hur} (h : N (d * q) % 2 = 1) : N d % 2 = 1 ∧ N q % 2 = 1 := by rw [N_mul] at h; exact oddmul.mp h
/-- the parts of two odd fours behind their common left divisor -/
theorem parts {u v : Hur} (hu : Prim u) (hv : Prim v) (ou : N u % 2 = 1) (ov : N v % 2 = 1) : ∃ x y, u = cl u v * x ∧ v = cl u v * y ∧ nu (cl u v) = N (cl u v) ∧ nu (bar u * cl u v) = N x ∧ nu (bar v * cl u v) = N y ∧ nu (bar u * v) = N x * N y ∧ N u = N (cl u v) * N x ∧ N v = N (cl u v) * N y := by
  obtain ⟨x, hx⟩ := cl_dvd_l u v
  obtain ⟨y, hy⟩ := cl_dvd_r u v
  have hcop : ∀ d, d ∣ x → d ∣ y → IsU d := fun d h1 h2 => by
    have g0 : cl u v ≠ zero := ne_of_dvd (cl_dvd_l u v) (prim_ne hu)
    have k1 : cl u v * d ∣ cl u v := by
      have a1 : cl u v * d ∣ u := by conv => rhs; rw [hx]
                                     exact mul_dvd_mul _ h1
      have a2 : cl u v * d ∣ v := by conv => rhs; rw [hy]
                                     exact mul_dvd_mul _ h2
      exact dvd_cl a1 a2
    have k2 : d ∣ one := of_mul_dvd_mul g0 (by rwa [mul_one])
    have := N_dvd k2
    rw [N_one] at this
    have p := N_nonneg d
    have := Int.eq_one_of_dvd_one p this
    exact this
  generalize cl u v = g at hx hy
  refine ⟨x, y, hx, hy, ?_⟩
  subst hx hy
  have ⟨px, pg⟩ := prim_of_mul_left hu
  have ⟨py, _⟩ := prim_of_mul_left hv
  have ⟨og, ox⟩ := odd_of_mul ou
  have ⟨_, oy⟩ := odd_of_mul ov
  have x0 := prim_ne px; have y0 := prim_ne py; have g0 := prim_ne pg
  have ng : N g ≠ 0 := by have := N_pos g0; omega
  have pp := copr px py hcop
  have aux : ∀ z : Hur, Prim z → N z % 2 = 1 → nu (bar (g * z) * g) = N z := fun z pz oz => by
    rw [bar_mul, mul_assoc, bar_mul_self, mul_whole, nu_congr (sm_ne ng (bar_ne (prim_ne pz))) (Pr.sm ng _), nu_bar (prim_ne pz), nu_self pz oz]
  refine ⟨nu_self pg og, aux x px ox, aux y py oy, ?_, N_mul _ _, N_mul _ _⟩
  rw [nu_turn g0 x0 y0, nu_self pp (by rw [N_mul, N_bar]; exact oddmul.mpr ⟨ox, oy⟩), N_mul, N_bar]
end Hur
end HQ
namespace HQ
namespace Hur
def oj : Hur := ⟨2, -2, 0, 0, by decide⟩
theorem oj_eq : oj = bar oi := Hur.ext rfl rfl rfl rfl
theorem even_right {r : Hur} (h : N r % 2 = 0) : ∃ t, r = t * oj := by
  obtain ⟨s, hs, _⟩ := even_div (q := bar r) (by rw [N_bar]; exact h)
  exact ⟨bar s, by rw [oj_eq, ← bar_mul, ← hs, bar_bar]⟩
theorem oj_oj : oj * oj = sm 2 ⟨0, -2, 0, 0, by decide⟩ := Hur.ext rfl rfl rfl rfl
theorem oj_oi : oj * oi = whole 2 := Hur.ext rfl rfl rfl rfl
theorem oddf_spec {q : Hur} (hq : q ≠ zero) (h : N (low q) % 2 = 0) : ∃ s, low q * oj = sm 2 s ∧ assoc s = ownH q := by
  obtain ⟨t, ht⟩ := even_right h
  refine ⟨t * ⟨0, -2, 0, 0, by decide⟩, ?_, ?_⟩
  · rw [ht, mul_assoc, oj_oj, mul_sm]
  · have pt : Prim t := (prim_of_mul_left (ht ▸ low_prim hq)).2
    unfold ownH
    rw [if_pos h, ht, mul_assoc, oj_oi, mul_whole, assoc_mul_unit _ (show IsU ⟨0, -2, 0, 0, by decide⟩ from rfl)]
    rcases low_pm pt (Pr.sm (k := 2) (by decide) t).symm with e | e
    · rw [e]
    · rw [e, assoc_neg]
theorem oddf_else {q : Hur} (h : ¬ N (low q) % 2 = 0) : assoc (low q) = ownH q := by
  unfold ownH
  rw [if_neg h]
theorem one_ne : one ≠ zero := by intro h; have := congrArg Hur.a h; simp [one, zero] at this
end Hur
end HQ
namespace HQ
namespace Hur
def ex1 : Hur := ⟨0, 2, 0, 0, by decide⟩
def ex2 : Hur := ⟨0, 0, 2, 0, by decide⟩
def ex3 : Hur := ⟨0, 0, 0, 2, by decide⟩
def und (r : Hur) : Int := if N r % 2 = 0 then N r / 2 else N r
def dlt (r : Hur) : Int := if N r % 2 = 0 then 2 else 1
def rt (r e : Hur) : Hur := r * e * bar r
def mtB (r e : Hur) : Int := (rt r e).b / 2 / dlt r
def mtC (r e : Hur) : Int := (rt r e).c / 2 / dlt r
def mtD (r e : Hur) : Int := (rt r e).d / 2 / dlt r
theorem dlt_pos (r : Hur) : 0 < dlt r := by unfold dlt; split <;> omega
theorem rot (q : Hur) :
    (rt q ex1).a = 0 ∧ 2 * (rt q ex1).b = q.a * q.a + q.b * q.b - q.c * q.c - q.d * q.d ∧ 2 * (rt q ex1).c = 2 * (q.b * q.c + q.a * q.d) ∧ 2 * (rt q ex1).d = 2 * (q.b * q.d - q.a * q.c) ∧
    (rt q ex2).a = 0 ∧ 2 * (rt q ex2).b = 2 * (q.b * q.c - q.a * q.d) ∧ 2 * (rt q ex2).c = q.a * q.a - q.b * q.b + q.c * q.c - q.d * q.d ∧ 2 * (rt q ex2).d = 2 * (q.c * q.d + q.a * q.b) ∧
    (rt q ex3).a = 0 ∧ 2 * (rt q ex3).b = 2 * (q.b * q.d + q.a * q.c) ∧ 2 * (rt q ex3).c = 2 * (q.c * q.d - q.a * q.b) ∧ 2 * (rt q ex3).d = q.a * q.a - q.b * q.b - q.c * q.c + q.d * q.d := by
  have gen : ∀ e : Hur, 2 * (rt q e).a = (q * e).a * q.a + (q * e).b * q.b + (q * e).c * q.c + (q * e).d * q.d ∧ 2 * (rt q e).b = -((q * e).a * q.b) + (q * e).b * q.a - (q * e).c * q.d + (q * e).d * q.c ∧ 2 * (rt q e).c = -((q * e).a * q.c) + (q * e).b * q.d + (q * e).c * q.a - (q * e).d * q.b ∧ 2 * (rt q e).d = -((q * e).a * q.d) - (q * e).b * q.c + (q * e).c * q.b + (q * e).d * q.a := fun e => by
    have h1 := mul_a (q * e) (bar q); have h2 := mul_b (q * e) (bar q); have h3 := mul_c (q * e) (bar q); have h4 := mul_d (q * e) (bar q)
    simp only [bar_a, bar_b, bar_c, bar_d, Int.mul_neg] at h1 h2 h3 h4
    unfold rt
    omega
  have g1 := gen ex1; have g2 := gen ex2; have g3 := gen ex3
  have x1 := mul_a q ex1; have x2 := mul_b q ex1; have x3 := mul_c q ex1; have x4 := mul_d q ex1
  have y1 := mul_a q ex2; have y2 := mul_b q ex2; have y3 := mul_c q ex2; have y4 := mul_d q ex2
  have z1 := mul_a q ex3; have z2 := mul_b q ex3; have z3 := mul_c q ex3; have z4 := mul_d q ex3
  simp only [ex1, ex2, ex3] at x1 x2 x3 x4 y1 y2 y3 y4 z1 z2 z3 z4 g1 g2 g3
  have a1 : (q * ⟨0, 2, 0, 0, by decide⟩).a = -q.b := by omega
  have a2 : (q * ⟨0, 2, 0, 0, by decide⟩).b = q.a := by omega
  have a3 : (q * ⟨0, 2, 0, 0, by decide⟩).c = q.d := by omega
  have a4 : (q * ⟨0, 2, 0, 0, by decide⟩).d = -q.c := by omega
  have b1 : (q * ⟨0, 0, 2, 0, by decide⟩).a = -q.c := by omega
  have b2 : (q * ⟨0, 0, 2, 0, by decide⟩).b = -q.d := by omega
  have b3 : (q * ⟨0, 0, 2, 0, by decide⟩).c = q.a := by omega
  have b4 : (q * ⟨0, 0, 2, 0, by decide⟩).d = q.b := by omega
  have c1 : (q * ⟨0, 0, 0, 2, by decide⟩).a = -q.d := by omega
  have c2 : (q * ⟨0, 0, 0, 2, by decide⟩).b = q.c := by omega
  have c3 : (q * ⟨0, 0, 0, 2, by decide⟩).c = -q.b := by omega
  have c4 : (q * ⟨0, 0, 0, 2, by decide⟩).d = q.a := by omega
  rw [a1, a2, a3, a4] at g1
  rw [b1, b2, b3, b4] at g2
  rw [c1, c2, c3, c4] at g3
  obtain ⟨g11, g12, g13, g14⟩ := g1
  obtain ⟨g21, g22, g23, g24⟩ := g2
  obtain ⟨g31, g32, g33, g34⟩ := g3
  have e1 : (rt q ex1) = rt q ⟨0, 2, 0, 0, by decide⟩ := rfl
  have e2 : (rt q ex2) = rt q ⟨0, 0, 2, 0, by decide⟩ := rfl
  have e3 : (rt q ex3) = rt q ⟨0, 0, 0, 2, by decide⟩ := rfl
  rw [e1, e2, e3]
  simp only [Int.neg_mul, Int.mul_comm q.b q.a, Int.mul_comm q.c q.a, Int.mul_comm q.d q.a, Int.mul_comm q.c q.b, Int.mul_comm q.d q.b, Int.mul_comm q.d q.c] at *
  refine ⟨?_, ?_, ?_, ?_, ?_, ?_, ?_, ?_, ?_, ?_, ?_, ?_⟩ <;> omega
theorem rt_even (q : Hur) {x : Hur} (h : x.a = 0) : x.b % 2 = 0 ∧ x.c % 2 = 0 ∧ x.d % 2 = 0 := by
  have := x.h
  unfold par at this
  omega
theorem low_eq' {q : Hur} (h : q ≠ zero) : ∃ k : Int, k ≠ 0 ∧ q = sm k (low q) ∧ k * k = cont q * cont q := by
  have ⟨h1, _, h3⟩ := prp_spec h
  unfold low
  split
  · exact ⟨_, by omega, h1, rfl⟩
  · refine ⟨-cont q, by omega, ?_, by rw [Int.neg_mul_neg]⟩
    refine Eq.trans h1 ?_
    refine Hur.ext ?_ ?_ ?_ ?_ <;> simp [Int.neg_mul, Int.mul_neg]
theorem g4_cont (q : Hur) : (g4 q : Int) = cont q ∨ (g4 q : Int) = 2 * cont q := by
  unfold cont
  by_cases h : g4 q = 0
  · rw [if_pos h]; omega
  · rw [if_neg h]
    split
    · left; rfl
    · rename_i ho
      have hq : q ≠ zero := fun z => h (g4_eq_zero.mpr z)
      obtain ⟨a, b, c, d, ha, hb, hc, hd, g0, hm⟩ := g4_parts hq
      have da : ∀ x y : Int, x = g4 q * y → x / g4 q = y := fun x y e => by rw [e]; exact Int.mul_ediv_cancel_left _ (by omega)
      rw [da _ _ ha, da _ _ hb, da _ _ hc, da _ _ hd] at ho
      right
      rcases Int.emod_two_eq (g4 q : Int) with z | z
      · omega
      · exfalso
        have p := q.h
        unfold par at p
        have par2 : ∀ x y : Int, x = g4 q * y → x % 2 = y % 2 := fun x y e => by
          rw [e, Int.mul_emod, z, Int.one_mul, Int.emod_emod_of_dvd _ (Int.dvd_refl 2)]
        have qa := par2 _ _ ha; have qb := par2 _ _ hb; have qc := par2 _ _ hc; have qd := par2 _ _ hd
        have := hm 2 (by omega) (by omega) (by omega) (by omega)
        omega
theorem dvd_mul_gcd {m k a b : Int} (h1 : m ∣ k * a) (h2 : m ∣ k * b) : m ∣ k * (Int.gcd a b : Nat) := by
  have h : m ∣ ((Int.gcd (k * a) (k * b) : Nat) : Int) := Int.dvd_coe_gcd h1 h2
  rw [Int.gcd_mul_left, Int.natCast_mul] at h
  rcases Int.natAbs_eq k with e | e
  · rw [e]; exact h
  · rw [e, Int.neg_mul]; exact Int.dvd_neg.mpr h
theorem dvd_mul_g4 {q : Hur} {m k : Int} (h1 : m ∣ k * q.a) (h2 : m ∣ k * q.b) (h3 : m ∣ k * q.c) (h4 : m ∣ k * q.d) : m ∣ k * (g4 q : Nat) := by
  unfold g4
  exact dvd_mul_gcd (dvd_mul_gcd (dvd_mul_gcd (dvd_mul_gcd (by rw [Int.mul_zero]; exact Int.dvd_zero m) h1) h2) h3) h4
theorem rt_sm (k : Int) (r e : Hur) : rt (sm k r) e = sm (k * k) (rt r e) := by
  unfold rt
  rw [bar_sm, sm_mul, sm_mul, mul_sm, sm_sm]
/-- the entries over the common divisor -/
theorem rt_dlt {r : Hur} (hr : Prim r) : dlt r ∣ N r ∧ dlt r ∣ (rt r ex1).b / 2 ∧ dlt r ∣ (rt r ex1).c / 2 ∧ dlt r ∣ (rt r ex1).d / 2 ∧ dlt r ∣ (rt r ex2).b / 2 ∧ dlt r ∣ (rt r ex2).c / 2 ∧ dlt r ∣ (rt r ex2).d / 2 ∧ dlt r ∣ (rt r ex3).b / 2 ∧ dlt r ∣ (rt r ex3).c / 2 ∧ dlt r ∣ (rt r ex3).d / 2 := by
  unfold dlt
  split
  · rename_i h
    obtain ⟨t, rfl⟩ := even_right h
    have e : ∀ x y : Hur, oj * x * oi = sm 2 y → ∀ z, rt (t * oj) x = z → z = sm 2 (t * y * bar t) := fun x y e z hz => by
      rw [← hz]
      unfold rt
      rw [bar_mul, show bar oj = oi from rfl, ← mul_assoc, mul_assoc t, mul_assoc t, e, mul_sm, sm_mul]
    have e1 := e ex1 ex1 (Hur.ext rfl rfl rfl rfl) _ rfl
    have e2 := e ex2 (-ex3) (Hur.ext rfl rfl rfl rfl) _ rfl
    have e3 := e ex3 ex2 (Hur.ext rfl rfl rfl rfl) _ rfl
    have ⟨a1, _, _, _, a2, _, _, _, a3, _, _, _⟩ := rot t
    have v1 := rt_even t a1
    have v2 := rt_even t a2
    have v3 := rt_even t a3
    have n3 : t * -ex3 * bar t = -rt t ex3 := by unfold rt; rw [mul_neg, neg_mul]
    rw [n3] at e2
    change _ = sm 2 (rt t ex1) at e1
    change _ = sm 2 (rt t ex2) at e3
    rw [e1, e2, e3]
    simp only [sm_b, sm_c, sm_d, neg_b, neg_c, neg_d]
    refine ⟨by omega, ?_, ?_, ?_, ?_, ?_, ?_, ?_, ?_, ?_⟩ <;> omega
  · exact ⟨Int.one_dvd _, Int.one_dvd _, Int.one_dvd _, Int.one_dvd _, Int.one_dvd _, Int.one_dvd _, Int.one_dvd _, Int.one_dvd _, Int.one_dvd _, Int.one_dvd _⟩
theorem und_eq (r : Hur) : und r = N r / dlt r := by unfold und dlt; split <;> simp
/-- the ten entries of the law's table -/
theorem tab_entries {q r : Hur} {k : Int} (eq : q = sm k r) :
    q.a * q.a + q.b * q.b - q.c * q.c - q.d * q.d = 4 * (k * k) * ((rt r ex1).b / 2) ∧ 2 * (q.b * q.c - q.a * q.d) = 4 * (k * k) * ((rt r ex2).b / 2) ∧ 2 * (q.b * q.d + q.a * q.c) = 4 * (k * k) * ((rt r ex3).b / 2) ∧
    2 * (q.b * q.c + q.a * q.d) = 4 * (k * k) * ((rt r ex1).c / 2) ∧ q.a * q.a - q.b * q.b + q.c * q.c - q.d * q.d = 4 * (k * k) * ((rt r ex2).c / 2) ∧ 2 * (q.c * q.d - q.a * q.b) = 4 * (k * k) * ((rt r ex3).c / 2) ∧
    2 * (q.b * q.d - q.a * q.c) = 4 * (k * k) * ((rt r ex1).d / 2) ∧ 2 * (q.c * q.d + q.a * q.b) = 4 * (k * k) * ((rt r ex2).d / 2) ∧ q.a * q.a - q.b * q.b - q.c * q.c + q.d * q.d = 4 * (k * k) * ((rt r ex3).d / 2) ∧
    q.a * q.a + q.b * q.b + q.c * q.c + q.d * q.d = 4 * (k * k) * N r := by
  have ⟨r1, r2, r3, r4, r5, r6, r7, r8, r9, r10, r11, r12⟩ := rot q
  have ⟨a1, _, _, _, a2, _, _, _, a3, _, _, _⟩ := rot r
  have v1 := rt_even r a1
  have v2 := rt_even r a2
  have v3 := rt_even r a3
  have nn := four_N q
  have sc : ∀ e, rt q e = sm (k * k) (rt r e) := fun e => by rw [eq]; exact rt_sm _ _ _
  have Nq : N q = k * k * N r := by rw [eq]; exact N_sm _ _
  rw [sc] at r2 r3 r4 r6 r7 r8 r10 r11 r12
  simp only [sm_b, sm_c, sm_d] at r2 r3 r4 r6 r7 r8 r10 r11 r12
  have hv : ∀ x : Int, x % 2 = 0 → 2 * (k * k * x) = 4 * (k * k) * (x / 2) := fun x h => by
    obtain ⟨y, rfl⟩ : ∃ y, x = 2 * y := ⟨x / 2, by omega⟩
    rw [show 2 * y / 2 = y by omega]
    grind (splits := 0)
  rw [hv _ v1.1] at r2; rw [hv _ v1.2.1] at r3; rw [hv _ v1.2.2] at r4
  rw [hv _ v2.1] at r6; rw [hv _ v2.2.1] at r7; rw [hv _ v2.2.2] at r8
  rw [hv _ v3.1] at r10; rw [hv _ v3.2.1] at r11; rw [hv _ v3.2.2] at r12
  exact ⟨r2.symm, r6.symm, r10.symm, r3.symm, r7.symm, r11.symm, r4.symm, r8.symm, r12.symm, by rw [← nn, Nq]; exact (Int.mul_assoc _ _ _).symm⟩
/-- the great common divisor of the ten entries of the law's table -/
theorem tab_gcd {q : Hur} (hq : q ≠ zero) {G : Int} (h0 : 0 ≤ G) (hG : ∀ m : Int, m ∣ G ↔ (m ∣ q.a * q.a + q.b * q.b - q.c * q.c - q.d * q.d ∧ m ∣ 2 * (q.b * q.c - q.a * q.d) ∧ m ∣ 2 * (q.b * q.d + q.a * q.c) ∧ m ∣ 2 * (q.b * q.c + q.a * q.d) ∧ m ∣ q.a * q.a - q.b * q.b + q.c * q.c - q.d * q.d ∧ m ∣ 2 * (q.c * q.d - q.a * q.b) ∧ m ∣ 2 * (q.b * q.d - q.a * q.c) ∧ m ∣ 2 * (q.c * q.d + q.a * q.b) ∧ m ∣ q.a * q.a - q.b * q.b - q.c * q.c + q.d * q.d ∧ m ∣ q.a * q.a + q.b * q.b + q.c * q.c + q.d * q.d)) :
    ∃ k : Int, k ≠ 0 ∧ q = sm k (low q) ∧ G = 4 * (k * k) * dlt (low q) := by
  obtain ⟨k, k0, eq, kc⟩ := low_eq' hq
  refine ⟨k, k0, eq, ?_⟩
  have pr := low_prim hq
  have dd := rt_dlt pr
  have kk : 0 < k * k := by
    rcases (show 0 < k ∨ k < 0 by omega) with h | h
    · exact Int.mul_pos h h
    · exact Int.mul_pos_of_neg_of_neg h h
  -- upper bound: G divides 16 k k
  have up : G ∣ 4 * (k * k) * 4 := by
    have ⟨d1, d2, d3, d4, d5, d6, d7, d8, d9, d10⟩ := (hG G).mp (Int.dvd_refl G)
    have g : ∀ {x y z : Int}, G ∣ x → G ∣ y → z = x + y → G ∣ z := fun h1 h2 e => by rw [e]; exact Int.dvd_add h1 h2
    have g' : ∀ {x y z : Int}, G ∣ x → G ∣ y → z = x - y → G ∣ z := fun h1 h2 e => by rw [e]; exact Int.dvd_sub h1 h2
    have aa : G ∣ 4 * (q.a * q.a) := g (g d10 d1 rfl) (g d5 d9 rfl) (by omega)
    have bb : G ∣ 4 * (q.b * q.b) := g' (g d10 d1 rfl) (g d5 d9 rfl) (by omega)
    have cc : G ∣ 4 * (q.c * q.c) := g' (g d10 d5 rfl) (g d1 d9 rfl) (by omega)
    have dd : G ∣ 4 * (q.d * q.d) := g' (g d10 d9 rfl) (g d1 d5 rfl) (by omega)
    have ab : G ∣ 4 * (q.a * q.b) := g' d8 d6 (by omega)
    have ac : G ∣ 4 * (q.a * q.c) := g' d3 d7 (by omega)
    have ad : G ∣ 4 * (q.a * q.d) := g' d4 d2 (by omega)
    have bc : G ∣ 4 * (q.b * q.c) := g d2 d4 (by omega)
    have bd : G ∣ 4 * (q.b * q.d) := g d3 d7 (by omega)
    have cd : G ∣ 4 * (q.c * q.d) := g d6 d8 (by omega)
    have s : ∀ x y : Int, 4 * (x * y) = 4 * x * y := fun x y => (Int.mul_assoc _ _ _).symm
    have s' : ∀ x y : Int, 4 * (x * y) = 4 * y * x := fun x y => by rw [Int.mul_comm x y]; exact s y x
    have ra : G ∣ 4 * q.a * (g4 q : Nat) := dvd_mul_g4 (by rw [← s]; exact aa) (by rw [← s]; exact ab) (by rw [← s]; exact ac) (by rw [← s]; exact ad)
    have rb : G ∣ 4 * q.b * (g4 q : Nat) := dvd_mul_g4 (by rw [← s']; exact ab) (by rw [← s]; exact bb) (by rw [← s]; exact bc) (by rw [← s]; exact bd)
    have rc : G ∣ 4 * q.c * (g4 q : Nat) := dvd_mul_g4 (by rw [← s']; exact ac) (by rw [← s']; exact bc) (by rw [← s]; exact cc) (by rw [← s]; exact cd)
    have rd : G ∣ 4 * q.d * (g4 q : Nat) := dvd_mul_g4 (by rw [← s']; exact ad) (by rw [← s']; exact bd) (by rw [← s']; exact cd) (by rw [← s]; exact dd)
    have sw : ∀ x y : Int, 4 * x * y = 4 * y * x := fun x y => by rw [Int.mul_assoc, Int.mul_assoc, Int.mul_comm x y]
    rw [sw] at ra rb rc rd
    have all := dvd_mul_g4 ra rb rc rd
    rw [← s] at all
    rcases g4_cont q with e | e
    · rw [e, ← kc] at all; exact Int.dvd_trans all ⟨4, rfl⟩
    · rw [e, show 2 * cont q * (2 * cont q) = 4 * (cont q * cont q) by grind (splits := 0), ← kc] at all
      rw [show 4 * (k * k) * 4 = 4 * (4 * (k * k)) by omega]; exact all
  have ⟨t1, t2, t3, t4, t5, t6, t7, t8, t9, t10⟩ := tab_entries eq
  rw [t1, t2, t3, t4, t5, t6, t7, t8, t9, t10] at hG
  clear t1 t2 t3 t4 t5 t6 t7 t8 t9 t10
  generalize low q = r at *
  have K : 0 < 4 * (k * k) := by omega
  generalize 4 * (k * k) = K' at *
  have lo : ∀ x : Int, K' * x ∣ G ↔ (x ∣ (rt r ex1).b / 2 ∧ x ∣ (rt r ex2).b / 2 ∧ x ∣ (rt r ex3).b / 2 ∧ x ∣ (rt r ex1).c / 2 ∧ x ∣ (rt r ex2).c / 2 ∧ x ∣ (rt r ex3).c / 2 ∧ x ∣ (rt r ex1).d / 2 ∧ x ∣ (rt r ex2).d / 2 ∧ x ∣ (rt r ex3).d / 2 ∧ x ∣ N r) := fun x => by
    rw [hG]
    simp only [Int.mul_dvd_mul_iff_left (show K' ≠ 0 by omega)]
  obtain ⟨x, hx⟩ : K' ∣ G := by
    have := (lo 1).mpr (by simp)
    rwa [Int.mul_one] at this
  have x0 : 0 ≤ x := by
    rcases (show 0 ≤ x ∨ x < 0 by omega) with h | h
    · exact h
    · have := Int.mul_neg_of_pos_of_neg K h
      omega
  have xa := (lo x).mp (by rw [← hx]; exact Int.dvd_refl G)
  have x4 : x ∣ 4 := by
    rw [hx] at up
    exact (Int.mul_dvd_mul_iff_left (show K' ≠ 0 by omega)).mp up
  have xN := xa.2.2.2.2.2.2.2.2.2
  have dG : dlt r ∣ x := by
    have h := (lo (dlt r)).mpr ⟨dd.2.1, dd.2.2.2.2.1, dd.2.2.2.2.2.2.2.1, dd.2.2.1, dd.2.2.2.2.2.1, dd.2.2.2.2.2.2.2.2.1, dd.2.2.2.1, dd.2.2.2.2.2.2.1, dd.2.2.2.2.2.2.2.2.2, dd.1⟩
    rw [hx] at h
    exact (Int.mul_dvd_mul_iff_left (show K' ≠ 0 by omega)).mp h
  rw [hx]
  congr 1
  have x5 := Int.le_of_dvd (by decide) x4
  have n4 := prim_not4 pr
  have : x = 0 ∨ x = 1 ∨ x = 2 ∨ x = 3 ∨ x = 4 := by omega
  unfold dlt at dG ⊢
  split at dG
  · rename_i h
    rw [if_pos h]
    rcases this with rfl | rfl | rfl | rfl | rfl <;> omega
  · rename_i h
    rw [if_neg h]
    rcases this with rfl | rfl | rfl | rfl | rfl <;> omega
end Hur
end HQ
namespace HQ
namespace Hur
def pt (x y z : Int) : Hur := ⟨0, 2 * x, 2 * y, 2 * z, by unfold par; omega⟩
def rv (q : Hur) (x y z : Int) : Hur := q * pt x y z * bar q
/-- the common divisor of a triple and the number below -/
def gg (a b c u : Int) : Nat := Int.gcd (Int.gcd (Int.gcd (Int.gcd 0 a) b) c) u
end Hur
end HQ
namespace HQ
namespace Hur
def m11 (q : Hur) : Int := (rt q ex1).b / 2
def m21 (q : Hur) : Int := (rt q ex1).c / 2
def m31 (q : Hur) : Int := (rt q ex1).d / 2
def m12 (q : Hur) : Int := (rt q ex2).b / 2
def m22 (q : Hur) : Int := (rt q ex2).c / 2
def m32 (q : Hur) : Int := (rt q ex2).d / 2
def m13 (q : Hur) : Int := (rt q ex3).b / 2
def m23 (q : Hur) : Int := (rt q ex3).c / 2
def m33 (q : Hur) : Int := (rt q ex3).d / 2
structure M4 (q : Hur) (x11 x21 x31 x12 x22 x32 x13 x23 x33 n : Int) : Prop where
  e11 : 4 * x11 = q.a * q.a + q.b * q.b - q.c * q.c - q.d * q.d
  e21 : 4 * x21 = 2 * (q.b * q.c + q.a * q.d)
  e31 : 4 * x31 = 2 * (q.b * q.d - q.a * q.c)
  e12 : 4 * x12 = 2 * (q.b * q.c - q.a * q.d)
  e22 : 4 * x22 = q.a * q.a - q.b * q.b + q.c * q.c - q.d * q.d
  e32 : 4 * x32 = 2 * (q.c * q.d + q.a * q.b)
  e13 : 4 * x13 = 2 * (q.b * q.d + q.a * q.c)
  e23 : 4 * x23 = 2 * (q.c * q.d - q.a * q.b)
  e33 : 4 * x33 = q.a * q.a - q.b * q.b - q.c * q.c + q.d * q.d
  en : 4 * n = q.a * q.a + q.b * q.b + q.c * q.c + q.d * q.d
theorem m4 (q : Hur) : M4 q (m11 q) (m21 q) (m31 q) (m12 q) (m22 q) (m32 q) (m13 q) (m23 q) (m33 q) (N q) := by
  have ⟨a1, b1, c1, d1, a2, b2, c2, d2, a3, b3, c3, d3⟩ := rot q
  have v1 := rt_even q a1; have v2 := rt_even q a2; have v3 := rt_even q a3
  have := four_N q
  unfold m11 m21 m31 m12 m22 m32 m13 m23 m33
  constructor <;> omega
end Hur
end HQ
namespace HQ
namespace Hur
end Hur
end HQ
namespace HQ.Hur
end HQ.Hur
namespace LK
open PySem PySem.Spec PyProof.Rows L2 G
abbrev Names : List Str := (["given", "tag", "number", "prime", "most", "name", "point", "first", "at", "kept", "whole", "units", "read", "halves", "size", "mirrored", "content", "divided", "text", "columns", "under", "still", "cube", "four", "spread", "rows", "image", "power", "own_turn", "plain"] : List Str) ++ (["of_ring", "turn", "coordinates", "ring", "turned", "steps", "one_in", "basis", "within", "narrowed", "points", "words", "word", "step", "either", "both", "single", "product", "factor", "table", "spots", "done", "past", "future", "held", "busy", "widest", "share", "limit", "change_limit"] : List Str) ++ (["names", "grain", "grains", "marks", "homes", "spread_of", "commands", "history", "set_grain", "check_new", "add_mark", "drop_mark", "execute", "state", "become", "apply", "apply_all", "undo", "redo", "twin", "blank", "tried", "running", "place", "block", "ask", "named", "long"] : List Str)
def w__law_feed : WS := (wSeq (wSet 1 (wArgs oList (waCons (wSl (wVarB 0) woNone (woSome (wC (.int 63)))) waNil))) (wSeq (wSet 2 (wBin (oAddA M0) (wC (.int 3819)) (wBin (oMulA M0) (wC (.int 7)) (wArgs oLen (waCons (wVarB 1) waNil))))) (wSeq (wFor (wiSeq (wVar 1)) (wgName 3) (wSet 2 (wBin (oMod) (wBin (oAddA M0) (wBin (oAddA M0) (wBin (oMulA M0) (wVarB 2) (wC (.int 16807))) (wBin (oMod) (wArgs oInt (waCons (wVarB 3) waNil)) (wC (.int 1000003)))) (wC (.int 5))) (wC (.int 2147483629))))) (wRet (wCell (waCons (wVar 1) (waCons (wC (.int 0)) (waCons (wC (.int 0)) (waCons (wVar 2) waNil)))))))))
def p__law_feed : WF := wfn 4 1 w__law_feed
theorem i__law_feed {a0 : D} {st : Store} {Q : QE} {R : XQ} (h : w__law_feed [.val a0, .no, .no, .no] st (fnW Q R)) : p__law_feed [a0] st Q R := ⟨rfl, h⟩
def w__law_gcd : WS := (wSeq (wPar 0 1 (waCons (wArgs oAbs (waCons (wVarB 0) waNil)) (waCons (wArgs oAbs (waCons (wVarB 1) waNil)) waNil))) (wSeq (wWhile (wBool (wBin oNeD (wVarB 1) (wC (.int 0)))) (wPar 0 1 (waCons (wVar 1) (waCons (wBin (oMod) (wArgs oInt (waCons (wVarB 0) waNil)) (wVarB 1)) waNil)))) (wRet (wVar 0))))
def p__law_gcd : WF := wfn 2 2 w__law_gcd
theorem i__law_gcd {a0 a1 : D} {st : Store} {Q : QE} {R : XQ} (h : w__law_gcd [.val a0, .val a1] st (fnW Q R)) : p__law_gcd [a0, a1] st Q R := ⟨rfl, h⟩
def w__law_take : WS := (wSeq (wIfS (wAndT (wBool (wBin oEqD (wBin oIx (wVarB 0) (wC (.int 2))) (wC (.int 0)))) (wBool (wBin oLtA (wBin oIx (wVarB 0) (wC (.int 1))) (wArgs oLen (waCons (wBin oIx (wVarB 0) (wC (.int 0))) waNil))))) (wSeq (wSet 2 (wBin oIx (wBin oIx (wVarB 0) (wC (.int 0))) (wBin oIx (wVarB 0) (wC (.int 1))))) (wSeq (wPut 0 (wC (.int 1)) (wBin (oAddA M0) (wBin oIx (wVarB 0) (wC (.int 1))) (wC (.int 1)))) (wIfS (wBool (wBin oGe (wVarB 2) (wBin (oPow) (wC (.int 10)) (wC (.int 18))))) (wPut 0 (wC (.int 2)) (wVar 2)) (wSeq (wSet 3 (wBin (oAddA M0) (wBin (oMulA M0) (wBin oIx (wVarB 0) (wC (.int 3))) (wC (.int 48271))) (wBin (oMod) (wArgs oInt (waCons (wVarB 2) waNil)) (wC (.int 2147483563))))) (wPut 0 (wC (.int 3)) (wBin (oMod) (wBin (oAddA M0) (wVarB 3) (wBin (oMulA M0) (wBin oIx (wVarB 0) (wC (.int 1))) (wC (.int 911)))) (wC (.int 2147483647)))))))) wNext) (wSeq (wIfS (wBool (wBin oGtA (wBin oIx (wVarB 0) (wC (.int 2))) (wC (.int 0)))) (wSeq (wSet 4 (wBin (oMod) (wArgs oInt (waCons (wBin oIx (wVarB 0) (wC (.int 2))) waNil)) (wVarB 1))) (wSeq (wPut 0 (wC (.int 2)) (wBin (oFdiv) (wBin oIx (wVarB 0) (wC (.int 2))) (wVarB 1))) (wRet (wVar 4)))) wNext) (wSeq (wPut 0 (wC (.int 3)) (wBin (oMod) (wBin (oAddA M0) (wBin (oMulA M0) (wBin oIx (wVarB 0) (wC (.int 3))) (wC (.int 69621))) (wC (.int 13))) (wC (.int 2147483647)))) (wRet (wBin (oMod) (wBin (oFdiv) (wBin (oMod) (wBin (oMulA M0) (wBin oIx (wVarB 0) (wC (.int 3))) (wArgs oInt (waCons (wBin oIx (wVarB 0) (wC (.int 3))) waNil))) (wC (.int 998244353))) (wC (.int 17))) (wVarB 1))))))
def p__law_take : WF := wfn 5 2 w__law_take
theorem i__law_take {a0 a1 : D} {st : Store} {Q : QE} {R : XQ} (h : w__law_take [.val a0, .val a1, .no, .no, .no] st (fnW Q R)) : p__law_take [a0, a1] st Q R := ⟨rfl, h⟩
def w_common : WS := (wSeq (wPar 0 1 (waCons (wArgs oAbs (waCons (wVarB 0) waNil)) (waCons (wArgs oAbs (waCons (wVarB 1) waNil)) waNil))) (wSeq (wWhile (wBool (wBin oNeD (wVarB 1) (wC (.int 0)))) (wPar 0 1 (waCons (wVar 1) (waCons (wBin (oMod) (wVarB 0) (wVarB 1)) waNil)))) (wRet (wVar 0))))
def p_common : WF := wfn 2 2 w_common
theorem i_common {a0 a1 : D} {st : Store} {Q : QE} {R : XQ} (h : w_common [.val a0, .val a1] st (fnW Q R)) : p_common [a0, a1] st Q R := ⟨rfl, h⟩
def w_is_halves : WS := (wRet (wAnd (wBin oEqD (wArgs oLen (waCons (wVarB 0) waNil)) (wC (.int 4))) (wBin oEqD (wLenIs (wiSeq (wVar 0)) [1] (wgName 1) (wBin (oMod) (wVarB 1) (wC (.int 2)))) (wC (.int 1)))))
def p_is_halves : WF := wfn 2 1 w_is_halves
theorem i_is_halves {a0 : D} {st : Store} {Q : QE} {R : XQ} (h : w_is_halves [.val a0, .no] st (fnW Q R)) : p_is_halves [a0] st Q R := ⟨rfl, h⟩
def F_Four___init__ : Nat → Nat → Bool := addF 18 9 (F0)
def w_Four___init__ : WS := (wSeq (wIfS (wNotT (wBool (wCall p_is_halves (waCons (wVar 1) waNil)))) wNever wNext) (wFld F_Four___init__ 9 (wVar 0) (wVar 1)))
def p_Four___init__ : WF := wstar 2 1 w_Four___init__
theorem i_Four___init__ {a0 : D} {rest : List D} {st : Store} {Q : QE} {R : XQ} (hz : rest.length ≤ sizeLine) (h : w_Four___init__ [.val a0, .val (.tup rest)] st (fnW Q R)) : p_Four___init__ (a0 :: rest) st Q R := ⟨[a0], rest, rfl, rfl, hz, rfl, h⟩
def T_Four___add__ : Nat → Nat → Option WF := P0
def F_Four___add__ : Nat → Nat → Bool := addF 18 9 (F0)
def w_Four___add__ : WS := (wSeq (wSet 2 (wLc (wiZipA (waCons (wUn (oAtt F_Four___add__ T_Four___add__ 9) (wVarB 0)) (waCons (wUn (oAtt F_Four___add__ T_Four___add__ 9) (wVarB 1)) waNil))) [3, 4] (wgTup 2 (wgsCons (wgName 3) (wgsCons (wgName 4) wgsNil))) wYes (wBin (oAddA M0) (wVarB 3) (wVarB 4)))) (wRet (wMkS true 18 p_Four___init__ (wVarB 2))))
def p_Four___add__ : WF := wfn 5 2 w_Four___add__
theorem i_Four___add__ {a0 a1 : D} {st : Store} {Q : QE} {R : XQ} (h : w_Four___add__ [.val a0, .val a1, .no, .no, .no] st (fnW Q R)) : p_Four___add__ [a0, a1] st Q R := ⟨rfl, h⟩
def IL_Four___eq__ : IsL := [((18, 18), true)]
def T_Four___eq__ : Nat → Nat → Option WF := P0
def F_Four___eq__ : Nat → Nat → Bool := addF 18 9 (F0)
def w_Four___eq__ : WS := (wRet (wAnd (wArgs (oIsi (isOf IL_Four___eq__)) (waCons (wVarB 1) (waCons (wC (.cls 18)) waNil))) (wBin oEqD (wUn (oAtt F_Four___eq__ T_Four___eq__ 9) (wVarB 0)) (wUn (oAtt F_Four___eq__ T_Four___eq__ 9) (wVarB 1)))))
def p_Four___eq__ : WF := wfn 2 2 w_Four___eq__
theorem i_Four___eq__ {a0 a1 : D} {st : Store} {Q : QE} {R : XQ} (h : w_Four___eq__ [.val a0, .val a1] st (fnW Q R)) : p_Four___eq__ [a0, a1] st Q R := ⟨rfl, h⟩
def T_Four___mul__ : Nat → Nat → Option WF := P0
def F_Four___mul__ : Nat → Nat → Bool := addF 18 9 (F0)
def w_Four___mul__ : WS := (wSeq (wAsg (wUn (oAtt F_Four___mul__ T_Four___mul__ 9) (wVarB 0)) (wgTup 4 (wgsCons (wgName 2) (wgsCons (wgName 3) (wgsCons (wgName 4) (wgsCons (wgName 5) wgsNil)))))) (wSeq (wAsg (wUn (oAtt F_Four___mul__ T_Four___mul__ 9) (wVarB 1)) (wgTup 4 (wgsCons (wgName 6) (wgsCons (wgName 7) (wgsCons (wgName 8) (wgsCons (wgName 9) wgsNil)))))) (wSeq (wSet 10 (wLst (waCons (wBin (oSub M0) (wBin (oSub M0) (wBin (oSub M0) (wBin (oMulA M0) (wVarB 2) (wVarB 6)) (wBin (oMulA M0) (wVarB 3) (wVarB 7))) (wBin (oMulA M0) (wVarB 4) (wVarB 8))) (wBin (oMulA M0) (wVarB 5) (wVarB 9))) (waCons (wBin (oSub M0) (wBin (oAddA M0) (wBin (oAddA M0) (wBin (oMulA M0) (wVarB 2) (wVarB 7)) (wBin (oMulA M0) (wVarB 3) (wVarB 6))) (wBin (oMulA M0) (wVarB 4) (wVarB 9))) (wBin (oMulA M0) (wVarB 5) (wVarB 8))) (waCons (wBin (oAddA M0) (wBin (oAddA M0) (wBin (oSub M0) (wBin (oMulA M0) (wVarB 2) (wVarB 8)) (wBin (oMulA M0) (wVarB 3) (wVarB 9))) (wBin (oMulA M0) (wVarB 4) (wVarB 6))) (wBin (oMulA M0) (wVarB 5) (wVarB 7))) (waCons (wBin (oAddA M0) (wBin (oSub M0) (wBin (oAddA M0) (wBin (oMulA M0) (wVarB 2) (wVarB 9)) (wBin (oMulA M0) (wVarB 3) (wVarB 8))) (wBin (oMulA M0) (wVarB 4) (wVarB 7))) (wBin (oMulA M0) (wVarB 5) (wVarB 6))) waNil)))))) (wSeq (wSet 10 (wLc (wiSeq (wVar 10)) [11] (wgName 11) wYes (wBin (oFdiv) (wVarB 11) (wC (.int 2))))) (wRet (wMkS true 18 p_Four___init__ (wVarB 10)))))))
def p_Four___mul__ : WF := wfn 12 2 w_Four___mul__
theorem i_Four___mul__ {a0 a1 : D} {st : Store} {Q : QE} {R : XQ} (h : w_Four___mul__ [.val a0, .val a1, .no, .no, .no, .no, .no, .no, .no, .no, .no, .no] st (fnW Q R)) : p_Four___mul__ [a0, a1] st Q R := ⟨rfl, h⟩
def T_Four___neg__ : Nat → Nat → Option WF := P0
def F_Four___neg__ : Nat → Nat → Bool := addF 18 9 (F0)
def w_Four___neg__ : WS := (wSeq (wSet 1 (wLc (wiSeq (wUn (oAtt F_Four___neg__ T_Four___neg__ 9) (wVarB 0))) [2] (wgName 2) wYes (wUn (oNeg M0) (wVarB 2)))) (wRet (wMkS true 18 p_Four___init__ (wVarB 1))))
def p_Four___neg__ : WF := wfn 3 1 w_Four___neg__
theorem i_Four___neg__ {a0 : D} {st : Store} {Q : QE} {R : XQ} (h : w_Four___neg__ [.val a0, .no, .no] st (fnW Q R)) : p_Four___neg__ [a0] st Q R := ⟨rfl, h⟩
def T_Four___sub__ : Nat → Nat → Option WF := P0
def F_Four___sub__ : Nat → Nat → Bool := addF 18 9 (F0)
def w_Four___sub__ : WS := (wSeq (wSet 2 (wLc (wiZipA (waCons (wUn (oAtt F_Four___sub__ T_Four___sub__ 9) (wVarB 0)) (waCons (wUn (oAtt F_Four___sub__ T_Four___sub__ 9) (wVarB 1)) waNil))) [3, 4] (wgTup 2 (wgsCons (wgName 3) (wgsCons (wgName 4) wgsNil))) wYes (wBin (oSub M0) (wVarB 3) (wVarB 4)))) (wRet (wMkS true 18 p_Four___init__ (wVarB 2))))
def p_Four___sub__ : WF := wfn 5 2 w_Four___sub__
theorem i_Four___sub__ {a0 a1 : D} {st : Store} {Q : QE} {R : XQ} (h : w_Four___sub__ [.val a0, .val a1, .no, .no, .no] st (fnW Q R)) : p_Four___sub__ [a0, a1] st Q R := ⟨rfl, h⟩
def T_Four_halves : Nat → Nat → Option WF := P0
def F_Four_halves : Nat → Nat → Bool := addF 18 9 (F0)
def w_Four_halves : WS := (wRet (wUn (oAtt F_Four_halves T_Four_halves 9) (wVarB 0)))
def p_Four_halves : WF := wfn 1 1 w_Four_halves
theorem i_Four_halves {a0 : D} {st : Store} {Q : QE} {R : XQ} (h : w_Four_halves [.val a0] st (fnW Q R)) : p_Four_halves [a0] st Q R := ⟨rfl, h⟩
def T_Four_mirrored : Nat → Nat → Option WF := P0
def F_Four_mirrored : Nat → Nat → Bool := addF 18 9 (F0)
def w_Four_mirrored : WS := (wSeq (wAsg (wUn (oAtt F_Four_mirrored T_Four_mirrored 9) (wVarB 0)) (wgTup 4 (wgsCons (wgName 1) (wgsCons (wgName 2) (wgsCons (wgName 3) (wgsCons (wgName 4) wgsNil)))))) (wRet (wMk true 18 p_Four___init__ (waCons (wVar 1) (waCons (wUn (oNeg M0) (wVarB 2)) (waCons (wUn (oNeg M0) (wVarB 3)) (waCons (wUn (oNeg M0) (wVarB 4)) waNil)))))))
def p_Four_mirrored : WF := wfn 5 1 w_Four_mirrored
theorem i_Four_mirrored {a0 : D} {st : Store} {Q : QE} {R : XQ} (h : w_Four_mirrored [.val a0, .no, .no, .no, .no] st (fnW Q R)) : p_Four_mirrored [a0] st Q R := ⟨rfl, h⟩
def w__law_back : WS := (wRet (wTup (waCons (wBin oIx (wVarB 0) (wC (.int 0))) (waCons (wUn (oNeg M0) (wBin oIx (wVarB 0) (wC (.int 1)))) (waCons (wUn (oNeg M0) (wBin oIx (wVarB 0) (wC (.int 2)))) (waCons (wUn (oNeg M0) (wBin oIx (wVarB 0) (wC (.int 3)))) waNil))))))
def p__law_back : WF := wfn 1 1 w__law_back
theorem i__law_back {a0 : D} {st : Store} {Q : QE} {R : XQ} (h : w__law_back [.val a0] st (fnW Q R)) : p__law_back [a0] st Q R := ⟨rfl, h⟩
def w__law_four : WS := (wSeq (wAsg (wVar 0) (wgTup 4 (wgsCons (wgName 1) (wgsCons (wgName 2) (wgsCons (wgName 3) (wgsCons (wgName 4) wgsNil)))))) (wRet (wMk true 18 p_Four___init__ (waCons (wVar 1) (waCons (wVar 2) (waCons (wVar 3) (waCons (wVar 4) waNil)))))))
def p__law_four : WF := wfn 5 1 w__law_four
theorem i__law_four {a0 : D} {st : Store} {Q : QE} {R : XQ} (h : w__law_four [.val a0, .no, .no, .no, .no] st (fnW Q R)) : p__law_four [a0] st Q R := ⟨rfl, h⟩
def w__law_times : WS := (wSeq (wAsg (wVar 0) (wgTup 4 (wgsCons (wgName 2) (wgsCons (wgName 3) (wgsCons (wgName 4) (wgsCons (wgName 5) wgsNil)))))) (wSeq (wAsg (wVar 1) (wgTup 4 (wgsCons (wgName 6) (wgsCons (wgName 7) (wgsCons (wgName 8) (wgsCons (wgName 9) wgsNil)))))) (wSeq (wSet 10 (wBin (oFdiv) (wBin (oSub M0) (wBin (oSub M0) (wBin (oSub M0) (wBin (oMulA M0) (wVarB 2) (wVarB 6)) (wBin (oMulA M0) (wVarB 3) (wVarB 7))) (wBin (oMulA M0) (wVarB 4) (wVarB 8))) (wBin (oMulA M0) (wVarB 5) (wVarB 9))) (wC (.int 2)))) (wSeq (wSet 11 (wBin (oFdiv) (wBin (oSub M0) (wBin (oAddA M0) (wBin (oAddA M0) (wBin (oMulA M0) (wVarB 2) (wVarB 7)) (wBin (oMulA M0) (wVarB 3) (wVarB 6))) (wBin (oMulA M0) (wVarB 4) (wVarB 9))) (wBin (oMulA M0) (wVarB 5) (wVarB 8))) (wC (.int 2)))) (wSeq (wSet 12 (wBin (oFdiv) (wBin (oAddA M0) (wBin (oAddA M0) (wBin (oSub M0) (wBin (oMulA M0) (wVarB 2) (wVarB 8)) (wBin (oMulA M0) (wVarB 3) (wVarB 9))) (wBin (oMulA M0) (wVarB 4) (wVarB 6))) (wBin (oMulA M0) (wVarB 5) (wVarB 7))) (wC (.int 2)))) (wRet (wTup (waCons (wVar 10) (waCons (wVar 11) (waCons (wVar 12) (waCons (wBin (oFdiv) (wBin (oAddA M0) (wBin (oSub M0) (wBin (oAddA M0) (wBin (oMulA M0) (wVarB 2) (wVarB 9)) (wBin (oMulA M0) (wVarB 3) (wVarB 8))) (wBin (oMulA M0) (wVarB 4) (wVarB 7))) (wBin (oMulA M0) (wVarB 5) (wVarB 6))) (wC (.int 2))) waNil)))))))))))
def p__law_times : WF := wfn 13 2 w__law_times
theorem i__law_times {a0 a1 : D} {st : Store} {Q : QE} {R : XQ} (h : w__law_times [.val a0, .val a1, .no, .no, .no, .no, .no, .no, .no, .no, .no, .no, .no] st (fnW Q R)) : p__law_times [a0, a1] st Q R := ⟨rfl, h⟩
def T_Four_size : Nat → Nat → Option WF := P0
def F_Four_size : Nat → Nat → Bool := addF 18 9 (F0)
def w_Four_size : WS := (wRet (wBin (oFdiv) (wArgs oSum (waCons (wLc (wiSeq (wUn (oAtt F_Four_size T_Four_size 9) (wVarB 0))) [1] (wgName 1) wYes (wBin (oMulA M0) (wVarB 1) (wVarB 1))) waNil)) (wC (.int 4))))
def p_Four_size : WF := wfn 2 1 w_Four_size
theorem i_Four_size {a0 : D} {st : Store} {Q : QE} {R : XQ} (h : w_Four_size [.val a0, .no] st (fnW Q R)) : p_Four_size [a0] st Q R := ⟨rfl, h⟩
def w_Four_whole : WS := (wRet (wMk true 18 p_Four___init__ (waCons (wBin (oMulA M0) (wC (.int 2)) (wVarB 0)) (waCons (wC (.int 0)) (waCons (wC (.int 0)) (waCons (wC (.int 0)) waNil))))))
def p_Four_whole : WF := wfn 1 1 w_Four_whole
theorem i_Four_whole {a0 : D} {st : Store} {Q : QE} {R : XQ} (h : w_Four_whole [.val a0] st (fnW Q R)) : p_Four_whole [a0] st Q R := ⟨rfl, h⟩
def w__law_size : WS := (wRet (wBin (oFdiv) (wArgs oSum (waCons (wLc (wiSeq (wVar 0)) [1] (wgName 1) wYes (wBin (oMulA M0) (wVarB 1) (wVarB 1))) waNil)) (wC (.int 4))))
def p__law_size : WF := wfn 2 1 w__law_size
theorem i__law_size {a0 : D} {st : Store} {Q : QE} {R : XQ} (h : w__law_size [.val a0, .no] st (fnW Q R)) : p__law_size [a0] st Q R := ⟨rfl, h⟩
def w__law_pick : WS := (wRet (wBin oIx (wVarB 1) (wCall p__law_take (waCons (wVar 0) (waCons (wArgs oLen (waCons (wVarB 1) waNil)) waNil)))))
def p__law_pick : WF := wfn 2 2 w__law_pick
theorem i__law_pick {a0 a1 : D} {st : Store} {Q : QE} {R : XQ} (h : w__law_pick [.val a0, .val a1] st (fnW Q R)) : p__law_pick [a0, a1] st Q R := ⟨rfl, h⟩
def w__law_units : WS := (wSeq (wSet 0 (wLst (waCons (wTup waNil) waNil))) (wSeq (wFor (wiR1 (waCons (wC (.int 4)) waNil)) (wgName 1) (wSet 0 (wBin (oAddA M0) (wLc (wiSeq (wVar 0)) [2] (wgName 2) wYes (wBin (oAddA M0) (wVarB 2) (wTup (waCons (wUn (oNeg M0) (wC (.int 1))) waNil)))) (wLc (wiSeq (wVar 0)) [2] (wgName 2) wYes (wBin (oAddA M0) (wVarB 2) (wTup (waCons (wC (.int 1)) waNil))))))) (wSeq (wFor (wiR1 (waCons (wC (.int 4)) waNil)) (wgName 1) (wSet 0 (wBin (oAddA M0) (wVarB 0) (wLc (wiSeq (wTup (waCons (wC (.int 2)) (waCons (wUn (oNeg M0) (wC (.int 2))) waNil)))) [3] (wgName 3) wYes (wBin (oAddA M0) (wBin (oAddA M0) (wBin (oMulA M0) (wTup (waCons (wC (.int 0)) waNil)) (wVarB 1)) (wTup (waCons (wVar 3) waNil))) (wBin (oMulA M0) (wTup (waCons (wC (.int 0)) waNil)) (wBin (oSub M0) (wC (.int 3)) (wVarB 1)))))))) (wRet (wArgs oSorted (waCons (wVarB 0) waNil))))))
def p__law_units : WF := wfn 4 0 w__law_units
theorem i__law_units {st : Store} {Q : QE} {R : XQ} (h : w__law_units [.no, .no, .no, .no] st (fnW Q R)) : p__law_units [] st Q R := ⟨rfl, h⟩
def w_Four_units : WS := (wSeq (wOwn 0 waNil) (wSeq (wFor (wiR1 (waCons (wC (.int 4)) waNil)) (wgName 1) (wFor (wiSeq (wTup (waCons (wUn (oNeg M0) (wC (.int 2))) (waCons (wC (.int 2)) waNil)))) (wgName 2) (wSeq (wOwn 3 (waCons (wC (.int 0)) (waCons (wC (.int 0)) (waCons (wC (.int 0)) (waCons (wC (.int 0)) waNil))))) (wSeq (wPut 3 (wVarB 1) (wVar 2)) (wApp 0 (wArgs oTuple (waCons (wVarB 3) waNil))))))) (wSeq (wExt 0 (wLcN ⟨(wiSeq (wTup (waCons (wUn (oNeg M0) (wC (.int 1))) (waCons (wC (.int 1)) waNil)))), (wgName 4), wYes, [4, 5, 6, 7], [4]⟩ [⟨(wiSeq (wTup (waCons (wUn (oNeg M0) (wC (.int 1))) (waCons (wC (.int 1)) waNil)))), (wgName 5), wYes, [5, 6, 7], [5]⟩, ⟨(wiSeq (wTup (waCons (wUn (oNeg M0) (wC (.int 1))) (waCons (wC (.int 1)) waNil)))), (wgName 6), wYes, [6, 7], [6]⟩, ⟨(wiSeq (wTup (waCons (wUn (oNeg M0) (wC (.int 1))) (waCons (wC (.int 1)) waNil)))), (wgName 7), wYes, [7], [7]⟩] (wTup (waCons (wVar 4) (waCons (wVar 5) (waCons (wVar 6) (waCons (wVar 7) waNil))))))) (wFrz [3] (wRet (wLc (wiSeq (wArgs oSorted (waCons (wVarB 0) waNil))) [3] (wgName 3) wYes (wMkS true 18 p_Four___init__ (wVarB 3))))))))
def p_Four_units : WF := wfn 8 0 w_Four_units
theorem i_Four_units {st : Store} {Q : QE} {R : XQ} (h : w_Four_units [.no, .no, .no, .no, .no, .no, .no, .no] st (fnW Q R)) : p_Four_units [] st Q R := ⟨rfl, h⟩
def M_associate : MT := addM 18 .mul p_Four___mul__ (M0)
def T_associate : Nat → Nat → Option WF := addT 18 13 p_Four_halves (P0)
def F_associate : Nat → Nat → Bool := F0
def w_associate : WS := (wSeq (wSet 1 (wVar 0)) (wSeq (wFor (wiSeq (wCall p_Four_units waNil)) (wgName 2) (wSeq (wSet 3 (wBin (oMulA M_associate) (wVarB 0) (wVarB 2))) (wIfS (wBool (wBin oGtA (wUn (oAtt F_associate T_associate 13) (wVarB 3)) (wUn (oAtt F_associate T_associate 13) (wVarB 1)))) (wSet 1 (wVar 3)) wNext))) (wRet (wVar 1))))
def p_associate : WF := wfn 4 1 w_associate
theorem i_associate {a0 : D} {st : Store} {Q : QE} {R : XQ} (h : w_associate [.val a0, .no, .no, .no] st (fnW Q R)) : p_associate [a0] st Q R := ⟨rfl, h⟩
def T_Four___bool__ : Nat → Nat → Option WF := P0
def F_Four___bool__ : Nat → Nat → Bool := addF 18 9 (F0)
def w_Four___bool__ : WS := (wRet (wArgs oAny (waCons (wLc (wiSeq (wUn (oAtt F_Four___bool__ T_Four___bool__ 9) (wVarB 0))) [1] (wgName 1) wYes (wBin oNeD (wVarB 1) (wC (.int 0)))) waNil)))
def p_Four___bool__ : WF := wfn 2 1 w_Four___bool__
theorem i_Four___bool__ {a0 : D} {st : Store} {Q : QE} {R : XQ} (h : w_Four___bool__ [.val a0, .no] st (fnW Q R)) : p_Four___bool__ [a0] st Q R := ⟨rfl, h⟩
def T_nearest : Nat → Nat → Option WF := addT 18 13 p_Four_halves (P0)
def F_nearest : Nat → Nat → Bool := F0
def M_divide_left : MT := addM 18 .bool p_Four___bool__ (addM 18 .mul p_Four___mul__ (addM 18 (.nm 15) p_Four_mirrored (addM 18 .sub p_Four___sub__ (M0))))
def T_divide_left : Nat → Nat → Option WF := addT 18 14 p_Four_size (P0)
def F_divide_left : Nat → Nat → Bool := F0
def M_common_left : MT := addM 18 .bool p_Four___bool__ (M0)
def M_divides_left : MT := addM 18 .bool p_Four___bool__ (M0)
def w__law_gcd_of : WS := (wSeq (wSet 1 (wC (.int 0))) (wSeq (wFor (wiSeq (wVar 0)) (wgName 2) (wSet 1 (wCall p__law_gcd (waCons (wVar 1) (waCons (wVar 2) waNil))))) (wRet (wVar 1))))
def p__law_gcd_of : WF := wfn 3 1 w__law_gcd_of
theorem i__law_gcd_of {a0 : D} {st : Store} {Q : QE} {R : XQ} (h : w__law_gcd_of [.val a0, .no, .no] st (fnW Q R)) : p__law_gcd_of [a0] st Q R := ⟨rfl, h⟩
def w__law_content : WS := (wSeq (wSet 1 (wCall p__law_gcd_of (waCons (wVar 0) waNil))) (wSeq (wIfS (wBool (wBin oEqD (wVarB 1) (wC (.int 0)))) (wRet (wC (.int 0))) wNext) (wSeq (wSet 2 (wLc (wiSeq (wVar 0)) [3] (wgName 3) wYes (wBin (oMod) (wBin (oFdiv) (wVarB 3) (wArgs oInt (waCons (wVarB 1) waNil))) (wC (.int 2))))) (wRet (wIf (wBool (wBin oEqD (wVarB 2) (wLst (waCons (wC (.int 1)) (waCons (wC (.int 1)) (waCons (wC (.int 1)) (waCons (wC (.int 1)) waNil))))))) (wVar 1) (wBin (oFdiv) (wVarB 1) (wC (.int 2))))))))
def p__law_content : WF := wfn 4 1 w__law_content
theorem i__law_content {a0 : D} {st : Store} {Q : QE} {R : XQ} (h : w__law_content [.val a0, .no, .no, .no] st (fnW Q R)) : p__law_content [a0] st Q R := ⟨rfl, h⟩
def w__law_lowest : WS := (wSeq (wSet 1 (wCall p__law_content (waCons (wVar 0) waNil))) (wSeq (wSet 2 (wLc (wiSeq (wVar 0)) [4] (wgName 4) wYes (wBin (oFdiv) (wVarB 4) (wVarB 1)))) (wSeq (wSet 3 (wBin oIx (wLc (wiSeq (wVar 2)) [4] (wgName 4) (wBool (wBin oNeD (wVarB 4) (wC (.int 0)))) (wVar 4)) (wC (.int 0)))) (wRet (wArgs oTuple (waCons (wLc (wiSeq (wVar 2)) [4] (wgName 4) wYes (wIf (wBool (wBin oGtA (wVarB 3) (wC (.int 0)))) (wVar 4) (wUn (oNeg M0) (wVarB 4)))) waNil))))))
def p__law_lowest : WF := wfn 5 1 w__law_lowest
theorem i__law_lowest {a0 : D} {st : Store} {Q : QE} {R : XQ} (h : w__law_lowest [.val a0, .no, .no, .no, .no] st (fnW Q R)) : p__law_lowest [a0] st Q R := ⟨rfl, h⟩
def w__law_own : WS := (wSeq (wSet 1 (wCall p__law_lowest (waCons (wVar 0) waNil))) (wSeq (wIfS (wBool (wBin oEqD (wBin (oMod) (wCall p__law_size (waCons (wVar 1) waNil)) (wC (.int 2))) (wC (.int 0)))) (wSet 1 (wCall p__law_lowest (waCons (wCall p__law_times (waCons (wVar 1) (waCons (wTup (waCons (wC (.int 2)) (waCons (wC (.int 2)) (waCons (wC (.int 0)) (waCons (wC (.int 0)) waNil))))) waNil))) waNil))) wNext) (wRet (wArgs oMax (waCons (wLc (wiSeq (wCall p__law_units waNil)) [2] (wgName 2) wYes (wCall p__law_times (waCons (wVar 1) (waCons (wVar 2) waNil)))) waNil)))))
def p__law_own : WF := wfn 3 1 w__law_own
theorem i__law_own {a0 : D} {st : Store} {Q : QE} {R : XQ} (h : w__law_own [.val a0, .no, .no] st (fnW Q R)) : p__law_own [a0] st Q R := ⟨rfl, h⟩
def T_Turn_rows : Nat → Nat → Option WF := P0
def F_Turn_rows : Nat → Nat → Bool := addF 19 19 (F0)
def w_Turn_rows : WS := (wRet (wLc (wiR1 (waCons (wC (.int 3)) waNil)) [1] (wgName 1) wYes (wArgs oTuple (waCons (wLc (wiSeq (wUn (oAtt F_Turn_rows T_Turn_rows 19) (wVarB 0))) [2] (wgName 2) wYes (wBin oIx (wVarB 2) (wVarB 1))) waNil))))
def p_Turn_rows : WF := wfn 3 1 w_Turn_rows
def w_in_lowest : WS := (wSeq (wSet 2 (wVar 1)) (wSeq (wFor (wiSeq (wVar 0)) (wgName 3) (wSet 2 (wCall p_common (waCons (wVar 2) (waCons (wVar 3) waNil))))) (wRet (wTup (waCons (wArgs oTuple (waCons (wLc (wiSeq (wVar 0)) [3] (wgName 3) wYes (wBin (oFdiv) (wVarB 3) (wVarB 2))) waNil)) (waCons (wBin (oFdiv) (wVarB 1) (wVarB 2)) waNil))))))
def p_in_lowest : WF := wfn 4 2 w_in_lowest
def M_Turn_image : MT := addM 19 (.nm 25) p_Turn_rows (M0)
def T_Turn_image : Nat → Nat → Option WF := P0
def F_Turn_image : Nat → Nat → Bool := addF 19 20 (F0)
def w_Turn_image : WS := (wSeq (wSet 2 (wLc (wiSeq (wMeth M_Turn_image 25 (wVar 0) waNil)) [3] (wgName 3) wYes (wArgs oSum (waCons (wLc (wiZipA (waCons (wVar 3) (waCons (wVar 1) waNil))) [4, 5] (wgTup 2 (wgsCons (wgName 4) (wgsCons (wgName 5) wgsNil))) wYes (wBin (oMulA M_Turn_image) (wVarB 4) (wVarB 5))) waNil)))) (wRet (wCall p_in_lowest (waCons (wVar 2) (waCons (wUn (oAtt F_Turn_image T_Turn_image 20) (wVarB 0)) waNil)))))
def p_Turn_image : WF := wfn 6 2 w_Turn_image
def M_Turn___call__ : MT := addM 19 (.nm 26) p_Turn_image (M0)
def IL_Turn___eq__ : IsL := [((19, 19), true)]
def T_Turn___eq__ : Nat → Nat → Option WF := P0
def F_Turn___eq__ : Nat → Nat → Bool := addF 19 9 (F0)
def E_Turn___eq__ : Nat → Option WF := addE 18 p_Four___eq__ (T0)
def w_Turn___eq__ : WS := (wRet (wAnd (wArgs (oIsi (isOf IL_Turn___eq__)) (waCons (wVarB 1) (waCons (wC (.cls 19)) waNil))) (wBin (oEqO E_Turn___eq__) (wUn (oAtt F_Turn___eq__ T_Turn___eq__ 9) (wVarB 0)) (wUn (oAtt F_Turn___eq__ T_Turn___eq__ 9) (wVarB 1)))))
def p_Turn___eq__ : WF := wfn 2 2 w_Turn___eq__
theorem i_Turn___eq__ {a0 a1 : D} {st : Store} {Q : QE} {R : XQ} (h : w_Turn___eq__ [.val a0, .val a1] st (fnW Q R)) : p_Turn___eq__ [a0, a1] st Q R := ⟨rfl, h⟩
def T_Four_content : Nat → Nat → Option WF := P0
def F_Four_content : Nat → Nat → Bool := addF 18 9 (F0)
def w_Four_content : WS := (wSeq (wSet 1 (wC (.int 0))) (wSeq (wFor (wiSeq (wUn (oAtt F_Four_content T_Four_content 9) (wVarB 0))) (wgName 2) (wSet 1 (wCall p_common (waCons (wVar 1) (waCons (wVar 2) waNil))))) (wSeq (wIfS (wBool (wBin oEqD (wVarB 1) (wC (.int 0)))) (wRet (wC (.int 0))) wNext) (wSeq (wSet 3 (wLc (wiSeq (wUn (oAtt F_Four_content T_Four_content 9) (wVarB 0))) [2] (wgName 2) wYes (wBin (oFdiv) (wVarB 2) (wVarB 1)))) (wRet (wIf (wBool (wCall p_is_halves (waCons (wArgs oTuple (waCons (wVarB 3) waNil)) waNil))) (wVar 1) (wBin (oFdiv) (wVarB 1) (wC (.int 2)))))))))
def p_Four_content : WF := wfn 4 1 w_Four_content
theorem i_Four_content {a0 : D} {st : Store} {Q : QE} {R : XQ} (h : w_Four_content [.val a0, .no, .no, .no] st (fnW Q R)) : p_Four_content [a0] st Q R := ⟨rfl, h⟩
def M_Four_divided : MT := addM 18 (.nm 16) p_Four_content (M0)
def T_Four_divided : Nat → Nat → Option WF := P0
def F_Four_divided : Nat → Nat → Bool := addF 18 9 (F0)
def w_Four_divided : WS := (wSeq (wIfS (wOrT (wBool (wBin oEqD (wVarB 1) (wC (.int 0)))) (wBool (wBin oNeD (wBin (oMod) (wMeth M_Four_divided 16 (wVar 0) waNil) (wVarB 1)) (wC (.int 0))))) wNever wNext) (wSeq (wSet 2 (wLc (wiSeq (wUn (oAtt F_Four_divided T_Four_divided 9) (wVarB 0))) [3] (wgName 3) wYes (wBin (oFdiv) (wVarB 3) (wVarB 1)))) (wRet (wMkS true 18 p_Four___init__ (wVarB 2)))))
def p_Four_divided : WF := wfn 4 2 w_Four_divided
theorem i_Four_divided {a0 a1 : D} {st : Store} {Q : QE} {R : XQ} (h : w_Four_divided [.val a0, .val a1, .no, .no] st (fnW Q R)) : p_Four_divided [a0, a1] st Q R := ⟨rfl, h⟩
def M_lowest : MT := addM 18 (.nm 17) p_Four_divided (addM 18 (.nm 16) p_Four_content (addM 18 .neg p_Four___neg__ (M0)))
def T_lowest : Nat → Nat → Option WF := addT 18 13 p_Four_halves (P0)
def F_lowest : Nat → Nat → Bool := F0
def w_lowest : WS := (wSeq (wSet 1 (wMeth M_lowest 17 (wVar 0) (waCons (wMeth M_lowest 16 (wVar 0) waNil) waNil))) (wSeq (wFor (wiSeq (wUn (oAtt F_lowest T_lowest 13) (wVarB 1))) (wgName 2) (wIfS (wBool (wBin oNeD (wVarB 2) (wC (.int 0)))) (wRet (wIf (wBool (wBin oGtA (wVarB 2) (wC (.int 0)))) (wVar 1) (wUn (oNeg M_lowest) (wVarB 1)))) wNext)) (wRet (wVar 1))))
def p_lowest : WF := wfn 3 1 w_lowest
theorem i_lowest {a0 : D} {st : Store} {Q : QE} {R : XQ} (h : w_lowest [.val a0, .no, .no] st (fnW Q R)) : p_lowest [a0] st Q R := ⟨rfl, h⟩
def M_table_of : MT := addM 18 .mul p_Four___mul__ (addM 18 (.nm 15) p_Four_mirrored (M0))
def T_table_of : Nat → Nat → Option WF := addT 18 13 p_Four_halves (addT 18 14 p_Four_size (P0))
def F_table_of : Nat → Nat → Bool := F0
def w_table_of : WS := (wSeq (wOwn 1 waNil) (wSeq (wFor (wiR2 (waCons (wC (.int 1)) (waCons (wC (.int 4)) waNil))) (wgName 2) (wSeq (wOwn 3 (waCons (wC (.int 0)) (waCons (wC (.int 0)) (waCons (wC (.int 0)) (waCons (wC (.int 0)) waNil))))) (wSeq (wPut 3 (wVarB 2) (wC (.int 2))) (wSeq (wFrz [3] (wSet 4 (wBin (oMulA M_table_of) (wBin (oMulA M_table_of) (wVarB 0) (wMkS true 18 p_Four___init__ (wVarB 3))) (wMeth M_table_of 15 (wVar 0) waNil)))) (wApp 1 (wArgs oTuple (waCons (wLc (wiSeq (wSl (wUn (oAtt F_table_of T_table_of 13) (wVarB 4)) (woSome (wC (.int 1))) woNone)) [6] (wgName 6) wYes (wBin (oFdiv) (wVarB 6) (wC (.int 2)))) waNil))))))) (wSeq (wSet 5 (wUn (oAtt F_table_of T_table_of 14) (wVarB 0))) (wSeq (wIfS (wBool (wBin oEqD (wBin (oMod) (wVarB 5) (wC (.int 2))) (wC (.int 0)))) (wFrz [1] (wRet (wTup (waCons (wLc (wiSeq (wVar 1)) [7] (wgName 7) wYes (wArgs oTuple (waCons (wLc (wiSeq (wVar 7)) [8] (wgName 8) wYes (wBin (oFdiv) (wVarB 8) (wC (.int 2)))) waNil))) (waCons (wBin (oFdiv) (wVarB 5) (wC (.int 2))) waNil))))) wNext) (wFrz [1] (wRet (wTup (waCons (wVar 1) (waCons (wVar 5) waNil)))))))))
def p_table_of : WF := wfn 9 1 w_table_of
theorem i_table_of {a0 : D} {st : Store} {Q : QE} {R : XQ} (h : w_table_of [.val a0, .no, .no, .no, .no, .no, .no, .no, .no] st (fnW Q R)) : p_table_of [a0] st Q R := ⟨rfl, h⟩
def M_Turn___init__ : MT := addM 18 .bool p_Four___bool__ (M0)
def T_Turn___init__ : Nat → Nat → Option WF := P0
def F_Turn___init__ : Nat → Nat → Bool := addF 19 9 (addF 19 20 (addF 19 19 (F0)))
def w_Turn___init__ : WS := (wSeq (wIfS (wNotT (wTru M_Turn___init__ (wVarB 1))) wNever wNext) (wSeq (wFld F_Turn___init__ 9 (wVar 0) (wCall p_lowest (waCons (wVar 1) waNil))) (wAsg (wCall p_table_of (waCons (wUn (oAtt F_Turn___init__ T_Turn___init__ 9) (wVarB 0)) waNil)) (wgTup 2 (wgsCons (wgFld F_Turn___init__ 19 (wVar 0)) (wgsCons (wgFld F_Turn___init__ 20 (wVar 0)) wgsNil))))))
def p_Turn___init__ : WF := wfn 2 2 w_Turn___init__
theorem i_Turn___init__ {a0 a1 : D} {st : Store} {Q : QE} {R : XQ} (h : w_Turn___init__ [.val a0, .val a1] st (fnW Q R)) : p_Turn___init__ [a0, a1] st Q R := ⟨rfl, h⟩
def M_Turn___mul__ : MT := addM 18 .mul p_Four___mul__ (M0)
def T_Turn___mul__ : Nat → Nat → Option WF := P0
def F_Turn___mul__ : Nat → Nat → Bool := addF 19 9 (F0)
def w_Turn___mul__ : WS := (wRet (wMk true 19 p_Turn___init__ (waCons (wBin (oMulA M_Turn___mul__) (wUn (oAtt F_Turn___mul__ T_Turn___mul__ 9) (wVarB 0)) (wUn (oAtt F_Turn___mul__ T_Turn___mul__ 9) (wVarB 1))) waNil)))
def p_Turn___mul__ : WF := wfn 2 2 w_Turn___mul__
theorem i_Turn___mul__ {a0 a1 : D} {st : Store} {Q : QE} {R : XQ} (h : w_Turn___mul__ [.val a0, .val a1] st (fnW Q R)) : p_Turn___mul__ [a0, a1] st Q R := ⟨rfl, h⟩
def M_Turn___neg__ : MT := addM 18 (.nm 15) p_Four_mirrored (M0)
def T_Turn___neg__ : Nat → Nat → Option WF := P0
def F_Turn___neg__ : Nat → Nat → Bool := addF 19 9 (F0)
def w_Turn___neg__ : WS := (wRet (wMk true 19 p_Turn___init__ (waCons (wMeth M_Turn___neg__ 15 (wUn (oAtt F_Turn___neg__ T_Turn___neg__ 9) (wVarB 0)) waNil) waNil)))
def p_Turn___neg__ : WF := wfn 1 1 w_Turn___neg__
theorem i_Turn___neg__ {a0 : D} {st : Store} {Q : QE} {R : XQ} (h : w_Turn___neg__ [.val a0] st (fnW Q R)) : p_Turn___neg__ [a0] st Q R := ⟨rfl, h⟩
def w_Turn_still : WS := (wRet (wMk true 19 p_Turn___init__ (waCons (wCall p_Four_whole (waCons (wC (.int 1)) waNil)) waNil)))
def p_Turn_still : WF := wfn 0 0 w_Turn_still
theorem i_Turn_still {st : Store} {Q : QE} {R : XQ} (h : w_Turn_still [] st (fnW Q R)) : p_Turn_still [] st Q R := ⟨rfl, h⟩
def M_Turn_power : MT := addM 19 .neg p_Turn___neg__ (addM 19 .mul p_Turn___mul__ (M0))
def w__law_table : WS := (wSeq (wAsg (wVar 0) (wgTup 4 (wgsCons (wgName 1) (wgsCons (wgName 2) (wgsCons (wgName 3) (wgsCons (wgName 4) wgsNil)))))) (wSeq (wOwn 5 (waCons (wLst (waCons (wBin (oSub M0) (wBin (oSub M0) (wBin (oAddA M0) (wBin (oMulA M0) (wVarB 1) (wVarB 1)) (wBin (oMulA M0) (wVarB 2) (wVarB 2))) (wBin (oMulA M0) (wVarB 3) (wVarB 3))) (wBin (oMulA M0) (wVarB 4) (wVarB 4))) (waCons (wBin (oMulA M0) (wC (.int 2)) (wBin (oSub M0) (wBin (oMulA M0) (wVarB 2) (wVarB 3)) (wBin (oMulA M0) (wVarB 1) (wVarB 4)))) (waCons (wBin (oMulA M0) (wC (.int 2)) (wBin (oAddA M0) (wBin (oMulA M0) (wVarB 2) (wVarB 4)) (wBin (oMulA M0) (wVarB 1) (wVarB 3)))) waNil)))) waNil)) (wSeq (wApp 5 (wLst (waCons (wBin (oMulA M0) (wC (.int 2)) (wBin (oAddA M0) (wBin (oMulA M0) (wVarB 2) (wVarB 3)) (wBin (oMulA M0) (wVarB 1) (wVarB 4)))) (waCons (wBin (oSub M0) (wBin (oAddA M0) (wBin (oSub M0) (wBin (oMulA M0) (wVarB 1) (wVarB 1)) (wBin (oMulA M0) (wVarB 2) (wVarB 2))) (wBin (oMulA M0) (wVarB 3) (wVarB 3))) (wBin (oMulA M0) (wVarB 4) (wVarB 4))) (waCons (wBin (oMulA M0) (wC (.int 2)) (wBin (oSub M0) (wBin (oMulA M0) (wVarB 3) (wVarB 4)) (wBin (oMulA M0) (wVarB 1) (wVarB 2)))) waNil))))) (wSeq (wApp 5 (wLst (waCons (wBin (oMulA M0) (wC (.int 2)) (wBin (oSub M0) (wBin (oMulA M0) (wVarB 2) (wVarB 4)) (wBin (oMulA M0) (wVarB 1) (wVarB 3)))) (waCons (wBin (oMulA M0) (wC (.int 2)) (wBin (oAddA M0) (wBin (oMulA M0) (wVarB 3) (wVarB 4)) (wBin (oMulA M0) (wVarB 1) (wVarB 2)))) (waCons (wBin (oAddA M0) (wBin (oSub M0) (wBin (oSub M0) (wBin (oMulA M0) (wVarB 1) (wVarB 1)) (wBin (oMulA M0) (wVarB 2) (wVarB 2))) (wBin (oMulA M0) (wVarB 3) (wVarB 3))) (wBin (oMulA M0) (wVarB 4) (wVarB 4))) waNil))))) (wSeq (wSet 6 (wBin (oAddA M0) (wBin (oAddA M0) (wBin (oAddA M0) (wBin (oMulA M0) (wVarB 1) (wVarB 1)) (wBin (oMulA M0) (wVarB 2) (wVarB 2))) (wBin (oMulA M0) (wVarB 3) (wVarB 3))) (wBin (oMulA M0) (wVarB 4) (wVarB 4)))) (wSeq (wSet 7 (wCall p__law_gcd_of (waCons (wBin (oAddA M0) (wBin (oAddA M0) (wBin (oAddA M0) (wBin oIx (wVarB 5) (wC (.int 0))) (wBin oIx (wVarB 5) (wC (.int 1)))) (wBin oIx (wVarB 5) (wC (.int 2)))) (wLst (waCons (wVar 6) waNil))) waNil))) (wFrz [5] (wRet (wTup (waCons (wLc (wiSeq (wVar 5)) [8] (wgName 8) wYes (wArgs oTuple (waCons (wLc (wiSeq (wVar 8)) [9] (wgName 9) wYes (wBin (oFdiv) (wVarB 9) (wVarB 7))) waNil))) (waCons (wBin (oFdiv) (wVarB 6) (wVarB 7)) waNil)))))))))))
def p__law_table : WF := wfn 10 1 w__law_table
theorem i__law_table {a0 : D} {st : Store} {Q : QE} {R : XQ} (h : w__law_table [.val a0, .no, .no, .no, .no, .no, .no, .no, .no, .no] st (fnW Q R)) : p__law_table [a0] st Q R := ⟨rfl, h⟩
def w__law_turn : WS := (wRet (wMk true 19 p_Turn___init__ (waCons (wCall p__law_four (waCons (wVar 0) waNil)) waNil)))
def p__law_turn : WF := wfn 1 1 w__law_turn
theorem i__law_turn {a0 : D} {st : Store} {Q : QE} {R : XQ} (h : w__law_turn [.val a0] st (fnW Q R)) : p__law_turn [a0] st Q R := ⟨rfl, h⟩
def M_Grain_coordinates : MT := addM 19 .neg p_Turn___neg__ (addM 19 (.nm 26) p_Turn_image (M0))
def T_Grain_coordinates : Nat → Nat → Option WF := P0
def F_Grain_coordinates : Nat → Nat → Bool := addF 20 28 (F0)
def w_Grain_coordinates : WS := (wSeq (wSet 2 (wUn (oNeg M_Grain_coordinates) (wUn (oAtt F_Grain_coordinates T_Grain_coordinates 28) (wVarB 0)))) (wSeq (wAsg (wMeth M_Grain_coordinates 26 (wVar 2) (waCons (wVar 1) waNil)) (wgTup 2 (wgsCons (wgName 3) (wgsCons (wgName 4) wgsNil)))) (wRet (wIf (wBool (wBin oEqD (wVarB 4) (wC (.int 1)))) (wVar 3) (wC .non)))))
def p_Grain_coordinates : WF := wfn 5 2 w_Grain_coordinates
def M_Grain___contains__ : MT := addM 20 (.nm 32) p_Grain_coordinates (M0)
def T_Turn_four : Nat → Nat → Option WF := P0
def F_Turn_four : Nat → Nat → Bool := addF 19 9 (F0)
def w_Turn_four : WS := (wRet (wUn (oAtt F_Turn_four T_Turn_four 9) (wVarB 0)))
def p_Turn_four : WF := wfn 1 1 w_Turn_four
theorem i_Turn_four {a0 : D} {st : Store} {Q : QE} {R : XQ} (h : w_Turn_four [.val a0] st (fnW Q R)) : p_Turn_four [a0] st Q R := ⟨rfl, h⟩
def M_odd_four : MT := addM 18 (.nm 17) p_Four_divided (addM 18 .mul p_Four___mul__ (M0))
def T_odd_four : Nat → Nat → Option WF := addT 19 23 p_Turn_four (addT 18 14 p_Four_size (P0))
def F_odd_four : Nat → Nat → Bool := F0
def w_odd_four : WS := (wSeq (wSet 1 (wUn (oAtt F_odd_four T_odd_four 23) (wVarB 0))) (wSeq (wIfS (wBool (wBin oEqD (wBin (oMod) (wUn (oAtt F_odd_four T_odd_four 14) (wVarB 1)) (wC (.int 2))) (wC (.int 0)))) (wRet (wMeth M_odd_four 17 (wBin (oMulA M_odd_four) (wVarB 1) (wMk true 18 p_Four___init__ (waCons (wC (.int 2)) (waCons (wUn (oNeg M_odd_four) (wC (.int 2))) (waCons (wC (.int 0)) (waCons (wC (.int 0)) waNil)))))) (waCons (wC (.int 2)) waNil))) wNext) (wRet (wVar 1))))
def p_odd_four : WF := wfn 2 1 w_odd_four
theorem i_odd_four {a0 : D} {st : Store} {Q : QE} {R : XQ} (h : w_odd_four [.val a0, .no] st (fnW Q R)) : p_odd_four [a0] st Q R := ⟨rfl, h⟩
def T_Grain___init__ : Nat → Nat → Option WF := P0
def F_Grain___init__ : Nat → Nat → Bool := addF 20 9 (addF 20 28 (F0))
def w_Grain___init__ : WS := (wSeq (wFld F_Grain___init__ 9 (wVar 0) (wCall p_associate (waCons (wCall p_odd_four (waCons (wVar 1) waNil)) waNil))) (wFld F_Grain___init__ 28 (wVar 0) (wMk true 19 p_Turn___init__ (waCons (wUn (oAtt F_Grain___init__ T_Grain___init__ 9) (wVarB 0)) waNil))))
def p_Grain___init__ : WF := wfn 2 2 w_Grain___init__
theorem i_Grain___init__ {a0 a1 : D} {st : Store} {Q : QE} {R : XQ} (h : w_Grain___init__ [.val a0, .val a1] st (fnW Q R)) : p_Grain___init__ [a0, a1] st Q R := ⟨rfl, h⟩
def w_Grain_plain : WS := (wRet (wMk true 20 p_Grain___init__ (waCons (wCall p_Turn_still waNil) waNil)))
def p_Grain_plain : WF := wfn 0 0 w_Grain_plain
theorem i_Grain_plain {st : Store} {Q : QE} {R : XQ} (h : w_Grain_plain [] st (fnW Q R)) : p_Grain_plain [] st Q R := ⟨rfl, h⟩
def T_Grain_turn : Nat → Nat → Option WF := P0
def F_Grain_turn : Nat → Nat → Bool := addF 20 28 (F0)
def w_Grain_turn : WS := (wRet (wUn (oAtt F_Grain_turn T_Grain_turn 28) (wVarB 0)))
def p_Grain_turn : WF := wfn 1 1 w_Grain_turn
theorem i_Grain_turn {a0 : D} {st : Store} {Q : QE} {R : XQ} (h : w_Grain_turn [.val a0] st (fnW Q R)) : p_Grain_turn [a0] st Q R := ⟨rfl, h⟩
def w__law_grain : WS := (wRet (wMk true 20 p_Grain___init__ (waCons (wMk true 19 p_Turn___init__ (waCons (wCall p__law_four (waCons (wVar 0) waNil)) waNil)) waNil)))
def p__law_grain : WF := wfn 1 1 w__law_grain
theorem i__law_grain {a0 : D} {st : Store} {Q : QE} {R : XQ} (h : w__law_grain [.val a0] st (fnW Q R)) : p__law_grain [a0] st Q R := ⟨rfl, h⟩
def T_Grain_spread : Nat → Nat → Option WF := addT 18 14 p_Four_size (P0)
def F_Grain_spread : Nat → Nat → Bool := addF 20 9 (F0)
def w_Grain_spread : WS := (wRet (wUn (oAtt F_Grain_spread T_Grain_spread 14) (wUn (oAtt F_Grain_spread T_Grain_spread 9) (wVarB 0))))
def p_Grain_spread : WF := wfn 1 1 w_Grain_spread
theorem i_Grain_spread {a0 : D} {st : Store} {Q : QE} {R : XQ} (h : w_Grain_spread [.val a0] st (fnW Q R)) : p_Grain_spread [a0] st Q R := ⟨rfl, h⟩
def IL_Grain___eq__ : IsL := [((20, 20), true)]
def T_Grain___eq__ : Nat → Nat → Option WF := P0
def F_Grain___eq__ : Nat → Nat → Bool := addF 20 9 (F0)
def E_Grain___eq__ : Nat → Option WF := addE 18 p_Four___eq__ (T0)
def w_Grain___eq__ : WS := (wRet (wAnd (wArgs (oIsi (isOf IL_Grain___eq__)) (waCons (wVarB 1) (waCons (wC (.cls 20)) waNil))) (wBin (oEqO E_Grain___eq__) (wUn (oAtt F_Grain___eq__ T_Grain___eq__ 9) (wVarB 0)) (wUn (oAtt F_Grain___eq__ T_Grain___eq__ 9) (wVarB 1)))))
def p_Grain___eq__ : WF := wfn 2 2 w_Grain___eq__
theorem i_Grain___eq__ {a0 a1 : D} {st : Store} {Q : QE} {R : XQ} (h : w_Grain___eq__ [.val a0, .val a1] st (fnW Q R)) : p_Grain___eq__ [a0, a1] st Q R := ⟨rfl, h⟩
def T_Grain_four : Nat → Nat → Option WF := P0
def F_Grain_four : Nat → Nat → Bool := addF 20 9 (F0)
def w_Grain_four : WS := (wRet (wUn (oAtt F_Grain_four T_Grain_four 9) (wVarB 0)))
def p_Grain_four : WF := wfn 1 1 w_Grain_four
theorem i_Grain_four {a0 : D} {st : Store} {Q : QE} {R : XQ} (h : w_Grain_four [.val a0] st (fnW Q R)) : p_Grain_four [a0] st Q R := ⟨rfl, h⟩
def M_Grain_turned : MT := addM 19 .mul p_Turn___mul__ (M0)
def T_Grain_turned : Nat → Nat → Option WF := P0
def F_Grain_turned : Nat → Nat → Bool := addF 20 28 (F0)
def w_Grain_turned : WS := (wRet (wMk true 20 p_Grain___init__ (waCons (wBin (oMulA M_Grain_turned) (wVarB 1) (wUn (oAtt F_Grain_turned T_Grain_turned 28) (wVarB 0))) waNil)))
def p_Grain_turned : WF := wfn 2 2 w_Grain_turned
theorem i_Grain_turned {a0 a1 : D} {st : Store} {Q : QE} {R : XQ} (h : w_Grain_turned [.val a0, .val a1] st (fnW Q R)) : p_Grain_turned [a0, a1] st Q R := ⟨rfl, h⟩
def w__law_spread : WS := (wRet (wBin oIx (wCall p__law_table (waCons (wCall p__law_times (waCons (wCall p__law_back (waCons (wVar 0) waNil)) (waCons (wVar 1) waNil))) waNil)) (wC (.int 1))))
def p__law_spread : WF := wfn 2 2 w__law_spread
theorem i__law_spread {a0 a1 : D} {st : Store} {Q : QE} {R : XQ} (h : w__law_spread [.val a0, .val a1] st (fnW Q R)) : p__law_spread [a0, a1] st Q R := ⟨rfl, h⟩
def M_relative : MT := addM 19 .mul p_Turn___mul__ (addM 19 .neg p_Turn___neg__ (M0))
def T_relative : Nat → Nat → Option WF := addT 20 31 p_Grain_turn (P0)
def F_relative : Nat → Nat → Bool := F0
def w_relative : WS := (wRet (wMk true 20 p_Grain___init__ (waCons (wBin (oMulA M_relative) (wUn (oNeg M_relative) (wUn (oAtt F_relative T_relative 31) (wVarB 0))) (wUn (oAtt F_relative T_relative 31) (wVarB 1))) waNil)))
def p_relative : WF := wfn 2 2 w_relative
theorem i_relative {a0 a1 : D} {st : Store} {Q : QE} {R : XQ} (h : w_relative [.val a0, .val a1] st (fnW Q R)) : p_relative [a0, a1] st Q R := ⟨rfl, h⟩
def T_spread : Nat → Nat → Option WF := addT 20 24 p_Grain_spread (P0)
def F_spread : Nat → Nat → Bool := F0
def w_spread : WS := (wRet (wUn (oAtt F_spread T_spread 24) (wCall p_relative (waCons (wVar 0) (waCons (wVar 1) waNil)))))
def p_spread : WF := wfn 2 2 w_spread
theorem i_spread {a0 a1 : D} {st : Store} {Q : QE} {R : XQ} (h : w_spread [.val a0, .val a1] st (fnW Q R)) : p_spread [a0, a1] st Q R := ⟨rfl, h⟩
def M_midst : MT := addM 19 .mul p_Turn___mul__ (M0)
def T_midst : Nat → Nat → Option WF := addT 20 23 p_Grain_four (addT 20 31 p_Grain_turn (P0))
def F_midst : Nat → Nat → Bool := F0
end LK
namespace LK
open PySem PySem.Spec PyProof.Rows L2 G
local macro_rules | `(tactic| f_lean) => `(tactic| simp (config := { dsimp := false, failIfUnchanged := false, implicitDefEqProofs := false }) only [↓e_wNext, ↓e_wBin, ↓e_wUn, ↓e_wArgs, ↓e_wC, ↓e_waNil, ↓e_waCons, ↓e_wTup, ↓e_wLst, ↓e_wCell, ↓e_wNotT, ↓e_wIsN, ↓e_wNotN, ↓e_wTru, ↓e_wSl, ↓e_woNone, ↓e_wSet, ↓e_wRet, ↓e_wRetN, ↓e_wExpr, ↓e_wFrz, ↓e_wBrk, ↓e_wCnt, ↓e_wAsg, ↓e_wgName, ↓e_wOwn, ↓seqK_nx, ↓seqK_rt, ↓seqK_bk, ↓seqK_ct, ↓seqK_ex, ↓loopK_nx, ↓loopK_rt, ↓loopK_bk, ↓loopK_ct, ↓loopK_ex, ↓e_wSeq, iteW_t, iteW_f, ↓e_wCall, ↓e_wIfS, ↓e_wIf, ↓e_wAndT, ↓e_wOrT, ↓e_wFor, ↓e_wWhile, ↓e_wLc, ↓blW_b, ↓e_wBool, ↓e_wAnd, ↓e_wOr, ↓e_wNot, ↓e_wChain, ↓e_var0, ↓e_varS, ↓e_varB0, ↓e_varB1, ↓e_varBS, e_set0, e_setS, ↓e_add, ↓e_addS, ↓e_addL, ↓e_addO, ↓e_sub, ↓e_subO, ↓e_mul, ↓e_mulL, ↓e_mulO, ↓e_fdiv, ↓e_mod, ↓e_pow, ↓e_lt, ↓e_le, ↓e_gt, ↓e_ge, ↓e_neg, ↓e_negO, ↓e_eqI, ↓e_neI, ↓e_eqB, ↓e_neB, ↓e_eqS, ↓e_neS, getW_s, ↓e_ixL, ↓e_ixT, celW_s, ↓e_ixC, atI_0, atI_1, atI_2, atI_3, ixN_10, ixN_20, ixN_21, ixN_30, ixN_31, ixN_32, ixN_40, ixN_41, ixN_42, ixN_43, ixN_l0, ↓e_lenL, ↓e_lenT, ↓e_lenS, ↓e_abs, ↓e_intI, ↓e_intB, ↓e_listL, ↓e_listT, ↓e_tupleL, ↓e_tupleT, ↓e_slL, ↓intW_i, ↓e_woSome, ↓e_slR, ↓e_par, ↓e_parW, ↓e_gTup, ↓e_gTupL, ↓e_gsNil, ↓e_gsCons, ↓e_iLst, ↓lstW_i, ↓e_iTup, ↓tupW_i, ↓e_iR1, ↓r1W_i, ↓e_iR2, ↓r2W_i, ↓e_iZip, ↓zipW_l, ↓zipW_t, ↓e_put, e_putO, e_putC, natW_s, ↓e_aug, e_augV, ↓e_app, e_appV, ↓e_addI, ↓e_addIS, ↓e_subI, ↓e_mulI, ↓e_fdivI, e_frzN, e_frzO, e_frzV, e_frzX, e_frzS, e_frzC, ↓e_all, ↓e_any, ↓e_sum, blsW_s, intsW_s, ↓e_truN, ↓e_truB, ↓e_truI, ↓e_truL, ↓e_truT, ↓e_isiT, ↓e_isiC, ↓e_isiY, bo1W_s, isi_ii, isi_is, isi_ib, isi_it, isi_il, isi_bi, isi_bs, isi_bb, isi_bt, isi_bll, isi_ni, isi_ns, isi_nb, isi_nt, isi_nl, isi_si, isi_ss, isi_sb, isi_st, isi_sl, isi_ti, isi_ts, isi_tb, isi_tt, isi_tl, isi_li, isi_ls, isi_lb, isi_lt, isi_ll, isi_ds0, isi_dsT, isi_isI, isi_isS, isi_isB, isi_isN, isi_isT, isi_isL, ixZ_0, ixZ_1, ixZ_2, ixZ_3, ixZ_4, ixZ_5, ixZ_6, ixZ_7, ixZ_8, ixZ_9, ixZ_10, ixZ_11, ixZ_12, ixZ_13, ixZ_14, ixZ_15, ixZ_16, bo2_s, isi_dsF, ↓e_nonN, ↓e_nonI, ↓e_nonB, ↓e_nonS, ↓e_nonT, ↓e_nonL, ↓e_nonO, ↓fnW_rt, ↓fnW_nx, ↓fnW_ex, ↓e_wipe0, ↓e_wipe1, ↓e_wYes, mW_s, ↓e_callM, attW_p, attW_f, ↓e_attO, insW_s, ↓e_attC, e_getC, e_getN, e_putC', e_putN, ↓e_wMeth, ↓e_clsO, ↓e_clsC, mthW_s, mthZW_s, ownW_s, ↓e_eqOO, ↓e_neOO, ↓e_eqOI, ↓e_neOI, ↓e_eqOT, ↓e_neOT, ↓e_eqOL, ↓e_neOL, ↓e_eqTT, ↓e_neTT, ↓e_eqLL, ↓e_neLL, ↓e_wMk, ↓sqW_t, ↓sqW_l, ↓e_wMkS, ↓fldW_c, ↓e_wFld, st_last, st_setL, ↓e_wLenIs, e_addT, e_addF, e_addM, e_addE, e_F0, e_P0, e_T0, e_M0, e_lcN, e_lcC, e_zipC, e_zipN, e_intsN, e_intsC, e_blsN, e_blsC, e_ltz0, e_ltz1, e_ltz2, e_ltz3, e_ltz4, e_ltz5, e_ltz6, e_ltz7, e_ltz8, e_ltz9, e_ltz10, e_ltz11, e_ltz12, e_ltz13, e_ltz14, e_ltz15, e_ltz16, e_ltz17, e_ltz18, e_ltz19, e_ltz20, e_ltz21, e_ltz22, e_ltz23, e_ltz24, e_cst0, e_cst1, e_cst2, e_cst3, e_cst4, e_cst5, e_cst6, e_cst7, e_cst8, e_cst9, e_cst10, e_cst11, e_cst12, e_cst13, e_cst14, e_cst15, e_cst16, e_cst17, e_cst18, e_cst19, e_cst20, e_cst21, e_cst22, e_cst23, e_cst24, ↓e_wiSeq, ↓e_ext, e_extO, ↓gfldW_c, ↓e_wgFld, ↓e_wLcN, e_tskN, e_tskC, e_lpN, e_lpC, calW_s, ↓obW_o, ↓e_wCal, ↓e_srt, ↓e_max, max_2, ↓e_min, min_2, optW_s, ↓e_gtA, ↓e_ltA, ↓e_gtT, ↓e_ltT, lexD_4, ↓e_inL, ↓e_inT, ↓e_inO, ↓e_isBB, bneF, bneT, e_isiOb, e_isiIc, e_isiTc, e_isOf, ↓e_addAi, ↓e_addAs, ↓e_addAl, ↓e_addAt, ↓e_addAo, ↓e_mulAi, ↓e_mulAl, ↓e_mulAt, ↓e_mulAo, e_forN, e_forC, ↓e_iZipA, ↓zipAW_l, ↓zipAW_t, ↓zipAW_w, ↓zipAW_m, ↓e_truO, ↓e_wParO, ↓e_par3, ↓e_par3W, ↓e_eqLl, ↓e_neLl, e_oaN, e_oaC, F_Four___init__, T_Four___add__, F_Four___add__, IL_Four___eq__, T_Four___eq__, F_Four___eq__, T_Four___mul__, F_Four___mul__, T_Four___neg__, F_Four___neg__, T_Four___sub__, F_Four___sub__, T_Four_halves, F_Four_halves, T_Four_mirrored, F_Four_mirrored, T_Four_size, F_Four_size, M_associate, T_associate, F_associate, T_Four___bool__, F_Four___bool__, T_nearest, F_nearest, M_divide_left, T_divide_left, F_divide_left, M_common_left, M_divides_left, T_Turn_rows, F_Turn_rows, M_Turn_image, T_Turn_image, F_Turn_image, M_Turn___call__, IL_Turn___eq__, T_Turn___eq__, F_Turn___eq__, E_Turn___eq__, T_Four_content, F_Four_content, M_Four_divided, T_Four_divided, F_Four_divided, M_lowest, T_lowest, F_lowest, M_table_of, T_table_of, F_table_of, M_Turn___init__, T_Turn___init__, F_Turn___init__, M_Turn___mul__, T_Turn___mul__, F_Turn___mul__, M_Turn___neg__, T_Turn___neg__, F_Turn___neg__, M_Turn_power, M_Grain_coordinates, T_Grain_coordinates, F_Grain_coordinates, M_Grain___contains__, T_Turn_four, F_Turn_four, M_odd_four, T_odd_four, F_odd_four, T_Grain___init__, F_Grain___init__, T_Grain_turn, F_Grain_turn, T_Grain_spread, F_Grain_spread, IL_Grain___eq__, T_Grain___eq__, F_Grain___eq__, E_Grain___eq__, T_Grain_four, F_Grain_four, M_Grain_turned, T_Grain_turned, F_Grain_turned, M_relative, T_relative, F_relative, T_spread, F_spread, M_midst, T_midst, F_midst, List.reduceReplicate, List.flatten_cons, List.flatten_nil, List.append_nil, decide_true, decide_false, Bool.not_true, Bool.not_false, List.length_cons, List.length_nil, List.getElem?_cons_zero, List.getElem?_cons_succ, List.set_cons_zero, List.set_cons_succ, true_and, and_true, ne_eq, not_false_eq_true, not_true_eq_false, Nat.zero_add, reduceCtorEq, Mn.nm.injEq, and_self, and_false, false_and, Bool.true_or, Bool.or_true, Bool.or_false, Bool.false_or, Bool.and_self, Bool.and_true, Bool.true_and, Bool.and_false, Bool.false_and, List.nil_append, List.cons_append, Option.map_some, List.sum_cons, List.sum_nil, if_true, if_false, ↓reduceIte, beq_self_eq_true, eq_self, Nat.reduceAdd, Nat.reduceMul, Nat.reduceSub, Nat.reduceLT, Nat.reduceLeDiff, Nat.reduceEqDiff, Int.reduceAdd, Int.reduceMul, Int.reduceSub, Int.reduceNeg, Int.reducePow, Int.reduceLT, Int.reduceLE, Int.reduceEq, Int.reduceNe, Int.reduceToNat, Nat.reducePow])
/-- the feed's cell -/
def FC (c : Cell) : Prop := ∃ (ns : List Int) (i : Nat) (big mark : Int), c = .lst [.lst (ns.map D.int), .int i, .int big, .int mark] ∧ i ≤ ns.length ∧ ns.length ≤ 63 ∧ 0 ≤ big ∧ 0 ≤ mark ∧ mark < 2147483648
theorem FC.mk {ns : List Int} {i big mark : Int} (hi : 0 ≤ i) (hn : ns.length ≤ 63) (hi2 : i ≤ ns.length) (hb : 0 ≤ big) (h0 : 0 ≤ mark) (h1 : mark < 2147483648) : FC (.lst [.lst (ns.map D.int), .int i, .int big, .int mark]) := by
  obtain ⟨k, rfl⟩ := Int.eq_ofNat_of_zero_le hi
  exact ⟨ns, k, big, mark, rfl, by omega, hn, hb, h0, h1⟩
theorem log2_lt {i : Int} {k : Nat} (hk : 0 < k) (h : i.natAbs < 2 ^ k) : i.natAbs.log2 < k := by
  by_cases e : i.natAbs = 0
  · rw [e]; simpa using hk
  · exact (Nat.log2_lt e).mpr h
theorem mulOk {i j : Int} (k l : Nat) (hk : 0 < k) (hl : 0 < l) (hi : i.natAbs < 2 ^ k) (hj : j.natAbs < 2 ^ l) (h : k + l < 1000000) : G.MulOk i j := by
  have := log2_lt hk hi; have := log2_lt hl hj
  unfold G.MulOk; omega
theorem mulOk_of {i j : Int} (hi : -2147483648 ≤ i) (hi2 : i ≤ 2147483648) (hj : -2147483648 ≤ j) (hj2 : j ≤ 2147483648) : G.MulOk i j :=
  mulOk 32 32 (by decide) (by decide) (by omega) (by omega) (by decide)
theorem fmod_pos {i j : Int} (h : 0 < j) : Int.fmod i j = i % j := Int.fmod_eq_emod_of_nonneg i (by omega)
theorem fdiv_pos {i j : Int} (h : 0 < j) : Int.fdiv i j = i / j := Int.fdiv_eq_ediv_of_nonneg i (by omega)
theorem take_ok {c : Cell} {rest : Store} {many : Int} {Q : QE} {R : XQ} (hc : FC c) (hm : 0 < many) (hm2 : many < 2 ^ 200) (h : ∀ r c', FC c' → 0 ≤ r → r < many → Q (.int r) (c' :: rest)) : p__law_take [.cel 0, .int many] (c :: rest) Q R := by
  obtain ⟨ns, i, big, mark, rfl, hi, hn, hb, h0, h1⟩ := hc
  refine i__law_take ?_
  unfold w__law_take
  refine seq_i (fun e s => ∃ (ns : List Int) (i : Nat) (big mark : Int) (x y z : Slot), e = [.val (.cel 0), .val (.int many), x, y, z] ∧ s = .lst [.lst (ns.map D.int), .int i, .int big, .int mark] :: rest ∧ i ≤ ns.length ∧ ns.length ≤ 63 ∧ 0 ≤ big ∧ 0 ≤ mark ∧ mark < 2147483648) (fun K hK => ?_) ?_
  · f_lean
    refine iteW_i (fun hb0 => ?_) (fun hb0 => ?_)
    · f_lean
      refine iteW_i (fun hb1 => ?_) (fun hb1 => ?_)
      · have hlt : i < ns.length := by simpa using hb1
        f_lean
        refine getW_i (d := .int ns[i]) (by rw [G.atI_nat]; simp [hlt]) ?_
        f_lean
        refine ⟨⟨by omega, by omega, by decide⟩, iteW_i (fun hb2 => ?_) (fun hb2 => ?_)⟩
        · f_lean
          exact hK _ _ ⟨ns, i + 1, ns[i], mark, _, _, _, rfl, rfl, hlt, hn, by have := of_decide_eq_true hb2; omega, h0, h1⟩
        · f_lean
          refine ⟨mulOk_of (by omega) (by omega) (by omega) (by omega), ?_⟩
          f_lean
          rw [fmod_pos (i := ns[i]) (by omega)]
          refine ⟨mulOk_of (by omega) (by omega) (by omega) (by omega), ?_⟩
          rw [fmod_pos (by omega)]
          exact hK _ _ ⟨ns, i + 1, big, _, _, _, _, rfl, rfl, hlt, hn, hb, Int.emod_nonneg _ (by omega), Int.lt_trans (Int.emod_lt_of_pos _ (by omega)) (by decide)⟩
      · f_lean
        exact hK _ _ ⟨ns, i, big, mark, _, _, _, rfl, rfl, hi, hn, hb, h0, h1⟩
    · f_lean
      exact hK _ _ ⟨ns, i, big, mark, _, _, _, rfl, rfl, hi, hn, hb, h0, h1⟩
  · rintro _ _ ⟨ns, i, big, mark, x, y, z, rfl, rfl, hi, hn, hb, h0, h1⟩
    f_lean
    refine iteW_i (fun hb0 => ?_) (fun hb0 => ?_)
    · f_lean
      have hbp : 0 < big := of_decide_eq_true hb0
      refine ⟨by omega, ⟨by omega, .inr ⟨hm, ?_⟩⟩, ?_⟩
      · exact log2_lt (by decide) (show many.natAbs < 2 ^ 9000 from Nat.lt_trans (m := 2 ^ 200) (by omega) (Nat.pow_lt_pow_right (by decide) (by decide)))
      · rw [fmod_pos hm, fdiv_pos hm]
        exact h _ _ (FC.mk (by omega) hn (by omega) (Int.ediv_nonneg hb (by omega)) h0 h1) (Int.emod_nonneg _ (by omega)) (Int.emod_lt_of_pos _ hm)
    · f_lean
      refine ⟨mulOk_of (by omega) (by omega) (by omega) (by omega), ?_⟩
      rw [fmod_pos (i := mark * 69621 + 13) (by omega)]
      have e0 : 0 ≤ (mark * 69621 + 13) % 2147483647 := Int.emod_nonneg _ (by omega)
      have e1 : (mark * 69621 + 13) % 2147483647 < 2147483647 := Int.emod_lt_of_pos _ (by omega)
      refine ⟨mulOk_of (by omega) (by omega) (by omega) (by omega), ⟨by omega, .inl (by omega)⟩, by omega, ?_⟩
      rw [fmod_pos hm]
      exact h _ _ (FC.mk (by omega) hn (by omega) hb e0 (by omega)) (Int.emod_nonneg _ (by omega)) (Int.emod_lt_of_pos _ hm)
theorem cut63 (ns : List Int) : G.cutD (ns.map D.int) none (some 63) = (ns.take 63).map D.int := by
  unfold G.cutD
  rw [HT.sIx_none, show (some 63 : Option Int) = some ((63 : Nat) : Int) from rfl, HT.sIx_nat]
  simp [List.map_take]
theorem feed_ok {ns : List Int} {Q : QE} {R : XQ} (h : ∀ c, FC c → Q (.cel 0) [c]) : p__law_feed [.scr (ns.map D.int)] [] Q R := by
  refine i__law_feed ?_
  unfold w__law_feed
  f_lean
  rw [cut63]
  have hl : (List.map D.int (List.take 63 ns)).length ≤ 63 := by simp; omega
  refine ⟨mulOk_of (by omega) (by omega) (by omega) (by omega), ?_⟩
  refine forW_i (fun i e s => ∃ (mark : Int) (x y : Slot), e = [x, .val (.lst ((ns.take 63).map D.int)), .val (.int mark), y] ∧ s = [] ∧ 0 ≤ mark ∧ mark < 2147483629) ⟨_, _, _, rfl, rfl, by omega, by omega⟩ ?_ ?_
  · rintro i d _ _ hd ⟨mark, x, y, rfl, rfl, h0, h1⟩ K hK
    rw [List.getElem?_map] at hd
    obtain ⟨n, hn, rfl⟩ := Option.map_eq_some_iff.mp hd
    f_lean
    refine ⟨mulOk_of (by omega) (by omega) (by omega) (by omega), hK _ _ ⟨_, _, _, rfl, rfl, ?_, ?_⟩⟩
    · rw [fmod_pos (i := _ + _) (by omega)]; exact Int.emod_nonneg _ (by omega)
    · rw [fmod_pos (i := _ + _) (by omega)]; exact Int.emod_lt_of_pos _ (by omega)
  · rintro _ _ ⟨mark, x, y, rfl, rfl, h0, h1⟩
    f_lean
    refine h _ (FC.mk (by omega) ?_ (by omega) (by omega) h0 (by omega))
    simp; omega
theorem fmod_nat {m n : Nat} (h : 0 < n) : Int.fmod (m : Int) (n : Int) = ((m % n : Nat) : Int) := by rw [fmod_pos (by omega)]; simp
theorem gcd_ok {a b : Int} {st : Store} {Q : QE} {R : XQ} (q : Q (.int (Int.gcd a b)) st) : p__law_gcd [.int a, .int b] st Q R := by
  refine i__law_gcd ?_
  unfold w__law_gcd
  f_lean
  refine whileW_i (m := b.natAbs) (fun k e s => ∃ (m n : Nat), e = [.val (.int m), .val (.int n)] ∧ s = st ∧ n = k ∧ Nat.gcd m n = Int.gcd a b) ⟨_, _, rfl, rfl, rfl, rfl⟩ ?_
  rintro _ _ _ ⟨m, n, rfl, rfl, rfl, hg⟩ K hK
  f_lean
  refine iteW_i (fun hb => ?_) (fun hb => ?_)
  · have hn : 0 < n := by have := of_decide_eq_true hb; omega
    f_lean
    rw [fmod_nat hn]
    refine ⟨by omega, hK _ _ _ (Nat.mod_lt m hn) ⟨_, _, rfl, rfl, rfl, ?_⟩⟩
    rw [← hg, Nat.gcd_comm m n, Nat.gcd_rec n m, Nat.gcd_comm]
  · have hn : n = 0 := by have := of_decide_eq_false hb; omega
    subst hn
    f_lean
    rw [Nat.gcd_zero_right] at hg
    rw [hg]; exact q
end LK
namespace LK
open PySem PySem.Spec PyProof.Rows L2 G
local macro_rules | `(tactic| f_lean) => `(tactic| simp (config := { dsimp := false, failIfUnchanged := false, implicitDefEqProofs := false }) only [↓e_wNext, ↓e_wBin, ↓e_wUn, ↓e_wArgs, ↓e_wC, ↓e_waNil, ↓e_waCons, ↓e_wTup, ↓e_wLst, ↓e_wCell, ↓e_wNotT, ↓e_wIsN, ↓e_wNotN, ↓e_wTru, ↓e_wSl, ↓e_woNone, ↓e_wSet, ↓e_wRet, ↓e_wRetN, ↓e_wExpr, ↓e_wFrz, ↓e_wBrk, ↓e_wCnt, ↓e_wAsg, ↓e_wgName, ↓e_wOwn, ↓seqK_nx, ↓seqK_rt, ↓seqK_bk, ↓seqK_ct, ↓seqK_ex, ↓loopK_nx, ↓loopK_rt, ↓loopK_bk, ↓loopK_ct, ↓loopK_ex, ↓e_wSeq, iteW_t, iteW_f, ↓e_wCall, ↓e_wIfS, ↓e_wIf, ↓e_wAndT, ↓e_wOrT, ↓e_wFor, ↓e_wWhile, ↓e_wLc, ↓blW_b, ↓e_wBool, ↓e_wAnd, ↓e_wOr, ↓e_wNot, ↓e_wChain, ↓e_var0, ↓e_varS, ↓e_varB0, ↓e_varB1, ↓e_varBS, e_set0, e_setS, ↓e_add, ↓e_addS, ↓e_addL, ↓e_addO, ↓e_sub, ↓e_subO, ↓e_mul, ↓e_mulL, ↓e_mulO, ↓e_fdiv, ↓e_mod, ↓e_pow, ↓e_lt, ↓e_le, ↓e_gt, ↓e_ge, ↓e_neg, ↓e_negO, ↓e_eqI, ↓e_neI, ↓e_eqB, ↓e_neB, ↓e_eqS, ↓e_neS, getW_s, ↓e_ixL, ↓e_ixT, celW_s, ↓e_ixC, atI_0, atI_1, atI_2, atI_3, ixN_10, ixN_20, ixN_21, ixN_30, ixN_31, ixN_32, ixN_40, ixN_41, ixN_42, ixN_43, ixN_l0, ↓e_lenL, ↓e_lenT, ↓e_lenS, ↓e_abs, ↓e_intI, ↓e_intB, ↓e_listL, ↓e_listT, ↓e_tupleL, ↓e_tupleT, ↓e_slL, ↓intW_i, ↓e_woSome, ↓e_slR, ↓e_par, ↓e_parW, ↓e_gTup, ↓e_gTupL, ↓e_gsNil, ↓e_gsCons, ↓e_iLst, ↓lstW_i, ↓e_iTup, ↓tupW_i, ↓e_iR1, ↓r1W_i, ↓e_iR2, ↓r2W_i, ↓e_iZip, ↓zipW_l, ↓zipW_t, ↓e_put, e_putO, e_putC, natW_s, ↓e_aug, e_augV, ↓e_app, e_appV, ↓e_addI, ↓e_addIS, ↓e_subI, ↓e_mulI, ↓e_fdivI, e_frzN, e_frzO, e_frzV, e_frzX, e_frzS, e_frzC, ↓e_all, ↓e_any, ↓e_sum, blsW_s, intsW_s, ↓e_truN, ↓e_truB, ↓e_truI, ↓e_truL, ↓e_truT, ↓e_isiT, ↓e_isiC, ↓e_isiY, bo1W_s, isi_ii, isi_is, isi_ib, isi_it, isi_il, isi_bi, isi_bs, isi_bb, isi_bt, isi_bll, isi_ni, isi_ns, isi_nb, isi_nt, isi_nl, isi_si, isi_ss, isi_sb, isi_st, isi_sl, isi_ti, isi_ts, isi_tb, isi_tt, isi_tl, isi_li, isi_ls, isi_lb, isi_lt, isi_ll, isi_ds0, isi_dsT, isi_isI, isi_isS, isi_isB, isi_isN, isi_isT, isi_isL, ixZ_0, ixZ_1, ixZ_2, ixZ_3, ixZ_4, ixZ_5, ixZ_6, ixZ_7, ixZ_8, ixZ_9, ixZ_10, ixZ_11, ixZ_12, ixZ_13, ixZ_14, ixZ_15, ixZ_16, bo2_s, isi_dsF, ↓e_nonN, ↓e_nonI, ↓e_nonB, ↓e_nonS, ↓e_nonT, ↓e_nonL, ↓e_nonO, ↓fnW_rt, ↓fnW_nx, ↓fnW_ex, ↓e_wipe0, ↓e_wipe1, ↓e_wYes, mW_s, ↓e_callM, attW_p, attW_f, ↓e_attO, insW_s, ↓e_attC, e_getC, e_getN, e_putC', e_putN, ↓e_wMeth, ↓e_clsO, ↓e_clsC, mthW_s, mthZW_s, ownW_s, ↓e_eqOO, ↓e_neOO, ↓e_eqOI, ↓e_neOI, ↓e_eqOT, ↓e_neOT, ↓e_eqOL, ↓e_neOL, ↓e_eqTT, ↓e_neTT, ↓e_eqLL, ↓e_neLL, ↓e_wMk, ↓sqW_t, ↓sqW_l, ↓e_wMkS, ↓fldW_c, ↓e_wFld, st_last, st_setL, ↓e_wLenIs, e_addT, e_addF, e_addM, e_addE, e_F0, e_P0, e_T0, e_M0, e_lcN, e_lcC, e_zipC, e_zipN, e_intsN, e_intsC, e_blsN, e_blsC, e_ltz0, e_ltz1, e_ltz2, e_ltz3, e_ltz4, e_ltz5, e_ltz6, e_ltz7, e_ltz8, e_ltz9, e_ltz10, e_ltz11, e_ltz12, e_ltz13, e_ltz14, e_ltz15, e_ltz16, e_ltz17, e_ltz18, e_ltz19, e_ltz20, e_ltz21, e_ltz22, e_ltz23, e_ltz24, e_cst0, e_cst1, e_cst2, e_cst3, e_cst4, e_cst5, e_cst6, e_cst7, e_cst8, e_cst9, e_cst10, e_cst11, e_cst12, e_cst13, e_cst14, e_cst15, e_cst16, e_cst17, e_cst18, e_cst19, e_cst20, e_cst21, e_cst22, e_cst23, e_cst24, ↓e_wiSeq, ↓e_ext, e_extO, ↓gfldW_c, ↓e_wgFld, ↓e_wLcN, e_tskN, e_tskC, e_lpN, e_lpC, calW_s, ↓obW_o, ↓e_wCal, ↓e_srt, ↓e_max, max_2, ↓e_min, min_2, optW_s, ↓e_gtA, ↓e_ltA, ↓e_gtT, ↓e_ltT, lexD_4, ↓e_inL, ↓e_inT, ↓e_inO, ↓e_isBB, bneF, bneT, e_isiOb, e_isiIc, e_isiTc, e_isOf, ↓e_addAi, ↓e_addAs, ↓e_addAl, ↓e_addAt, ↓e_addAo, ↓e_mulAi, ↓e_mulAl, ↓e_mulAt, ↓e_mulAo, e_forN, e_forC, ↓e_iZipA, ↓zipAW_l, ↓zipAW_t, ↓zipAW_w, ↓zipAW_m, ↓e_truO, ↓e_wParO, ↓e_par3, ↓e_par3W, ↓e_eqLl, ↓e_neLl, e_oaN, e_oaC, F_Four___init__, T_Four___add__, F_Four___add__, IL_Four___eq__, T_Four___eq__, F_Four___eq__, T_Four___mul__, F_Four___mul__, T_Four___neg__, F_Four___neg__, T_Four___sub__, F_Four___sub__, T_Four_halves, F_Four_halves, T_Four_mirrored, F_Four_mirrored, T_Four_size, F_Four_size, M_associate, T_associate, F_associate, T_Four___bool__, F_Four___bool__, T_nearest, F_nearest, M_divide_left, T_divide_left, F_divide_left, M_common_left, M_divides_left, T_Turn_rows, F_Turn_rows, M_Turn_image, T_Turn_image, F_Turn_image, M_Turn___call__, IL_Turn___eq__, T_Turn___eq__, F_Turn___eq__, E_Turn___eq__, T_Four_content, F_Four_content, M_Four_divided, T_Four_divided, F_Four_divided, M_lowest, T_lowest, F_lowest, M_table_of, T_table_of, F_table_of, M_Turn___init__, T_Turn___init__, F_Turn___init__, M_Turn___mul__, T_Turn___mul__, F_Turn___mul__, M_Turn___neg__, T_Turn___neg__, F_Turn___neg__, M_Turn_power, M_Grain_coordinates, T_Grain_coordinates, F_Grain_coordinates, M_Grain___contains__, T_Turn_four, F_Turn_four, M_odd_four, T_odd_four, F_odd_four, T_Grain___init__, F_Grain___init__, T_Grain_turn, F_Grain_turn, T_Grain_spread, F_Grain_spread, IL_Grain___eq__, T_Grain___eq__, F_Grain___eq__, E_Grain___eq__, T_Grain_four, F_Grain_four, M_Grain_turned, T_Grain_turned, F_Grain_turned, M_relative, T_relative, F_relative, T_spread, F_spread, M_midst, T_midst, F_midst, List.reduceReplicate, List.flatten_cons, List.flatten_nil, List.append_nil, decide_true, decide_false, Bool.not_true, Bool.not_false, List.length_cons, List.length_nil, List.getElem?_cons_zero, List.getElem?_cons_succ, List.set_cons_zero, List.set_cons_succ, true_and, and_true, ne_eq, not_false_eq_true, not_true_eq_false, Nat.zero_add, reduceCtorEq, Mn.nm.injEq, and_self, and_false, false_and, Bool.true_or, Bool.or_true, Bool.or_false, Bool.false_or, Bool.and_self, Bool.and_true, Bool.true_and, Bool.and_false, Bool.false_and, List.nil_append, List.cons_append, Option.map_some, List.sum_cons, List.sum_nil, if_true, if_false, ↓reduceIte, beq_self_eq_true, eq_self, Nat.reduceAdd, Nat.reduceMul, Nat.reduceSub, Nat.reduceLT, Nat.reduceLeDiff, Nat.reduceEqDiff, Int.reduceAdd, Int.reduceMul, Int.reduceSub, Int.reduceNeg, Int.reducePow, Int.reduceLT, Int.reduceLE, Int.reduceEq, Int.reduceNe, Int.reduceToNat, Nat.reducePow])
open HQ HQ.Hur
/-- the object of a four; the tuple of its halves -/
abbrev fob (q : Hur) : D := .ob 18 [(9, .tup [.int q.a, .int q.b, .int q.c, .int q.d])]
abbrev hv (q : Hur) : D := .tup [.int q.a, .int q.b, .int q.c, .int q.d]
/-- halves of less than k bits -/
structure Sm (q : Hur) (k : Nat) : Prop where
  a : q.a.natAbs < 2 ^ k
  b : q.b.natAbs < 2 ^ k
  c : q.c.natAbs < 2 ^ k
  d : q.d.natAbs < 2 ^ k
theorem pow_mono {k m : Nat} (h : k ≤ m) : 2 ^ k ≤ 2 ^ m := Nat.pow_le_pow_right (by decide) h
theorem Sm.mono {q : Hur} {k m : Nat} (h : Sm q k) (hk : k ≤ m) : Sm q m := by
  have := pow_mono hk
  exact ⟨by have := h.a; omega, by have := h.b; omega, by have := h.c; omega, by have := h.d; omega⟩
theorem Sm.neg {q : Hur} {k : Nat} (h : Sm q k) : Sm (-q) k := ⟨by have := h.a; simp; omega, by have := h.b; simp; omega, by have := h.c; simp; omega, by have := h.d; simp; omega⟩
theorem Sm.bar {q : Hur} {k : Nat} (h : Sm q k) : Sm (Hur.bar q) k := ⟨by have := h.a; simp; omega, by have := h.b; simp; omega, by have := h.c; simp; omega, by have := h.d; simp; omega⟩
theorem Sm.add {p q : Hur} {k l m : Nat} (h : Sm p k) (g : Sm q l) (hm : max k l + 1 ≤ m) : Sm (p + q) m := by
  have h1 := pow_mono hm; have h2 := pow_mono (Nat.le_max_left k l); have h3 := pow_mono (Nat.le_max_right k l)
  rw [Nat.pow_succ] at h1
  have := h.a; have := h.b; have := h.c; have := h.d; have := g.a; have := g.b; have := g.c; have := g.d
  exact ⟨by simp; omega, by simp; omega, by simp; omega, by simp; omega⟩
theorem Sm.sub {p q : Hur} {k l m : Nat} (h : Sm p k) (g : Sm q l) (hm : max k l + 1 ≤ m) : Sm (p - q) m := by
  have h1 := pow_mono hm; have h2 := pow_mono (Nat.le_max_left k l); have h3 := pow_mono (Nat.le_max_right k l)
  rw [Nat.pow_succ] at h1
  have := h.a; have := h.b; have := h.c; have := h.d; have := g.a; have := g.b; have := g.c; have := g.d
  exact ⟨by simp; omega, by simp; omega, by simp; omega, by simp; omega⟩
theorem mul_small {x y : Int} {k l : Nat} (h : x.natAbs < 2 ^ k) (g : y.natAbs < 2 ^ l) : (x * y).natAbs < 2 ^ (k + l) := by
  rw [Int.natAbs_mul, Nat.pow_add]
  exact Nat.lt_of_le_of_lt (Nat.mul_le_mul_left _ (Nat.le_of_lt g)) ((Nat.mul_lt_mul_right (Nat.two_pow_pos l)).mpr h)
theorem h4a {x y z w r : Int} {P M : Nat} (h1 : x.natAbs < P) (h2 : y.natAbs < P) (h3 : z.natAbs < P) (h4 : w.natAbs < P) (hM : P * 2 ≤ M) (e : 2 * r = x - y - z - w) : r.natAbs < M := by omega
theorem h4b {x y z w r : Int} {P M : Nat} (h1 : x.natAbs < P) (h2 : y.natAbs < P) (h3 : z.natAbs < P) (h4 : w.natAbs < P) (hM : P * 2 ≤ M) (e : 2 * r = x + y + z - w) : r.natAbs < M := by omega
theorem h4c {x y z w r : Int} {P M : Nat} (h1 : x.natAbs < P) (h2 : y.natAbs < P) (h3 : z.natAbs < P) (h4 : w.natAbs < P) (hM : P * 2 ≤ M) (e : 2 * r = x - y + z + w) : r.natAbs < M := by omega
theorem h4d {x y z w r : Int} {P M : Nat} (h1 : x.natAbs < P) (h2 : y.natAbs < P) (h3 : z.natAbs < P) (h4 : w.natAbs < P) (hM : P * 2 ≤ M) (e : 2 * r = x + y - z + w) : r.natAbs < M := by omega
theorem Sm.mul {p q : Hur} {k l m : Nat} (h : Sm p k) (g : Sm q l) (hm : k + l + 1 ≤ m) : Sm (p * q) m := by
  have h1 := pow_mono hm
  rw [Nat.pow_succ] at h1
  exact ⟨h4a (mul_small h.a g.a) (mul_small h.b g.b) (mul_small h.c g.c) (mul_small h.d g.d) h1 (Hur.mul_a p q), h4b (mul_small h.a g.b) (mul_small h.b g.a) (mul_small h.c g.d) (mul_small h.d g.c) h1 (Hur.mul_b p q),
    h4c (mul_small h.a g.c) (mul_small h.b g.d) (mul_small h.c g.a) (mul_small h.d g.b) h1 (Hur.mul_c p q), h4d (mul_small h.a g.d) (mul_small h.b g.c) (mul_small h.c g.b) (mul_small h.d g.a) h1 (Hur.mul_d p q)⟩
theorem Sm.whole {n : Int} {k m : Nat} (h : n.natAbs < 2 ^ k) (hm : k + 1 ≤ m) : Sm (Hur.whole n) m := by
  have h1 := pow_mono hm
  rw [Nat.pow_succ] at h1
  have : 0 < 2 ^ k := Nat.two_pow_pos k
  exact ⟨by simp; omega, by simp; omega, by simp; omega, by simp; omega⟩
theorem Sm.N {q : Hur} {k : Nat} (h : Sm q k) : (Hur.N q).natAbs < 2 ^ (k + k) := by
  have e := four_N q
  have a1 := mul_small h.a h.a; have a2 := mul_small h.b h.b; have a3 := mul_small h.c h.c; have a4 := mul_small h.d h.d
  omega
theorem mulB {x y : Int} {k l : Nat} (h : x.natAbs < 2 ^ k) (g : y.natAbs < 2 ^ l) (hk : k ≤ 400000) (hl : l ≤ 400000) : G.MulOk x y := by
  refine mulOk (k + 1) (l + 1) (by omega) (by omega) ?_ ?_ (by omega)
  · have := pow_mono (show k ≤ k + 1 by omega); omega
  · have := pow_mono (show l ≤ l + 1 by omega); omega
theorem dv2 : DivOk 2 := ⟨by omega, .inl (by omega)⟩
/-- x has at most k bits; shut, so that no step looks into the power -/
structure Bt (x : Int) (k : Nat) : Prop where
  h : x.natAbs < 2 ^ k
theorem Bt.mono {x : Int} {k m : Nat} (h : Bt x k) (hm : k ≤ m) : Bt x m := ⟨Nat.lt_of_lt_of_le h.h (pow_mono hm)⟩
theorem bLit {x : Int} (h : x.natAbs < 2 ^ 40) : Bt x 40 := ⟨h⟩
theorem bAdd {x y : Int} {k l m : Nat} (h : Bt x k) (g : Bt y l) (hm : k + l + 1 ≤ m) : Bt (x + y) m := by
  have h := h.h; have g := g.h
  have h1 := pow_mono hm
  rw [Nat.pow_succ] at h1
  have h2 := pow_mono (show k ≤ k + l by omega); have h3 := pow_mono (show l ≤ k + l by omega)
  exact ⟨by omega⟩
theorem bSub {x y : Int} {k l m : Nat} (h : Bt x k) (g : Bt y l) (hm : k + l + 1 ≤ m) : Bt (x - y) m := by
  have h := h.h; have g := g.h
  have h1 := pow_mono hm
  rw [Nat.pow_succ] at h1
  have h2 := pow_mono (show k ≤ k + l by omega); have h3 := pow_mono (show l ≤ k + l by omega)
  exact ⟨by omega⟩
theorem bMul {x y : Int} {k l m : Nat} (h : Bt x k) (g : Bt y l) (hm : k + l ≤ m) : Bt (x * y) m := ⟨Nat.lt_of_lt_of_le (mul_small h.h g.h) (pow_mono hm)⟩
theorem bNeg {x : Int} {k : Nat} (h : Bt x k) : Bt (-x) k := ⟨by rw [Int.natAbs_neg]; exact h.h⟩
theorem bDiv {x y : Int} {k : Nat} (h : Bt x k) : Bt (x / y) k := ⟨Nat.lt_of_le_of_lt (Int.natAbs_ediv_le_natAbs x y) h.h⟩
theorem bFdiv {x y : Int} {k : Nat} (hy : 0 < y) (h : Bt x k) : Bt (x.fdiv y) k := by rw [fdiv_pos hy]; exact bDiv h
theorem bMod {x y : Int} {k : Nat} (h : Bt y k) (h0 : 0 < y) : Bt (x % y) k := by
  have h := h.h
  have := Int.emod_nonneg x (show y ≠ 0 by omega); have := Int.emod_lt_of_pos x h0; exact ⟨by omega⟩
theorem divB {j : Int} {k : Nat} (h0 : 0 < j) (h : Bt j k) (hk : k ≤ 8990) : DivOk j := by
  refine ⟨by omega, .inr ⟨h0, ?_⟩⟩
  have := log2_lt (i := j) (k := k + 1) (by omega) (Nat.lt_of_lt_of_le h.h (pow_mono (by omega)))
  omega
theorem Sm.le {p : Hur} {k l : Nat} (h : Sm p k) (hk : k ≤ l) : Sm p l := h.mono hk
theorem Sm.units {u : Hur} (h : u ∈ Hur.units) : Sm u 2 := by
  obtain ⟨h1, h2, h3, h4⟩ := unit_small (mem_units.mp h)
  exact ⟨by omega, by omega, by omega, by omega⟩
theorem Sm.ba {p : Hur} {k : Nat} (h : Sm p k) : Bt p.a k := ⟨h.a⟩
theorem Sm.bb {p : Hur} {k : Nat} (h : Sm p k) : Bt p.b k := ⟨h.b⟩
theorem Sm.bc {p : Hur} {k : Nat} (h : Sm p k) : Bt p.c k := ⟨h.c⟩
theorem Sm.bd {p : Hur} {k : Nat} (h : Sm p k) : Bt p.d k := ⟨h.d⟩
theorem Sm.bN {q : Hur} {k : Nat} (h : Sm q k) : Bt (Hur.N q) (k + k) := ⟨h.N⟩
theorem Sm.bwhole {n : Int} {k m : Nat} (h : Bt n k) (hm : k + 1 ≤ m) : Sm (Hur.whole n) m := Sm.whole h.h hm
theorem mulBt {x y : Int} {k l : Nat} (h : Bt x k) (g : Bt y l) (hk : k ≤ 400000) (hl : l ≤ 400000) : G.MulOk x y := mulB h.h g.h hk hl
theorem is_halves_ok {a b c d : Int} {st : Store} {Q : QE} {R : XQ} (q : Q (.bl (decide (par a b c d))) st) : p_is_halves [.tup [.int a, .int b, .int c, .int d]] st Q R := by
  refine i_is_halves ?_
  unfold w_is_halves
  f_lean
  refine isW_i (fun i acc s => s = st ∧ i ≤ 4 ∧ acc = (if i = 0 then [] else if i = 1 then [a % 2] else if i = 2 then (if b % 2 = a % 2 then [a % 2] else [a % 2, b % 2]) else if i = 3 then (if b % 2 = a % 2 ∧ c % 2 = a % 2 then [a % 2] else [a % 2, 1 - a % 2]) else (if par a b c d then [a % 2] else [a % 2, 1 - a % 2]))) ⟨rfl, by omega, rfl⟩ ?_ ?_
  · rintro i x acc s hx ⟨rfl, hi, rfl⟩ K hK
    have m : ∀ z : Int, z % 2 = 0 ∨ z % 2 = 1 := fun z => by omega
    match i, hx with
    | 0, hx =>
      simp at hx; subst hx
      f_lean
      rw [fmod_pos (by omega)]
      exact ⟨by simp [scanBound], hK _ _ ⟨rfl, by omega, by simp⟩⟩
    | 1, hx =>
      simp at hx; subst hx
      f_lean
      rw [fmod_pos (by omega)]
      refine ⟨by simp [scanBound], hK _ _ ⟨rfl, by omega, ?_⟩⟩
      by_cases h : b % 2 = a % 2 <;> simp [h]
    | 2, hx =>
      simp at hx; subst hx
      f_lean
      rw [fmod_pos (by omega)]
      refine ⟨by split <;> simp [scanBound], hK _ _ ⟨rfl, by omega, ?_⟩⟩
      by_cases h : b % 2 = a % 2
      · by_cases h2 : c % 2 = a % 2
        · simp [h, h2]
        · have : c % 2 = 1 - a % 2 := by have := m a; have := m c; omega
          simp [h, h2, this]
      · have e : b % 2 = 1 - a % 2 := by have := m a; have := m b; omega
        have : c % 2 = a % 2 ∨ c % 2 = b % 2 := by have := m a; have := m b; have := m c; omega
        rcases this with h2 | h2
        · simp [h, h2]; exact e
        · simp [h, h2]; exact e
    | 3, hx =>
      simp at hx; subst hx
      f_lean
      rw [fmod_pos (by omega)]
      refine ⟨by split <;> simp [scanBound], hK _ _ ⟨rfl, by omega, ?_⟩⟩
      by_cases h : b % 2 = a % 2 ∧ c % 2 = a % 2
      · by_cases h2 : d % 2 = a % 2
        · have : par a b c d := by unfold par; omega
          simp [h, h2, this]
        · have e : d % 2 = 1 - a % 2 := by have := m a; have := m d; omega
          have : ¬ par a b c d := by unfold par; omega
          simp [h, h2, this]; exact e
      · have hp : ¬ par a b c d := by unfold par; omega
        have : d % 2 = a % 2 ∨ d % 2 = 1 - a % 2 := by have := m a; have := m d; omega
        rcases this with h2 | h2 <;> simp [h, h2, hp]
    | n + 4, hx => simp at hx
  · rintro acc s ⟨rfl, _, rfl⟩
    f_lean
    by_cases h : par a b c d
    · simp [h] at q ⊢; simpa using q
    · simp [h] at q ⊢; simpa using q
theorem make_ok {a b c d : Int} (q : Hur) {st : Store} {Q : QE} {R : XQ} {x y} (k : Q (fob q) st) (ha : q.a = a := by rfl) (hb : q.b = b := by rfl) (hc : q.c = c := by rfl) (hd : q.d = d := by rfl) : mkW true 18 p_Four___init__ [.int a, .int b, .int c, .int d] st Q R x y := by
  subst ha hb hc hd
  refine mkW_v (i_Four___init__ (by show 4 ≤ sizeLine; decide) ?_)
  unfold w_Four___init__
  f_lean
  refine callW_i (is_halves_ok ?_)
  rw [decide_eq_true q.h]
  f_lean
  exact ⟨_, rfl, by simp [D.nocF, D.noc, D.nocs], k⟩
theorem add_ok {p q : Hur} {st : Store} {Q : QE} {R : XQ} (k : Q (fob (p + q)) st) : p_Four___add__ [fob p, fob q] st Q R := by
  refine i_Four___add__ ?_
  unfold w_Four___add__
  f_lean
  exact make_ok (p + q) k
theorem sub_ok {p q : Hur} {st : Store} {Q : QE} {R : XQ} (k : Q (fob (p - q)) st) : p_Four___sub__ [fob p, fob q] st Q R := by
  refine i_Four___sub__ ?_
  unfold w_Four___sub__
  f_lean
  exact make_ok (p - q) k
theorem neg_ok {p : Hur} {st : Store} {Q : QE} {R : XQ} (k : Q (fob (-p)) st) : p_Four___neg__ [fob p] st Q R := by
  refine i_Four___neg__ ?_
  unfold w_Four___neg__
  f_lean
  exact make_ok (-p) k
theorem halves_ok {p : Hur} {st : Store} {Q : QE} {R : XQ} (k : Q (hv p) st) : p_Four_halves [fob p] st Q R := by
  refine i_Four_halves ?_
  unfold w_Four_halves
  f_lean
  exact k
theorem mirrored_ok {p : Hur} {st : Store} {Q : QE} {R : XQ} (k : Q (fob (Hur.bar p)) st) : p_Four_mirrored [fob p] st Q R := by
  refine i_Four_mirrored ?_
  unfold w_Four_mirrored
  f_lean
  exact make_ok (Hur.bar p) k
theorem whole_ok {n : Int} {st : Store} {Q : QE} {R : XQ} {l : Nat} (hs : Bt n l) (hl : l ≤ 400000) (k : Q (fob (Hur.whole n)) st) : p_Four_whole [.int n] st Q R := by
  refine i_Four_whole ?_
  unfold w_Four_whole
  f_lean
  exact ⟨mulB (k := 10) (by decide) hs.h (by decide) hl, make_ok (Hur.whole n) k⟩
theorem eq_ok {p q : Hur} {st : Store} {Q : QE} {R : XQ} (k : Q (.bl (decide (p = q))) st) : p_Four___eq__ [fob p, fob q] st Q R := by
  refine i_Four___eq__ ?_
  unfold w_Four___eq__
  f_lean
  refine ⟨⟨rfl, rfl, by simp [D.dep, D.deps], by simp [D.dep, D.deps]⟩, ?_⟩
  have e : eqDs [.int p.a, .int p.b, .int p.c, .int p.d] [.int q.a, .int q.b, .int q.c, .int q.d] = decide (p = q) := by
    by_cases h : p = q
    · subst h; simp [eqDs, eqD]
    · rw [decide_eq_false h]
      have := mt Hur.ext_iff.mpr h
      simp [eqDs, eqD]
      intro h1 h2 h3 h4
      exact this ⟨h1, h2, h3, h4⟩
  rw [e]; exact k
theorem size_ok {p : Hur} {st : Store} {Q : QE} {R : XQ} {k : Nat} (h : Sm p k) (hk : k ≤ 400000) (q : Q (.int (Hur.N p)) st) : p_Four_size [fob p] st Q R := by
  refine i_Four_size ?_
  unfold w_Four_size
  f_lean
  refine ⟨mulB h.a h.a hk hk, mulB h.b h.b hk hk, mulB h.c h.c hk hk, mulB h.d h.d hk hk, ⟨by omega, .inl (by omega)⟩, ?_⟩
  rw [fdiv_pos (by omega), show p.a * p.a + (p.b * p.b + (p.c * p.c + (p.d * p.d + 0))) = p.a * p.a + p.b * p.b + p.c * p.c + p.d * p.d by omega]
  exact q
theorem mul_ok {p q : Hur} {st : Store} {Q : QE} {R : XQ} {k l : Nat} (h : Sm p k) (g : Sm q l) (hk : k ≤ 400000) (hl : l ≤ 400000) (c : Q (fob (p * q)) st) : p_Four___mul__ [fob p, fob q] st Q R := by
  refine i_Four___mul__ ?_
  unfold w_Four___mul__
  f_lean
  refine ⟨mulB h.a g.a hk hl, mulB h.b g.b hk hl, mulB h.c g.c hk hl, mulB h.d g.d hk hl, mulB h.a g.b hk hl, mulB h.b g.a hk hl, mulB h.c g.d hk hl, mulB h.d g.c hk hl, mulB h.a g.c hk hl, mulB h.b g.d hk hl, mulB h.c g.a hk hl, mulB h.d g.b hk hl, mulB h.a g.d hk hl, mulB h.b g.c hk hl, mulB h.c g.b hk hl, mulB h.d g.a hk hl, dv2, dv2, dv2, dv2, ?_⟩
  exact make_ok (p * q) c (by rw [fdiv_pos (by omega)]; rfl) (by rw [fdiv_pos (by omega)]; rfl) (by rw [fdiv_pos (by omega)]; rfl) (by rw [fdiv_pos (by omega)]; rfl)
end LK
namespace LK
open PySem PySem.Spec PyProof.Rows L2 G
local macro_rules | `(tactic| f_lean) => `(tactic| simp (config := { dsimp := false, failIfUnchanged := false, implicitDefEqProofs := false }) only [↓e_wNext, ↓e_wBin, ↓e_wUn, ↓e_wArgs, ↓e_wC, ↓e_waNil, ↓e_waCons, ↓e_wTup, ↓e_wLst, ↓e_wCell, ↓e_wNotT, ↓e_wIsN, ↓e_wNotN, ↓e_wTru, ↓e_wSl, ↓e_woNone, ↓e_wSet, ↓e_wRet, ↓e_wRetN, ↓e_wExpr, ↓e_wFrz, ↓e_wBrk, ↓e_wCnt, ↓e_wAsg, ↓e_wgName, ↓e_wOwn, ↓seqK_nx, ↓seqK_rt, ↓seqK_bk, ↓seqK_ct, ↓seqK_ex, ↓loopK_nx, ↓loopK_rt, ↓loopK_bk, ↓loopK_ct, ↓loopK_ex, ↓e_wSeq, iteW_t, iteW_f, ↓e_wCall, ↓e_wIfS, ↓e_wIf, ↓e_wAndT, ↓e_wOrT, ↓e_wFor, ↓e_wWhile, ↓e_wLc, ↓blW_b, ↓e_wBool, ↓e_wAnd, ↓e_wOr, ↓e_wNot, ↓e_wChain, ↓e_var0, ↓e_varS, ↓e_varB0, ↓e_varB1, ↓e_varBS, e_set0, e_setS, ↓e_add, ↓e_addS, ↓e_addL, ↓e_addO, ↓e_sub, ↓e_subO, ↓e_mul, ↓e_mulL, ↓e_mulO, ↓e_fdiv, ↓e_mod, ↓e_pow, ↓e_lt, ↓e_le, ↓e_gt, ↓e_ge, ↓e_neg, ↓e_negO, ↓e_eqI, ↓e_neI, ↓e_eqB, ↓e_neB, ↓e_eqS, ↓e_neS, getW_s, ↓e_ixL, ↓e_ixT, celW_s, ↓e_ixC, atI_0, atI_1, atI_2, atI_3, ixN_10, ixN_20, ixN_21, ixN_30, ixN_31, ixN_32, ixN_40, ixN_41, ixN_42, ixN_43, ixN_l0, ↓e_lenL, ↓e_lenT, ↓e_lenS, ↓e_abs, ↓e_intI, ↓e_intB, ↓e_listL, ↓e_listT, ↓e_tupleL, ↓e_tupleT, ↓e_slL, ↓intW_i, ↓e_woSome, ↓e_slR, ↓e_par, ↓e_parW, ↓e_gTup, ↓e_gTupL, ↓e_gsNil, ↓e_gsCons, ↓e_iLst, ↓lstW_i, ↓e_iTup, ↓tupW_i, ↓e_iR1, ↓r1W_i, ↓e_iR2, ↓r2W_i, ↓e_iZip, ↓zipW_l, ↓zipW_t, ↓e_put, e_putO, e_putC, natW_s, ↓e_aug, e_augV, ↓e_app, e_appV, ↓e_addI, ↓e_addIS, ↓e_subI, ↓e_mulI, ↓e_fdivI, e_frzN, e_frzO, e_frzV, e_frzX, e_frzS, e_frzC, ↓e_all, ↓e_any, ↓e_sum, blsW_s, intsW_s, ↓e_truN, ↓e_truB, ↓e_truI, ↓e_truL, ↓e_truT, ↓e_isiT, ↓e_isiC, ↓e_isiY, bo1W_s, isi_ii, isi_is, isi_ib, isi_it, isi_il, isi_bi, isi_bs, isi_bb, isi_bt, isi_bll, isi_ni, isi_ns, isi_nb, isi_nt, isi_nl, isi_si, isi_ss, isi_sb, isi_st, isi_sl, isi_ti, isi_ts, isi_tb, isi_tt, isi_tl, isi_li, isi_ls, isi_lb, isi_lt, isi_ll, isi_ds0, isi_dsT, isi_isI, isi_isS, isi_isB, isi_isN, isi_isT, isi_isL, ixZ_0, ixZ_1, ixZ_2, ixZ_3, ixZ_4, ixZ_5, ixZ_6, ixZ_7, ixZ_8, ixZ_9, ixZ_10, ixZ_11, ixZ_12, ixZ_13, ixZ_14, ixZ_15, ixZ_16, bo2_s, isi_dsF, ↓e_nonN, ↓e_nonI, ↓e_nonB, ↓e_nonS, ↓e_nonT, ↓e_nonL, ↓e_nonO, ↓fnW_rt, ↓fnW_nx, ↓fnW_ex, ↓e_wipe0, ↓e_wipe1, ↓e_wYes, mW_s, ↓e_callM, attW_p, attW_f, ↓e_attO, insW_s, ↓e_attC, e_getC, e_getN, e_putC', e_putN, ↓e_wMeth, ↓e_clsO, ↓e_clsC, mthW_s, mthZW_s, ownW_s, ↓e_eqOO, ↓e_neOO, ↓e_eqOI, ↓e_neOI, ↓e_eqOT, ↓e_neOT, ↓e_eqOL, ↓e_neOL, ↓e_eqTT, ↓e_neTT, ↓e_eqLL, ↓e_neLL, ↓e_wMk, ↓sqW_t, ↓sqW_l, ↓e_wMkS, ↓fldW_c, ↓e_wFld, st_last, st_setL, ↓e_wLenIs, e_addT, e_addF, e_addM, e_addE, e_F0, e_P0, e_T0, e_M0, e_lcN, e_lcC, e_zipC, e_zipN, e_intsN, e_intsC, e_blsN, e_blsC, e_ltz0, e_ltz1, e_ltz2, e_ltz3, e_ltz4, e_ltz5, e_ltz6, e_ltz7, e_ltz8, e_ltz9, e_ltz10, e_ltz11, e_ltz12, e_ltz13, e_ltz14, e_ltz15, e_ltz16, e_ltz17, e_ltz18, e_ltz19, e_ltz20, e_ltz21, e_ltz22, e_ltz23, e_ltz24, e_cst0, e_cst1, e_cst2, e_cst3, e_cst4, e_cst5, e_cst6, e_cst7, e_cst8, e_cst9, e_cst10, e_cst11, e_cst12, e_cst13, e_cst14, e_cst15, e_cst16, e_cst17, e_cst18, e_cst19, e_cst20, e_cst21, e_cst22, e_cst23, e_cst24, ↓e_wiSeq, ↓e_ext, e_extO, ↓gfldW_c, ↓e_wgFld, ↓e_wLcN, e_tskN, e_tskC, e_lpN, e_lpC, calW_s, ↓obW_o, ↓e_wCal, ↓e_srt, ↓e_max, max_2, ↓e_min, min_2, optW_s, ↓e_gtA, ↓e_ltA, ↓e_gtT, ↓e_ltT, lexD_4, ↓e_inL, ↓e_inT, ↓e_inO, ↓e_isBB, bneF, bneT, e_isiOb, e_isiIc, e_isiTc, e_isOf, ↓e_addAi, ↓e_addAs, ↓e_addAl, ↓e_addAt, ↓e_addAo, ↓e_mulAi, ↓e_mulAl, ↓e_mulAt, ↓e_mulAo, e_forN, e_forC, ↓e_iZipA, ↓zipAW_l, ↓zipAW_t, ↓zipAW_w, ↓zipAW_m, ↓e_truO, ↓e_wParO, ↓e_par3, ↓e_par3W, ↓e_eqLl, ↓e_neLl, e_oaN, e_oaC, F_Four___init__, T_Four___add__, F_Four___add__, IL_Four___eq__, T_Four___eq__, F_Four___eq__, T_Four___mul__, F_Four___mul__, T_Four___neg__, F_Four___neg__, T_Four___sub__, F_Four___sub__, T_Four_halves, F_Four_halves, T_Four_mirrored, F_Four_mirrored, T_Four_size, F_Four_size, M_associate, T_associate, F_associate, T_Four___bool__, F_Four___bool__, T_nearest, F_nearest, M_divide_left, T_divide_left, F_divide_left, M_common_left, M_divides_left, T_Turn_rows, F_Turn_rows, M_Turn_image, T_Turn_image, F_Turn_image, M_Turn___call__, IL_Turn___eq__, T_Turn___eq__, F_Turn___eq__, E_Turn___eq__, T_Four_content, F_Four_content, M_Four_divided, T_Four_divided, F_Four_divided, M_lowest, T_lowest, F_lowest, M_table_of, T_table_of, F_table_of, M_Turn___init__, T_Turn___init__, F_Turn___init__, M_Turn___mul__, T_Turn___mul__, F_Turn___mul__, M_Turn___neg__, T_Turn___neg__, F_Turn___neg__, M_Turn_power, M_Grain_coordinates, T_Grain_coordinates, F_Grain_coordinates, M_Grain___contains__, T_Turn_four, F_Turn_four, M_odd_four, T_odd_four, F_odd_four, T_Grain___init__, F_Grain___init__, T_Grain_turn, F_Grain_turn, T_Grain_spread, F_Grain_spread, IL_Grain___eq__, T_Grain___eq__, F_Grain___eq__, E_Grain___eq__, T_Grain_four, F_Grain_four, M_Grain_turned, T_Grain_turned, F_Grain_turned, M_relative, T_relative, F_relative, T_spread, F_spread, M_midst, T_midst, F_midst, List.reduceReplicate, List.flatten_cons, List.flatten_nil, List.append_nil, decide_true, decide_false, Bool.not_true, Bool.not_false, List.length_cons, List.length_nil, List.getElem?_cons_zero, List.getElem?_cons_succ, List.set_cons_zero, List.set_cons_succ, true_and, and_true, ne_eq, not_false_eq_true, not_true_eq_false, Nat.zero_add, reduceCtorEq, Mn.nm.injEq, and_self, and_false, false_and, Bool.true_or, Bool.or_true, Bool.or_false, Bool.false_or, Bool.and_self, Bool.and_true, Bool.true_and, Bool.and_false, Bool.false_and, List.nil_append, List.cons_append, Option.map_some, List.sum_cons, List.sum_nil, if_true, if_false, ↓reduceIte, beq_self_eq_true, eq_self, Nat.reduceAdd, Nat.reduceMul, Nat.reduceSub, Nat.reduceLT, Nat.reduceLeDiff, Nat.reduceEqDiff, Int.reduceAdd, Int.reduceMul, Int.reduceSub, Int.reduceNeg, Int.reducePow, Int.reduceLT, Int.reduceLE, Int.reduceEq, Int.reduceNe, Int.reduceToNat, Nat.reducePow])
local macro_rules | `(tactic| one_place) => `(tactic| first | ((with_reducible assumption)) | ((with_reducible apply Sm.mul (hm := Nat.le_refl _)); (focus one_place); (focus one_place)) | ((with_reducible apply Sm.add (hm := Nat.le_refl _)); (focus one_place); (focus one_place)) | ((with_reducible apply Sm.sub (hm := Nat.le_refl _)); (focus one_place); (focus one_place)) | ((with_reducible apply Sm.neg); one_place) | ((with_reducible apply Sm.bar); one_place) | ((with_reducible apply Sm.bwhole (hm := Nat.le_refl _)); (focus leaf_len)))
local macro_rules | `(tactic| leaf_len) => `(tactic| first | ((with_reducible assumption)) | exact bLit (by decide) | ((with_reducible apply Sm.bN); (focus one_place)) | ((with_reducible apply bMul (hm := Nat.le_refl _)); (focus leaf_len); (focus leaf_len)) | ((with_reducible apply bAdd (hm := Nat.le_refl _)); (focus leaf_len); (focus leaf_len)) | ((with_reducible apply bSub (hm := Nat.le_refl _)); (focus leaf_len); (focus leaf_len)) | ((with_reducible apply bNeg); leaf_len) | ((with_reducible apply bFdiv); (focus omega); leaf_len) | ((with_reducible apply bDiv); leaf_len) | ((with_reducible apply bMod); (focus leaf_len); omega) | ((with_reducible apply Sm.ba); one_place) | ((with_reducible apply Sm.bb); one_place) | ((with_reducible apply Sm.bc); one_place) | ((with_reducible apply Sm.bd); one_place))
local macro_rules | `(tactic| one_item) => `(tactic| first | ((with_reducible apply mulBt); (focus leaf_len); (focus leaf_len); (focus decide); (focus decide)) | ((with_reducible exact dv2)) | ((with_reducible apply divB); (focus omega); (focus leaf_len); (focus decide)) | exact ⟨rfl, rfl, by simp [D.dep, D.deps], by simp [D.dep, D.deps]⟩)
local macro_rules | `(tactic| w_left) => `(tactic| repeat ((with_reducible refine And.intro ?_ ?_); (focus one_item)))
open HQ HQ.Hur
theorem law_times_ok {p q : Hur} {st : Store} {Q : QE} {R : XQ} {k l : Nat} (h : Sm p k) (g : Sm q l) (hk : k ≤ 400000) (hl : l ≤ 400000) (c : Q (hv (p * q)) st) : p__law_times [hv p, hv q] st Q R := by
  refine i__law_times ?_
  unfold w__law_times
  f_lean
  refine ⟨mulB h.a g.a hk hl, mulB h.b g.b hk hl, mulB h.c g.c hk hl, mulB h.d g.d hk hl, dv2, mulB h.a g.b hk hl, mulB h.b g.a hk hl, mulB h.c g.d hk hl, mulB h.d g.c hk hl, dv2, mulB h.a g.c hk hl, mulB h.b g.d hk hl, mulB h.c g.a hk hl, mulB h.d g.b hk hl, dv2, mulB h.a g.d hk hl, mulB h.b g.c hk hl, mulB h.c g.b hk hl, mulB h.d g.a hk hl, dv2, ?_⟩
  rw [fdiv_pos (by omega), fdiv_pos (by omega), fdiv_pos (by omega), fdiv_pos (by omega)]
  exact c
theorem law_back_ok {p : Hur} {st : Store} {Q : QE} {R : XQ} (c : Q (hv (Hur.bar p)) st) : p__law_back [hv p] st Q R := by
  refine i__law_back ?_
  unfold w__law_back
  f_lean
  exact c
theorem law_four_ok {p : Hur} {st : Store} {Q : QE} {R : XQ} (c : Q (fob p) st) : p__law_four [hv p] st Q R := by
  refine i__law_four ?_
  unfold w__law_four
  f_lean
  exact make_ok p c
theorem law_size_ok {p : Hur} {st : Store} {Q : QE} {R : XQ} {k : Nat} (h : Sm p k) (hk : k ≤ 400000) (q : Q (.int (Hur.N p)) st) : p__law_size [hv p] st Q R := by
  refine i__law_size ?_
  unfold w__law_size
  f_lean
  refine ⟨mulB h.a h.a hk hk, mulB h.b h.b hk hk, mulB h.c h.c hk hk, mulB h.d h.d hk hk, ⟨by omega, .inl (by omega)⟩, ?_⟩
  rw [fdiv_pos (by omega), show p.a * p.a + (p.b * p.b + (p.c * p.c + (p.d * p.d + 0))) = p.a * p.a + p.b * p.b + p.c * p.c + p.d * p.d by omega]
  exact q
theorem law_pick_ok {c : Cell} {rest : Store} {ds : List D} {Q : QE} {R : XQ} (hc : FC c) (h0 : 0 < ds.length) (h1 : ds.length < 2 ^ 200) (q : ∀ c' d, FC c' → d ∈ ds → Q d (c' :: rest)) : p__law_pick [.cel 0, .lst ds] (c :: rest) Q R := by
  refine i__law_pick ?_
  unfold w__law_pick
  f_lean
  refine callW_i (take_ok hc (by omega) (by omega) fun o c hc o0 o1 => ?_)
  obtain ⟨n, rfl⟩ := Int.eq_ofNat_of_zero_le o0
  have hn : n < ds.length := by omega
  f_lean
  refine getW_i (d := ds[n]) (by rw [G.atI_nat]; simp [hn]) ?_
  exact q _ _ hc (List.getElem_mem _)
def rowOf (t : Int × Int × Int × Int) : List Int := [t.1, t.2.1, t.2.2.1, t.2.2.2]
theorem hv_mk4 {t : Int × Int × Int × Int} (h : t ∈ Hur.unitRows) : hv (mk4 t) = itup (rowOf t) := by
  unfold mk4
  rw [dif_pos (unitRows_par t h)]
  rfl
theorem hv_rows : (Hur.unitRows.map rowOf).map itup = Hur.units.map hv := by
  unfold Hur.units
  rw [List.map_map, List.map_map]
  exact (List.map_congr_left fun t h => hv_mk4 h).symm
def rawRows : List (List Int) := [[-2, 0, 0, 0], [2, 0, 0, 0], [0, -2, 0, 0], [0, 2, 0, 0], [0, 0, -2, 0], [0, 0, 2, 0], [0, 0, 0, -2], [0, 0, 0, 2], [-1, -1, -1, -1], [-1, -1, -1, 1], [-1, -1, 1, -1], [-1, -1, 1, 1], [-1, 1, -1, -1], [-1, 1, -1, 1], [-1, 1, 1, -1], [-1, 1, 1, 1], [1, -1, -1, -1], [1, -1, -1, 1], [1, -1, 1, -1], [1, -1, 1, 1], [1, 1, -1, -1], [1, 1, -1, 1], [1, 1, 1, -1], [1, 1, 1, 1]]
theorem raw_sorted : isortL rawRows = Hur.unitRows.map rowOf := by decide +kernel
theorem fourUnits_ok {st : Store} {Q : QE} {R : XQ} (k : Q (.lst (Hur.units.map fob)) st) : p_Four_units [] st Q R := by
  refine i_Four_units ?_
  unfold w_Four_units
  f_lean
  rw [show rngD 0 4 = [.int 0, .int 1, .int 2, .int 3] from rfl]
  f_lean
  refine ⟨by decide, ?_⟩
  refine srt_rowsE (rs := rawRows) (by decide) ?_
  rw [raw_sorted, hv_rows]
  f_lean
  refine lcW_map (f := fob) (by decide) (fun q hq acc K ha hK => ?_) k
  f_lean
  exact make_ok q ⟨ha, hK⟩
def rawRows2 : List (List Int) := [[-1, -1, -1, -1], [1, -1, -1, -1], [-1, 1, -1, -1], [1, 1, -1, -1], [-1, -1, 1, -1], [1, -1, 1, -1], [-1, 1, 1, -1], [1, 1, 1, -1], [-1, -1, -1, 1], [1, -1, -1, 1], [-1, 1, -1, 1], [1, 1, -1, 1], [-1, -1, 1, 1], [1, -1, 1, 1], [-1, 1, 1, 1], [1, 1, 1, 1], [2, 0, 0, 0], [-2, 0, 0, 0], [0, 2, 0, 0], [0, -2, 0, 0], [0, 0, 2, 0], [0, 0, -2, 0], [0, 0, 0, 2], [0, 0, 0, -2]]
theorem raw_sorted2 : isortL rawRows2 = Hur.unitRows.map rowOf := by decide +kernel
theorem law_units_ok {st : Store} {Q : QE} {R : XQ} (k : Q (.lst (Hur.units.map hv)) st) : p__law_units [] st Q R := by
  refine i__law_units ?_
  unfold w__law_units
  f_lean
  rw [show rngD 0 4 = [.int 0, .int 1, .int 2, .int 3] from rfl]
  f_lean
  rw [show rngD 0 4 = [.int 0, .int 1, .int 2, .int 3] from rfl]
  f_lean
  refine ⟨by decide, by decide, by decide, by decide, srt_rowsE (rs := rawRows2) (by decide) ?_⟩
  rw [raw_sorted2, hv_rows]
  exact k
end LK
namespace LK
open PySem PySem.Spec PyProof.Rows L2 G
local macro_rules | `(tactic| f_lean) => `(tactic| simp (config := { dsimp := false, failIfUnchanged := false, implicitDefEqProofs := false }) only [↓e_wNext, ↓e_wBin, ↓e_wUn, ↓e_wArgs, ↓e_wC, ↓e_waNil, ↓e_waCons, ↓e_wTup, ↓e_wLst, ↓e_wCell, ↓e_wNotT, ↓e_wIsN, ↓e_wNotN, ↓e_wTru, ↓e_wSl, ↓e_woNone, ↓e_wSet, ↓e_wRet, ↓e_wRetN, ↓e_wExpr, ↓e_wFrz, ↓e_wBrk, ↓e_wCnt, ↓e_wAsg, ↓e_wgName, ↓e_wOwn, ↓seqK_nx, ↓seqK_rt, ↓seqK_bk, ↓seqK_ct, ↓seqK_ex, ↓loopK_nx, ↓loopK_rt, ↓loopK_bk, ↓loopK_ct, ↓loopK_ex, ↓e_wSeq, iteW_t, iteW_f, ↓e_wCall, ↓e_wIfS, ↓e_wIf, ↓e_wAndT, ↓e_wOrT, ↓e_wFor, ↓e_wWhile, ↓e_wLc, ↓blW_b, ↓e_wBool, ↓e_wAnd, ↓e_wOr, ↓e_wNot, ↓e_wChain, ↓e_var0, ↓e_varS, ↓e_varB0, ↓e_varB1, ↓e_varBS, e_set0, e_setS, ↓e_add, ↓e_addS, ↓e_addL, ↓e_addO, ↓e_sub, ↓e_subO, ↓e_mul, ↓e_mulL, ↓e_mulO, ↓e_fdiv, ↓e_mod, ↓e_pow, ↓e_lt, ↓e_le, ↓e_gt, ↓e_ge, ↓e_neg, ↓e_negO, ↓e_eqI, ↓e_neI, ↓e_eqB, ↓e_neB, ↓e_eqS, ↓e_neS, getW_s, ↓e_ixL, ↓e_ixT, celW_s, ↓e_ixC, atI_0, atI_1, atI_2, atI_3, ixN_10, ixN_20, ixN_21, ixN_30, ixN_31, ixN_32, ixN_40, ixN_41, ixN_42, ixN_43, ixN_l0, ↓e_lenL, ↓e_lenT, ↓e_lenS, ↓e_abs, ↓e_intI, ↓e_intB, ↓e_listL, ↓e_listT, ↓e_tupleL, ↓e_tupleT, ↓e_slL, ↓intW_i, ↓e_woSome, ↓e_slR, ↓e_par, ↓e_parW, ↓e_gTup, ↓e_gTupL, ↓e_gsNil, ↓e_gsCons, ↓e_iLst, ↓lstW_i, ↓e_iTup, ↓tupW_i, ↓e_iR1, ↓r1W_i, ↓e_iR2, ↓r2W_i, ↓e_iZip, ↓zipW_l, ↓zipW_t, ↓e_put, e_putO, e_putC, natW_s, ↓e_aug, e_augV, ↓e_app, e_appV, ↓e_addI, ↓e_addIS, ↓e_subI, ↓e_mulI, ↓e_fdivI, e_frzN, e_frzO, e_frzV, e_frzX, e_frzS, e_frzC, ↓e_all, ↓e_any, ↓e_sum, blsW_s, intsW_s, ↓e_truN, ↓e_truB, ↓e_truI, ↓e_truL, ↓e_truT, ↓e_isiT, ↓e_isiC, ↓e_isiY, bo1W_s, isi_ii, isi_is, isi_ib, isi_it, isi_il, isi_bi, isi_bs, isi_bb, isi_bt, isi_bll, isi_ni, isi_ns, isi_nb, isi_nt, isi_nl, isi_si, isi_ss, isi_sb, isi_st, isi_sl, isi_ti, isi_ts, isi_tb, isi_tt, isi_tl, isi_li, isi_ls, isi_lb, isi_lt, isi_ll, isi_ds0, isi_dsT, isi_isI, isi_isS, isi_isB, isi_isN, isi_isT, isi_isL, ixZ_0, ixZ_1, ixZ_2, ixZ_3, ixZ_4, ixZ_5, ixZ_6, ixZ_7, ixZ_8, ixZ_9, ixZ_10, ixZ_11, ixZ_12, ixZ_13, ixZ_14, ixZ_15, ixZ_16, bo2_s, isi_dsF, ↓e_nonN, ↓e_nonI, ↓e_nonB, ↓e_nonS, ↓e_nonT, ↓e_nonL, ↓e_nonO, ↓fnW_rt, ↓fnW_nx, ↓fnW_ex, ↓e_wipe0, ↓e_wipe1, ↓e_wYes, mW_s, ↓e_callM, attW_p, attW_f, ↓e_attO, insW_s, ↓e_attC, e_getC, e_getN, e_putC', e_putN, ↓e_wMeth, ↓e_clsO, ↓e_clsC, mthW_s, mthZW_s, ownW_s, ↓e_eqOO, ↓e_neOO, ↓e_eqOI, ↓e_neOI, ↓e_eqOT, ↓e_neOT, ↓e_eqOL, ↓e_neOL, ↓e_eqTT, ↓e_neTT, ↓e_eqLL, ↓e_neLL, ↓e_wMk, ↓sqW_t, ↓sqW_l, ↓e_wMkS, ↓fldW_c, ↓e_wFld, st_last, st_setL, ↓e_wLenIs, e_addT, e_addF, e_addM, e_addE, e_F0, e_P0, e_T0, e_M0, e_lcN, e_lcC, e_zipC, e_zipN, e_intsN, e_intsC, e_blsN, e_blsC, e_ltz0, e_ltz1, e_ltz2, e_ltz3, e_ltz4, e_ltz5, e_ltz6, e_ltz7, e_ltz8, e_ltz9, e_ltz10, e_ltz11, e_ltz12, e_ltz13, e_ltz14, e_ltz15, e_ltz16, e_ltz17, e_ltz18, e_ltz19, e_ltz20, e_ltz21, e_ltz22, e_ltz23, e_ltz24, e_cst0, e_cst1, e_cst2, e_cst3, e_cst4, e_cst5, e_cst6, e_cst7, e_cst8, e_cst9, e_cst10, e_cst11, e_cst12, e_cst13, e_cst14, e_cst15, e_cst16, e_cst17, e_cst18, e_cst19, e_cst20, e_cst21, e_cst22, e_cst23, e_cst24, ↓e_wiSeq, ↓e_ext, e_extO, ↓gfldW_c, ↓e_wgFld, ↓e_wLcN, e_tskN, e_tskC, e_lpN, e_lpC, calW_s, ↓obW_o, ↓e_wCal, ↓e_srt, ↓e_max, max_2, ↓e_min, min_2, optW_s, ↓e_gtA, ↓e_ltA, ↓e_gtT, ↓e_ltT, lexD_4, ↓e_inL, ↓e_inT, ↓e_inO, ↓e_isBB, bneF, bneT, e_isiOb, e_isiIc, e_isiTc, e_isOf, ↓e_addAi, ↓e_addAs, ↓e_addAl, ↓e_addAt, ↓e_addAo, ↓e_mulAi, ↓e_mulAl, ↓e_mulAt, ↓e_mulAo, e_forN, e_forC, ↓e_iZipA, ↓zipAW_l, ↓zipAW_t, ↓zipAW_w, ↓zipAW_m, ↓e_truO, ↓e_wParO, ↓e_par3, ↓e_par3W, ↓e_eqLl, ↓e_neLl, e_oaN, e_oaC, F_Four___init__, T_Four___add__, F_Four___add__, IL_Four___eq__, T_Four___eq__, F_Four___eq__, T_Four___mul__, F_Four___mul__, T_Four___neg__, F_Four___neg__, T_Four___sub__, F_Four___sub__, T_Four_halves, F_Four_halves, T_Four_mirrored, F_Four_mirrored, T_Four_size, F_Four_size, M_associate, T_associate, F_associate, T_Four___bool__, F_Four___bool__, T_nearest, F_nearest, M_divide_left, T_divide_left, F_divide_left, M_common_left, M_divides_left, T_Turn_rows, F_Turn_rows, M_Turn_image, T_Turn_image, F_Turn_image, M_Turn___call__, IL_Turn___eq__, T_Turn___eq__, F_Turn___eq__, E_Turn___eq__, T_Four_content, F_Four_content, M_Four_divided, T_Four_divided, F_Four_divided, M_lowest, T_lowest, F_lowest, M_table_of, T_table_of, F_table_of, M_Turn___init__, T_Turn___init__, F_Turn___init__, M_Turn___mul__, T_Turn___mul__, F_Turn___mul__, M_Turn___neg__, T_Turn___neg__, F_Turn___neg__, M_Turn_power, M_Grain_coordinates, T_Grain_coordinates, F_Grain_coordinates, M_Grain___contains__, T_Turn_four, F_Turn_four, M_odd_four, T_odd_four, F_odd_four, T_Grain___init__, F_Grain___init__, T_Grain_turn, F_Grain_turn, T_Grain_spread, F_Grain_spread, IL_Grain___eq__, T_Grain___eq__, F_Grain___eq__, E_Grain___eq__, T_Grain_four, F_Grain_four, M_Grain_turned, T_Grain_turned, F_Grain_turned, M_relative, T_relative, F_relative, T_spread, F_spread, M_midst, T_midst, F_midst, List.reduceReplicate, List.flatten_cons, List.flatten_nil, List.append_nil, decide_true, decide_false, Bool.not_true, Bool.not_false, List.length_cons, List.length_nil, List.getElem?_cons_zero, List.getElem?_cons_succ, List.set_cons_zero, List.set_cons_succ, true_and, and_true, ne_eq, not_false_eq_true, not_true_eq_false, Nat.zero_add, reduceCtorEq, Mn.nm.injEq, and_self, and_false, false_and, Bool.true_or, Bool.or_true, Bool.or_false, Bool.false_or, Bool.and_self, Bool.and_true, Bool.true_and, Bool.and_false, Bool.false_and, List.nil_append, List.cons_append, Option.map_some, List.sum_cons, List.sum_nil, if_true, if_false, ↓reduceIte, beq_self_eq_true, eq_self, Nat.reduceAdd, Nat.reduceMul, Nat.reduceSub, Nat.reduceLT, Nat.reduceLeDiff, Nat.reduceEqDiff, Int.reduceAdd, Int.reduceMul, Int.reduceSub, Int.reduceNeg, Int.reducePow, Int.reduceLT, Int.reduceLE, Int.reduceEq, Int.reduceNe, Int.reduceToNat, Nat.reducePow])
local macro_rules | `(tactic| one_place) => `(tactic| first | ((with_reducible assumption)) | ((with_reducible apply Sm.mul (hm := Nat.le_refl _)); (focus one_place); (focus one_place)) | ((with_reducible apply Sm.add (hm := Nat.le_refl _)); (focus one_place); (focus one_place)) | ((with_reducible apply Sm.sub (hm := Nat.le_refl _)); (focus one_place); (focus one_place)) | ((with_reducible apply Sm.neg); one_place) | ((with_reducible apply Sm.bar); one_place) | ((with_reducible apply Sm.bwhole (hm := Nat.le_refl _)); (focus leaf_len)))
local macro_rules | `(tactic| leaf_len) => `(tactic| first | ((with_reducible assumption)) | exact bLit (by decide) | ((with_reducible apply Sm.bN); (focus one_place)) | ((with_reducible apply bMul (hm := Nat.le_refl _)); (focus leaf_len); (focus leaf_len)) | ((with_reducible apply bAdd (hm := Nat.le_refl _)); (focus leaf_len); (focus leaf_len)) | ((with_reducible apply bSub (hm := Nat.le_refl _)); (focus leaf_len); (focus leaf_len)) | ((with_reducible apply bNeg); leaf_len) | ((with_reducible apply bFdiv); (focus omega); leaf_len) | ((with_reducible apply bDiv); leaf_len) | ((with_reducible apply bMod); (focus leaf_len); omega) | ((with_reducible apply Sm.ba); one_place) | ((with_reducible apply Sm.bb); one_place) | ((with_reducible apply Sm.bc); one_place) | ((with_reducible apply Sm.bd); one_place))
local macro_rules | `(tactic| one_item) => `(tactic| first | ((with_reducible apply mulBt); (focus leaf_len); (focus leaf_len); (focus decide); (focus decide)) | ((with_reducible exact dv2)) | ((with_reducible apply divB); (focus omega); (focus leaf_len); (focus decide)) | exact ⟨rfl, rfl, by simp [D.dep, D.deps], by simp [D.dep, D.deps]⟩)
local macro_rules | `(tactic| w_left) => `(tactic| repeat ((with_reducible refine And.intro ?_ ?_); (focus one_item)))
open HQ HQ.Hur
local macro_rules | `(tactic| x_go) => `(tactic| first | (with_reducible refine callW_i (bool_ok ?_)) | (with_reducible refine callW_i (add_ok ?_)) | (with_reducible refine callW_i (sub_ok ?_)) | (with_reducible refine callW_i (neg_ok ?_)) | (with_reducible refine callW_i (halves_ok ?_)) | (with_reducible refine callW_i (mirrored_ok ?_)) | (with_reducible refine callW_i (eq_ok ?_)) | (with_reducible refine callW_i (mul_ok (by one_place) (by one_place) (by decide) (by decide) ?_)) | (with_reducible refine callW_i (size_ok (by one_place) (by decide) ?_)) | (with_reducible refine callW_i (whole_ok (by leaf_len) (by decide) ?_)) | (with_reducible refine callW_i (law_four_ok ?_)) | (with_reducible refine callW_i (law_back_ok ?_)) | (with_reducible refine callW_i (law_times_ok (by one_place) (by one_place) (by decide) (by decide) ?_)) | (with_reducible refine callW_i (law_size_ok (by one_place) (by decide) ?_)))
local macro_rules | `(tactic| z_go) => `(tactic| (f_lean; repeat (first | x_go | ((with_reducible refine And.intro ?_ ?_); (focus one_item))) <;> f_lean))
theorem lexLt_lt4 (p q : Hur) : HT.lexLt [p.a, p.b, p.c, p.d] [q.a, q.b, q.c, q.d] = lt4 p q := by
  have key : ∀ (x y : Int) (b : Bool), (if x = y then b else decide (x < y)) = (decide (x < y) || (decide (x = y) && b)) := fun x y b => by
    by_cases h : x = y
    · subst h; simp
    · simp [h]
  simp only [HT.lexLt_cons, HT.lexLt_nil_nil, lt4, key]
  simp
theorem bool_ok {p : Hur} {st : Store} {Q : QE} {R : XQ} (k : Q (.bl (decide (p ≠ zero))) st) : p_Four___bool__ [fob p] st Q R := by
  refine i_Four___bool__ ?_
  unfold w_Four___bool__
  f_lean
  have e : ([decide ¬p.a = 0, decide ¬p.b = 0, decide ¬p.c = 0, decide ¬p.d = 0].any id) = decide (p ≠ zero) := by
    have this : p = zero ↔ p.a = 0 ∧ p.b = 0 ∧ p.c = 0 ∧ p.d = 0 := Hur.ext_iff
    by_cases h : p = zero
    · rw [decide_eq_false (not_not_intro h)]
      obtain ⟨h1, h2, h3, h4⟩ := this.mp h
      simp [h1, h2, h3, h4]
    · rw [decide_eq_true h]
      have := mt this.mpr h
      simp only [List.any_cons, id, List.any_nil, Bool.or_false, Bool.or_eq_true, decide_eq_true_eq]
      omega
  rw [e]; exact k
theorem assoc_ok {p : Hur} {st : Store} {Q : QE} {R : XQ} {l : Nat} (h : Sm p l) (hl : l ≤ 400000) (k : Q (fob (assoc p)) st) : p_associate [fob p] st Q R := by
  refine i_associate ?_
  unfold w_associate
  f_lean
  refine callW_i (fourUnits_ok ?_)
  f_lean
  refine forW_i (fun i e s => ∃ (z1 z2 : Slot), e = [.val (fob p), .val (fob (best p (((Hur.units).take i).map (p * ·)))), z1, z2] ∧ s = st ∧ i ≤ Hur.units.length) ⟨_, _, rfl, rfl, Nat.zero_le _⟩ ?_ ?_
  · rintro i d _ _ hd ⟨z1, z2, rfl, rfl, hi⟩ K hK
    rw [List.getElem?_map, Option.map_eq_some_iff] at hd
    obtain ⟨u, hu, rfl⟩ := hd
    have hlt := (List.getElem?_eq_some_iff.mp hu).1
    have su : Sm u 2 := by
      obtain ⟨h1, h2, h3, h4⟩ := unit_small (mem_units.mp (List.mem_of_getElem? hu))
      exact ⟨by omega, by omega, by omega, by omega⟩
    have e : best p ((Hur.units.take (i + 1)).map (p * ·)) = if lt4 (best p ((Hur.units.take i).map (p * ·))) (p * u) then p * u else best p ((Hur.units.take i).map (p * ·)) := by
      rw [List.take_add_one, hu]
      simp [best, List.foldl_append]
    f_lean
    refine callW_i (mul_ok h su hl (by decide) ?_)
    f_lean
    refine callW_i (halves_ok ?_)
    f_lean
    refine callW_i (halves_ok ?_)
    f_lean
    rw [lexLt_lt4]
    refine iteW_i (fun hb => ?_) (fun hb => ?_)
    · f_lean
      refine hK _ _ ⟨.val (fob u), .val (fob (p * u)), ?_, rfl, hlt⟩
      rw [e, if_pos hb]
    · f_lean
      refine hK _ _ ⟨.val (fob u), .val (fob (p * u)), ?_, rfl, hlt⟩
      rw [e, if_neg (by rw [hb]; decide)]
  · rintro _ _ ⟨z1, z2, rfl, rfl, hi⟩
    f_lean
    rw [List.length_map, List.take_length]
    exact k
end LK
namespace LK
open PySem PySem.Spec PyProof.Rows L2 G
local macro_rules | `(tactic| f_lean) => `(tactic| simp (config := { dsimp := false, failIfUnchanged := false, implicitDefEqProofs := false }) only [↓e_wNext, ↓e_wBin, ↓e_wUn, ↓e_wArgs, ↓e_wC, ↓e_waNil, ↓e_waCons, ↓e_wTup, ↓e_wLst, ↓e_wCell, ↓e_wNotT, ↓e_wIsN, ↓e_wNotN, ↓e_wTru, ↓e_wSl, ↓e_woNone, ↓e_wSet, ↓e_wRet, ↓e_wRetN, ↓e_wExpr, ↓e_wFrz, ↓e_wBrk, ↓e_wCnt, ↓e_wAsg, ↓e_wgName, ↓e_wOwn, ↓seqK_nx, ↓seqK_rt, ↓seqK_bk, ↓seqK_ct, ↓seqK_ex, ↓loopK_nx, ↓loopK_rt, ↓loopK_bk, ↓loopK_ct, ↓loopK_ex, ↓e_wSeq, iteW_t, iteW_f, ↓e_wCall, ↓e_wIfS, ↓e_wIf, ↓e_wAndT, ↓e_wOrT, ↓e_wFor, ↓e_wWhile, ↓e_wLc, ↓blW_b, ↓e_wBool, ↓e_wAnd, ↓e_wOr, ↓e_wNot, ↓e_wChain, ↓e_var0, ↓e_varS, ↓e_varB0, ↓e_varB1, ↓e_varBS, e_set0, e_setS, ↓e_add, ↓e_addS, ↓e_addL, ↓e_addO, ↓e_sub, ↓e_subO, ↓e_mul, ↓e_mulL, ↓e_mulO, ↓e_fdiv, ↓e_mod, ↓e_pow, ↓e_lt, ↓e_le, ↓e_gt, ↓e_ge, ↓e_neg, ↓e_negO, ↓e_eqI, ↓e_neI, ↓e_eqB, ↓e_neB, ↓e_eqS, ↓e_neS, getW_s, ↓e_ixL, ↓e_ixT, celW_s, ↓e_ixC, atI_0, atI_1, atI_2, atI_3, ixN_10, ixN_20, ixN_21, ixN_30, ixN_31, ixN_32, ixN_40, ixN_41, ixN_42, ixN_43, ixN_l0, ↓e_lenL, ↓e_lenT, ↓e_lenS, ↓e_abs, ↓e_intI, ↓e_intB, ↓e_listL, ↓e_listT, ↓e_tupleL, ↓e_tupleT, ↓e_slL, ↓intW_i, ↓e_woSome, ↓e_slR, ↓e_par, ↓e_parW, ↓e_gTup, ↓e_gTupL, ↓e_gsNil, ↓e_gsCons, ↓e_iLst, ↓lstW_i, ↓e_iTup, ↓tupW_i, ↓e_iR1, ↓r1W_i, ↓e_iR2, ↓r2W_i, ↓e_iZip, ↓zipW_l, ↓zipW_t, ↓e_put, e_putO, e_putC, natW_s, ↓e_aug, e_augV, ↓e_app, e_appV, ↓e_addI, ↓e_addIS, ↓e_subI, ↓e_mulI, ↓e_fdivI, e_frzN, e_frzO, e_frzV, e_frzX, e_frzS, e_frzC, ↓e_all, ↓e_any, ↓e_sum, blsW_s, intsW_s, ↓e_truN, ↓e_truB, ↓e_truI, ↓e_truL, ↓e_truT, ↓e_isiT, ↓e_isiC, ↓e_isiY, bo1W_s, isi_ii, isi_is, isi_ib, isi_it, isi_il, isi_bi, isi_bs, isi_bb, isi_bt, isi_bll, isi_ni, isi_ns, isi_nb, isi_nt, isi_nl, isi_si, isi_ss, isi_sb, isi_st, isi_sl, isi_ti, isi_ts, isi_tb, isi_tt, isi_tl, isi_li, isi_ls, isi_lb, isi_lt, isi_ll, isi_ds0, isi_dsT, isi_isI, isi_isS, isi_isB, isi_isN, isi_isT, isi_isL, ixZ_0, ixZ_1, ixZ_2, ixZ_3, ixZ_4, ixZ_5, ixZ_6, ixZ_7, ixZ_8, ixZ_9, ixZ_10, ixZ_11, ixZ_12, ixZ_13, ixZ_14, ixZ_15, ixZ_16, bo2_s, isi_dsF, ↓e_nonN, ↓e_nonI, ↓e_nonB, ↓e_nonS, ↓e_nonT, ↓e_nonL, ↓e_nonO, ↓fnW_rt, ↓fnW_nx, ↓fnW_ex, ↓e_wipe0, ↓e_wipe1, ↓e_wYes, mW_s, ↓e_callM, attW_p, attW_f, ↓e_attO, insW_s, ↓e_attC, e_getC, e_getN, e_putC', e_putN, ↓e_wMeth, ↓e_clsO, ↓e_clsC, mthW_s, mthZW_s, ownW_s, ↓e_eqOO, ↓e_neOO, ↓e_eqOI, ↓e_neOI, ↓e_eqOT, ↓e_neOT, ↓e_eqOL, ↓e_neOL, ↓e_eqTT, ↓e_neTT, ↓e_eqLL, ↓e_neLL, ↓e_wMk, ↓sqW_t, ↓sqW_l, ↓e_wMkS, ↓fldW_c, ↓e_wFld, st_last, st_setL, ↓e_wLenIs, e_addT, e_addF, e_addM, e_addE, e_F0, e_P0, e_T0, e_M0, e_lcN, e_lcC, e_zipC, e_zipN, e_intsN, e_intsC, e_blsN, e_blsC, e_ltz0, e_ltz1, e_ltz2, e_ltz3, e_ltz4, e_ltz5, e_ltz6, e_ltz7, e_ltz8, e_ltz9, e_ltz10, e_ltz11, e_ltz12, e_ltz13, e_ltz14, e_ltz15, e_ltz16, e_ltz17, e_ltz18, e_ltz19, e_ltz20, e_ltz21, e_ltz22, e_ltz23, e_ltz24, e_cst0, e_cst1, e_cst2, e_cst3, e_cst4, e_cst5, e_cst6, e_cst7, e_cst8, e_cst9, e_cst10, e_cst11, e_cst12, e_cst13, e_cst14, e_cst15, e_cst16, e_cst17, e_cst18, e_cst19, e_cst20, e_cst21, e_cst22, e_cst23, e_cst24, ↓e_wiSeq, ↓e_ext, e_extO, ↓gfldW_c, ↓e_wgFld, ↓e_wLcN, e_tskN, e_tskC, e_lpN, e_lpC, calW_s, ↓obW_o, ↓e_wCal, ↓e_srt, ↓e_max, max_2, ↓e_min, min_2, optW_s, ↓e_gtA, ↓e_ltA, ↓e_gtT, ↓e_ltT, lexD_4, ↓e_inL, ↓e_inT, ↓e_inO, ↓e_isBB, bneF, bneT, e_isiOb, e_isiIc, e_isiTc, e_isOf, ↓e_addAi, ↓e_addAs, ↓e_addAl, ↓e_addAt, ↓e_addAo, ↓e_mulAi, ↓e_mulAl, ↓e_mulAt, ↓e_mulAo, e_forN, e_forC, ↓e_iZipA, ↓zipAW_l, ↓zipAW_t, ↓zipAW_w, ↓zipAW_m, ↓e_truO, ↓e_wParO, ↓e_par3, ↓e_par3W, ↓e_eqLl, ↓e_neLl, e_oaN, e_oaC, F_Four___init__, T_Four___add__, F_Four___add__, IL_Four___eq__, T_Four___eq__, F_Four___eq__, T_Four___mul__, F_Four___mul__, T_Four___neg__, F_Four___neg__, T_Four___sub__, F_Four___sub__, T_Four_halves, F_Four_halves, T_Four_mirrored, F_Four_mirrored, T_Four_size, F_Four_size, M_associate, T_associate, F_associate, T_Four___bool__, F_Four___bool__, T_nearest, F_nearest, M_divide_left, T_divide_left, F_divide_left, M_common_left, M_divides_left, T_Turn_rows, F_Turn_rows, M_Turn_image, T_Turn_image, F_Turn_image, M_Turn___call__, IL_Turn___eq__, T_Turn___eq__, F_Turn___eq__, E_Turn___eq__, T_Four_content, F_Four_content, M_Four_divided, T_Four_divided, F_Four_divided, M_lowest, T_lowest, F_lowest, M_table_of, T_table_of, F_table_of, M_Turn___init__, T_Turn___init__, F_Turn___init__, M_Turn___mul__, T_Turn___mul__, F_Turn___mul__, M_Turn___neg__, T_Turn___neg__, F_Turn___neg__, M_Turn_power, M_Grain_coordinates, T_Grain_coordinates, F_Grain_coordinates, M_Grain___contains__, T_Turn_four, F_Turn_four, M_odd_four, T_odd_four, F_odd_four, T_Grain___init__, F_Grain___init__, T_Grain_turn, F_Grain_turn, T_Grain_spread, F_Grain_spread, IL_Grain___eq__, T_Grain___eq__, F_Grain___eq__, E_Grain___eq__, T_Grain_four, F_Grain_four, M_Grain_turned, T_Grain_turned, F_Grain_turned, M_relative, T_relative, F_relative, T_spread, F_spread, M_midst, T_midst, F_midst, List.reduceReplicate, List.flatten_cons, List.flatten_nil, List.append_nil, decide_true, decide_false, Bool.not_true, Bool.not_false, List.length_cons, List.length_nil, List.getElem?_cons_zero, List.getElem?_cons_succ, List.set_cons_zero, List.set_cons_succ, true_and, and_true, ne_eq, not_false_eq_true, not_true_eq_false, Nat.zero_add, reduceCtorEq, Mn.nm.injEq, and_self, and_false, false_and, Bool.true_or, Bool.or_true, Bool.or_false, Bool.false_or, Bool.and_self, Bool.and_true, Bool.true_and, Bool.and_false, Bool.false_and, List.nil_append, List.cons_append, Option.map_some, List.sum_cons, List.sum_nil, if_true, if_false, ↓reduceIte, beq_self_eq_true, eq_self, Nat.reduceAdd, Nat.reduceMul, Nat.reduceSub, Nat.reduceLT, Nat.reduceLeDiff, Nat.reduceEqDiff, Int.reduceAdd, Int.reduceMul, Int.reduceSub, Int.reduceNeg, Int.reducePow, Int.reduceLT, Int.reduceLE, Int.reduceEq, Int.reduceNe, Int.reduceToNat, Nat.reducePow])
local macro_rules | `(tactic| one_place) => `(tactic| first | ((with_reducible assumption)) | ((with_reducible apply Sm.mul (hm := Nat.le_refl _)); (focus one_place); (focus one_place)) | ((with_reducible apply Sm.add (hm := Nat.le_refl _)); (focus one_place); (focus one_place)) | ((with_reducible apply Sm.sub (hm := Nat.le_refl _)); (focus one_place); (focus one_place)) | ((with_reducible apply Sm.neg); one_place) | ((with_reducible apply Sm.bar); one_place) | ((with_reducible apply Sm.bwhole (hm := Nat.le_refl _)); (focus leaf_len)))
local macro_rules | `(tactic| leaf_len) => `(tactic| first | ((with_reducible assumption)) | exact bLit (by decide) | ((with_reducible apply Sm.bN); (focus one_place)) | ((with_reducible apply bMul (hm := Nat.le_refl _)); (focus leaf_len); (focus leaf_len)) | ((with_reducible apply bAdd (hm := Nat.le_refl _)); (focus leaf_len); (focus leaf_len)) | ((with_reducible apply bSub (hm := Nat.le_refl _)); (focus leaf_len); (focus leaf_len)) | ((with_reducible apply bNeg); leaf_len) | ((with_reducible apply bFdiv); (focus omega); leaf_len) | ((with_reducible apply bDiv); leaf_len) | ((with_reducible apply bMod); (focus leaf_len); omega) | ((with_reducible apply Sm.ba); one_place) | ((with_reducible apply Sm.bb); one_place) | ((with_reducible apply Sm.bc); one_place) | ((with_reducible apply Sm.bd); one_place))
local macro_rules | `(tactic| one_item) => `(tactic| first | ((with_reducible apply mulBt); (focus leaf_len); (focus leaf_len); (focus decide); (focus decide)) | ((with_reducible exact dv2)) | ((with_reducible apply divB); (focus omega); (focus leaf_len); (focus decide)) | exact ⟨rfl, rfl, by simp [D.dep, D.deps], by simp [D.dep, D.deps]⟩)
local macro_rules | `(tactic| w_left) => `(tactic| repeat ((with_reducible refine And.intro ?_ ?_); (focus one_item)))
open HQ HQ.Hur
local macro_rules | `(tactic| x_go) => `(tactic| first | (with_reducible refine callW_i (bool_ok ?_)) | (with_reducible refine callW_i (add_ok ?_)) | (with_reducible refine callW_i (sub_ok ?_)) | (with_reducible refine callW_i (neg_ok ?_)) | (with_reducible refine callW_i (halves_ok ?_)) | (with_reducible refine callW_i (mirrored_ok ?_)) | (with_reducible refine callW_i (eq_ok ?_)) | (with_reducible refine callW_i (mul_ok (by one_place) (by one_place) (by decide) (by decide) ?_)) | (with_reducible refine callW_i (size_ok (by one_place) (by decide) ?_)) | (with_reducible refine callW_i (whole_ok (by leaf_len) (by decide) ?_)) | (with_reducible refine callW_i (law_four_ok ?_)) | (with_reducible refine callW_i (law_back_ok ?_)) | (with_reducible refine callW_i (law_times_ok (by one_place) (by one_place) (by decide) (by decide) ?_)) | (with_reducible refine callW_i (law_size_ok (by one_place) (by decide) ?_)))
local macro_rules | `(tactic| z_go) => `(tactic| (f_lean; repeat (first | x_go | ((with_reducible refine And.intro ?_ ?_); (focus one_item))) <;> f_lean))
theorem sq_lt {x : Int} {k : Nat} (h : (x * x).natAbs < 2 ^ (k + k)) : x.natAbs < 2 ^ k := by
  rcases Nat.lt_or_ge x.natAbs (2 ^ k) with g | g
  · exact g
  · rw [Int.natAbs_mul, Nat.pow_add] at h
    exact absurd (Nat.mul_le_mul g g) (by omega)
/-- a bound of the size bounds the halves -/
theorem Sm.ofN {p : Hur} {k : Nat} (h : (Hur.N p).natAbs < 2 ^ (k + k)) : Sm p (k + 1) := by
  have e := four_N p
  have e2 : 2 ^ (k + 1 + (k + 1)) = 4 * 2 ^ (k + k) := by rw [show k + 1 + (k + 1) = k + k + 2 by omega, Nat.pow_add]; omega
  have ha : 0 ≤ p.a * p.a := sq_nonneg _; have hb : 0 ≤ p.b * p.b := sq_nonneg _; have hc : 0 ≤ p.c * p.c := sq_nonneg _; have hd : 0 ≤ p.d * p.d := sq_nonneg _
  exact ⟨sq_lt (by rw [e2]; omega), sq_lt (by rw [e2]; omega), sq_lt (by rw [e2]; omega), sq_lt (by rw [e2]; omega)⟩
theorem Sm.ofBt {p : Hur} {k m : Nat} (h : Bt (Hur.N p) (k + k)) (hm : k + 1 ≤ m) : Sm p m := (Sm.ofN h.h).mono hm
theorem Bt.lt {x y : Int} {k : Nat} (h : Bt y k) (h0 : 0 ≤ x) (h1 : x < y) : Bt x k := ⟨Nat.lt_of_le_of_lt (by omega) h.h⟩
end LK
namespace LK
open PySem PySem.Spec PyProof.Rows L2 G
local macro_rules | `(tactic| f_lean) => `(tactic| simp (config := { dsimp := false, failIfUnchanged := false, implicitDefEqProofs := false }) only [↓e_wNext, ↓e_wBin, ↓e_wUn, ↓e_wArgs, ↓e_wC, ↓e_waNil, ↓e_waCons, ↓e_wTup, ↓e_wLst, ↓e_wCell, ↓e_wNotT, ↓e_wIsN, ↓e_wNotN, ↓e_wTru, ↓e_wSl, ↓e_woNone, ↓e_wSet, ↓e_wRet, ↓e_wRetN, ↓e_wExpr, ↓e_wFrz, ↓e_wBrk, ↓e_wCnt, ↓e_wAsg, ↓e_wgName, ↓e_wOwn, ↓seqK_nx, ↓seqK_rt, ↓seqK_bk, ↓seqK_ct, ↓seqK_ex, ↓loopK_nx, ↓loopK_rt, ↓loopK_bk, ↓loopK_ct, ↓loopK_ex, ↓e_wSeq, iteW_t, iteW_f, ↓e_wCall, ↓e_wIfS, ↓e_wIf, ↓e_wAndT, ↓e_wOrT, ↓e_wFor, ↓e_wWhile, ↓e_wLc, ↓blW_b, ↓e_wBool, ↓e_wAnd, ↓e_wOr, ↓e_wNot, ↓e_wChain, ↓e_var0, ↓e_varS, ↓e_varB0, ↓e_varB1, ↓e_varBS, e_set0, e_setS, ↓e_add, ↓e_addS, ↓e_addL, ↓e_addO, ↓e_sub, ↓e_subO, ↓e_mul, ↓e_mulL, ↓e_mulO, ↓e_fdiv, ↓e_mod, ↓e_pow, ↓e_lt, ↓e_le, ↓e_gt, ↓e_ge, ↓e_neg, ↓e_negO, ↓e_eqI, ↓e_neI, ↓e_eqB, ↓e_neB, ↓e_eqS, ↓e_neS, getW_s, ↓e_ixL, ↓e_ixT, celW_s, ↓e_ixC, atI_0, atI_1, atI_2, atI_3, ixN_10, ixN_20, ixN_21, ixN_30, ixN_31, ixN_32, ixN_40, ixN_41, ixN_42, ixN_43, ixN_l0, ↓e_lenL, ↓e_lenT, ↓e_lenS, ↓e_abs, ↓e_intI, ↓e_intB, ↓e_listL, ↓e_listT, ↓e_tupleL, ↓e_tupleT, ↓e_slL, ↓intW_i, ↓e_woSome, ↓e_slR, ↓e_par, ↓e_parW, ↓e_gTup, ↓e_gTupL, ↓e_gsNil, ↓e_gsCons, ↓e_iLst, ↓lstW_i, ↓e_iTup, ↓tupW_i, ↓e_iR1, ↓r1W_i, ↓e_iR2, ↓r2W_i, ↓e_iZip, ↓zipW_l, ↓zipW_t, ↓e_put, e_putO, e_putC, natW_s, ↓e_aug, e_augV, ↓e_app, e_appV, ↓e_addI, ↓e_addIS, ↓e_subI, ↓e_mulI, ↓e_fdivI, e_frzN, e_frzO, e_frzV, e_frzX, e_frzS, e_frzC, ↓e_all, ↓e_any, ↓e_sum, blsW_s, intsW_s, ↓e_truN, ↓e_truB, ↓e_truI, ↓e_truL, ↓e_truT, ↓e_isiT, ↓e_isiC, ↓e_isiY, bo1W_s, isi_ii, isi_is, isi_ib, isi_it, isi_il, isi_bi, isi_bs, isi_bb, isi_bt, isi_bll, isi_ni, isi_ns, isi_nb, isi_nt, isi_nl, isi_si, isi_ss, isi_sb, isi_st, isi_sl, isi_ti, isi_ts, isi_tb, isi_tt, isi_tl, isi_li, isi_ls, isi_lb, isi_lt, isi_ll, isi_ds0, isi_dsT, isi_isI, isi_isS, isi_isB, isi_isN, isi_isT, isi_isL, ixZ_0, ixZ_1, ixZ_2, ixZ_3, ixZ_4, ixZ_5, ixZ_6, ixZ_7, ixZ_8, ixZ_9, ixZ_10, ixZ_11, ixZ_12, ixZ_13, ixZ_14, ixZ_15, ixZ_16, bo2_s, isi_dsF, ↓e_nonN, ↓e_nonI, ↓e_nonB, ↓e_nonS, ↓e_nonT, ↓e_nonL, ↓e_nonO, ↓fnW_rt, ↓fnW_nx, ↓fnW_ex, ↓e_wipe0, ↓e_wipe1, ↓e_wYes, mW_s, ↓e_callM, attW_p, attW_f, ↓e_attO, insW_s, ↓e_attC, e_getC, e_getN, e_putC', e_putN, ↓e_wMeth, ↓e_clsO, ↓e_clsC, mthW_s, mthZW_s, ownW_s, ↓e_eqOO, ↓e_neOO, ↓e_eqOI, ↓e_neOI, ↓e_eqOT, ↓e_neOT, ↓e_eqOL, ↓e_neOL, ↓e_eqTT, ↓e_neTT, ↓e_eqLL, ↓e_neLL, ↓e_wMk, ↓sqW_t, ↓sqW_l, ↓e_wMkS, ↓fldW_c, ↓e_wFld, st_last, st_setL, ↓e_wLenIs, e_addT, e_addF, e_addM, e_addE, e_F0, e_P0, e_T0, e_M0, e_lcN, e_lcC, e_zipC, e_zipN, e_intsN, e_intsC, e_blsN, e_blsC, e_ltz0, e_ltz1, e_ltz2, e_ltz3, e_ltz4, e_ltz5, e_ltz6, e_ltz7, e_ltz8, e_ltz9, e_ltz10, e_ltz11, e_ltz12, e_ltz13, e_ltz14, e_ltz15, e_ltz16, e_ltz17, e_ltz18, e_ltz19, e_ltz20, e_ltz21, e_ltz22, e_ltz23, e_ltz24, e_cst0, e_cst1, e_cst2, e_cst3, e_cst4, e_cst5, e_cst6, e_cst7, e_cst8, e_cst9, e_cst10, e_cst11, e_cst12, e_cst13, e_cst14, e_cst15, e_cst16, e_cst17, e_cst18, e_cst19, e_cst20, e_cst21, e_cst22, e_cst23, e_cst24, ↓e_wiSeq, ↓e_ext, e_extO, ↓gfldW_c, ↓e_wgFld, ↓e_wLcN, e_tskN, e_tskC, e_lpN, e_lpC, calW_s, ↓obW_o, ↓e_wCal, ↓e_srt, ↓e_max, max_2, ↓e_min, min_2, optW_s, ↓e_gtA, ↓e_ltA, ↓e_gtT, ↓e_ltT, lexD_4, ↓e_inL, ↓e_inT, ↓e_inO, ↓e_isBB, bneF, bneT, e_isiOb, e_isiIc, e_isiTc, e_isOf, ↓e_addAi, ↓e_addAs, ↓e_addAl, ↓e_addAt, ↓e_addAo, ↓e_mulAi, ↓e_mulAl, ↓e_mulAt, ↓e_mulAo, e_forN, e_forC, ↓e_iZipA, ↓zipAW_l, ↓zipAW_t, ↓zipAW_w, ↓zipAW_m, ↓e_truO, ↓e_wParO, ↓e_par3, ↓e_par3W, ↓e_eqLl, ↓e_neLl, e_oaN, e_oaC, F_Four___init__, T_Four___add__, F_Four___add__, IL_Four___eq__, T_Four___eq__, F_Four___eq__, T_Four___mul__, F_Four___mul__, T_Four___neg__, F_Four___neg__, T_Four___sub__, F_Four___sub__, T_Four_halves, F_Four_halves, T_Four_mirrored, F_Four_mirrored, T_Four_size, F_Four_size, M_associate, T_associate, F_associate, T_Four___bool__, F_Four___bool__, T_nearest, F_nearest, M_divide_left, T_divide_left, F_divide_left, M_common_left, M_divides_left, T_Turn_rows, F_Turn_rows, M_Turn_image, T_Turn_image, F_Turn_image, M_Turn___call__, IL_Turn___eq__, T_Turn___eq__, F_Turn___eq__, E_Turn___eq__, T_Four_content, F_Four_content, M_Four_divided, T_Four_divided, F_Four_divided, M_lowest, T_lowest, F_lowest, M_table_of, T_table_of, F_table_of, M_Turn___init__, T_Turn___init__, F_Turn___init__, M_Turn___mul__, T_Turn___mul__, F_Turn___mul__, M_Turn___neg__, T_Turn___neg__, F_Turn___neg__, M_Turn_power, M_Grain_coordinates, T_Grain_coordinates, F_Grain_coordinates, M_Grain___contains__, T_Turn_four, F_Turn_four, M_odd_four, T_odd_four, F_odd_four, T_Grain___init__, F_Grain___init__, T_Grain_turn, F_Grain_turn, T_Grain_spread, F_Grain_spread, IL_Grain___eq__, T_Grain___eq__, F_Grain___eq__, E_Grain___eq__, T_Grain_four, F_Grain_four, M_Grain_turned, T_Grain_turned, F_Grain_turned, M_relative, T_relative, F_relative, T_spread, F_spread, M_midst, T_midst, F_midst, List.reduceReplicate, List.flatten_cons, List.flatten_nil, List.append_nil, decide_true, decide_false, Bool.not_true, Bool.not_false, List.length_cons, List.length_nil, List.getElem?_cons_zero, List.getElem?_cons_succ, List.set_cons_zero, List.set_cons_succ, true_and, and_true, ne_eq, not_false_eq_true, not_true_eq_false, Nat.zero_add, reduceCtorEq, Mn.nm.injEq, and_self, and_false, false_and, Bool.true_or, Bool.or_true, Bool.or_false, Bool.false_or, Bool.and_self, Bool.and_true, Bool.true_and, Bool.and_false, Bool.false_and, List.nil_append, List.cons_append, Option.map_some, List.sum_cons, List.sum_nil, if_true, if_false, ↓reduceIte, beq_self_eq_true, eq_self, Nat.reduceAdd, Nat.reduceMul, Nat.reduceSub, Nat.reduceLT, Nat.reduceLeDiff, Nat.reduceEqDiff, Int.reduceAdd, Int.reduceMul, Int.reduceSub, Int.reduceNeg, Int.reducePow, Int.reduceLT, Int.reduceLE, Int.reduceEq, Int.reduceNe, Int.reduceToNat, Nat.reducePow])
local macro_rules | `(tactic| one_place) => `(tactic| first | ((with_reducible assumption)) | ((with_reducible apply Sm.mul (hm := Nat.le_refl _)); (focus one_place); (focus one_place)) | ((with_reducible apply Sm.add (hm := Nat.le_refl _)); (focus one_place); (focus one_place)) | ((with_reducible apply Sm.sub (hm := Nat.le_refl _)); (focus one_place); (focus one_place)) | ((with_reducible apply Sm.neg); one_place) | ((with_reducible apply Sm.bar); one_place) | ((with_reducible apply Sm.bwhole (hm := Nat.le_refl _)); (focus leaf_len)))
local macro_rules | `(tactic| leaf_len) => `(tactic| first | ((with_reducible assumption)) | exact bLit (by decide) | ((with_reducible apply Sm.bN); (focus one_place)) | ((with_reducible apply bMul (hm := Nat.le_refl _)); (focus leaf_len); (focus leaf_len)) | ((with_reducible apply bAdd (hm := Nat.le_refl _)); (focus leaf_len); (focus leaf_len)) | ((with_reducible apply bSub (hm := Nat.le_refl _)); (focus leaf_len); (focus leaf_len)) | ((with_reducible apply bNeg); leaf_len) | ((with_reducible apply bFdiv); (focus omega); leaf_len) | ((with_reducible apply bDiv); leaf_len) | ((with_reducible apply bMod); (focus leaf_len); omega) | ((with_reducible apply Sm.ba); one_place) | ((with_reducible apply Sm.bb); one_place) | ((with_reducible apply Sm.bc); one_place) | ((with_reducible apply Sm.bd); one_place))
local macro_rules | `(tactic| one_item) => `(tactic| first | ((with_reducible apply mulBt); (focus leaf_len); (focus leaf_len); (focus decide); (focus decide)) | ((with_reducible exact dv2)) | ((with_reducible apply divB); (focus omega); (focus leaf_len); (focus decide)) | exact ⟨rfl, rfl, by simp [D.dep, D.deps], by simp [D.dep, D.deps]⟩)
local macro_rules | `(tactic| w_left) => `(tactic| repeat ((with_reducible refine And.intro ?_ ?_); (focus one_item)))
open HQ HQ.Hur
local macro_rules | `(tactic| x_go) => `(tactic| first | (with_reducible refine callW_i (bool_ok ?_)) | (with_reducible refine callW_i (add_ok ?_)) | (with_reducible refine callW_i (sub_ok ?_)) | (with_reducible refine callW_i (neg_ok ?_)) | (with_reducible refine callW_i (halves_ok ?_)) | (with_reducible refine callW_i (mirrored_ok ?_)) | (with_reducible refine callW_i (eq_ok ?_)) | (with_reducible refine callW_i (mul_ok (by one_place) (by one_place) (by decide) (by decide) ?_)) | (with_reducible refine callW_i (size_ok (by one_place) (by decide) ?_)) | (with_reducible refine callW_i (whole_ok (by leaf_len) (by decide) ?_)) | (with_reducible refine callW_i (law_four_ok ?_)) | (with_reducible refine callW_i (law_back_ok ?_)) | (with_reducible refine callW_i (law_times_ok (by one_place) (by one_place) (by decide) (by decide) ?_)) | (with_reducible refine callW_i (law_size_ok (by one_place) (by decide) ?_)))
local macro_rules | `(tactic| z_go) => `(tactic| (f_lean; repeat (first | x_go | ((with_reducible refine And.intro ?_ ?_); (focus one_item))) <;> f_lean))
theorem Bt.le {x y : Int} {k : Nat} (h : Bt y k) (h0 : 0 ≤ x) (h1 : x ≤ y) : Bt x k := ⟨Nat.lt_of_le_of_lt (by omega) h.h⟩
theorem law_gcd_of_ok {q : Hur} {st : Store} {Q : QE} {R : XQ} (k : Q (.int (g4 q)) st) : p__law_gcd_of [hv q] st Q R := by
  refine i__law_gcd_of ?_
  unfold w__law_gcd_of
  f_lean
  refine callW_i (gcd_ok ?_)
  f_lean
  refine callW_i (gcd_ok ?_)
  f_lean
  refine callW_i (gcd_ok ?_)
  f_lean
  refine callW_i (gcd_ok ?_)
  f_lean
  exact k
theorem ones (a b c d : Int) : eqDs [.int a, .int b, .int c, .int d] [.int 1, .int 1, .int 1, .int 1] = decide (a = 1 ∧ b = 1 ∧ c = 1 ∧ d = 1) := by
  simp only [eqDs, eqD]
  by_cases h1 : a = 1 <;> by_cases h2 : b = 1 <;> by_cases h3 : c = 1 <;> by_cases h4 : d = 1 <;> simp [h1, h2, h3, h4]
theorem g4_bt {q : Hur} {k : Nat} (h : Sm q k) (hq : q ≠ zero) : Bt (g4 q) k := by
  obtain ⟨a, b, c, d, ha, hb, hc, hd, g0, hm⟩ := g4_parts hq
  refine ⟨?_⟩
  have key : ∀ x y : Int, x = g4 q * y → x.natAbs < 2 ^ k → y ≠ 0 → (g4 q : Int).natAbs < 2 ^ k := fun x y e l n => by
    rw [e, Int.natAbs_mul] at l
    exact Nat.lt_of_le_of_lt (Nat.le_mul_of_pos_right _ (by omega)) l
  rcases Decidable.em (a = 0) with z | z
  · rcases Decidable.em (b = 0) with z2 | z2
    · rcases Decidable.em (c = 0) with z3 | z3
      · rcases Decidable.em (d = 0) with z4 | z4
        · subst z z2 z3 z4
          have := hm 0 (Int.dvd_refl 0) (Int.dvd_refl 0) (Int.dvd_refl 0) (Int.dvd_refl 0)
          simp at this
        · exact key _ _ hd h.d z4
      · exact key _ _ hc h.c z3
    · exact key _ _ hb h.b z2
  · exact key _ _ ha h.a z
theorem law_content_ok {q : Hur} {l : Nat} {st : Store} {Q : QE} {R : XQ} (s : Sm q l) (hl : l ≤ 8000) (k : Q (.int (cont q)) st) : p__law_content [hv q] st Q R := by
  refine i__law_content ?_
  unfold w__law_content
  f_lean
  refine callW_i (law_gcd_of_ok ?_)
  f_lean
  refine iteW_i (fun hb => ?_) (fun hb => ?_)
  · have h := of_decide_eq_true hb
    have h0 : g4 q = 0 := by omega
    unfold cont at k
    rw [if_pos h0] at k
    f_lean
    exact k
  · have h := of_decide_eq_false hb
    have h0 : ¬ g4 q = 0 := by omega
    have hp : 0 < (g4 q : Int) := by omega
    have bg := g4_bt s (fun z => h0 (g4_eq_zero.mpr z))
    unfold cont at k
    rw [if_neg h0] at k
    have dv : DivOk (g4 q : Int) := divB hp bg (by omega)
    f_lean
    simp only [fdiv_pos hp, fmod_pos (show (0 : Int) < 2 by decide)]
    refine ⟨dv, dv, dv, dv, by one_item, ?_⟩
    rw [ones]
    refine iteW_i (fun hb => ?_) (fun hb => ?_)
    · rw [if_pos (of_decide_eq_true hb)] at k
      f_lean
      exact k
    · rw [if_neg (of_decide_eq_false hb)] at k
      f_lean
      rw [fdiv_pos (by decide)]
      exact ⟨dv2, k⟩
theorem lcW_filter {α : Type} {xs : List α} {p : α → Bool} {g f : α → D} {vs : List Nat} {t : WG} {tt : WT} {we : WE} {Q : List D → Store → Prop} {env : Envr} {st : Store} {z1 z2 z3 z4} (hz : xs.length ≤ sizeLine)
    (h : ∀ x ∈ xs, ∀ (acc : List D) (K : List D → Store → Prop), acc.length < sizeLine → (p x = true → K (acc ++ [f x]) st) → (p x = false → K acc st) → t (g x) (wipeE env vs) st (fun env1 st1 => tt env1 st1 (fun b st2 => iteW b (we env1 st2 (fun y st3 => acc.length < sizeLine ∧ K (acc ++ [y]) st3) noX) (K acc st2) .mk .mk) noX))
    (q : Q ((xs.filter p).map f) st) : lcW vs t tt we Q env (xs.map g) [] st z1 z2 z3 z4 := by
  refine lcW_i (fun i acc s => i ≤ xs.length ∧ s = st ∧ acc = ((xs.take i).filter p).map f) ⟨Nat.zero_le _, rfl, rfl⟩ ?_ ?_
  · rintro i d acc s hd ⟨hi, rfl, rfl⟩ K hK
    rw [List.getElem?_map, Option.map_eq_some_iff] at hd
    obtain ⟨x, hx, rfl⟩ := hd
    have hlt := (List.getElem?_eq_some_iff.mp hx).1
    have hl : (((xs.take i).filter p).map f).length < sizeLine := by
      have := List.length_filter_le p (xs.take i)
      simp at this ⊢; omega
    refine h x (List.mem_of_getElem? hx) _ K hl (fun hp => hK _ _ ⟨hlt, rfl, ?_⟩) (fun hp => hK _ _ ⟨hlt, rfl, ?_⟩)
    · rw [List.take_add_one, hx]; simp [hp]
    · rw [List.take_add_one, hx]; simp [hp]
  · rintro acc s ⟨_, rfl, rfl⟩
    rw [List.length_map, List.take_length]
    exact q
theorem lowest_gen {vs : List Int} {c f : Int} {tl : List Int} {st : Store} {Q : QE} {R : XQ} (hl : vs.length ≤ 60) (hd : DivOk c) (hc : ∀ (Q' : QE) (R' : XQ), Q' (.int c) st → p__law_content [.tup (vs.map D.int)] st Q' R')
    (hf : (vs.map (Int.fdiv · c)).filter (fun x => decide (¬ x = 0)) = f :: tl) (k : Q (.tup (vs.map fun v => D.int (if 0 < f then v.fdiv c else -(v.fdiv c)))) st) : p__law_lowest [.tup (vs.map D.int)] st Q R := by
  have hs : vs.length ≤ sizeLine := Nat.le_trans hl (by decide)
  refine i__law_lowest ?_
  unfold w__law_lowest
  f_lean
  refine callW_i (hc _ _ ?_)
  f_lean
  refine lcW_map (f := fun v => D.int (v.fdiv c)) hs (fun v hv acc K ha hK => ?_) ?_
  · f_lean
    exact ⟨hd, ha, hK⟩
  rw [show (vs.map fun v => D.int (v.fdiv c)) = (vs.map (Int.fdiv · c)).map D.int by rw [List.map_map]; rfl]
  generalize hw : vs.map (Int.fdiv · c) = ws at hf ⊢
  have hws : ws.length ≤ sizeLine := by rw [← hw, List.length_map]; exact hs
  f_lean
  refine lcW_filter (p := fun x => decide (¬ x = 0)) (f := D.int) hws (fun v hv acc K ha h1 h2 => ?_) ?_
  · f_lean
    refine iteW_i (fun hb => ?_) (fun hb => ?_)
    · f_lean
      exact ⟨ha, h1 (by simpa using hb)⟩
    · f_lean
      exact h2 (by simpa using hb)
  rw [hf, List.map_cons]
  f_lean
  refine lcW_map (f := fun v => D.int (if 0 < f then v else -v)) hws (fun v hv acc K ha hK => ?_) ?_
  · f_lean
    refine iteW_i (fun hb => ?_) (fun hb => ?_)
    · rw [if_pos (of_decide_eq_true hb)] at hK
      f_lean
      exact ⟨ha, hK⟩
    · rw [if_neg (of_decide_eq_false hb)] at hK
      f_lean
      exact ⟨ha, hK⟩
  f_lean
  rw [← hw, List.map_map]
  exact k
theorem lead_filter {r : Hur} (h : r ≠ zero) : ∃ tl, [r.a, r.b, r.c, r.d].filter (fun x => decide (¬ x = 0)) = lead r :: tl := by
  unfold lead
  by_cases h1 : r.a = 0
  · by_cases h2 : r.b = 0
    · by_cases h3 : r.c = 0
      · by_cases h4 : r.d = 0
        · exact absurd (Hur.ext h1 h2 h3 h4) h
        · exact ⟨_, by simp [h1, h2, h3, h4]; rfl⟩
      · exact ⟨_, by simp [h1, h2, h3]; rfl⟩
    · exact ⟨_, by simp [h1, h2]; rfl⟩
  · exact ⟨_, by simp [h1]; rfl⟩
theorem cont_le {q : Hur} : cont q ≤ g4 q := by
  unfold cont
  split
  · omega
  · split <;> omega
theorem law_lowest_ok {q : Hur} {l : Nat} {st : Store} {Q : QE} {R : XQ} (hq : q ≠ zero) (s : Sm q l) (hl : l ≤ 8000) (k : Q (hv (low q)) st) : p__law_lowest [hv q] st Q R := by
  obtain ⟨e, hp, c0⟩ := prp_spec hq
  have dv : DivOk (cont q) := divB c0 (Bt.le (g4_bt s hq) (by omega) cont_le) (by omega)
  have dc : ∀ x y : Int, x = cont q * y → x.fdiv (cont q) = y := fun x y z => by rw [fdiv_pos c0, z]; exact Int.mul_ediv_cancel_left _ (by omega)
  have fa := dc _ _ (congrArg Hur.a e)
  have fb := dc _ _ (congrArg Hur.b e)
  have fc := dc _ _ (congrArg Hur.c e)
  have fd := dc _ _ (congrArg Hur.d e)
  obtain ⟨tl, ht⟩ := lead_filter (prim_ne hp)
  refine lowest_gen (vs := [q.a, q.b, q.c, q.d]) (c := cont q) (f := lead (prp q)) (tl := tl) (by simp) dv (fun Q' R' k => law_content_ok s hl k) ?_ ?_
  · simp only [List.map_cons, List.map_nil, fa, fb, fc, fd]
    exact ht
  · simp only [List.map_cons, List.map_nil, fa, fb, fc, fd]
    unfold low at k
    by_cases h : 0 < lead (prp q)
    · simp only [h, if_true] at k ⊢
      exact k
    · simp only [h, if_false] at k ⊢
      exact k
theorem max_units {p : Hur} {st : Store} {Q : QE} {R : XQ} {x} (q : Q (hv (assoc p)) st) : maxW [.lst (Hur.units.map fun u => hv (p * u))] st Q R x := by
  have e : (Hur.units.map fun u => hv (p * u)) = (Hur.units.map fun u => [(p * u).a, (p * u).b, (p * u).c, (p * u).d]).map itup := by
    rw [List.map_map]; rfl
  rw [e]
  refine max_rows (by rw [List.length_map]; decide) fun r hr hm => ?_
  obtain ⟨u, hu, rfl⟩ := List.mem_map.mp hr
  have : p * u = assoc p := assoc_unique ⟨u, mem_units.mp hu, rfl⟩ fun v hv => by
    rw [← lexLt_lt4]
    exact hm _ (List.mem_map.mpr ⟨v, mem_units.mpr hv, rfl⟩)
  rw [← this] at q
  exact q
theorem Sm.dvd {p q : Hur} {k m : Nat} (h : p ∣ q) (hq : q ≠ zero) (s : Sm q k) (hm : k + 1 ≤ m) : Sm p m := by
  have n0 := N_nonneg p
  have n1 := Int.le_of_dvd (N_pos hq) (N_dvd h)
  exact Sm.ofBt (k := k) (Bt.le s.bN n0 n1) hm
theorem low_small {q : Hur} {l m : Nat} (h : q ≠ zero) (s : Sm q l) (hm : l ≤ m) : Sm (low q) m := by
  obtain ⟨k, k0, e⟩ := low_eq h
  have key : ∀ x y : Int, x = k * y → x.natAbs < 2 ^ l → y.natAbs < 2 ^ l := fun x y z hx => by
    rw [z, Int.natAbs_mul] at hx
    exact Nat.lt_of_le_of_lt (Nat.le_mul_of_pos_left _ (by omega)) hx
  exact Sm.mono ⟨key _ _ (congrArg Hur.a e) s.a, key _ _ (congrArg Hur.b e) s.b, key _ _ (congrArg Hur.c e) s.c, key _ _ (congrArg Hur.d e) s.d⟩ hm
theorem own_small {q : Hur} {l m : Nat} (h : q ≠ zero) (s : Sm q l) (hm : l + 6 ≤ m) : Sm (ownH q) m := by
  have s1 : Sm (low q) l := low_small h s (Nat.le_refl _)
  have so : Sm oi 2 := ⟨by decide, by decide, by decide, by decide⟩
  have s2 : Sm (low (low q * oi)) (l + 3) := low_small (mul_ne (low_ne h) oi_ne) (Sm.mul s1 so (Nat.le_refl _)) (Nat.le_refl _)
  unfold ownH
  have key : ∀ r : Hur, Sm r (l + 3) → Sm (HQ.Hur.assoc r) m := fun r hr => by
    obtain ⟨u, hu, e⟩ := assoc_eq_mul r
    rw [e]
    exact Sm.mul hr (Sm.units (mem_units.mpr hu)) (by omega)
  split
  · exact key _ s2
  · exact key _ (s1.mono (by omega))
theorem law_own_ok {q : Hur} {l : Nat} {st : Store} {Q : QE} {R : XQ} (hq : q ≠ zero) (s : Sm q l) (hl : l ≤ 7000) (k : Q (hv (ownH q)) st) : p__law_own [hv q] st Q R := by
  have s1 : Sm (low q) l := low_small hq s (Nat.le_refl _)
  have so : Sm oi 2 := ⟨by decide, by decide, by decide, by decide⟩
  refine i__law_own ?_
  unfold w__law_own
  f_lean
  refine callW_i (law_lowest_ok hq s (by omega) ?_)
  f_lean
  refine callW_i (law_size_ok s1 (by omega) ?_)
  f_lean
  rw [fmod_pos (by decide)]
  unfold ownH at k
  refine iteW_i (fun hb => ?_) (fun hb => ?_)
  case' refine_1 =>
    rw [if_pos (of_decide_eq_true hb)] at k
    f_lean
    refine callW_i (law_times_ok (q := oi) s1 so (by omega) (by decide) ?_)
    f_lean
    have s2 : Sm (low q * oi) (l + 3) := Sm.mul s1 so (Nat.le_refl _)
    refine callW_i (law_lowest_ok (mul_ne (low_ne hq) oi_ne) s2 (by omega) ?_)
    have sr : Sm (low (low q * oi)) (l + 3) := low_small (mul_ne (low_ne hq) oi_ne) s2 (Nat.le_refl _)
    generalize low (low q * oi) = r at sr k ⊢
  case' refine_2 =>
    rw [if_neg (of_decide_eq_false hb)] at k
    have sr : Sm (low q) (l + 3) := s1.mono (by omega)
    clear s1 hb
    generalize low q = r at sr k ⊢
  all_goals
    f_lean
    refine callW_i (law_units_ok ?_)
    f_lean
    refine lcW_map (f := fun u => hv (r * u)) (by decide) (fun u hu acc K ha hK => ?_) ?_
    · f_lean
      refine callW_i (law_times_ok sr (Sm.units hu) (by omega) (by decide) ?_)
      f_lean
      exact ⟨ha, hK⟩
    f_lean
    exact max_units k
end LK
namespace LK
open PySem PySem.Spec PyProof.Rows L2 G
local macro_rules | `(tactic| f_lean) => `(tactic| simp (config := { dsimp := false, failIfUnchanged := false, implicitDefEqProofs := false }) only [↓e_wNext, ↓e_wBin, ↓e_wUn, ↓e_wArgs, ↓e_wC, ↓e_waNil, ↓e_waCons, ↓e_wTup, ↓e_wLst, ↓e_wCell, ↓e_wNotT, ↓e_wIsN, ↓e_wNotN, ↓e_wTru, ↓e_wSl, ↓e_woNone, ↓e_wSet, ↓e_wRet, ↓e_wRetN, ↓e_wExpr, ↓e_wFrz, ↓e_wBrk, ↓e_wCnt, ↓e_wAsg, ↓e_wgName, ↓e_wOwn, ↓seqK_nx, ↓seqK_rt, ↓seqK_bk, ↓seqK_ct, ↓seqK_ex, ↓loopK_nx, ↓loopK_rt, ↓loopK_bk, ↓loopK_ct, ↓loopK_ex, ↓e_wSeq, iteW_t, iteW_f, ↓e_wCall, ↓e_wIfS, ↓e_wIf, ↓e_wAndT, ↓e_wOrT, ↓e_wFor, ↓e_wWhile, ↓e_wLc, ↓blW_b, ↓e_wBool, ↓e_wAnd, ↓e_wOr, ↓e_wNot, ↓e_wChain, ↓e_var0, ↓e_varS, ↓e_varB0, ↓e_varB1, ↓e_varBS, e_set0, e_setS, ↓e_add, ↓e_addS, ↓e_addL, ↓e_addO, ↓e_sub, ↓e_subO, ↓e_mul, ↓e_mulL, ↓e_mulO, ↓e_fdiv, ↓e_mod, ↓e_pow, ↓e_lt, ↓e_le, ↓e_gt, ↓e_ge, ↓e_neg, ↓e_negO, ↓e_eqI, ↓e_neI, ↓e_eqB, ↓e_neB, ↓e_eqS, ↓e_neS, getW_s, ↓e_ixL, ↓e_ixT, celW_s, ↓e_ixC, atI_0, atI_1, atI_2, atI_3, ixN_10, ixN_20, ixN_21, ixN_30, ixN_31, ixN_32, ixN_40, ixN_41, ixN_42, ixN_43, ixN_l0, ↓e_lenL, ↓e_lenT, ↓e_lenS, ↓e_abs, ↓e_intI, ↓e_intB, ↓e_listL, ↓e_listT, ↓e_tupleL, ↓e_tupleT, ↓e_slL, ↓intW_i, ↓e_woSome, ↓e_slR, ↓e_par, ↓e_parW, ↓e_gTup, ↓e_gTupL, ↓e_gsNil, ↓e_gsCons, ↓e_iLst, ↓lstW_i, ↓e_iTup, ↓tupW_i, ↓e_iR1, ↓r1W_i, ↓e_iR2, ↓r2W_i, ↓e_iZip, ↓zipW_l, ↓zipW_t, ↓e_put, e_putO, e_putC, natW_s, ↓e_aug, e_augV, ↓e_app, e_appV, ↓e_addI, ↓e_addIS, ↓e_subI, ↓e_mulI, ↓e_fdivI, e_frzN, e_frzO, e_frzV, e_frzX, e_frzS, e_frzC, ↓e_all, ↓e_any, ↓e_sum, blsW_s, intsW_s, ↓e_truN, ↓e_truB, ↓e_truI, ↓e_truL, ↓e_truT, ↓e_isiT, ↓e_isiC, ↓e_isiY, bo1W_s, isi_ii, isi_is, isi_ib, isi_it, isi_il, isi_bi, isi_bs, isi_bb, isi_bt, isi_bll, isi_ni, isi_ns, isi_nb, isi_nt, isi_nl, isi_si, isi_ss, isi_sb, isi_st, isi_sl, isi_ti, isi_ts, isi_tb, isi_tt, isi_tl, isi_li, isi_ls, isi_lb, isi_lt, isi_ll, isi_ds0, isi_dsT, isi_isI, isi_isS, isi_isB, isi_isN, isi_isT, isi_isL, ixZ_0, ixZ_1, ixZ_2, ixZ_3, ixZ_4, ixZ_5, ixZ_6, ixZ_7, ixZ_8, ixZ_9, ixZ_10, ixZ_11, ixZ_12, ixZ_13, ixZ_14, ixZ_15, ixZ_16, bo2_s, isi_dsF, ↓e_nonN, ↓e_nonI, ↓e_nonB, ↓e_nonS, ↓e_nonT, ↓e_nonL, ↓e_nonO, ↓fnW_rt, ↓fnW_nx, ↓fnW_ex, ↓e_wipe0, ↓e_wipe1, ↓e_wYes, mW_s, ↓e_callM, attW_p, attW_f, ↓e_attO, insW_s, ↓e_attC, e_getC, e_getN, e_putC', e_putN, ↓e_wMeth, ↓e_clsO, ↓e_clsC, mthW_s, mthZW_s, ownW_s, ↓e_eqOO, ↓e_neOO, ↓e_eqOI, ↓e_neOI, ↓e_eqOT, ↓e_neOT, ↓e_eqOL, ↓e_neOL, ↓e_eqTT, ↓e_neTT, ↓e_eqLL, ↓e_neLL, ↓e_wMk, ↓sqW_t, ↓sqW_l, ↓e_wMkS, ↓fldW_c, ↓e_wFld, st_last, st_setL, ↓e_wLenIs, e_addT, e_addF, e_addM, e_addE, e_F0, e_P0, e_T0, e_M0, e_lcN, e_lcC, e_zipC, e_zipN, e_intsN, e_intsC, e_blsN, e_blsC, e_ltz0, e_ltz1, e_ltz2, e_ltz3, e_ltz4, e_ltz5, e_ltz6, e_ltz7, e_ltz8, e_ltz9, e_ltz10, e_ltz11, e_ltz12, e_ltz13, e_ltz14, e_ltz15, e_ltz16, e_ltz17, e_ltz18, e_ltz19, e_ltz20, e_ltz21, e_ltz22, e_ltz23, e_ltz24, e_cst0, e_cst1, e_cst2, e_cst3, e_cst4, e_cst5, e_cst6, e_cst7, e_cst8, e_cst9, e_cst10, e_cst11, e_cst12, e_cst13, e_cst14, e_cst15, e_cst16, e_cst17, e_cst18, e_cst19, e_cst20, e_cst21, e_cst22, e_cst23, e_cst24, ↓e_wiSeq, ↓e_ext, e_extO, ↓gfldW_c, ↓e_wgFld, ↓e_wLcN, e_tskN, e_tskC, e_lpN, e_lpC, calW_s, ↓obW_o, ↓e_wCal, ↓e_srt, ↓e_max, max_2, ↓e_min, min_2, optW_s, ↓e_gtA, ↓e_ltA, ↓e_gtT, ↓e_ltT, lexD_4, ↓e_inL, ↓e_inT, ↓e_inO, ↓e_isBB, bneF, bneT, e_isiOb, e_isiIc, e_isiTc, e_isOf, ↓e_addAi, ↓e_addAs, ↓e_addAl, ↓e_addAt, ↓e_addAo, ↓e_mulAi, ↓e_mulAl, ↓e_mulAt, ↓e_mulAo, e_forN, e_forC, ↓e_iZipA, ↓zipAW_l, ↓zipAW_t, ↓zipAW_w, ↓zipAW_m, ↓e_truO, ↓e_wParO, ↓e_par3, ↓e_par3W, ↓e_eqLl, ↓e_neLl, e_oaN, e_oaC, F_Four___init__, T_Four___add__, F_Four___add__, IL_Four___eq__, T_Four___eq__, F_Four___eq__, T_Four___mul__, F_Four___mul__, T_Four___neg__, F_Four___neg__, T_Four___sub__, F_Four___sub__, T_Four_halves, F_Four_halves, T_Four_mirrored, F_Four_mirrored, T_Four_size, F_Four_size, M_associate, T_associate, F_associate, T_Four___bool__, F_Four___bool__, T_nearest, F_nearest, M_divide_left, T_divide_left, F_divide_left, M_common_left, M_divides_left, T_Turn_rows, F_Turn_rows, M_Turn_image, T_Turn_image, F_Turn_image, M_Turn___call__, IL_Turn___eq__, T_Turn___eq__, F_Turn___eq__, E_Turn___eq__, T_Four_content, F_Four_content, M_Four_divided, T_Four_divided, F_Four_divided, M_lowest, T_lowest, F_lowest, M_table_of, T_table_of, F_table_of, M_Turn___init__, T_Turn___init__, F_Turn___init__, M_Turn___mul__, T_Turn___mul__, F_Turn___mul__, M_Turn___neg__, T_Turn___neg__, F_Turn___neg__, M_Turn_power, M_Grain_coordinates, T_Grain_coordinates, F_Grain_coordinates, M_Grain___contains__, T_Turn_four, F_Turn_four, M_odd_four, T_odd_four, F_odd_four, T_Grain___init__, F_Grain___init__, T_Grain_turn, F_Grain_turn, T_Grain_spread, F_Grain_spread, IL_Grain___eq__, T_Grain___eq__, F_Grain___eq__, E_Grain___eq__, T_Grain_four, F_Grain_four, M_Grain_turned, T_Grain_turned, F_Grain_turned, M_relative, T_relative, F_relative, T_spread, F_spread, M_midst, T_midst, F_midst, List.reduceReplicate, List.flatten_cons, List.flatten_nil, List.append_nil, decide_true, decide_false, Bool.not_true, Bool.not_false, List.length_cons, List.length_nil, List.getElem?_cons_zero, List.getElem?_cons_succ, List.set_cons_zero, List.set_cons_succ, true_and, and_true, ne_eq, not_false_eq_true, not_true_eq_false, Nat.zero_add, reduceCtorEq, Mn.nm.injEq, and_self, and_false, false_and, Bool.true_or, Bool.or_true, Bool.or_false, Bool.false_or, Bool.and_self, Bool.and_true, Bool.true_and, Bool.and_false, Bool.false_and, List.nil_append, List.cons_append, Option.map_some, List.sum_cons, List.sum_nil, if_true, if_false, ↓reduceIte, beq_self_eq_true, eq_self, Nat.reduceAdd, Nat.reduceMul, Nat.reduceSub, Nat.reduceLT, Nat.reduceLeDiff, Nat.reduceEqDiff, Int.reduceAdd, Int.reduceMul, Int.reduceSub, Int.reduceNeg, Int.reducePow, Int.reduceLT, Int.reduceLE, Int.reduceEq, Int.reduceNe, Int.reduceToNat, Nat.reducePow])
local macro_rules | `(tactic| one_place) => `(tactic| first | ((with_reducible assumption)) | ((with_reducible apply Sm.mul (hm := Nat.le_refl _)); (focus one_place); (focus one_place)) | ((with_reducible apply Sm.add (hm := Nat.le_refl _)); (focus one_place); (focus one_place)) | ((with_reducible apply Sm.sub (hm := Nat.le_refl _)); (focus one_place); (focus one_place)) | ((with_reducible apply Sm.neg); one_place) | ((with_reducible apply Sm.bar); one_place) | ((with_reducible apply Sm.bwhole (hm := Nat.le_refl _)); (focus leaf_len)))
local macro_rules | `(tactic| leaf_len) => `(tactic| first | ((with_reducible assumption)) | exact bLit (by decide) | ((with_reducible apply Sm.bN); (focus one_place)) | ((with_reducible apply bMul (hm := Nat.le_refl _)); (focus leaf_len); (focus leaf_len)) | ((with_reducible apply bAdd (hm := Nat.le_refl _)); (focus leaf_len); (focus leaf_len)) | ((with_reducible apply bSub (hm := Nat.le_refl _)); (focus leaf_len); (focus leaf_len)) | ((with_reducible apply bNeg); leaf_len) | ((with_reducible apply bFdiv); (focus omega); leaf_len) | ((with_reducible apply bDiv); leaf_len) | ((with_reducible apply bMod); (focus leaf_len); omega) | ((with_reducible apply Sm.ba); one_place) | ((with_reducible apply Sm.bb); one_place) | ((with_reducible apply Sm.bc); one_place) | ((with_reducible apply Sm.bd); one_place))
local macro_rules | `(tactic| one_item) => `(tactic| first | ((with_reducible apply mulBt); (focus leaf_len); (focus leaf_len); (focus decide); (focus decide)) | ((with_reducible exact dv2)) | ((with_reducible apply divB); (focus omega); (focus leaf_len); (focus decide)) | exact ⟨rfl, rfl, by simp [D.dep, D.deps], by simp [D.dep, D.deps]⟩)
local macro_rules | `(tactic| w_left) => `(tactic| repeat ((with_reducible refine And.intro ?_ ?_); (focus one_item)))
open HQ HQ.Hur
local macro_rules | `(tactic| x_go) => `(tactic| first | (with_reducible refine callW_i (bool_ok ?_)) | (with_reducible refine callW_i (add_ok ?_)) | (with_reducible refine callW_i (sub_ok ?_)) | (with_reducible refine callW_i (neg_ok ?_)) | (with_reducible refine callW_i (halves_ok ?_)) | (with_reducible refine callW_i (mirrored_ok ?_)) | (with_reducible refine callW_i (eq_ok ?_)) | (with_reducible refine callW_i (mul_ok (by one_place) (by one_place) (by decide) (by decide) ?_)) | (with_reducible refine callW_i (size_ok (by one_place) (by decide) ?_)) | (with_reducible refine callW_i (whole_ok (by leaf_len) (by decide) ?_)) | (with_reducible refine callW_i (law_four_ok ?_)) | (with_reducible refine callW_i (law_back_ok ?_)) | (with_reducible refine callW_i (law_times_ok (by one_place) (by one_place) (by decide) (by decide) ?_)) | (with_reducible refine callW_i (law_size_ok (by one_place) (by decide) ?_)))
local macro_rules | `(tactic| z_go) => `(tactic| (f_lean; repeat (first | x_go | ((with_reducible refine And.intro ?_ ?_); (focus one_item))) <;> f_lean))
end LK
namespace LK
open PySem PySem.Spec PyProof.Rows L2 G
local macro_rules | `(tactic| f_lean) => `(tactic| simp (config := { dsimp := false, failIfUnchanged := false, implicitDefEqProofs := false }) only [↓e_wNext, ↓e_wBin, ↓e_wUn, ↓e_wArgs, ↓e_wC, ↓e_waNil, ↓e_waCons, ↓e_wTup, ↓e_wLst, ↓e_wCell, ↓e_wNotT, ↓e_wIsN, ↓e_wNotN, ↓e_wTru, ↓e_wSl, ↓e_woNone, ↓e_wSet, ↓e_wRet, ↓e_wRetN, ↓e_wExpr, ↓e_wFrz, ↓e_wBrk, ↓e_wCnt, ↓e_wAsg, ↓e_wgName, ↓e_wOwn, ↓seqK_nx, ↓seqK_rt, ↓seqK_bk, ↓seqK_ct, ↓seqK_ex, ↓loopK_nx, ↓loopK_rt, ↓loopK_bk, ↓loopK_ct, ↓loopK_ex, ↓e_wSeq, iteW_t, iteW_f, ↓e_wCall, ↓e_wIfS, ↓e_wIf, ↓e_wAndT, ↓e_wOrT, ↓e_wFor, ↓e_wWhile, ↓e_wLc, ↓blW_b, ↓e_wBool, ↓e_wAnd, ↓e_wOr, ↓e_wNot, ↓e_wChain, ↓e_var0, ↓e_varS, ↓e_varB0, ↓e_varB1, ↓e_varBS, e_set0, e_setS, ↓e_add, ↓e_addS, ↓e_addL, ↓e_addO, ↓e_sub, ↓e_subO, ↓e_mul, ↓e_mulL, ↓e_mulO, ↓e_fdiv, ↓e_mod, ↓e_pow, ↓e_lt, ↓e_le, ↓e_gt, ↓e_ge, ↓e_neg, ↓e_negO, ↓e_eqI, ↓e_neI, ↓e_eqB, ↓e_neB, ↓e_eqS, ↓e_neS, getW_s, ↓e_ixL, ↓e_ixT, celW_s, ↓e_ixC, atI_0, atI_1, atI_2, atI_3, ixN_10, ixN_20, ixN_21, ixN_30, ixN_31, ixN_32, ixN_40, ixN_41, ixN_42, ixN_43, ixN_l0, ↓e_lenL, ↓e_lenT, ↓e_lenS, ↓e_abs, ↓e_intI, ↓e_intB, ↓e_listL, ↓e_listT, ↓e_tupleL, ↓e_tupleT, ↓e_slL, ↓intW_i, ↓e_woSome, ↓e_slR, ↓e_par, ↓e_parW, ↓e_gTup, ↓e_gTupL, ↓e_gsNil, ↓e_gsCons, ↓e_iLst, ↓lstW_i, ↓e_iTup, ↓tupW_i, ↓e_iR1, ↓r1W_i, ↓e_iR2, ↓r2W_i, ↓e_iZip, ↓zipW_l, ↓zipW_t, ↓e_put, e_putO, e_putC, natW_s, ↓e_aug, e_augV, ↓e_app, e_appV, ↓e_addI, ↓e_addIS, ↓e_subI, ↓e_mulI, ↓e_fdivI, e_frzN, e_frzO, e_frzV, e_frzX, e_frzS, e_frzC, ↓e_all, ↓e_any, ↓e_sum, blsW_s, intsW_s, ↓e_truN, ↓e_truB, ↓e_truI, ↓e_truL, ↓e_truT, ↓e_isiT, ↓e_isiC, ↓e_isiY, bo1W_s, isi_ii, isi_is, isi_ib, isi_it, isi_il, isi_bi, isi_bs, isi_bb, isi_bt, isi_bll, isi_ni, isi_ns, isi_nb, isi_nt, isi_nl, isi_si, isi_ss, isi_sb, isi_st, isi_sl, isi_ti, isi_ts, isi_tb, isi_tt, isi_tl, isi_li, isi_ls, isi_lb, isi_lt, isi_ll, isi_ds0, isi_dsT, isi_isI, isi_isS, isi_isB, isi_isN, isi_isT, isi_isL, ixZ_0, ixZ_1, ixZ_2, ixZ_3, ixZ_4, ixZ_5, ixZ_6, ixZ_7, ixZ_8, ixZ_9, ixZ_10, ixZ_11, ixZ_12, ixZ_13, ixZ_14, ixZ_15, ixZ_16, bo2_s, isi_dsF, ↓e_nonN, ↓e_nonI, ↓e_nonB, ↓e_nonS, ↓e_nonT, ↓e_nonL, ↓e_nonO, ↓fnW_rt, ↓fnW_nx, ↓fnW_ex, ↓e_wipe0, ↓e_wipe1, ↓e_wYes, mW_s, ↓e_callM, attW_p, attW_f, ↓e_attO, insW_s, ↓e_attC, e_getC, e_getN, e_putC', e_putN, ↓e_wMeth, ↓e_clsO, ↓e_clsC, mthW_s, mthZW_s, ownW_s, ↓e_eqOO, ↓e_neOO, ↓e_eqOI, ↓e_neOI, ↓e_eqOT, ↓e_neOT, ↓e_eqOL, ↓e_neOL, ↓e_eqTT, ↓e_neTT, ↓e_eqLL, ↓e_neLL, ↓e_wMk, ↓sqW_t, ↓sqW_l, ↓e_wMkS, ↓fldW_c, ↓e_wFld, st_last, st_setL, ↓e_wLenIs, e_addT, e_addF, e_addM, e_addE, e_F0, e_P0, e_T0, e_M0, e_lcN, e_lcC, e_zipC, e_zipN, e_intsN, e_intsC, e_blsN, e_blsC, e_ltz0, e_ltz1, e_ltz2, e_ltz3, e_ltz4, e_ltz5, e_ltz6, e_ltz7, e_ltz8, e_ltz9, e_ltz10, e_ltz11, e_ltz12, e_ltz13, e_ltz14, e_ltz15, e_ltz16, e_ltz17, e_ltz18, e_ltz19, e_ltz20, e_ltz21, e_ltz22, e_ltz23, e_ltz24, e_cst0, e_cst1, e_cst2, e_cst3, e_cst4, e_cst5, e_cst6, e_cst7, e_cst8, e_cst9, e_cst10, e_cst11, e_cst12, e_cst13, e_cst14, e_cst15, e_cst16, e_cst17, e_cst18, e_cst19, e_cst20, e_cst21, e_cst22, e_cst23, e_cst24, ↓e_wiSeq, ↓e_ext, e_extO, ↓gfldW_c, ↓e_wgFld, ↓e_wLcN, e_tskN, e_tskC, e_lpN, e_lpC, calW_s, ↓obW_o, ↓e_wCal, ↓e_srt, ↓e_max, max_2, ↓e_min, min_2, optW_s, ↓e_gtA, ↓e_ltA, ↓e_gtT, ↓e_ltT, lexD_4, ↓e_inL, ↓e_inT, ↓e_inO, ↓e_isBB, bneF, bneT, e_isiOb, e_isiIc, e_isiTc, e_isOf, ↓e_addAi, ↓e_addAs, ↓e_addAl, ↓e_addAt, ↓e_addAo, ↓e_mulAi, ↓e_mulAl, ↓e_mulAt, ↓e_mulAo, e_forN, e_forC, ↓e_iZipA, ↓zipAW_l, ↓zipAW_t, ↓zipAW_w, ↓zipAW_m, ↓e_truO, ↓e_wParO, ↓e_par3, ↓e_par3W, ↓e_eqLl, ↓e_neLl, e_oaN, e_oaC, F_Four___init__, T_Four___add__, F_Four___add__, IL_Four___eq__, T_Four___eq__, F_Four___eq__, T_Four___mul__, F_Four___mul__, T_Four___neg__, F_Four___neg__, T_Four___sub__, F_Four___sub__, T_Four_halves, F_Four_halves, T_Four_mirrored, F_Four_mirrored, T_Four_size, F_Four_size, M_associate, T_associate, F_associate, T_Four___bool__, F_Four___bool__, T_nearest, F_nearest, M_divide_left, T_divide_left, F_divide_left, M_common_left, M_divides_left, T_Turn_rows, F_Turn_rows, M_Turn_image, T_Turn_image, F_Turn_image, M_Turn___call__, IL_Turn___eq__, T_Turn___eq__, F_Turn___eq__, E_Turn___eq__, T_Four_content, F_Four_content, M_Four_divided, T_Four_divided, F_Four_divided, M_lowest, T_lowest, F_lowest, M_table_of, T_table_of, F_table_of, M_Turn___init__, T_Turn___init__, F_Turn___init__, M_Turn___mul__, T_Turn___mul__, F_Turn___mul__, M_Turn___neg__, T_Turn___neg__, F_Turn___neg__, M_Turn_power, M_Grain_coordinates, T_Grain_coordinates, F_Grain_coordinates, M_Grain___contains__, T_Turn_four, F_Turn_four, M_odd_four, T_odd_four, F_odd_four, T_Grain___init__, F_Grain___init__, T_Grain_turn, F_Grain_turn, T_Grain_spread, F_Grain_spread, IL_Grain___eq__, T_Grain___eq__, F_Grain___eq__, E_Grain___eq__, T_Grain_four, F_Grain_four, M_Grain_turned, T_Grain_turned, F_Grain_turned, M_relative, T_relative, F_relative, T_spread, F_spread, M_midst, T_midst, F_midst, List.reduceReplicate, List.flatten_cons, List.flatten_nil, List.append_nil, decide_true, decide_false, Bool.not_true, Bool.not_false, List.length_cons, List.length_nil, List.getElem?_cons_zero, List.getElem?_cons_succ, List.set_cons_zero, List.set_cons_succ, true_and, and_true, ne_eq, not_false_eq_true, not_true_eq_false, Nat.zero_add, reduceCtorEq, Mn.nm.injEq, and_self, and_false, false_and, Bool.true_or, Bool.or_true, Bool.or_false, Bool.false_or, Bool.and_self, Bool.and_true, Bool.true_and, Bool.and_false, Bool.false_and, List.nil_append, List.cons_append, Option.map_some, List.sum_cons, List.sum_nil, if_true, if_false, ↓reduceIte, beq_self_eq_true, eq_self, Nat.reduceAdd, Nat.reduceMul, Nat.reduceSub, Nat.reduceLT, Nat.reduceLeDiff, Nat.reduceEqDiff, Int.reduceAdd, Int.reduceMul, Int.reduceSub, Int.reduceNeg, Int.reducePow, Int.reduceLT, Int.reduceLE, Int.reduceEq, Int.reduceNe, Int.reduceToNat, Nat.reducePow])
local macro_rules | `(tactic| one_place) => `(tactic| first | ((with_reducible assumption)) | ((with_reducible apply Sm.mul (hm := Nat.le_refl _)); (focus one_place); (focus one_place)) | ((with_reducible apply Sm.add (hm := Nat.le_refl _)); (focus one_place); (focus one_place)) | ((with_reducible apply Sm.sub (hm := Nat.le_refl _)); (focus one_place); (focus one_place)) | ((with_reducible apply Sm.neg); one_place) | ((with_reducible apply Sm.bar); one_place) | ((with_reducible apply Sm.bwhole (hm := Nat.le_refl _)); (focus leaf_len)))
local macro_rules | `(tactic| leaf_len) => `(tactic| first | ((with_reducible assumption)) | exact bLit (by decide) | ((with_reducible apply Sm.bN); (focus one_place)) | ((with_reducible apply bMul (hm := Nat.le_refl _)); (focus leaf_len); (focus leaf_len)) | ((with_reducible apply bAdd (hm := Nat.le_refl _)); (focus leaf_len); (focus leaf_len)) | ((with_reducible apply bSub (hm := Nat.le_refl _)); (focus leaf_len); (focus leaf_len)) | ((with_reducible apply bNeg); leaf_len) | ((with_reducible apply bFdiv); (focus omega); leaf_len) | ((with_reducible apply bDiv); leaf_len) | ((with_reducible apply bMod); (focus leaf_len); omega) | ((with_reducible apply Sm.ba); one_place) | ((with_reducible apply Sm.bb); one_place) | ((with_reducible apply Sm.bc); one_place) | ((with_reducible apply Sm.bd); one_place))
local macro_rules | `(tactic| one_item) => `(tactic| first | ((with_reducible apply mulBt); (focus leaf_len); (focus leaf_len); (focus decide); (focus decide)) | ((with_reducible exact dv2)) | ((with_reducible apply divB); (focus omega); (focus leaf_len); (focus decide)) | exact ⟨rfl, rfl, by simp [D.dep, D.deps], by simp [D.dep, D.deps]⟩)
local macro_rules | `(tactic| w_left) => `(tactic| repeat ((with_reducible refine And.intro ?_ ?_); (focus one_item)))
open HQ HQ.Hur
local macro_rules | `(tactic| x_go) => `(tactic| first | (with_reducible refine callW_i (bool_ok ?_)) | (with_reducible refine callW_i (add_ok ?_)) | (with_reducible refine callW_i (sub_ok ?_)) | (with_reducible refine callW_i (neg_ok ?_)) | (with_reducible refine callW_i (halves_ok ?_)) | (with_reducible refine callW_i (mirrored_ok ?_)) | (with_reducible refine callW_i (eq_ok ?_)) | (with_reducible refine callW_i (mul_ok (by one_place) (by one_place) (by decide) (by decide) ?_)) | (with_reducible refine callW_i (size_ok (by one_place) (by decide) ?_)) | (with_reducible refine callW_i (whole_ok (by leaf_len) (by decide) ?_)) | (with_reducible refine callW_i (law_four_ok ?_)) | (with_reducible refine callW_i (law_back_ok ?_)) | (with_reducible refine callW_i (law_times_ok (by one_place) (by one_place) (by decide) (by decide) ?_)) | (with_reducible refine callW_i (law_size_ok (by one_place) (by decide) ?_)))
local macro_rules | `(tactic| z_go) => `(tactic| (f_lean; repeat (first | x_go | ((with_reducible refine And.intro ?_ ?_); (focus one_item))) <;> f_lean))
theorem pcommon_ok {a b : Int} {st : Store} {Q : QE} {R : XQ} (q : Q (.int (Int.gcd a b)) st) : p_common [.int a, .int b] st Q R := by
  refine i_common ?_
  unfold w_common
  f_lean
  refine whileW_i (m := b.natAbs) (fun k e s => ∃ (m n : Nat), e = [.val (.int m), .val (.int n)] ∧ s = st ∧ n = k ∧ Nat.gcd m n = Int.gcd a b) ⟨_, _, rfl, rfl, rfl, rfl⟩ ?_
  rintro _ _ _ ⟨m, n, rfl, rfl, rfl, hg⟩ K hK
  f_lean
  refine iteW_i (fun hb => ?_) (fun hb => ?_)
  · have hn : 0 < n := by have := of_decide_eq_true hb; omega
    f_lean
    rw [fmod_nat hn]
    refine ⟨by omega, hK _ _ _ (Nat.mod_lt m hn) ⟨_, _, rfl, rfl, rfl, ?_⟩⟩
    rw [← hg, Nat.gcd_comm m n, Nat.gcd_rec n m, Nat.gcd_comm]
  · have hn : n = 0 := by have := of_decide_eq_false hb; omega
    subst hn
    f_lean
    rw [Nat.gcd_zero_right] at hg
    rw [hg]; exact q
end LK
namespace LK
open PySem PySem.Spec PyProof.Rows L2 G
local macro_rules | `(tactic| f_lean) => `(tactic| simp (config := { dsimp := false, failIfUnchanged := false, implicitDefEqProofs := false }) only [↓e_wNext, ↓e_wBin, ↓e_wUn, ↓e_wArgs, ↓e_wC, ↓e_waNil, ↓e_waCons, ↓e_wTup, ↓e_wLst, ↓e_wCell, ↓e_wNotT, ↓e_wIsN, ↓e_wNotN, ↓e_wTru, ↓e_wSl, ↓e_woNone, ↓e_wSet, ↓e_wRet, ↓e_wRetN, ↓e_wExpr, ↓e_wFrz, ↓e_wBrk, ↓e_wCnt, ↓e_wAsg, ↓e_wgName, ↓e_wOwn, ↓seqK_nx, ↓seqK_rt, ↓seqK_bk, ↓seqK_ct, ↓seqK_ex, ↓loopK_nx, ↓loopK_rt, ↓loopK_bk, ↓loopK_ct, ↓loopK_ex, ↓e_wSeq, iteW_t, iteW_f, ↓e_wCall, ↓e_wIfS, ↓e_wIf, ↓e_wAndT, ↓e_wOrT, ↓e_wFor, ↓e_wWhile, ↓e_wLc, ↓blW_b, ↓e_wBool, ↓e_wAnd, ↓e_wOr, ↓e_wNot, ↓e_wChain, ↓e_var0, ↓e_varS, ↓e_varB0, ↓e_varB1, ↓e_varBS, e_set0, e_setS, ↓e_add, ↓e_addS, ↓e_addL, ↓e_addO, ↓e_sub, ↓e_subO, ↓e_mul, ↓e_mulL, ↓e_mulO, ↓e_fdiv, ↓e_mod, ↓e_pow, ↓e_lt, ↓e_le, ↓e_gt, ↓e_ge, ↓e_neg, ↓e_negO, ↓e_eqI, ↓e_neI, ↓e_eqB, ↓e_neB, ↓e_eqS, ↓e_neS, getW_s, ↓e_ixL, ↓e_ixT, celW_s, ↓e_ixC, atI_0, atI_1, atI_2, atI_3, ixN_10, ixN_20, ixN_21, ixN_30, ixN_31, ixN_32, ixN_40, ixN_41, ixN_42, ixN_43, ixN_l0, ↓e_lenL, ↓e_lenT, ↓e_lenS, ↓e_abs, ↓e_intI, ↓e_intB, ↓e_listL, ↓e_listT, ↓e_tupleL, ↓e_tupleT, ↓e_slL, ↓intW_i, ↓e_woSome, ↓e_slR, ↓e_par, ↓e_parW, ↓e_gTup, ↓e_gTupL, ↓e_gsNil, ↓e_gsCons, ↓e_iLst, ↓lstW_i, ↓e_iTup, ↓tupW_i, ↓e_iR1, ↓r1W_i, ↓e_iR2, ↓r2W_i, ↓e_iZip, ↓zipW_l, ↓zipW_t, ↓e_put, e_putO, e_putC, natW_s, ↓e_aug, e_augV, ↓e_app, e_appV, ↓e_addI, ↓e_addIS, ↓e_subI, ↓e_mulI, ↓e_fdivI, e_frzN, e_frzO, e_frzV, e_frzX, e_frzS, e_frzC, ↓e_all, ↓e_any, ↓e_sum, blsW_s, intsW_s, ↓e_truN, ↓e_truB, ↓e_truI, ↓e_truL, ↓e_truT, ↓e_isiT, ↓e_isiC, ↓e_isiY, bo1W_s, isi_ii, isi_is, isi_ib, isi_it, isi_il, isi_bi, isi_bs, isi_bb, isi_bt, isi_bll, isi_ni, isi_ns, isi_nb, isi_nt, isi_nl, isi_si, isi_ss, isi_sb, isi_st, isi_sl, isi_ti, isi_ts, isi_tb, isi_tt, isi_tl, isi_li, isi_ls, isi_lb, isi_lt, isi_ll, isi_ds0, isi_dsT, isi_isI, isi_isS, isi_isB, isi_isN, isi_isT, isi_isL, ixZ_0, ixZ_1, ixZ_2, ixZ_3, ixZ_4, ixZ_5, ixZ_6, ixZ_7, ixZ_8, ixZ_9, ixZ_10, ixZ_11, ixZ_12, ixZ_13, ixZ_14, ixZ_15, ixZ_16, bo2_s, isi_dsF, ↓e_nonN, ↓e_nonI, ↓e_nonB, ↓e_nonS, ↓e_nonT, ↓e_nonL, ↓e_nonO, ↓fnW_rt, ↓fnW_nx, ↓fnW_ex, ↓e_wipe0, ↓e_wipe1, ↓e_wYes, mW_s, ↓e_callM, attW_p, attW_f, ↓e_attO, insW_s, ↓e_attC, e_getC, e_getN, e_putC', e_putN, ↓e_wMeth, ↓e_clsO, ↓e_clsC, mthW_s, mthZW_s, ownW_s, ↓e_eqOO, ↓e_neOO, ↓e_eqOI, ↓e_neOI, ↓e_eqOT, ↓e_neOT, ↓e_eqOL, ↓e_neOL, ↓e_eqTT, ↓e_neTT, ↓e_eqLL, ↓e_neLL, ↓e_wMk, ↓sqW_t, ↓sqW_l, ↓e_wMkS, ↓fldW_c, ↓e_wFld, st_last, st_setL, ↓e_wLenIs, e_addT, e_addF, e_addM, e_addE, e_F0, e_P0, e_T0, e_M0, e_lcN, e_lcC, e_zipC, e_zipN, e_intsN, e_intsC, e_blsN, e_blsC, e_ltz0, e_ltz1, e_ltz2, e_ltz3, e_ltz4, e_ltz5, e_ltz6, e_ltz7, e_ltz8, e_ltz9, e_ltz10, e_ltz11, e_ltz12, e_ltz13, e_ltz14, e_ltz15, e_ltz16, e_ltz17, e_ltz18, e_ltz19, e_ltz20, e_ltz21, e_ltz22, e_ltz23, e_ltz24, e_cst0, e_cst1, e_cst2, e_cst3, e_cst4, e_cst5, e_cst6, e_cst7, e_cst8, e_cst9, e_cst10, e_cst11, e_cst12, e_cst13, e_cst14, e_cst15, e_cst16, e_cst17, e_cst18, e_cst19, e_cst20, e_cst21, e_cst22, e_cst23, e_cst24, ↓e_wiSeq, ↓e_ext, e_extO, ↓gfldW_c, ↓e_wgFld, ↓e_wLcN, e_tskN, e_tskC, e_lpN, e_lpC, calW_s, ↓obW_o, ↓e_wCal, ↓e_srt, ↓e_max, max_2, ↓e_min, min_2, optW_s, ↓e_gtA, ↓e_ltA, ↓e_gtT, ↓e_ltT, lexD_4, ↓e_inL, ↓e_inT, ↓e_inO, ↓e_isBB, bneF, bneT, e_isiOb, e_isiIc, e_isiTc, e_isOf, ↓e_addAi, ↓e_addAs, ↓e_addAl, ↓e_addAt, ↓e_addAo, ↓e_mulAi, ↓e_mulAl, ↓e_mulAt, ↓e_mulAo, e_forN, e_forC, ↓e_iZipA, ↓zipAW_l, ↓zipAW_t, ↓zipAW_w, ↓zipAW_m, ↓e_truO, ↓e_wParO, ↓e_par3, ↓e_par3W, ↓e_eqLl, ↓e_neLl, e_oaN, e_oaC, F_Four___init__, T_Four___add__, F_Four___add__, IL_Four___eq__, T_Four___eq__, F_Four___eq__, T_Four___mul__, F_Four___mul__, T_Four___neg__, F_Four___neg__, T_Four___sub__, F_Four___sub__, T_Four_halves, F_Four_halves, T_Four_mirrored, F_Four_mirrored, T_Four_size, F_Four_size, M_associate, T_associate, F_associate, T_Four___bool__, F_Four___bool__, T_nearest, F_nearest, M_divide_left, T_divide_left, F_divide_left, M_common_left, M_divides_left, T_Turn_rows, F_Turn_rows, M_Turn_image, T_Turn_image, F_Turn_image, M_Turn___call__, IL_Turn___eq__, T_Turn___eq__, F_Turn___eq__, E_Turn___eq__, T_Four_content, F_Four_content, M_Four_divided, T_Four_divided, F_Four_divided, M_lowest, T_lowest, F_lowest, M_table_of, T_table_of, F_table_of, M_Turn___init__, T_Turn___init__, F_Turn___init__, M_Turn___mul__, T_Turn___mul__, F_Turn___mul__, M_Turn___neg__, T_Turn___neg__, F_Turn___neg__, M_Turn_power, M_Grain_coordinates, T_Grain_coordinates, F_Grain_coordinates, M_Grain___contains__, T_Turn_four, F_Turn_four, M_odd_four, T_odd_four, F_odd_four, T_Grain___init__, F_Grain___init__, T_Grain_turn, F_Grain_turn, T_Grain_spread, F_Grain_spread, IL_Grain___eq__, T_Grain___eq__, F_Grain___eq__, E_Grain___eq__, T_Grain_four, F_Grain_four, M_Grain_turned, T_Grain_turned, F_Grain_turned, M_relative, T_relative, F_relative, T_spread, F_spread, M_midst, T_midst, F_midst, List.reduceReplicate, List.flatten_cons, List.flatten_nil, List.append_nil, decide_true, decide_false, Bool.not_true, Bool.not_false, List.length_cons, List.length_nil, List.getElem?_cons_zero, List.getElem?_cons_succ, List.set_cons_zero, List.set_cons_succ, true_and, and_true, ne_eq, not_false_eq_true, not_true_eq_false, Nat.zero_add, reduceCtorEq, Mn.nm.injEq, and_self, and_false, false_and, Bool.true_or, Bool.or_true, Bool.or_false, Bool.false_or, Bool.and_self, Bool.and_true, Bool.true_and, Bool.and_false, Bool.false_and, List.nil_append, List.cons_append, Option.map_some, List.sum_cons, List.sum_nil, if_true, if_false, ↓reduceIte, beq_self_eq_true, eq_self, Nat.reduceAdd, Nat.reduceMul, Nat.reduceSub, Nat.reduceLT, Nat.reduceLeDiff, Nat.reduceEqDiff, Int.reduceAdd, Int.reduceMul, Int.reduceSub, Int.reduceNeg, Int.reducePow, Int.reduceLT, Int.reduceLE, Int.reduceEq, Int.reduceNe, Int.reduceToNat, Nat.reducePow])
local macro_rules | `(tactic| one_place) => `(tactic| first | ((with_reducible assumption)) | ((with_reducible apply Sm.mul (hm := Nat.le_refl _)); (focus one_place); (focus one_place)) | ((with_reducible apply Sm.add (hm := Nat.le_refl _)); (focus one_place); (focus one_place)) | ((with_reducible apply Sm.sub (hm := Nat.le_refl _)); (focus one_place); (focus one_place)) | ((with_reducible apply Sm.neg); one_place) | ((with_reducible apply Sm.bar); one_place) | ((with_reducible apply Sm.bwhole (hm := Nat.le_refl _)); (focus leaf_len)))
local macro_rules | `(tactic| leaf_len) => `(tactic| first | ((with_reducible assumption)) | exact bLit (by decide) | ((with_reducible apply Sm.bN); (focus one_place)) | ((with_reducible apply bMul (hm := Nat.le_refl _)); (focus leaf_len); (focus leaf_len)) | ((with_reducible apply bAdd (hm := Nat.le_refl _)); (focus leaf_len); (focus leaf_len)) | ((with_reducible apply bSub (hm := Nat.le_refl _)); (focus leaf_len); (focus leaf_len)) | ((with_reducible apply bNeg); leaf_len) | ((with_reducible apply bFdiv); (focus omega); leaf_len) | ((with_reducible apply bDiv); leaf_len) | ((with_reducible apply bMod); (focus leaf_len); omega) | ((with_reducible apply Sm.ba); one_place) | ((with_reducible apply Sm.bb); one_place) | ((with_reducible apply Sm.bc); one_place) | ((with_reducible apply Sm.bd); one_place))
local macro_rules | `(tactic| one_item) => `(tactic| first | ((with_reducible apply mulBt); (focus leaf_len); (focus leaf_len); (focus decide); (focus decide)) | ((with_reducible exact dv2)) | ((with_reducible apply divB); (focus omega); (focus leaf_len); (focus decide)) | exact ⟨rfl, rfl, by simp [D.dep, D.deps], by simp [D.dep, D.deps]⟩)
local macro_rules | `(tactic| w_left) => `(tactic| repeat ((with_reducible refine And.intro ?_ ?_); (focus one_item)))
open HQ HQ.Hur
local macro_rules | `(tactic| x_go) => `(tactic| first | (with_reducible refine callW_i (bool_ok ?_)) | (with_reducible refine callW_i (add_ok ?_)) | (with_reducible refine callW_i (sub_ok ?_)) | (with_reducible refine callW_i (neg_ok ?_)) | (with_reducible refine callW_i (halves_ok ?_)) | (with_reducible refine callW_i (mirrored_ok ?_)) | (with_reducible refine callW_i (eq_ok ?_)) | (with_reducible refine callW_i (mul_ok (by one_place) (by one_place) (by decide) (by decide) ?_)) | (with_reducible refine callW_i (size_ok (by one_place) (by decide) ?_)) | (with_reducible refine callW_i (whole_ok (by leaf_len) (by decide) ?_)) | (with_reducible refine callW_i (law_four_ok ?_)) | (with_reducible refine callW_i (law_back_ok ?_)) | (with_reducible refine callW_i (law_times_ok (by one_place) (by one_place) (by decide) (by decide) ?_)) | (with_reducible refine callW_i (law_size_ok (by one_place) (by decide) ?_)))
local macro_rules | `(tactic| z_go) => `(tactic| (f_lean; repeat (first | x_go | ((with_reducible refine And.intro ?_ ?_); (focus one_item))) <;> f_lean))
theorem cont_dvd {q r : Hur} {k : Int} (h : q = sm k r) (hk : k ≠ 0) (hq : q ≠ zero) : k ∣ cont q := by
  obtain ⟨e, hp, c0⟩ := prp_spec hq
  generalize cont q = c at e c0 ⊢
  generalize prp q = P at e hp
  have p : Pr r P := ⟨k, c, hk, by omega, by rw [← h]; exact e⟩
  obtain ⟨j, hj⟩ := pr_prim p hp
  have e2 : sm c P = sm (k * j) P := by rw [← sm_sm, ← hj, ← h]; exact e.symm
  refine ⟨j, ?_⟩
  rcases Decidable.em (c = k * j) with z | z
  · exact z
  · refine absurd ?_ (sm_ne (t := c - k * j) (by omega) (prim_ne hp))
    have a := congrArg Hur.a e2; have b := congrArg Hur.b e2; have c := congrArg Hur.c e2; have d := congrArg Hur.d e2
    simp only [sm_a, sm_b, sm_c, sm_d] at a b c d
    refine Hur.ext ?_ ?_ ?_ ?_ <;> simp only [sm_a, sm_b, sm_c, sm_d, Int.sub_mul] <;> simp [zero] <;> omega
theorem content_ok {q : Hur} {l : Nat} {st : Store} {Q : QE} {R : XQ} (s : Sm q l) (hl : l ≤ 8000) (k : Q (.int (cont q)) st) : p_Four_content [fob q] st Q R := by
  refine i_Four_content ?_
  unfold w_Four_content
  f_lean
  refine callW_i (pcommon_ok ?_)
  f_lean
  refine callW_i (pcommon_ok ?_)
  f_lean
  refine callW_i (pcommon_ok ?_)
  f_lean
  refine callW_i (pcommon_ok ?_)
  f_lean
  rw [show Int.gcd (Int.gcd (Int.gcd (Int.gcd 0 q.a) q.b) q.c) q.d = g4 q from rfl]
  refine iteW_i (fun hb => ?_) (fun hb => ?_)
  · have h := of_decide_eq_true hb
    have h0 : g4 q = 0 := by omega
    unfold cont at k
    rw [if_pos h0] at k
    f_lean
    exact k
  · have h := of_decide_eq_false hb
    have h0 : ¬ g4 q = 0 := by omega
    have hp : 0 < (g4 q : Int) := by omega
    have bg := g4_bt s (fun z => h0 (g4_eq_zero.mpr z))
    unfold cont at k
    rw [if_neg h0] at k
    have dv : DivOk (g4 q : Int) := divB hp bg (by omega)
    obtain ⟨a, b, c, d, ha, hb2, hc, hd, g0, hm⟩ := g4_parts (q := q) (fun z => h0 (g4_eq_zero.mpr z))
    have da : ∀ x y : Int, x = g4 q * y → x / g4 q = y := fun x y e => by rw [e]; exact Int.mul_ediv_cancel_left _ (by omega)
    f_lean
    simp only [fdiv_pos hp]
    rw [da _ _ ha, da _ _ hb2, da _ _ hc, da _ _ hd] at *
    refine ⟨dv, dv, dv, dv, ?_⟩
    f_lean
    refine callW_i (is_halves_ok ?_)
    f_lean
    refine iteW_i (fun hb => ?_) (fun hb => ?_)
    · have p := of_decide_eq_true hb
      rw [if_pos (by
        unfold par at p
        rcases Int.emod_two_eq a with z | z
        · exfalso
          have := hm 2 (by omega) (by omega) (by omega) (by omega)
          omega
        · omega)] at k
      f_lean
      exact k
    · have p := of_decide_eq_false hb
      rw [if_neg (fun z => p (by unfold par; omega))] at k
      f_lean
      rw [fdiv_pos (by decide)]
      exact ⟨dv2, k⟩
theorem divided_ok {q r : Hur} {n : Int} {l : Nat} {st : Store} {Q : QE} {R : XQ} (h : q = sm n r) (hn : 0 < n) (hq : q ≠ zero) (s : Sm q l) (hl : l ≤ 8000) (k : Q (fob r) st) : p_Four_divided [fob q, .int n] st Q R := by
  have bn : Bt n l := Bt.le (Bt.le (g4_bt s hq) (by have := (prp_spec hq).2.2; omega) cont_le) (by omega) (Int.le_of_dvd (prp_spec hq).2.2 (cont_dvd h (by omega) hq))
  have dv : DivOk n := divB hn bn (by omega)
  have dc : ∀ x y : Int, x = n * y → x.fdiv n = y := fun x y z => by rw [fdiv_pos hn, z]; exact Int.mul_ediv_cancel_left _ (by omega)
  refine i_Four_divided ?_
  unfold w_Four_divided
  f_lean
  rw [decide_eq_false (by omega)]
  f_lean
  refine callW_i (content_ok s hl ?_)
  f_lean
  refine ⟨by omega, ?_⟩
  rw [fmod_pos hn, Int.emod_eq_zero_of_dvd (cont_dvd h (by omega) hq)]
  f_lean
  rw [dc _ _ (congrArg Hur.a h), dc _ _ (congrArg Hur.b h), dc _ _ (congrArg Hur.c h), dc _ _ (congrArg Hur.d h)]
  refine ⟨dv, dv, dv, dv, ?_⟩
  f_lean
  exact make_ok r k
theorem lowest_ok {q : Hur} {l : Nat} {st : Store} {Q : QE} {R : XQ} (hq : q ≠ zero) (s : Sm q l) (hl : l ≤ 8000) (k : Q (fob (low q)) st) : p_lowest [fob q] st Q R := by
  obtain ⟨e, hp, c0⟩ := prp_spec hq
  refine i_lowest ?_
  unfold w_lowest
  f_lean
  refine callW_i (content_ok s hl ?_)
  f_lean
  refine callW_i (divided_ok e c0 hq s hl ?_)
  f_lean
  refine callW_i (halves_ok ?_)
  f_lean
  unfold low lead at k
  generalize prp q = r at e hp k ⊢
  have r0 := prim_ne hp
  by_cases h1 : r.a = 0
  · rw [h1]
    f_lean
    by_cases h2 : r.b = 0
    · rw [h2]
      f_lean
      by_cases h3 : r.c = 0
      · rw [h3]
        f_lean
        by_cases h4 : r.d = 0
        · exact absurd (Hur.ext h1 h2 h3 h4) r0
        · rw [decide_eq_true h4]
          f_lean
          simp only [h1, h2, h3, h4, ne_eq, not_true_eq_false, not_false_eq_true, if_true, if_false] at k
          refine iteW_i (fun hb => ?_) (fun hb => ?_)
          · rw [if_pos (of_decide_eq_true hb)] at k
            f_lean
            exact k
          · rw [if_neg (of_decide_eq_false hb)] at k
            f_lean
            refine callW_i (neg_ok ?_)
            f_lean
            exact k
      · rw [decide_eq_true h3]
        f_lean
        simp only [h1, h2, h3, ne_eq, not_true_eq_false, not_false_eq_true, if_true, if_false] at k
        refine iteW_i (fun hb => ?_) (fun hb => ?_)
        · rw [if_pos (of_decide_eq_true hb)] at k
          f_lean
          exact k
        · rw [if_neg (of_decide_eq_false hb)] at k
          f_lean
          refine callW_i (neg_ok ?_)
          f_lean
          exact k
    · rw [decide_eq_true h2]
      f_lean
      simp only [h1, h2, ne_eq, not_true_eq_false, not_false_eq_true, if_true, if_false] at k
      refine iteW_i (fun hb => ?_) (fun hb => ?_)
      · rw [if_pos (of_decide_eq_true hb)] at k
        f_lean
        exact k
      · rw [if_neg (of_decide_eq_false hb)] at k
        f_lean
        refine callW_i (neg_ok ?_)
        f_lean
        exact k
  · rw [decide_eq_true h1]
    f_lean
    simp only [h1, ne_eq, not_true_eq_false, not_false_eq_true, if_true, if_false] at k
    refine iteW_i (fun hb => ?_) (fun hb => ?_)
    · rw [if_pos (of_decide_eq_true hb)] at k
      f_lean
      exact k
    · rw [if_neg (of_decide_eq_false hb)] at k
      f_lean
      refine callW_i (neg_ok ?_)
      f_lean
      exact k
end LK
namespace LK
open PySem PySem.Spec PyProof.Rows L2 G
local macro_rules | `(tactic| f_lean) => `(tactic| simp (config := { dsimp := false, failIfUnchanged := false, implicitDefEqProofs := false }) only [↓e_wNext, ↓e_wBin, ↓e_wUn, ↓e_wArgs, ↓e_wC, ↓e_waNil, ↓e_waCons, ↓e_wTup, ↓e_wLst, ↓e_wCell, ↓e_wNotT, ↓e_wIsN, ↓e_wNotN, ↓e_wTru, ↓e_wSl, ↓e_woNone, ↓e_wSet, ↓e_wRet, ↓e_wRetN, ↓e_wExpr, ↓e_wFrz, ↓e_wBrk, ↓e_wCnt, ↓e_wAsg, ↓e_wgName, ↓e_wOwn, ↓seqK_nx, ↓seqK_rt, ↓seqK_bk, ↓seqK_ct, ↓seqK_ex, ↓loopK_nx, ↓loopK_rt, ↓loopK_bk, ↓loopK_ct, ↓loopK_ex, ↓e_wSeq, iteW_t, iteW_f, ↓e_wCall, ↓e_wIfS, ↓e_wIf, ↓e_wAndT, ↓e_wOrT, ↓e_wFor, ↓e_wWhile, ↓e_wLc, ↓blW_b, ↓e_wBool, ↓e_wAnd, ↓e_wOr, ↓e_wNot, ↓e_wChain, ↓e_var0, ↓e_varS, ↓e_varB0, ↓e_varB1, ↓e_varBS, e_set0, e_setS, ↓e_add, ↓e_addS, ↓e_addL, ↓e_addO, ↓e_sub, ↓e_subO, ↓e_mul, ↓e_mulL, ↓e_mulO, ↓e_fdiv, ↓e_mod, ↓e_pow, ↓e_lt, ↓e_le, ↓e_gt, ↓e_ge, ↓e_neg, ↓e_negO, ↓e_eqI, ↓e_neI, ↓e_eqB, ↓e_neB, ↓e_eqS, ↓e_neS, getW_s, ↓e_ixL, ↓e_ixT, celW_s, ↓e_ixC, atI_0, atI_1, atI_2, atI_3, ixN_10, ixN_20, ixN_21, ixN_30, ixN_31, ixN_32, ixN_40, ixN_41, ixN_42, ixN_43, ixN_l0, ↓e_lenL, ↓e_lenT, ↓e_lenS, ↓e_abs, ↓e_intI, ↓e_intB, ↓e_listL, ↓e_listT, ↓e_tupleL, ↓e_tupleT, ↓e_slL, ↓intW_i, ↓e_woSome, ↓e_slR, ↓e_par, ↓e_parW, ↓e_gTup, ↓e_gTupL, ↓e_gsNil, ↓e_gsCons, ↓e_iLst, ↓lstW_i, ↓e_iTup, ↓tupW_i, ↓e_iR1, ↓r1W_i, ↓e_iR2, ↓r2W_i, ↓e_iZip, ↓zipW_l, ↓zipW_t, ↓e_put, e_putO, e_putC, natW_s, ↓e_aug, e_augV, ↓e_app, e_appV, ↓e_addI, ↓e_addIS, ↓e_subI, ↓e_mulI, ↓e_fdivI, e_frzN, e_frzO, e_frzV, e_frzX, e_frzS, e_frzC, ↓e_all, ↓e_any, ↓e_sum, blsW_s, intsW_s, ↓e_truN, ↓e_truB, ↓e_truI, ↓e_truL, ↓e_truT, ↓e_isiT, ↓e_isiC, ↓e_isiY, bo1W_s, isi_ii, isi_is, isi_ib, isi_it, isi_il, isi_bi, isi_bs, isi_bb, isi_bt, isi_bll, isi_ni, isi_ns, isi_nb, isi_nt, isi_nl, isi_si, isi_ss, isi_sb, isi_st, isi_sl, isi_ti, isi_ts, isi_tb, isi_tt, isi_tl, isi_li, isi_ls, isi_lb, isi_lt, isi_ll, isi_ds0, isi_dsT, isi_isI, isi_isS, isi_isB, isi_isN, isi_isT, isi_isL, ixZ_0, ixZ_1, ixZ_2, ixZ_3, ixZ_4, ixZ_5, ixZ_6, ixZ_7, ixZ_8, ixZ_9, ixZ_10, ixZ_11, ixZ_12, ixZ_13, ixZ_14, ixZ_15, ixZ_16, bo2_s, isi_dsF, ↓e_nonN, ↓e_nonI, ↓e_nonB, ↓e_nonS, ↓e_nonT, ↓e_nonL, ↓e_nonO, ↓fnW_rt, ↓fnW_nx, ↓fnW_ex, ↓e_wipe0, ↓e_wipe1, ↓e_wYes, mW_s, ↓e_callM, attW_p, attW_f, ↓e_attO, insW_s, ↓e_attC, e_getC, e_getN, e_putC', e_putN, ↓e_wMeth, ↓e_clsO, ↓e_clsC, mthW_s, mthZW_s, ownW_s, ↓e_eqOO, ↓e_neOO, ↓e_eqOI, ↓e_neOI, ↓e_eqOT, ↓e_neOT, ↓e_eqOL, ↓e_neOL, ↓e_eqTT, ↓e_neTT, ↓e_eqLL, ↓e_neLL, ↓e_wMk, ↓sqW_t, ↓sqW_l, ↓e_wMkS, ↓fldW_c, ↓e_wFld, st_last, st_setL, ↓e_wLenIs, e_addT, e_addF, e_addM, e_addE, e_F0, e_P0, e_T0, e_M0, e_lcN, e_lcC, e_zipC, e_zipN, e_intsN, e_intsC, e_blsN, e_blsC, e_ltz0, e_ltz1, e_ltz2, e_ltz3, e_ltz4, e_ltz5, e_ltz6, e_ltz7, e_ltz8, e_ltz9, e_ltz10, e_ltz11, e_ltz12, e_ltz13, e_ltz14, e_ltz15, e_ltz16, e_ltz17, e_ltz18, e_ltz19, e_ltz20, e_ltz21, e_ltz22, e_ltz23, e_ltz24, e_cst0, e_cst1, e_cst2, e_cst3, e_cst4, e_cst5, e_cst6, e_cst7, e_cst8, e_cst9, e_cst10, e_cst11, e_cst12, e_cst13, e_cst14, e_cst15, e_cst16, e_cst17, e_cst18, e_cst19, e_cst20, e_cst21, e_cst22, e_cst23, e_cst24, ↓e_wiSeq, ↓e_ext, e_extO, ↓gfldW_c, ↓e_wgFld, ↓e_wLcN, e_tskN, e_tskC, e_lpN, e_lpC, calW_s, ↓obW_o, ↓e_wCal, ↓e_srt, ↓e_max, max_2, ↓e_min, min_2, optW_s, ↓e_gtA, ↓e_ltA, ↓e_gtT, ↓e_ltT, lexD_4, ↓e_inL, ↓e_inT, ↓e_inO, ↓e_isBB, bneF, bneT, e_isiOb, e_isiIc, e_isiTc, e_isOf, ↓e_addAi, ↓e_addAs, ↓e_addAl, ↓e_addAt, ↓e_addAo, ↓e_mulAi, ↓e_mulAl, ↓e_mulAt, ↓e_mulAo, e_forN, e_forC, ↓e_iZipA, ↓zipAW_l, ↓zipAW_t, ↓zipAW_w, ↓zipAW_m, ↓e_truO, ↓e_wParO, ↓e_par3, ↓e_par3W, ↓e_eqLl, ↓e_neLl, e_oaN, e_oaC, F_Four___init__, T_Four___add__, F_Four___add__, IL_Four___eq__, T_Four___eq__, F_Four___eq__, T_Four___mul__, F_Four___mul__, T_Four___neg__, F_Four___neg__, T_Four___sub__, F_Four___sub__, T_Four_halves, F_Four_halves, T_Four_mirrored, F_Four_mirrored, T_Four_size, F_Four_size, M_associate, T_associate, F_associate, T_Four___bool__, F_Four___bool__, T_nearest, F_nearest, M_divide_left, T_divide_left, F_divide_left, M_common_left, M_divides_left, T_Turn_rows, F_Turn_rows, M_Turn_image, T_Turn_image, F_Turn_image, M_Turn___call__, IL_Turn___eq__, T_Turn___eq__, F_Turn___eq__, E_Turn___eq__, T_Four_content, F_Four_content, M_Four_divided, T_Four_divided, F_Four_divided, M_lowest, T_lowest, F_lowest, M_table_of, T_table_of, F_table_of, M_Turn___init__, T_Turn___init__, F_Turn___init__, M_Turn___mul__, T_Turn___mul__, F_Turn___mul__, M_Turn___neg__, T_Turn___neg__, F_Turn___neg__, M_Turn_power, M_Grain_coordinates, T_Grain_coordinates, F_Grain_coordinates, M_Grain___contains__, T_Turn_four, F_Turn_four, M_odd_four, T_odd_four, F_odd_four, T_Grain___init__, F_Grain___init__, T_Grain_turn, F_Grain_turn, T_Grain_spread, F_Grain_spread, IL_Grain___eq__, T_Grain___eq__, F_Grain___eq__, E_Grain___eq__, T_Grain_four, F_Grain_four, M_Grain_turned, T_Grain_turned, F_Grain_turned, M_relative, T_relative, F_relative, T_spread, F_spread, M_midst, T_midst, F_midst, List.reduceReplicate, List.flatten_cons, List.flatten_nil, List.append_nil, decide_true, decide_false, Bool.not_true, Bool.not_false, List.length_cons, List.length_nil, List.getElem?_cons_zero, List.getElem?_cons_succ, List.set_cons_zero, List.set_cons_succ, true_and, and_true, ne_eq, not_false_eq_true, not_true_eq_false, Nat.zero_add, reduceCtorEq, Mn.nm.injEq, and_self, and_false, false_and, Bool.true_or, Bool.or_true, Bool.or_false, Bool.false_or, Bool.and_self, Bool.and_true, Bool.true_and, Bool.and_false, Bool.false_and, List.nil_append, List.cons_append, Option.map_some, List.sum_cons, List.sum_nil, if_true, if_false, ↓reduceIte, beq_self_eq_true, eq_self, Nat.reduceAdd, Nat.reduceMul, Nat.reduceSub, Nat.reduceLT, Nat.reduceLeDiff, Nat.reduceEqDiff, Int.reduceAdd, Int.reduceMul, Int.reduceSub, Int.reduceNeg, Int.reducePow, Int.reduceLT, Int.reduceLE, Int.reduceEq, Int.reduceNe, Int.reduceToNat, Nat.reducePow])
local macro_rules | `(tactic| one_place) => `(tactic| first | ((with_reducible assumption)) | ((with_reducible apply Sm.mul (hm := Nat.le_refl _)); (focus one_place); (focus one_place)) | ((with_reducible apply Sm.add (hm := Nat.le_refl _)); (focus one_place); (focus one_place)) | ((with_reducible apply Sm.sub (hm := Nat.le_refl _)); (focus one_place); (focus one_place)) | ((with_reducible apply Sm.neg); one_place) | ((with_reducible apply Sm.bar); one_place) | ((with_reducible apply Sm.bwhole (hm := Nat.le_refl _)); (focus leaf_len)))
local macro_rules | `(tactic| leaf_len) => `(tactic| first | ((with_reducible assumption)) | exact bLit (by decide) | ((with_reducible apply Sm.bN); (focus one_place)) | ((with_reducible apply bMul (hm := Nat.le_refl _)); (focus leaf_len); (focus leaf_len)) | ((with_reducible apply bAdd (hm := Nat.le_refl _)); (focus leaf_len); (focus leaf_len)) | ((with_reducible apply bSub (hm := Nat.le_refl _)); (focus leaf_len); (focus leaf_len)) | ((with_reducible apply bNeg); leaf_len) | ((with_reducible apply bFdiv); (focus omega); leaf_len) | ((with_reducible apply bDiv); leaf_len) | ((with_reducible apply bMod); (focus leaf_len); omega) | ((with_reducible apply Sm.ba); one_place) | ((with_reducible apply Sm.bb); one_place) | ((with_reducible apply Sm.bc); one_place) | ((with_reducible apply Sm.bd); one_place))
local macro_rules | `(tactic| one_item) => `(tactic| first | ((with_reducible apply mulBt); (focus leaf_len); (focus leaf_len); (focus decide); (focus decide)) | ((with_reducible exact dv2)) | ((with_reducible apply divB); (focus omega); (focus leaf_len); (focus decide)) | exact ⟨rfl, rfl, by simp [D.dep, D.deps], by simp [D.dep, D.deps]⟩)
local macro_rules | `(tactic| w_left) => `(tactic| repeat ((with_reducible refine And.intro ?_ ?_); (focus one_item)))
open HQ HQ.Hur
local macro_rules | `(tactic| x_go) => `(tactic| first | (with_reducible refine callW_i (bool_ok ?_)) | (with_reducible refine callW_i (add_ok ?_)) | (with_reducible refine callW_i (sub_ok ?_)) | (with_reducible refine callW_i (neg_ok ?_)) | (with_reducible refine callW_i (halves_ok ?_)) | (with_reducible refine callW_i (mirrored_ok ?_)) | (with_reducible refine callW_i (eq_ok ?_)) | (with_reducible refine callW_i (mul_ok (by one_place) (by one_place) (by decide) (by decide) ?_)) | (with_reducible refine callW_i (size_ok (by one_place) (by decide) ?_)) | (with_reducible refine callW_i (whole_ok (by leaf_len) (by decide) ?_)) | (with_reducible refine callW_i (law_four_ok ?_)) | (with_reducible refine callW_i (law_back_ok ?_)) | (with_reducible refine callW_i (law_times_ok (by one_place) (by one_place) (by decide) (by decide) ?_)) | (with_reducible refine callW_i (law_size_ok (by one_place) (by decide) ?_)))
local macro_rules | `(tactic| z_go) => `(tactic| (f_lean; repeat (first | x_go | ((with_reducible refine And.intro ?_ ?_); (focus one_item))) <;> f_lean))
def colE (p : Hur) : D := .tup [.int (p.b / 2), .int (p.c / 2), .int (p.d / 2)]
def colH (p : Hur) : D := .tup [.int (p.b / 2 / 2), .int (p.c / 2 / 2), .int (p.d / 2 / 2)]
def colM (r e : Hur) : D := .tup [.int (mtB r e), .int (mtC r e), .int (mtD r e)]
def colsD (r : Hur) : D := .lst [colM r ex1, colM r ex2, colM r ex3]
theorem cols_even {r : Hur} (h : N r % 2 = 0) : colsD r = .lst [colH (r * ex1 * bar r), colH (r * ex2 * bar r), colH (r * ex3 * bar r)] := by
  unfold colsD colM mtB mtC mtD dlt rt colH
  simp only [h, if_true]
theorem cols_odd {r : Hur} (h : ¬ N r % 2 = 0) : colsD r = .lst [colE (r * ex1 * bar r), colE (r * ex2 * bar r), colE (r * ex3 * bar r)] := by
  unfold colsD colM mtB mtC mtD dlt rt colE
  simp only [h, if_false, Int.ediv_one]
theorem sl_1 {p : Hur} {st : Store} {Q : QE} {R : XQ} : oSl (hv p) (some 1) none st Q R = Q (.tup [.int p.b, .int p.c, .int p.d]) st := by
  unfold oSl
  refine propext ⟨fun h => h.2, fun h => ⟨?_, h⟩⟩
  simp [HT.sIx]
theorem table_ok {r : Hur} {l : Nat} {st : Store} {Q : QE} {R : XQ} (s : Sm r l) (hl : l ≤ 8000) (k : Q (.tup [colsD r, .int (und r)]) st) : p_table_of [fob r] st Q R := by
  have s1 : Sm ex1 2 := ⟨by decide, by decide, by decide, by decide⟩
  have s2 : Sm ex2 2 := ⟨by decide, by decide, by decide, by decide⟩
  have s3 : Sm ex3 2 := ⟨by decide, by decide, by decide, by decide⟩
  have s4 : Sm r 8000 := s.mono hl
  clear s
  refine i_table_of ?_
  unfold w_table_of
  f_lean
  rw [show rngD 1 3 = [.int 1, .int 2, .int 3] from rfl]
  f_lean
  refine make_ok ex1 ?_
  z_go
  rw [sl_1]
  f_lean
  refine ⟨dv2, dv2, dv2, ?_⟩
  refine make_ok ex2 ?_
  z_go
  rw [sl_1]
  f_lean
  refine ⟨dv2, dv2, dv2, ?_⟩
  refine make_ok ex3 ?_
  z_go
  rw [sl_1]
  f_lean
  refine ⟨dv2, dv2, dv2, ?_⟩
  z_go
  rw [fmod_pos (by decide)]
  unfold und at k
  refine iteW_i (fun hb => ?_) (fun hb => ?_)
  · rw [if_pos (of_decide_eq_true hb), cols_even (of_decide_eq_true hb)] at k
    f_lean
    simp only [fdiv_pos (show (0 : Int) < 2 by decide)]
    refine ⟨dv2, dv2, dv2, dv2, dv2, dv2, dv2, dv2, dv2, dv2, ?_⟩
    exact k
  · rw [if_neg (of_decide_eq_false hb), cols_odd (of_decide_eq_false hb)] at k
    f_lean
    simp only [fdiv_pos (show (0 : Int) < 2 by decide)]
    exact k
end LK
namespace LK
open PySem PySem.Spec PyProof.Rows L2 G
local macro_rules | `(tactic| f_lean) => `(tactic| simp (config := { dsimp := false, failIfUnchanged := false, implicitDefEqProofs := false }) only [↓e_wNext, ↓e_wBin, ↓e_wUn, ↓e_wArgs, ↓e_wC, ↓e_waNil, ↓e_waCons, ↓e_wTup, ↓e_wLst, ↓e_wCell, ↓e_wNotT, ↓e_wIsN, ↓e_wNotN, ↓e_wTru, ↓e_wSl, ↓e_woNone, ↓e_wSet, ↓e_wRet, ↓e_wRetN, ↓e_wExpr, ↓e_wFrz, ↓e_wBrk, ↓e_wCnt, ↓e_wAsg, ↓e_wgName, ↓e_wOwn, ↓seqK_nx, ↓seqK_rt, ↓seqK_bk, ↓seqK_ct, ↓seqK_ex, ↓loopK_nx, ↓loopK_rt, ↓loopK_bk, ↓loopK_ct, ↓loopK_ex, ↓e_wSeq, iteW_t, iteW_f, ↓e_wCall, ↓e_wIfS, ↓e_wIf, ↓e_wAndT, ↓e_wOrT, ↓e_wFor, ↓e_wWhile, ↓e_wLc, ↓blW_b, ↓e_wBool, ↓e_wAnd, ↓e_wOr, ↓e_wNot, ↓e_wChain, ↓e_var0, ↓e_varS, ↓e_varB0, ↓e_varB1, ↓e_varBS, e_set0, e_setS, ↓e_add, ↓e_addS, ↓e_addL, ↓e_addO, ↓e_sub, ↓e_subO, ↓e_mul, ↓e_mulL, ↓e_mulO, ↓e_fdiv, ↓e_mod, ↓e_pow, ↓e_lt, ↓e_le, ↓e_gt, ↓e_ge, ↓e_neg, ↓e_negO, ↓e_eqI, ↓e_neI, ↓e_eqB, ↓e_neB, ↓e_eqS, ↓e_neS, getW_s, ↓e_ixL, ↓e_ixT, celW_s, ↓e_ixC, atI_0, atI_1, atI_2, atI_3, ixN_10, ixN_20, ixN_21, ixN_30, ixN_31, ixN_32, ixN_40, ixN_41, ixN_42, ixN_43, ixN_l0, ↓e_lenL, ↓e_lenT, ↓e_lenS, ↓e_abs, ↓e_intI, ↓e_intB, ↓e_listL, ↓e_listT, ↓e_tupleL, ↓e_tupleT, ↓e_slL, ↓intW_i, ↓e_woSome, ↓e_slR, ↓e_par, ↓e_parW, ↓e_gTup, ↓e_gTupL, ↓e_gsNil, ↓e_gsCons, ↓e_iLst, ↓lstW_i, ↓e_iTup, ↓tupW_i, ↓e_iR1, ↓r1W_i, ↓e_iR2, ↓r2W_i, ↓e_iZip, ↓zipW_l, ↓zipW_t, ↓e_put, e_putO, e_putC, natW_s, ↓e_aug, e_augV, ↓e_app, e_appV, ↓e_addI, ↓e_addIS, ↓e_subI, ↓e_mulI, ↓e_fdivI, e_frzN, e_frzO, e_frzV, e_frzX, e_frzS, e_frzC, ↓e_all, ↓e_any, ↓e_sum, blsW_s, intsW_s, ↓e_truN, ↓e_truB, ↓e_truI, ↓e_truL, ↓e_truT, ↓e_isiT, ↓e_isiC, ↓e_isiY, bo1W_s, isi_ii, isi_is, isi_ib, isi_it, isi_il, isi_bi, isi_bs, isi_bb, isi_bt, isi_bll, isi_ni, isi_ns, isi_nb, isi_nt, isi_nl, isi_si, isi_ss, isi_sb, isi_st, isi_sl, isi_ti, isi_ts, isi_tb, isi_tt, isi_tl, isi_li, isi_ls, isi_lb, isi_lt, isi_ll, isi_ds0, isi_dsT, isi_isI, isi_isS, isi_isB, isi_isN, isi_isT, isi_isL, ixZ_0, ixZ_1, ixZ_2, ixZ_3, ixZ_4, ixZ_5, ixZ_6, ixZ_7, ixZ_8, ixZ_9, ixZ_10, ixZ_11, ixZ_12, ixZ_13, ixZ_14, ixZ_15, ixZ_16, bo2_s, isi_dsF, ↓e_nonN, ↓e_nonI, ↓e_nonB, ↓e_nonS, ↓e_nonT, ↓e_nonL, ↓e_nonO, ↓fnW_rt, ↓fnW_nx, ↓fnW_ex, ↓e_wipe0, ↓e_wipe1, ↓e_wYes, mW_s, ↓e_callM, attW_p, attW_f, ↓e_attO, insW_s, ↓e_attC, e_getC, e_getN, e_putC', e_putN, ↓e_wMeth, ↓e_clsO, ↓e_clsC, mthW_s, mthZW_s, ownW_s, ↓e_eqOO, ↓e_neOO, ↓e_eqOI, ↓e_neOI, ↓e_eqOT, ↓e_neOT, ↓e_eqOL, ↓e_neOL, ↓e_eqTT, ↓e_neTT, ↓e_eqLL, ↓e_neLL, ↓e_wMk, ↓sqW_t, ↓sqW_l, ↓e_wMkS, ↓fldW_c, ↓e_wFld, st_last, st_setL, ↓e_wLenIs, e_addT, e_addF, e_addM, e_addE, e_F0, e_P0, e_T0, e_M0, e_lcN, e_lcC, e_zipC, e_zipN, e_intsN, e_intsC, e_blsN, e_blsC, e_ltz0, e_ltz1, e_ltz2, e_ltz3, e_ltz4, e_ltz5, e_ltz6, e_ltz7, e_ltz8, e_ltz9, e_ltz10, e_ltz11, e_ltz12, e_ltz13, e_ltz14, e_ltz15, e_ltz16, e_ltz17, e_ltz18, e_ltz19, e_ltz20, e_ltz21, e_ltz22, e_ltz23, e_ltz24, e_cst0, e_cst1, e_cst2, e_cst3, e_cst4, e_cst5, e_cst6, e_cst7, e_cst8, e_cst9, e_cst10, e_cst11, e_cst12, e_cst13, e_cst14, e_cst15, e_cst16, e_cst17, e_cst18, e_cst19, e_cst20, e_cst21, e_cst22, e_cst23, e_cst24, ↓e_wiSeq, ↓e_ext, e_extO, ↓gfldW_c, ↓e_wgFld, ↓e_wLcN, e_tskN, e_tskC, e_lpN, e_lpC, calW_s, ↓obW_o, ↓e_wCal, ↓e_srt, ↓e_max, max_2, ↓e_min, min_2, optW_s, ↓e_gtA, ↓e_ltA, ↓e_gtT, ↓e_ltT, lexD_4, ↓e_inL, ↓e_inT, ↓e_inO, ↓e_isBB, bneF, bneT, e_isiOb, e_isiIc, e_isiTc, e_isOf, ↓e_addAi, ↓e_addAs, ↓e_addAl, ↓e_addAt, ↓e_addAo, ↓e_mulAi, ↓e_mulAl, ↓e_mulAt, ↓e_mulAo, e_forN, e_forC, ↓e_iZipA, ↓zipAW_l, ↓zipAW_t, ↓zipAW_w, ↓zipAW_m, ↓e_truO, ↓e_wParO, ↓e_par3, ↓e_par3W, ↓e_eqLl, ↓e_neLl, e_oaN, e_oaC, F_Four___init__, T_Four___add__, F_Four___add__, IL_Four___eq__, T_Four___eq__, F_Four___eq__, T_Four___mul__, F_Four___mul__, T_Four___neg__, F_Four___neg__, T_Four___sub__, F_Four___sub__, T_Four_halves, F_Four_halves, T_Four_mirrored, F_Four_mirrored, T_Four_size, F_Four_size, M_associate, T_associate, F_associate, T_Four___bool__, F_Four___bool__, T_nearest, F_nearest, M_divide_left, T_divide_left, F_divide_left, M_common_left, M_divides_left, T_Turn_rows, F_Turn_rows, M_Turn_image, T_Turn_image, F_Turn_image, M_Turn___call__, IL_Turn___eq__, T_Turn___eq__, F_Turn___eq__, E_Turn___eq__, T_Four_content, F_Four_content, M_Four_divided, T_Four_divided, F_Four_divided, M_lowest, T_lowest, F_lowest, M_table_of, T_table_of, F_table_of, M_Turn___init__, T_Turn___init__, F_Turn___init__, M_Turn___mul__, T_Turn___mul__, F_Turn___mul__, M_Turn___neg__, T_Turn___neg__, F_Turn___neg__, M_Turn_power, M_Grain_coordinates, T_Grain_coordinates, F_Grain_coordinates, M_Grain___contains__, T_Turn_four, F_Turn_four, M_odd_four, T_odd_four, F_odd_four, T_Grain___init__, F_Grain___init__, T_Grain_turn, F_Grain_turn, T_Grain_spread, F_Grain_spread, IL_Grain___eq__, T_Grain___eq__, F_Grain___eq__, E_Grain___eq__, T_Grain_four, F_Grain_four, M_Grain_turned, T_Grain_turned, F_Grain_turned, M_relative, T_relative, F_relative, T_spread, F_spread, M_midst, T_midst, F_midst, List.reduceReplicate, List.flatten_cons, List.flatten_nil, List.append_nil, decide_true, decide_false, Bool.not_true, Bool.not_false, List.length_cons, List.length_nil, List.getElem?_cons_zero, List.getElem?_cons_succ, List.set_cons_zero, List.set_cons_succ, true_and, and_true, ne_eq, not_false_eq_true, not_true_eq_false, Nat.zero_add, reduceCtorEq, Mn.nm.injEq, and_self, and_false, false_and, Bool.true_or, Bool.or_true, Bool.or_false, Bool.false_or, Bool.and_self, Bool.and_true, Bool.true_and, Bool.and_false, Bool.false_and, List.nil_append, List.cons_append, Option.map_some, List.sum_cons, List.sum_nil, if_true, if_false, ↓reduceIte, beq_self_eq_true, eq_self, Nat.reduceAdd, Nat.reduceMul, Nat.reduceSub, Nat.reduceLT, Nat.reduceLeDiff, Nat.reduceEqDiff, Int.reduceAdd, Int.reduceMul, Int.reduceSub, Int.reduceNeg, Int.reducePow, Int.reduceLT, Int.reduceLE, Int.reduceEq, Int.reduceNe, Int.reduceToNat, Nat.reducePow])
local macro_rules | `(tactic| one_place) => `(tactic| first | ((with_reducible assumption)) | ((with_reducible apply Sm.mul (hm := Nat.le_refl _)); (focus one_place); (focus one_place)) | ((with_reducible apply Sm.add (hm := Nat.le_refl _)); (focus one_place); (focus one_place)) | ((with_reducible apply Sm.sub (hm := Nat.le_refl _)); (focus one_place); (focus one_place)) | ((with_reducible apply Sm.neg); one_place) | ((with_reducible apply Sm.bar); one_place) | ((with_reducible apply Sm.bwhole (hm := Nat.le_refl _)); (focus leaf_len)))
local macro_rules | `(tactic| leaf_len) => `(tactic| first | ((with_reducible assumption)) | exact bLit (by decide) | ((with_reducible apply Sm.bN); (focus one_place)) | ((with_reducible apply bMul (hm := Nat.le_refl _)); (focus leaf_len); (focus leaf_len)) | ((with_reducible apply bAdd (hm := Nat.le_refl _)); (focus leaf_len); (focus leaf_len)) | ((with_reducible apply bSub (hm := Nat.le_refl _)); (focus leaf_len); (focus leaf_len)) | ((with_reducible apply bNeg); leaf_len) | ((with_reducible apply bFdiv); (focus omega); leaf_len) | ((with_reducible apply bDiv); leaf_len) | ((with_reducible apply bMod); (focus leaf_len); omega) | ((with_reducible apply Sm.ba); one_place) | ((with_reducible apply Sm.bb); one_place) | ((with_reducible apply Sm.bc); one_place) | ((with_reducible apply Sm.bd); one_place))
local macro_rules | `(tactic| one_item) => `(tactic| first | ((with_reducible apply mulBt); (focus leaf_len); (focus leaf_len); (focus decide); (focus decide)) | ((with_reducible exact dv2)) | ((with_reducible apply divB); (focus omega); (focus leaf_len); (focus decide)) | exact ⟨rfl, rfl, by simp [D.dep, D.deps], by simp [D.dep, D.deps]⟩)
local macro_rules | `(tactic| w_left) => `(tactic| repeat ((with_reducible refine And.intro ?_ ?_); (focus one_item)))
open HQ HQ.Hur
local macro_rules | `(tactic| x_go) => `(tactic| first | (with_reducible refine callW_i (bool_ok ?_)) | (with_reducible refine callW_i (add_ok ?_)) | (with_reducible refine callW_i (sub_ok ?_)) | (with_reducible refine callW_i (neg_ok ?_)) | (with_reducible refine callW_i (halves_ok ?_)) | (with_reducible refine callW_i (mirrored_ok ?_)) | (with_reducible refine callW_i (eq_ok ?_)) | (with_reducible refine callW_i (mul_ok (by one_place) (by one_place) (by decide) (by decide) ?_)) | (with_reducible refine callW_i (size_ok (by one_place) (by decide) ?_)) | (with_reducible refine callW_i (whole_ok (by leaf_len) (by decide) ?_)) | (with_reducible refine callW_i (law_four_ok ?_)) | (with_reducible refine callW_i (law_back_ok ?_)) | (with_reducible refine callW_i (law_times_ok (by one_place) (by one_place) (by decide) (by decide) ?_)) | (with_reducible refine callW_i (law_size_ok (by one_place) (by decide) ?_)))
local macro_rules | `(tactic| z_go) => `(tactic| (f_lean; repeat (first | x_go | ((with_reducible refine And.intro ?_ ?_); (focus one_item))) <;> f_lean))
abbrev tobR (r : Hur) : D := .ob 19 [(9, fob r), (19, colsD r), (20, .int (und r))]
noncomputable abbrev tob (q : Hur) : D := tobR (low q)
theorem cols_noc (r : Hur) (n : Nat) : (colsD r).noc n := by simp [colsD, colM, D.noc, D.nocs]
theorem turn_ok {q : Hur} {l : Nat} {st : Store} {Q : QE} {R : XQ} {x y} (hq : q ≠ zero) (s : Sm q l) (hl : l ≤ 8000) (k : Q (tob q) st) : mkW true 19 p_Turn___init__ [fob q] st Q R x y := by
  refine mkW_v (i_Turn___init__ ?_)
  unfold w_Turn___init__
  f_lean
  refine callW_i (bool_ok ?_)
  rw [decide_eq_true hq]
  f_lean
  refine callW_i (lowest_ok hq s hl ?_)
  f_lean
  refine callW_i (table_ok (low_small hq s (Nat.le_refl _)) hl ?_)
  f_lean
  exact ⟨_, rfl, by simp [D.nocF, D.noc, D.nocs, cols_noc], k⟩
theorem tmul_ok {p q : Hur} {l m : Nat} {st : Store} {Q : QE} {R : XQ} (hp : p ≠ zero) (hq : q ≠ zero) (sp : Sm p l) (sq : Sm q m) (hl : l + m + 1 ≤ 8000) (k : Q (tob (p * q)) st) : p_Turn___mul__ [tob p, tob q] st Q R := by
  have s1 := low_small hp sp (Nat.le_refl _)
  have s2 := low_small hq sq (Nat.le_refl _)
  refine i_Turn___mul__ ?_
  unfold w_Turn___mul__
  f_lean
  refine callW_i (mul_ok s1 s2 (by omega) (by omega) ?_)
  f_lean
  refine turn_ok (mul_ne (low_ne hp) (low_ne hq)) (Sm.mul s1 s2 (Nat.le_refl _)) hl ?_
  have e : low (low p * low q) = low (p * q) := low_congr (mul_ne (low_ne hp) (low_ne hq)) ((low_pr hp).mul (low_pr hq))
  rw [show tob (low p * low q) = tob (p * q) from congrArg tobR e]
  f_lean
  exact k
theorem tneg_ok {q : Hur} {l : Nat} {st : Store} {Q : QE} {R : XQ} (hq : q ≠ zero) (sq : Sm q l) (hl : l ≤ 8000) (k : Q (tob (bar q)) st) : p_Turn___neg__ [tob q] st Q R := by
  have s2 := low_small hq sq (Nat.le_refl _)
  refine i_Turn___neg__ ?_
  unfold w_Turn___neg__
  f_lean
  refine callW_i (mirrored_ok ?_)
  f_lean
  refine turn_ok (bar_ne (low_ne hq)) (Sm.bar s2) hl ?_
  have e : low (bar (low q)) = low (bar q) := low_congr (bar_ne (low_ne hq)) (low_pr hq).bar
  rw [show tob (bar (low q)) = tob (bar q) from congrArg tobR e]
  f_lean
  exact k
theorem teq_ok {p q : Hur} {st : Store} {Q : QE} {R : XQ} (k : Q (.bl (decide (low p = low q))) st) : p_Turn___eq__ [tob p, tob q] st Q R := by
  refine i_Turn___eq__ ?_
  unfold w_Turn___eq__
  f_lean
  refine callW_i (eq_ok ?_)
  f_lean
  exact k
theorem tfour_ok {q : Hur} {st : Store} {Q : QE} {R : XQ} (k : Q (fob (low q)) st) : p_Turn_four [tob q] st Q R := by
  refine i_Turn_four ?_
  unfold w_Turn_four
  f_lean
  exact k
theorem still_ok {st : Store} {Q : QE} {R : XQ} (k : Q (tob one) st) : p_Turn_still [] st Q R := by
  refine i_Turn_still ?_
  unfold w_Turn_still
  f_lean
  refine callW_i (whole_ok (bLit (by decide)) (by decide) ?_)
  f_lean
  refine turn_ok (q := one) (l := 3) one_ne ⟨by decide, by decide, by decide, by decide⟩ (by decide) ?_
  f_lean
  exact k
theorem half_small {s p : Hur} {l : Nat} (e : p = sm 2 s) (h : Sm p l) : Sm s l := by
  have a := congrArg Hur.a e; have b := congrArg Hur.b e; have c := congrArg Hur.c e; have d := congrArg Hur.d e
  simp only [sm_a, sm_b, sm_c, sm_d] at a b c d
  have ha := h.a; have hb := h.b; have hc := h.c; have hd := h.d
  exact ⟨by omega, by omega, by omega, by omega⟩
theorem odd_ok {q : Hur} {l : Nat} {st : Store} {Q : QE} {R : XQ} (hq : q ≠ zero) (sq : Sm q l) (hl : l + 3 ≤ 8000) (k : ∀ s, Sm s (l + 3) → assoc s = ownH q → Q (fob s) st) : p_odd_four [tob q] st Q R := by
  have s2 := low_small hq sq (Nat.le_refl _)
  have so : Sm oj 2 := ⟨by decide, by decide, by decide, by decide⟩
  refine i_odd_four ?_
  unfold w_odd_four
  f_lean
  refine callW_i (tfour_ok ?_)
  f_lean
  refine callW_i (size_ok s2 (by omega) ?_)
  f_lean
  rw [fmod_pos (by decide)]
  refine iteW_i (fun hb => ?_) (fun hb => ?_)
  · obtain ⟨s, e, ha⟩ := oddf_spec hq (of_decide_eq_true hb)
    have sm1 : Sm (low q * oj) (l + 3) := Sm.mul s2 so (Nat.le_refl _)
    f_lean
    refine make_ok oj ?_
    f_lean
    refine callW_i (mul_ok s2 so (by omega) (by omega) ?_)
    f_lean
    refine callW_i (divided_ok e (by decide) (mul_ne (low_ne hq) (by rw [oj_eq]; exact bar_ne oi_ne)) sm1 hl ?_)
    f_lean
    exact k s (half_small e sm1) ha
  · f_lean
    exact k _ (s2.mono (by omega)) (oddf_else (of_decide_eq_false hb))
noncomputable abbrev gobA (r : Hur) : D := .ob 20 [(9, fob r), (28, tob r)]
noncomputable abbrev gob (q : Hur) : D := gobA (ownH q)
theorem grain_ok {q : Hur} {l : Nat} {st : Store} {Q : QE} {R : XQ} {x y} (hq : q ≠ zero) (s : Sm q l) (hl : l ≤ 7000) (k : Q (gob q) st) : mkW true 20 p_Grain___init__ [tob q] st Q R x y := by
  refine mkW_v (i_Grain___init__ ?_)
  unfold w_Grain___init__
  f_lean
  refine callW_i (odd_ok hq s (by omega) fun t st' ha => ?_)
  f_lean
  refine callW_i (assoc_ok st' (by omega) ?_)
  rw [ha]
  f_lean
  refine turn_ok (own_ne hq) (own_small hq s (Nat.le_refl _)) (by omega) ?_
  f_lean
  exact ⟨_, rfl, by simp [D.nocF, D.noc, D.nocs, cols_noc], k⟩
theorem gfour_ok {q : Hur} {st : Store} {Q : QE} {R : XQ} (k : Q (fob (ownH q)) st) : p_Grain_four [gob q] st Q R := by
  refine i_Grain_four ?_
  unfold w_Grain_four
  f_lean
  exact k
theorem gturn_ok {q : Hur} {st : Store} {Q : QE} {R : XQ} (k : Q (tob (ownH q)) st) : p_Grain_turn [gob q] st Q R := by
  refine i_Grain_turn ?_
  unfold w_Grain_turn
  f_lean
  exact k
theorem gspread_ok {q : Hur} {l : Nat} {st : Store} {Q : QE} {R : XQ} (hq : q ≠ zero) (s : Sm q l) (hl : l ≤ 7000) (k : Q (.int (nu q)) st) : p_Grain_spread [gob q] st Q R := by
  refine i_Grain_spread ?_
  unfold w_Grain_spread
  f_lean
  refine callW_i (size_ok (own_small hq s (Nat.le_refl _)) (by omega) ?_)
  f_lean
  exact k
theorem geq_ok {p q : Hur} {st : Store} {Q : QE} {R : XQ} (k : Q (.bl (decide (ownH p = ownH q))) st) : p_Grain___eq__ [gob p, gob q] st Q R := by
  refine i_Grain___eq__ ?_
  unfold w_Grain___eq__
  f_lean
  refine callW_i (eq_ok ?_)
  f_lean
  exact k
theorem gplain_ok {st : Store} {Q : QE} {R : XQ} (k : Q (gob one) st) : p_Grain_plain [] st Q R := by
  refine i_Grain_plain ?_
  unfold w_Grain_plain
  f_lean
  refine callW_i (still_ok ?_)
  f_lean
  refine grain_ok (q := one) (l := 3) one_ne ⟨by decide, by decide, by decide, by decide⟩ (by decide) ?_
  f_lean
  exact k
theorem turned_ok {q t : Hur} {l m : Nat} {st : Store} {Q : QE} {R : XQ} (hq : q ≠ zero) (ht : t ≠ zero) (sq : Sm q l) (s2 : Sm t m) (hl : l ≤ 3000) (hm : m ≤ 3000) (k : Q (gob (t * q)) st) : p_Grain_turned [gob q, tob t] st Q R := by
  have so := own_small hq sq (Nat.le_refl _)
  refine i_Grain_turned ?_
  unfold w_Grain_turned
  f_lean
  refine callW_i (tmul_ok ht (own_ne hq) s2 so (by omega) ?_)
  f_lean
  refine grain_ok (mul_ne ht (own_ne hq)) (Sm.mul s2 so (Nat.le_refl _)) (by omega) ?_
  rw [show gob (t * ownH q) = gob (t * q) from congrArg gobA (own_right ht hq)]
  f_lean
  exact k
theorem relative_ok {p q : Hur} {l m : Nat} {st : Store} {Q : QE} {R : XQ} (hp : p ≠ zero) (hq : q ≠ zero) (sp : Sm p l) (sq : Sm q m) (hl : l ≤ 3000) (hm : m ≤ 3000) (k : Q (gob (bar (ownH p) * q)) st) : p_relative [gob p, gob q] st Q R := by
  have s1 := own_small hp sp (Nat.le_refl _)
  have s2 := own_small hq sq (Nat.le_refl _)
  refine i_relative ?_
  unfold w_relative
  f_lean
  refine callW_i (gturn_ok ?_)
  f_lean
  refine callW_i (tneg_ok (own_ne hp) s1 (by omega) ?_)
  f_lean
  refine callW_i (gturn_ok ?_)
  f_lean
  refine callW_i (tmul_ok (bar_ne (own_ne hp)) (own_ne hq) (Sm.bar s1) s2 (by omega) ?_)
  f_lean
  refine grain_ok (mul_ne (bar_ne (own_ne hp)) (own_ne hq)) (Sm.mul (Sm.bar s1) s2 (Nat.le_refl _)) (by omega) ?_
  rw [show gob (bar (ownH p) * ownH q) = gob (bar (ownH p) * q) from congrArg gobA (own_right (bar_ne (own_ne hp)) hq)]
  f_lean
  exact k
theorem spread_ok {p q : Hur} {l m : Nat} {st : Store} {Q : QE} {R : XQ} (hp : p ≠ zero) (hq : q ≠ zero) (sp : Sm p l) (sq : Sm q m) (hl : l ≤ 3000) (hm : m ≤ 3000) (k : Q (.int (nu (bar p * q))) st) : p_spread [gob p, gob q] st Q R := by
  have s1 := own_small hp sp (Nat.le_refl _)
  refine i_spread ?_
  unfold w_spread
  f_lean
  refine callW_i (relative_ok hp hq sp sq hl hm ?_)
  f_lean
  refine callW_i (gspread_ok (mul_ne (bar_ne (own_ne hp)) hq) (Sm.mul (Sm.bar s1) sq (Nat.le_refl _)) (by omega) ?_)
  rw [nu_left hp hq]
  f_lean
  exact k
theorem law_turn_ok {q : Hur} {l : Nat} {st : Store} {Q : QE} {R : XQ} (hq : q ≠ zero) (s : Sm q l) (hl : l ≤ 8000) (k : Q (tob q) st) : p__law_turn [hv q] st Q R := by
  refine i__law_turn ?_
  unfold w__law_turn
  f_lean
  refine callW_i (law_four_ok ?_)
  f_lean
  refine turn_ok hq s hl ?_
  f_lean
  exact k
theorem law_grain_ok {q : Hur} {l : Nat} {st : Store} {Q : QE} {R : XQ} (hq : q ≠ zero) (s : Sm q l) (hl : l ≤ 7000) (k : Q (gob q) st) : p__law_grain [hv q] st Q R := by
  refine i__law_grain ?_
  unfold w__law_grain
  f_lean
  refine callW_i (law_four_ok ?_)
  f_lean
  refine turn_ok hq s (by omega) ?_
  f_lean
  refine grain_ok hq s hl ?_
  f_lean
  exact k
end LK
namespace LK
open PySem PySem.Spec PyProof.Rows L2 G
local macro_rules | `(tactic| f_lean) => `(tactic| simp (config := { dsimp := false, failIfUnchanged := false, implicitDefEqProofs := false }) only [↓e_wNext, ↓e_wBin, ↓e_wUn, ↓e_wArgs, ↓e_wC, ↓e_waNil, ↓e_waCons, ↓e_wTup, ↓e_wLst, ↓e_wCell, ↓e_wNotT, ↓e_wIsN, ↓e_wNotN, ↓e_wTru, ↓e_wSl, ↓e_woNone, ↓e_wSet, ↓e_wRet, ↓e_wRetN, ↓e_wExpr, ↓e_wFrz, ↓e_wBrk, ↓e_wCnt, ↓e_wAsg, ↓e_wgName, ↓e_wOwn, ↓seqK_nx, ↓seqK_rt, ↓seqK_bk, ↓seqK_ct, ↓seqK_ex, ↓loopK_nx, ↓loopK_rt, ↓loopK_bk, ↓loopK_ct, ↓loopK_ex, ↓e_wSeq, iteW_t, iteW_f, ↓e_wCall, ↓e_wIfS, ↓e_wIf, ↓e_wAndT, ↓e_wOrT, ↓e_wFor, ↓e_wWhile, ↓e_wLc, ↓blW_b, ↓e_wBool, ↓e_wAnd, ↓e_wOr, ↓e_wNot, ↓e_wChain, ↓e_var0, ↓e_varS, ↓e_varB0, ↓e_varB1, ↓e_varBS, e_set0, e_setS, ↓e_add, ↓e_addS, ↓e_addL, ↓e_addO, ↓e_sub, ↓e_subO, ↓e_mul, ↓e_mulL, ↓e_mulO, ↓e_fdiv, ↓e_mod, ↓e_pow, ↓e_lt, ↓e_le, ↓e_gt, ↓e_ge, ↓e_neg, ↓e_negO, ↓e_eqI, ↓e_neI, ↓e_eqB, ↓e_neB, ↓e_eqS, ↓e_neS, getW_s, ↓e_ixL, ↓e_ixT, celW_s, ↓e_ixC, atI_0, atI_1, atI_2, atI_3, ixN_10, ixN_20, ixN_21, ixN_30, ixN_31, ixN_32, ixN_40, ixN_41, ixN_42, ixN_43, ixN_l0, ↓e_lenL, ↓e_lenT, ↓e_lenS, ↓e_abs, ↓e_intI, ↓e_intB, ↓e_listL, ↓e_listT, ↓e_tupleL, ↓e_tupleT, ↓e_slL, ↓intW_i, ↓e_woSome, ↓e_slR, ↓e_par, ↓e_parW, ↓e_gTup, ↓e_gTupL, ↓e_gsNil, ↓e_gsCons, ↓e_iLst, ↓lstW_i, ↓e_iTup, ↓tupW_i, ↓e_iR1, ↓r1W_i, ↓e_iR2, ↓r2W_i, ↓e_iZip, ↓zipW_l, ↓zipW_t, ↓e_put, e_putO, e_putC, natW_s, ↓e_aug, e_augV, ↓e_app, e_appV, ↓e_addI, ↓e_addIS, ↓e_subI, ↓e_mulI, ↓e_fdivI, e_frzN, e_frzO, e_frzV, e_frzX, e_frzS, e_frzC, ↓e_all, ↓e_any, ↓e_sum, blsW_s, intsW_s, ↓e_truN, ↓e_truB, ↓e_truI, ↓e_truL, ↓e_truT, ↓e_isiT, ↓e_isiC, ↓e_isiY, bo1W_s, isi_ii, isi_is, isi_ib, isi_it, isi_il, isi_bi, isi_bs, isi_bb, isi_bt, isi_bll, isi_ni, isi_ns, isi_nb, isi_nt, isi_nl, isi_si, isi_ss, isi_sb, isi_st, isi_sl, isi_ti, isi_ts, isi_tb, isi_tt, isi_tl, isi_li, isi_ls, isi_lb, isi_lt, isi_ll, isi_ds0, isi_dsT, isi_isI, isi_isS, isi_isB, isi_isN, isi_isT, isi_isL, ixZ_0, ixZ_1, ixZ_2, ixZ_3, ixZ_4, ixZ_5, ixZ_6, ixZ_7, ixZ_8, ixZ_9, ixZ_10, ixZ_11, ixZ_12, ixZ_13, ixZ_14, ixZ_15, ixZ_16, bo2_s, isi_dsF, ↓e_nonN, ↓e_nonI, ↓e_nonB, ↓e_nonS, ↓e_nonT, ↓e_nonL, ↓e_nonO, ↓fnW_rt, ↓fnW_nx, ↓fnW_ex, ↓e_wipe0, ↓e_wipe1, ↓e_wYes, mW_s, ↓e_callM, attW_p, attW_f, ↓e_attO, insW_s, ↓e_attC, e_getC, e_getN, e_putC', e_putN, ↓e_wMeth, ↓e_clsO, ↓e_clsC, mthW_s, mthZW_s, ownW_s, ↓e_eqOO, ↓e_neOO, ↓e_eqOI, ↓e_neOI, ↓e_eqOT, ↓e_neOT, ↓e_eqOL, ↓e_neOL, ↓e_eqTT, ↓e_neTT, ↓e_eqLL, ↓e_neLL, ↓e_wMk, ↓sqW_t, ↓sqW_l, ↓e_wMkS, ↓fldW_c, ↓e_wFld, st_last, st_setL, ↓e_wLenIs, e_addT, e_addF, e_addM, e_addE, e_F0, e_P0, e_T0, e_M0, e_lcN, e_lcC, e_zipC, e_zipN, e_intsN, e_intsC, e_blsN, e_blsC, e_ltz0, e_ltz1, e_ltz2, e_ltz3, e_ltz4, e_ltz5, e_ltz6, e_ltz7, e_ltz8, e_ltz9, e_ltz10, e_ltz11, e_ltz12, e_ltz13, e_ltz14, e_ltz15, e_ltz16, e_ltz17, e_ltz18, e_ltz19, e_ltz20, e_ltz21, e_ltz22, e_ltz23, e_ltz24, e_cst0, e_cst1, e_cst2, e_cst3, e_cst4, e_cst5, e_cst6, e_cst7, e_cst8, e_cst9, e_cst10, e_cst11, e_cst12, e_cst13, e_cst14, e_cst15, e_cst16, e_cst17, e_cst18, e_cst19, e_cst20, e_cst21, e_cst22, e_cst23, e_cst24, ↓e_wiSeq, ↓e_ext, e_extO, ↓gfldW_c, ↓e_wgFld, ↓e_wLcN, e_tskN, e_tskC, e_lpN, e_lpC, calW_s, ↓obW_o, ↓e_wCal, ↓e_srt, ↓e_max, max_2, ↓e_min, min_2, optW_s, ↓e_gtA, ↓e_ltA, ↓e_gtT, ↓e_ltT, lexD_4, ↓e_inL, ↓e_inT, ↓e_inO, ↓e_isBB, bneF, bneT, e_isiOb, e_isiIc, e_isiTc, e_isOf, ↓e_addAi, ↓e_addAs, ↓e_addAl, ↓e_addAt, ↓e_addAo, ↓e_mulAi, ↓e_mulAl, ↓e_mulAt, ↓e_mulAo, e_forN, e_forC, ↓e_iZipA, ↓zipAW_l, ↓zipAW_t, ↓zipAW_w, ↓zipAW_m, ↓e_truO, ↓e_wParO, ↓e_par3, ↓e_par3W, ↓e_eqLl, ↓e_neLl, e_oaN, e_oaC, F_Four___init__, T_Four___add__, F_Four___add__, IL_Four___eq__, T_Four___eq__, F_Four___eq__, T_Four___mul__, F_Four___mul__, T_Four___neg__, F_Four___neg__, T_Four___sub__, F_Four___sub__, T_Four_halves, F_Four_halves, T_Four_mirrored, F_Four_mirrored, T_Four_size, F_Four_size, M_associate, T_associate, F_associate, T_Four___bool__, F_Four___bool__, T_nearest, F_nearest, M_divide_left, T_divide_left, F_divide_left, M_common_left, M_divides_left, T_Turn_rows, F_Turn_rows, M_Turn_image, T_Turn_image, F_Turn_image, M_Turn___call__, IL_Turn___eq__, T_Turn___eq__, F_Turn___eq__, E_Turn___eq__, T_Four_content, F_Four_content, M_Four_divided, T_Four_divided, F_Four_divided, M_lowest, T_lowest, F_lowest, M_table_of, T_table_of, F_table_of, M_Turn___init__, T_Turn___init__, F_Turn___init__, M_Turn___mul__, T_Turn___mul__, F_Turn___mul__, M_Turn___neg__, T_Turn___neg__, F_Turn___neg__, M_Turn_power, M_Grain_coordinates, T_Grain_coordinates, F_Grain_coordinates, M_Grain___contains__, T_Turn_four, F_Turn_four, M_odd_four, T_odd_four, F_odd_four, T_Grain___init__, F_Grain___init__, T_Grain_turn, F_Grain_turn, T_Grain_spread, F_Grain_spread, IL_Grain___eq__, T_Grain___eq__, F_Grain___eq__, E_Grain___eq__, T_Grain_four, F_Grain_four, M_Grain_turned, T_Grain_turned, F_Grain_turned, M_relative, T_relative, F_relative, T_spread, F_spread, M_midst, T_midst, F_midst, List.reduceReplicate, List.flatten_cons, List.flatten_nil, List.append_nil, decide_true, decide_false, Bool.not_true, Bool.not_false, List.length_cons, List.length_nil, List.getElem?_cons_zero, List.getElem?_cons_succ, List.set_cons_zero, List.set_cons_succ, true_and, and_true, ne_eq, not_false_eq_true, not_true_eq_false, Nat.zero_add, reduceCtorEq, Mn.nm.injEq, and_self, and_false, false_and, Bool.true_or, Bool.or_true, Bool.or_false, Bool.false_or, Bool.and_self, Bool.and_true, Bool.true_and, Bool.and_false, Bool.false_and, List.nil_append, List.cons_append, Option.map_some, List.sum_cons, List.sum_nil, if_true, if_false, ↓reduceIte, beq_self_eq_true, eq_self, Nat.reduceAdd, Nat.reduceMul, Nat.reduceSub, Nat.reduceLT, Nat.reduceLeDiff, Nat.reduceEqDiff, Int.reduceAdd, Int.reduceMul, Int.reduceSub, Int.reduceNeg, Int.reducePow, Int.reduceLT, Int.reduceLE, Int.reduceEq, Int.reduceNe, Int.reduceToNat, Nat.reducePow])
local macro_rules | `(tactic| one_place) => `(tactic| first | ((with_reducible assumption)) | ((with_reducible apply Sm.mul (hm := Nat.le_refl _)); (focus one_place); (focus one_place)) | ((with_reducible apply Sm.add (hm := Nat.le_refl _)); (focus one_place); (focus one_place)) | ((with_reducible apply Sm.sub (hm := Nat.le_refl _)); (focus one_place); (focus one_place)) | ((with_reducible apply Sm.neg); one_place) | ((with_reducible apply Sm.bar); one_place) | ((with_reducible apply Sm.bwhole (hm := Nat.le_refl _)); (focus leaf_len)))
local macro_rules | `(tactic| leaf_len) => `(tactic| first | ((with_reducible assumption)) | exact bLit (by decide) | ((with_reducible apply Sm.bN); (focus one_place)) | ((with_reducible apply bMul (hm := Nat.le_refl _)); (focus leaf_len); (focus leaf_len)) | ((with_reducible apply bAdd (hm := Nat.le_refl _)); (focus leaf_len); (focus leaf_len)) | ((with_reducible apply bSub (hm := Nat.le_refl _)); (focus leaf_len); (focus leaf_len)) | ((with_reducible apply bNeg); leaf_len) | ((with_reducible apply bFdiv); (focus omega); leaf_len) | ((with_reducible apply bDiv); leaf_len) | ((with_reducible apply bMod); (focus leaf_len); omega) | ((with_reducible apply Sm.ba); one_place) | ((with_reducible apply Sm.bb); one_place) | ((with_reducible apply Sm.bc); one_place) | ((with_reducible apply Sm.bd); one_place))
local macro_rules | `(tactic| one_item) => `(tactic| first | ((with_reducible apply mulBt); (focus leaf_len); (focus leaf_len); (focus decide); (focus decide)) | ((with_reducible exact dv2)) | ((with_reducible apply divB); (focus omega); (focus leaf_len); (focus decide)) | exact ⟨rfl, rfl, by simp [D.dep, D.deps], by simp [D.dep, D.deps]⟩)
local macro_rules | `(tactic| w_left) => `(tactic| repeat ((with_reducible refine And.intro ?_ ?_); (focus one_item)))
open HQ HQ.Hur
local macro_rules | `(tactic| x_go) => `(tactic| first | (with_reducible refine callW_i (bool_ok ?_)) | (with_reducible refine callW_i (add_ok ?_)) | (with_reducible refine callW_i (sub_ok ?_)) | (with_reducible refine callW_i (neg_ok ?_)) | (with_reducible refine callW_i (halves_ok ?_)) | (with_reducible refine callW_i (mirrored_ok ?_)) | (with_reducible refine callW_i (eq_ok ?_)) | (with_reducible refine callW_i (mul_ok (by one_place) (by one_place) (by decide) (by decide) ?_)) | (with_reducible refine callW_i (size_ok (by one_place) (by decide) ?_)) | (with_reducible refine callW_i (whole_ok (by leaf_len) (by decide) ?_)) | (with_reducible refine callW_i (law_four_ok ?_)) | (with_reducible refine callW_i (law_back_ok ?_)) | (with_reducible refine callW_i (law_times_ok (by one_place) (by one_place) (by decide) (by decide) ?_)) | (with_reducible refine callW_i (law_size_ok (by one_place) (by decide) ?_)))
local macro_rules | `(tactic| z_go) => `(tactic| (f_lean; repeat (first | x_go | ((with_reducible refine And.intro ?_ ?_); (focus one_item))) <;> f_lean))
theorem gcd_of_gen {xs : List Int} {st : Store} {Q : QE} {R : XQ} (k : Q (.int ((xs.foldl (fun (n : Nat) x => Int.gcd n x) 0 : Nat) : Int)) st) : p__law_gcd_of [.lst (xs.map D.int)] st Q R := by
  refine i__law_gcd_of ?_
  unfold w__law_gcd_of
  f_lean
  refine forW_i (fun i e s => ∃ x2, e = [.val (.lst (xs.map D.int)), .val (.int (((xs.take i).foldl (fun (n : Nat) x => Int.gcd n x) 0 : Nat) : Int)), x2] ∧ s = st ∧ i ≤ xs.length) ⟨_, rfl, rfl, by omega⟩ ?_ ?_
  · rintro i d _ _ hd ⟨x2, rfl, rfl, hi⟩ K hK
    rw [List.getElem?_map, Option.map_eq_some_iff] at hd
    obtain ⟨x, hx, rfl⟩ := hd
    have hlt := (List.getElem?_eq_some_iff.mp hx).1
    f_lean
    refine callW_i (gcd_ok ?_)
    f_lean
    refine hK _ _ ⟨.val (.int x), ?_, rfl, hlt⟩
    rw [List.take_add_one, hx]
    simp
  · rintro _ _ ⟨x2, rfl, rfl, _⟩
    rw [List.length_map, List.take_length]
    f_lean
    exact k
theorem fold_dvd : ∀ (xs : List Int) (n : Nat) (m : Int), m ∣ ((xs.foldl (fun (n : Nat) x => Int.gcd n x) n : Nat) : Int) ↔ m ∣ n ∧ ∀ x ∈ xs, m ∣ x
  | [], n, m => by simp
  | x :: xs, n, m => by
    rw [List.foldl_cons, fold_dvd xs]
    constructor
    · rintro ⟨h1, h2⟩
      refine ⟨Int.dvd_trans h1 (Int.gcd_dvd_left ..), fun y hy => ?_⟩
      rcases List.mem_cons.mp hy with rfl | hy
      · exact Int.dvd_trans h1 (Int.gcd_dvd_right ..)
      · exact h2 y hy
    · rintro ⟨h1, h2⟩
      exact ⟨Int.dvd_coe_gcd h1 (h2 x (List.mem_cons_self ..)), fun y hy => h2 y (List.mem_cons_of_mem _ hy)⟩
def rowB (r : Hur) : D := .tup [.int (mtB r ex1), .int (mtB r ex2), .int (mtB r ex3)]
def rowC (r : Hur) : D := .tup [.int (mtC r ex1), .int (mtC r ex2), .int (mtC r ex3)]
def rowD (r : Hur) : D := .tup [.int (mtD r ex1), .int (mtD r ex2), .int (mtD r ex3)]
def tabD (r : Hur) : D := .tup [.lst [rowB r, rowC r, rowD r], .int (und r)]
theorem law_table_ok {q : Hur} {l : Nat} {st : Store} {Q : QE} {R : XQ} (hq : q ≠ zero) (s : Sm q l) (hl : l ≤ 500) (k : Q (tabD (low q)) st) : p__law_table [hv q] st Q R := by
  have s4 : Sm q 500 := s.mono hl
  clear s
  refine i__law_table ?_
  unfold w__law_table
  z_go
  refine callW_i (gcd_of_gen (xs := [q.a * q.a + q.b * q.b - q.c * q.c - q.d * q.d, 2 * (q.b * q.c - q.a * q.d), 2 * (q.b * q.d + q.a * q.c), 2 * (q.b * q.c + q.a * q.d), q.a * q.a - q.b * q.b + q.c * q.c - q.d * q.d, 2 * (q.c * q.d - q.a * q.b), 2 * (q.b * q.d - q.a * q.c), 2 * (q.c * q.d + q.a * q.b), q.a * q.a - q.b * q.b - q.c * q.c + q.d * q.d, q.a * q.a + q.b * q.b + q.c * q.c + q.d * q.d]) ?_)
  have hf := fun m => fold_dvd [q.a * q.a + q.b * q.b - q.c * q.c - q.d * q.d, 2 * (q.b * q.c - q.a * q.d), 2 * (q.b * q.d + q.a * q.c), 2 * (q.b * q.c + q.a * q.d), q.a * q.a - q.b * q.b + q.c * q.c - q.d * q.d, 2 * (q.c * q.d - q.a * q.b), 2 * (q.b * q.d - q.a * q.c), 2 * (q.c * q.d + q.a * q.b), q.a * q.a - q.b * q.b - q.c * q.c + q.d * q.d, q.a * q.a + q.b * q.b + q.c * q.c + q.d * q.d] 0 m
  generalize List.foldl (fun (n : Nat) x => Int.gcd n x) 0 [q.a * q.a + q.b * q.b - q.c * q.c - q.d * q.d, 2 * (q.b * q.c - q.a * q.d), 2 * (q.b * q.d + q.a * q.c), 2 * (q.b * q.c + q.a * q.d), q.a * q.a - q.b * q.b + q.c * q.c - q.d * q.d, 2 * (q.c * q.d - q.a * q.b), 2 * (q.b * q.d - q.a * q.c), 2 * (q.c * q.d + q.a * q.b), q.a * q.a - q.b * q.b - q.c * q.c + q.d * q.d, q.a * q.a + q.b * q.b + q.c * q.c + q.d * q.d] = g at hf ⊢
  simp only [List.forall_mem_cons, List.not_mem_nil, false_implies, implies_true, and_true, Int.natCast_zero, Int.dvd_zero, true_and, forall_const] at hf
  obtain ⟨c, c0, eq, eg⟩ := tab_gcd hq (Int.natCast_nonneg g) hf
  have te := tab_entries eq
  have U0 : 0 < q.a * q.a + q.b * q.b + q.c * q.c + q.d * q.d := by have := four_N q; have := N_pos hq; omega
  have bU : Bt (q.a * q.a + q.b * q.b + q.c * q.c + q.d * q.d) 4100 := Bt.mono (by leaf_len) (by decide)
  have dg : (g : Int) ∣ q.a * q.a + q.b * q.b + q.c * q.c + q.d * q.d := ((hf g).mp (Int.dvd_refl _)).2.2.2.2.2.2.2.2.2
  have g0 : (0 : Int) < g := by
    rcases (show (0 : Int) < g ∨ (g : Int) = 0 by omega) with h | h
    · exact h
    · rw [h] at dg; have := Int.zero_dvd.mp dg; omega
  have dv : DivOk (g : Int) := divB g0 (Bt.le bU (by omega) (Int.le_of_dvd U0 dg)) (by decide)
  have cc : 0 < 4 * (c * c) := by
    rcases (show 0 < c ∨ c < 0 by omega) with h | h
    · have := Int.mul_pos h h; omega
    · have := Int.mul_pos_of_neg_of_neg h h; omega
  have dd := dlt_pos (low q)
  have dq : ∀ {x y : Int}, x = 4 * (c * c) * y → x.fdiv g = y / dlt (low q) := fun {x y} e => by
    rw [fdiv_pos g0, e, eg, Int.mul_ediv_mul_of_pos _ _ cc]
  obtain ⟨t1, t2, t3, t4, t5, t6, t7, t8, t9, t10⟩ := te
  clear hf eg dg U0 bU eq s4
  f_lean
  rw [dq t1, dq t2, dq t3, dq t4, dq t5, dq t6, dq t7, dq t8, dq t9, dq t10]
  refine ⟨dv, dv, dv, dv, dv, dv, dv, dv, dv, dv, ?_⟩
  unfold tabD rowB rowC rowD mtB mtC mtD at k
  rw [und_eq] at k
  exact k
theorem law_spread_ok {p q : Hur} {l m : Nat} {st : Store} {Q : QE} {R : XQ} (hp : p ≠ zero) (hq : q ≠ zero) (sp : Sm p l) (sq : Sm q m) (hl : l + m + 1 ≤ 500) (k : Q (.int (nu (bar p * q))) st) : p__law_spread [hv p, hv q] st Q R := by
  refine i__law_spread ?_
  unfold w__law_spread
  f_lean
  refine callW_i (law_back_ok ?_)
  f_lean
  refine callW_i (law_times_ok (Sm.bar sp) sq (by omega) (by omega) ?_)
  f_lean
  refine callW_i (law_table_ok (mul_ne (bar_ne hp) hq) (Sm.mul (Sm.bar sp) sq (Nat.le_refl _)) hl ?_)
  unfold tabD und
  rw [← nu_eq (mul_ne (bar_ne hp) hq)]
  f_lean
  exact k
theorem sm_one3 : Sm one 3 := ⟨by decide, by decide, by decide, by decide⟩
end LK
namespace LK
open PySem PySem.Spec PyProof.Rows L2 G
local macro_rules | `(tactic| f_lean) => `(tactic| simp (config := { dsimp := false, failIfUnchanged := false, implicitDefEqProofs := false }) only [↓e_wNext, ↓e_wBin, ↓e_wUn, ↓e_wArgs, ↓e_wC, ↓e_waNil, ↓e_waCons, ↓e_wTup, ↓e_wLst, ↓e_wCell, ↓e_wNotT, ↓e_wIsN, ↓e_wNotN, ↓e_wTru, ↓e_wSl, ↓e_woNone, ↓e_wSet, ↓e_wRet, ↓e_wRetN, ↓e_wExpr, ↓e_wFrz, ↓e_wBrk, ↓e_wCnt, ↓e_wAsg, ↓e_wgName, ↓e_wOwn, ↓seqK_nx, ↓seqK_rt, ↓seqK_bk, ↓seqK_ct, ↓seqK_ex, ↓loopK_nx, ↓loopK_rt, ↓loopK_bk, ↓loopK_ct, ↓loopK_ex, ↓e_wSeq, iteW_t, iteW_f, ↓e_wCall, ↓e_wIfS, ↓e_wIf, ↓e_wAndT, ↓e_wOrT, ↓e_wFor, ↓e_wWhile, ↓e_wLc, ↓blW_b, ↓e_wBool, ↓e_wAnd, ↓e_wOr, ↓e_wNot, ↓e_wChain, ↓e_var0, ↓e_varS, ↓e_varB0, ↓e_varB1, ↓e_varBS, e_set0, e_setS, ↓e_add, ↓e_addS, ↓e_addL, ↓e_addO, ↓e_sub, ↓e_subO, ↓e_mul, ↓e_mulL, ↓e_mulO, ↓e_fdiv, ↓e_mod, ↓e_pow, ↓e_lt, ↓e_le, ↓e_gt, ↓e_ge, ↓e_neg, ↓e_negO, ↓e_eqI, ↓e_neI, ↓e_eqB, ↓e_neB, ↓e_eqS, ↓e_neS, getW_s, ↓e_ixL, ↓e_ixT, celW_s, ↓e_ixC, atI_0, atI_1, atI_2, atI_3, ixN_10, ixN_20, ixN_21, ixN_30, ixN_31, ixN_32, ixN_40, ixN_41, ixN_42, ixN_43, ixN_l0, ↓e_lenL, ↓e_lenT, ↓e_lenS, ↓e_abs, ↓e_intI, ↓e_intB, ↓e_listL, ↓e_listT, ↓e_tupleL, ↓e_tupleT, ↓e_slL, ↓intW_i, ↓e_woSome, ↓e_slR, ↓e_par, ↓e_parW, ↓e_gTup, ↓e_gTupL, ↓e_gsNil, ↓e_gsCons, ↓e_iLst, ↓lstW_i, ↓e_iTup, ↓tupW_i, ↓e_iR1, ↓r1W_i, ↓e_iR2, ↓r2W_i, ↓e_iZip, ↓zipW_l, ↓zipW_t, ↓e_put, e_putO, e_putC, natW_s, ↓e_aug, e_augV, ↓e_app, e_appV, ↓e_addI, ↓e_addIS, ↓e_subI, ↓e_mulI, ↓e_fdivI, e_frzN, e_frzO, e_frzV, e_frzX, e_frzS, e_frzC, ↓e_all, ↓e_any, ↓e_sum, blsW_s, intsW_s, ↓e_truN, ↓e_truB, ↓e_truI, ↓e_truL, ↓e_truT, ↓e_isiT, ↓e_isiC, ↓e_isiY, bo1W_s, isi_ii, isi_is, isi_ib, isi_it, isi_il, isi_bi, isi_bs, isi_bb, isi_bt, isi_bll, isi_ni, isi_ns, isi_nb, isi_nt, isi_nl, isi_si, isi_ss, isi_sb, isi_st, isi_sl, isi_ti, isi_ts, isi_tb, isi_tt, isi_tl, isi_li, isi_ls, isi_lb, isi_lt, isi_ll, isi_ds0, isi_dsT, isi_isI, isi_isS, isi_isB, isi_isN, isi_isT, isi_isL, ixZ_0, ixZ_1, ixZ_2, ixZ_3, ixZ_4, ixZ_5, ixZ_6, ixZ_7, ixZ_8, ixZ_9, ixZ_10, ixZ_11, ixZ_12, ixZ_13, ixZ_14, ixZ_15, ixZ_16, bo2_s, isi_dsF, ↓e_nonN, ↓e_nonI, ↓e_nonB, ↓e_nonS, ↓e_nonT, ↓e_nonL, ↓e_nonO, ↓fnW_rt, ↓fnW_nx, ↓fnW_ex, ↓e_wipe0, ↓e_wipe1, ↓e_wYes, mW_s, ↓e_callM, attW_p, attW_f, ↓e_attO, insW_s, ↓e_attC, e_getC, e_getN, e_putC', e_putN, ↓e_wMeth, ↓e_clsO, ↓e_clsC, mthW_s, mthZW_s, ownW_s, ↓e_eqOO, ↓e_neOO, ↓e_eqOI, ↓e_neOI, ↓e_eqOT, ↓e_neOT, ↓e_eqOL, ↓e_neOL, ↓e_eqTT, ↓e_neTT, ↓e_eqLL, ↓e_neLL, ↓e_wMk, ↓sqW_t, ↓sqW_l, ↓e_wMkS, ↓fldW_c, ↓e_wFld, st_last, st_setL, ↓e_wLenIs, e_addT, e_addF, e_addM, e_addE, e_F0, e_P0, e_T0, e_M0, e_lcN, e_lcC, e_zipC, e_zipN, e_intsN, e_intsC, e_blsN, e_blsC, e_ltz0, e_ltz1, e_ltz2, e_ltz3, e_ltz4, e_ltz5, e_ltz6, e_ltz7, e_ltz8, e_ltz9, e_ltz10, e_ltz11, e_ltz12, e_ltz13, e_ltz14, e_ltz15, e_ltz16, e_ltz17, e_ltz18, e_ltz19, e_ltz20, e_ltz21, e_ltz22, e_ltz23, e_ltz24, e_cst0, e_cst1, e_cst2, e_cst3, e_cst4, e_cst5, e_cst6, e_cst7, e_cst8, e_cst9, e_cst10, e_cst11, e_cst12, e_cst13, e_cst14, e_cst15, e_cst16, e_cst17, e_cst18, e_cst19, e_cst20, e_cst21, e_cst22, e_cst23, e_cst24, ↓e_wiSeq, ↓e_ext, e_extO, ↓gfldW_c, ↓e_wgFld, ↓e_wLcN, e_tskN, e_tskC, e_lpN, e_lpC, calW_s, ↓obW_o, ↓e_wCal, ↓e_srt, ↓e_max, max_2, ↓e_min, min_2, optW_s, ↓e_gtA, ↓e_ltA, ↓e_gtT, ↓e_ltT, lexD_4, ↓e_inL, ↓e_inT, ↓e_inO, ↓e_isBB, bneF, bneT, e_isiOb, e_isiIc, e_isiTc, e_isOf, ↓e_addAi, ↓e_addAs, ↓e_addAl, ↓e_addAt, ↓e_addAo, ↓e_mulAi, ↓e_mulAl, ↓e_mulAt, ↓e_mulAo, e_forN, e_forC, ↓e_iZipA, ↓zipAW_l, ↓zipAW_t, ↓zipAW_w, ↓zipAW_m, ↓e_truO, ↓e_wParO, ↓e_par3, ↓e_par3W, ↓e_eqLl, ↓e_neLl, e_oaN, e_oaC, F_Four___init__, T_Four___add__, F_Four___add__, IL_Four___eq__, T_Four___eq__, F_Four___eq__, T_Four___mul__, F_Four___mul__, T_Four___neg__, F_Four___neg__, T_Four___sub__, F_Four___sub__, T_Four_halves, F_Four_halves, T_Four_mirrored, F_Four_mirrored, T_Four_size, F_Four_size, M_associate, T_associate, F_associate, T_Four___bool__, F_Four___bool__, T_nearest, F_nearest, M_divide_left, T_divide_left, F_divide_left, M_common_left, M_divides_left, T_Turn_rows, F_Turn_rows, M_Turn_image, T_Turn_image, F_Turn_image, M_Turn___call__, IL_Turn___eq__, T_Turn___eq__, F_Turn___eq__, E_Turn___eq__, T_Four_content, F_Four_content, M_Four_divided, T_Four_divided, F_Four_divided, M_lowest, T_lowest, F_lowest, M_table_of, T_table_of, F_table_of, M_Turn___init__, T_Turn___init__, F_Turn___init__, M_Turn___mul__, T_Turn___mul__, F_Turn___mul__, M_Turn___neg__, T_Turn___neg__, F_Turn___neg__, M_Turn_power, M_Grain_coordinates, T_Grain_coordinates, F_Grain_coordinates, M_Grain___contains__, T_Turn_four, F_Turn_four, M_odd_four, T_odd_four, F_odd_four, T_Grain___init__, F_Grain___init__, T_Grain_turn, F_Grain_turn, T_Grain_spread, F_Grain_spread, IL_Grain___eq__, T_Grain___eq__, F_Grain___eq__, E_Grain___eq__, T_Grain_four, F_Grain_four, M_Grain_turned, T_Grain_turned, F_Grain_turned, M_relative, T_relative, F_relative, T_spread, F_spread, M_midst, T_midst, F_midst, List.reduceReplicate, List.flatten_cons, List.flatten_nil, List.append_nil, decide_true, decide_false, Bool.not_true, Bool.not_false, List.length_cons, List.length_nil, List.getElem?_cons_zero, List.getElem?_cons_succ, List.set_cons_zero, List.set_cons_succ, true_and, and_true, ne_eq, not_false_eq_true, not_true_eq_false, Nat.zero_add, reduceCtorEq, Mn.nm.injEq, and_self, and_false, false_and, Bool.true_or, Bool.or_true, Bool.or_false, Bool.false_or, Bool.and_self, Bool.and_true, Bool.true_and, Bool.and_false, Bool.false_and, List.nil_append, List.cons_append, Option.map_some, List.sum_cons, List.sum_nil, if_true, if_false, ↓reduceIte, beq_self_eq_true, eq_self, Nat.reduceAdd, Nat.reduceMul, Nat.reduceSub, Nat.reduceLT, Nat.reduceLeDiff, Nat.reduceEqDiff, Int.reduceAdd, Int.reduceMul, Int.reduceSub, Int.reduceNeg, Int.reducePow, Int.reduceLT, Int.reduceLE, Int.reduceEq, Int.reduceNe, Int.reduceToNat, Nat.reducePow])
local macro_rules | `(tactic| one_place) => `(tactic| first | ((with_reducible assumption)) | ((with_reducible apply Sm.mul (hm := Nat.le_refl _)); (focus one_place); (focus one_place)) | ((with_reducible apply Sm.add (hm := Nat.le_refl _)); (focus one_place); (focus one_place)) | ((with_reducible apply Sm.sub (hm := Nat.le_refl _)); (focus one_place); (focus one_place)) | ((with_reducible apply Sm.neg); one_place) | ((with_reducible apply Sm.bar); one_place) | ((with_reducible apply Sm.bwhole (hm := Nat.le_refl _)); (focus leaf_len)))
local macro_rules | `(tactic| leaf_len) => `(tactic| first | ((with_reducible assumption)) | exact bLit (by decide) | ((with_reducible apply Sm.bN); (focus one_place)) | ((with_reducible apply bMul (hm := Nat.le_refl _)); (focus leaf_len); (focus leaf_len)) | ((with_reducible apply bAdd (hm := Nat.le_refl _)); (focus leaf_len); (focus leaf_len)) | ((with_reducible apply bSub (hm := Nat.le_refl _)); (focus leaf_len); (focus leaf_len)) | ((with_reducible apply bNeg); leaf_len) | ((with_reducible apply bFdiv); (focus omega); leaf_len) | ((with_reducible apply bDiv); leaf_len) | ((with_reducible apply bMod); (focus leaf_len); omega) | ((with_reducible apply Sm.ba); one_place) | ((with_reducible apply Sm.bb); one_place) | ((with_reducible apply Sm.bc); one_place) | ((with_reducible apply Sm.bd); one_place))
local macro_rules | `(tactic| one_item) => `(tactic| first | ((with_reducible apply mulBt); (focus leaf_len); (focus leaf_len); (focus decide); (focus decide)) | ((with_reducible exact dv2)) | ((with_reducible apply divB); (focus omega); (focus leaf_len); (focus decide)) | exact ⟨rfl, rfl, by simp [D.dep, D.deps], by simp [D.dep, D.deps]⟩)
local macro_rules | `(tactic| w_left) => `(tactic| repeat ((with_reducible refine And.intro ?_ ?_); (focus one_item)))
open HQ HQ.Hur
local macro_rules | `(tactic| x_go) => `(tactic| first | (with_reducible refine callW_i (bool_ok ?_)) | (with_reducible refine callW_i (add_ok ?_)) | (with_reducible refine callW_i (sub_ok ?_)) | (with_reducible refine callW_i (neg_ok ?_)) | (with_reducible refine callW_i (halves_ok ?_)) | (with_reducible refine callW_i (mirrored_ok ?_)) | (with_reducible refine callW_i (eq_ok ?_)) | (with_reducible refine callW_i (mul_ok (by one_place) (by one_place) (by decide) (by decide) ?_)) | (with_reducible refine callW_i (size_ok (by one_place) (by decide) ?_)) | (with_reducible refine callW_i (whole_ok (by leaf_len) (by decide) ?_)) | (with_reducible refine callW_i (law_four_ok ?_)) | (with_reducible refine callW_i (law_back_ok ?_)) | (with_reducible refine callW_i (law_times_ok (by one_place) (by one_place) (by decide) (by decide) ?_)) | (with_reducible refine callW_i (law_size_ok (by one_place) (by decide) ?_)))
local macro_rules | `(tactic| z_go) => `(tactic| (f_lean; repeat (first | x_go | ((with_reducible refine And.intro ?_ ?_); (focus one_item))) <;> f_lean))
local macro_rules | `(tactic| one_place) => `(tactic| first | ((with_reducible assumption)) | ((with_reducible apply Sm.mul (hm := Nat.le_refl _)); (focus one_place); (focus one_place)) | ((with_reducible apply Sm.add (hm := Nat.le_refl _)); (focus one_place); (focus one_place)) | ((with_reducible apply Sm.sub (hm := Nat.le_refl _)); (focus one_place); (focus one_place)) | ((with_reducible apply Sm.neg); one_place) | ((with_reducible apply Sm.bar); one_place) | ((with_reducible apply Sm.bwhole (hm := Nat.le_refl _)); (focus leaf_len)) | ((with_reducible apply own_small (hm := Nat.le_refl _)); (focus leaf_len); (focus one_place)) | ((with_reducible apply low_small (hm := Nat.le_refl _)); (focus leaf_len); (focus one_place)) | ((with_reducible exact sm_one3)))
local macro_rules | `(tactic| leaf_len) => `(tactic| first | ((with_reducible assumption)) | exact bLit (by decide) | ((with_reducible apply Sm.bN); (focus one_place)) | ((with_reducible apply bMul (hm := Nat.le_refl _)); (focus leaf_len); (focus leaf_len)) | ((with_reducible apply bAdd (hm := Nat.le_refl _)); (focus leaf_len); (focus leaf_len)) | ((with_reducible apply bSub (hm := Nat.le_refl _)); (focus leaf_len); (focus leaf_len)) | ((with_reducible apply bNeg); leaf_len) | ((with_reducible apply bFdiv); (focus omega); leaf_len) | ((with_reducible apply bDiv); leaf_len) | ((with_reducible apply bMod); (focus leaf_len); omega) | ((with_reducible apply Sm.ba); one_place) | ((with_reducible apply Sm.bb); one_place) | ((with_reducible apply Sm.bc); one_place) | ((with_reducible apply Sm.bd); one_place) | ((with_reducible apply HQ.Hur.mul_ne); (focus leaf_len); (focus leaf_len)) | ((with_reducible apply HQ.Hur.bar_ne); (focus leaf_len)) | ((with_reducible apply HQ.Hur.own_ne); (focus leaf_len)) | ((with_reducible exact HQ.Hur.one_ne)) | ((with_reducible apply Sm.bnu); (focus leaf_len); (focus one_place)))
local macro_rules | `(tactic| x_go) => `(tactic| first | (with_reducible refine callW_i (bool_ok ?_)) | (with_reducible refine callW_i (add_ok ?_)) | (with_reducible refine callW_i (sub_ok ?_)) | (with_reducible refine callW_i (neg_ok ?_)) | (with_reducible refine callW_i (halves_ok ?_)) | (with_reducible refine callW_i (mirrored_ok ?_)) | (with_reducible refine callW_i (eq_ok ?_)) | (with_reducible refine callW_i (mul_ok (by one_place) (by one_place) (by decide) (by decide) ?_)) | (with_reducible refine callW_i (size_ok (by one_place) (by decide) ?_)) | (with_reducible refine callW_i (whole_ok (by leaf_len) (by decide) ?_)) | (with_reducible refine callW_i (law_four_ok ?_)) | (with_reducible refine callW_i (law_back_ok ?_)) | (with_reducible refine callW_i (law_times_ok (by one_place) (by one_place) (by decide) (by decide) ?_)) | (with_reducible refine callW_i (law_size_ok (by one_place) (by decide) ?_)) | (with_reducible refine callW_i (gturn_ok ?_)) | (with_reducible refine callW_i (gfour_ok ?_)) | (with_reducible refine callW_i (geq_ok ?_)) | (with_reducible refine callW_i (teq_ok ?_)) | (with_reducible refine callW_i (tfour_ok ?_)) | (with_reducible refine callW_i (still_ok ?_)) | (with_reducible refine callW_i (gplain_ok ?_)) | (with_reducible refine callW_i (tneg_ok (by leaf_len) (by one_place) (by decide) ?_)) | (with_reducible refine callW_i (tmul_ok (by leaf_len) (by leaf_len) (by one_place) (by one_place) (by decide) ?_)) | (with_reducible refine callW_i (gspread_ok (by leaf_len) (by one_place) (by decide) ?_)) | (with_reducible refine callW_i (turned_ok (by leaf_len) (by leaf_len) (by one_place) (by one_place) (by decide) (by decide) ?_)) | (with_reducible refine callW_i (relative_ok (by leaf_len) (by leaf_len) (by one_place) (by one_place) (by decide) (by decide) ?_)) | (with_reducible refine callW_i (spread_ok (by leaf_len) (by leaf_len) (by one_place) (by one_place) (by decide) (by decide) ?_)) | (with_reducible refine callW_i (law_turn_ok (by leaf_len) (by one_place) (by decide) ?_)) | (with_reducible refine callW_i (law_grain_ok (by leaf_len) (by one_place) (by decide) ?_)) | (with_reducible refine callW_i (law_spread_ok (by leaf_len) (by leaf_len) (by one_place) (by one_place) (by decide) ?_)) | (with_reducible refine callW_i (law_own_ok (by leaf_len) (by one_place) (by decide) ?_)) | (with_reducible refine turn_ok (by leaf_len) (by one_place) (by decide) ?_) | (with_reducible refine grain_ok (by leaf_len) (by one_place) (by decide) ?_))
local macro_rules | `(tactic| z_go) => `(tactic| (f_lean; repeat (first | x_go | ((with_reducible refine And.intro ?_ ?_); (focus one_item))) <;> f_lean))
theorem Sm.bnu {q : Hur} {l : Nat} (h : q ≠ zero) (s : Sm q l) : Bt (Hur.nu q) (l + 6 + (l + 6)) := (own_small h s (Nat.le_refl _)).bN
end LK
namespace LK
open PySem PySem.Spec PyProof.Rows L2 G
local macro_rules | `(tactic| f_lean) => `(tactic| simp (config := { dsimp := false, failIfUnchanged := false, implicitDefEqProofs := false }) only [↓e_wNext, ↓e_wBin, ↓e_wUn, ↓e_wArgs, ↓e_wC, ↓e_waNil, ↓e_waCons, ↓e_wTup, ↓e_wLst, ↓e_wCell, ↓e_wNotT, ↓e_wIsN, ↓e_wNotN, ↓e_wTru, ↓e_wSl, ↓e_woNone, ↓e_wSet, ↓e_wRet, ↓e_wRetN, ↓e_wExpr, ↓e_wFrz, ↓e_wBrk, ↓e_wCnt, ↓e_wAsg, ↓e_wgName, ↓e_wOwn, ↓seqK_nx, ↓seqK_rt, ↓seqK_bk, ↓seqK_ct, ↓seqK_ex, ↓loopK_nx, ↓loopK_rt, ↓loopK_bk, ↓loopK_ct, ↓loopK_ex, ↓e_wSeq, iteW_t, iteW_f, ↓e_wCall, ↓e_wIfS, ↓e_wIf, ↓e_wAndT, ↓e_wOrT, ↓e_wFor, ↓e_wWhile, ↓e_wLc, ↓blW_b, ↓e_wBool, ↓e_wAnd, ↓e_wOr, ↓e_wNot, ↓e_wChain, ↓e_var0, ↓e_varS, ↓e_varB0, ↓e_varB1, ↓e_varBS, e_set0, e_setS, ↓e_add, ↓e_addS, ↓e_addL, ↓e_addO, ↓e_sub, ↓e_subO, ↓e_mul, ↓e_mulL, ↓e_mulO, ↓e_fdiv, ↓e_mod, ↓e_pow, ↓e_lt, ↓e_le, ↓e_gt, ↓e_ge, ↓e_neg, ↓e_negO, ↓e_eqI, ↓e_neI, ↓e_eqB, ↓e_neB, ↓e_eqS, ↓e_neS, getW_s, ↓e_ixL, ↓e_ixT, celW_s, ↓e_ixC, atI_0, atI_1, atI_2, atI_3, ixN_10, ixN_20, ixN_21, ixN_30, ixN_31, ixN_32, ixN_40, ixN_41, ixN_42, ixN_43, ixN_l0, ↓e_lenL, ↓e_lenT, ↓e_lenS, ↓e_abs, ↓e_intI, ↓e_intB, ↓e_listL, ↓e_listT, ↓e_tupleL, ↓e_tupleT, ↓e_slL, ↓intW_i, ↓e_woSome, ↓e_slR, ↓e_par, ↓e_parW, ↓e_gTup, ↓e_gTupL, ↓e_gsNil, ↓e_gsCons, ↓e_iLst, ↓lstW_i, ↓e_iTup, ↓tupW_i, ↓e_iR1, ↓r1W_i, ↓e_iR2, ↓r2W_i, ↓e_iZip, ↓zipW_l, ↓zipW_t, ↓e_put, e_putO, e_putC, natW_s, ↓e_aug, e_augV, ↓e_app, e_appV, ↓e_addI, ↓e_addIS, ↓e_subI, ↓e_mulI, ↓e_fdivI, e_frzN, e_frzO, e_frzV, e_frzX, e_frzS, e_frzC, ↓e_all, ↓e_any, ↓e_sum, blsW_s, intsW_s, ↓e_truN, ↓e_truB, ↓e_truI, ↓e_truL, ↓e_truT, ↓e_isiT, ↓e_isiC, ↓e_isiY, bo1W_s, isi_ii, isi_is, isi_ib, isi_it, isi_il, isi_bi, isi_bs, isi_bb, isi_bt, isi_bll, isi_ni, isi_ns, isi_nb, isi_nt, isi_nl, isi_si, isi_ss, isi_sb, isi_st, isi_sl, isi_ti, isi_ts, isi_tb, isi_tt, isi_tl, isi_li, isi_ls, isi_lb, isi_lt, isi_ll, isi_ds0, isi_dsT, isi_isI, isi_isS, isi_isB, isi_isN, isi_isT, isi_isL, ixZ_0, ixZ_1, ixZ_2, ixZ_3, ixZ_4, ixZ_5, ixZ_6, ixZ_7, ixZ_8, ixZ_9, ixZ_10, ixZ_11, ixZ_12, ixZ_13, ixZ_14, ixZ_15, ixZ_16, bo2_s, isi_dsF, ↓e_nonN, ↓e_nonI, ↓e_nonB, ↓e_nonS, ↓e_nonT, ↓e_nonL, ↓e_nonO, ↓fnW_rt, ↓fnW_nx, ↓fnW_ex, ↓e_wipe0, ↓e_wipe1, ↓e_wYes, mW_s, ↓e_callM, attW_p, attW_f, ↓e_attO, insW_s, ↓e_attC, e_getC, e_getN, e_putC', e_putN, ↓e_wMeth, ↓e_clsO, ↓e_clsC, mthW_s, mthZW_s, ownW_s, ↓e_eqOO, ↓e_neOO, ↓e_eqOI, ↓e_neOI, ↓e_eqOT, ↓e_neOT, ↓e_eqOL, ↓e_neOL, ↓e_eqTT, ↓e_neTT, ↓e_eqLL, ↓e_neLL, ↓e_wMk, ↓sqW_t, ↓sqW_l, ↓e_wMkS, ↓fldW_c, ↓e_wFld, st_last, st_setL, ↓e_wLenIs, e_addT, e_addF, e_addM, e_addE, e_F0, e_P0, e_T0, e_M0, e_lcN, e_lcC, e_zipC, e_zipN, e_intsN, e_intsC, e_blsN, e_blsC, e_ltz0, e_ltz1, e_ltz2, e_ltz3, e_ltz4, e_ltz5, e_ltz6, e_ltz7, e_ltz8, e_ltz9, e_ltz10, e_ltz11, e_ltz12, e_ltz13, e_ltz14, e_ltz15, e_ltz16, e_ltz17, e_ltz18, e_ltz19, e_ltz20, e_ltz21, e_ltz22, e_ltz23, e_ltz24, e_cst0, e_cst1, e_cst2, e_cst3, e_cst4, e_cst5, e_cst6, e_cst7, e_cst8, e_cst9, e_cst10, e_cst11, e_cst12, e_cst13, e_cst14, e_cst15, e_cst16, e_cst17, e_cst18, e_cst19, e_cst20, e_cst21, e_cst22, e_cst23, e_cst24, ↓e_wiSeq, ↓e_ext, e_extO, ↓gfldW_c, ↓e_wgFld, ↓e_wLcN, e_tskN, e_tskC, e_lpN, e_lpC, calW_s, ↓obW_o, ↓e_wCal, ↓e_srt, ↓e_max, max_2, ↓e_min, min_2, optW_s, ↓e_gtA, ↓e_ltA, ↓e_gtT, ↓e_ltT, lexD_4, ↓e_inL, ↓e_inT, ↓e_inO, ↓e_isBB, bneF, bneT, e_isiOb, e_isiIc, e_isiTc, e_isOf, ↓e_addAi, ↓e_addAs, ↓e_addAl, ↓e_addAt, ↓e_addAo, ↓e_mulAi, ↓e_mulAl, ↓e_mulAt, ↓e_mulAo, e_forN, e_forC, ↓e_iZipA, ↓zipAW_l, ↓zipAW_t, ↓zipAW_w, ↓zipAW_m, ↓e_truO, ↓e_wParO, ↓e_par3, ↓e_par3W, ↓e_eqLl, ↓e_neLl, e_oaN, e_oaC, F_Four___init__, T_Four___add__, F_Four___add__, IL_Four___eq__, T_Four___eq__, F_Four___eq__, T_Four___mul__, F_Four___mul__, T_Four___neg__, F_Four___neg__, T_Four___sub__, F_Four___sub__, T_Four_halves, F_Four_halves, T_Four_mirrored, F_Four_mirrored, T_Four_size, F_Four_size, M_associate, T_associate, F_associate, T_Four___bool__, F_Four___bool__, T_nearest, F_nearest, M_divide_left, T_divide_left, F_divide_left, M_common_left, M_divides_left, T_Turn_rows, F_Turn_rows, M_Turn_image, T_Turn_image, F_Turn_image, M_Turn___call__, IL_Turn___eq__, T_Turn___eq__, F_Turn___eq__, E_Turn___eq__, T_Four_content, F_Four_content, M_Four_divided, T_Four_divided, F_Four_divided, M_lowest, T_lowest, F_lowest, M_table_of, T_table_of, F_table_of, M_Turn___init__, T_Turn___init__, F_Turn___init__, M_Turn___mul__, T_Turn___mul__, F_Turn___mul__, M_Turn___neg__, T_Turn___neg__, F_Turn___neg__, M_Turn_power, M_Grain_coordinates, T_Grain_coordinates, F_Grain_coordinates, M_Grain___contains__, T_Turn_four, F_Turn_four, M_odd_four, T_odd_four, F_odd_four, T_Grain___init__, F_Grain___init__, T_Grain_turn, F_Grain_turn, T_Grain_spread, F_Grain_spread, IL_Grain___eq__, T_Grain___eq__, F_Grain___eq__, E_Grain___eq__, T_Grain_four, F_Grain_four, M_Grain_turned, T_Grain_turned, F_Grain_turned, M_relative, T_relative, F_relative, T_spread, F_spread, M_midst, T_midst, F_midst, List.reduceReplicate, List.flatten_cons, List.flatten_nil, List.append_nil, decide_true, decide_false, Bool.not_true, Bool.not_false, List.length_cons, List.length_nil, List.getElem?_cons_zero, List.getElem?_cons_succ, List.set_cons_zero, List.set_cons_succ, true_and, and_true, ne_eq, not_false_eq_true, not_true_eq_false, Nat.zero_add, reduceCtorEq, Mn.nm.injEq, and_self, and_false, false_and, Bool.true_or, Bool.or_true, Bool.or_false, Bool.false_or, Bool.and_self, Bool.and_true, Bool.true_and, Bool.and_false, Bool.false_and, List.nil_append, List.cons_append, Option.map_some, List.sum_cons, List.sum_nil, if_true, if_false, ↓reduceIte, beq_self_eq_true, eq_self, Nat.reduceAdd, Nat.reduceMul, Nat.reduceSub, Nat.reduceLT, Nat.reduceLeDiff, Nat.reduceEqDiff, Int.reduceAdd, Int.reduceMul, Int.reduceSub, Int.reduceNeg, Int.reducePow, Int.reduceLT, Int.reduceLE, Int.reduceEq, Int.reduceNe, Int.reduceToNat, Nat.reducePow])
local macro_rules | `(tactic| one_place) => `(tactic| first | ((with_reducible assumption)) | ((with_reducible apply Sm.mul (hm := Nat.le_refl _)); (focus one_place); (focus one_place)) | ((with_reducible apply Sm.add (hm := Nat.le_refl _)); (focus one_place); (focus one_place)) | ((with_reducible apply Sm.sub (hm := Nat.le_refl _)); (focus one_place); (focus one_place)) | ((with_reducible apply Sm.neg); one_place) | ((with_reducible apply Sm.bar); one_place) | ((with_reducible apply Sm.bwhole (hm := Nat.le_refl _)); (focus leaf_len)))
local macro_rules | `(tactic| leaf_len) => `(tactic| first | ((with_reducible assumption)) | exact bLit (by decide) | ((with_reducible apply Sm.bN); (focus one_place)) | ((with_reducible apply bMul (hm := Nat.le_refl _)); (focus leaf_len); (focus leaf_len)) | ((with_reducible apply bAdd (hm := Nat.le_refl _)); (focus leaf_len); (focus leaf_len)) | ((with_reducible apply bSub (hm := Nat.le_refl _)); (focus leaf_len); (focus leaf_len)) | ((with_reducible apply bNeg); leaf_len) | ((with_reducible apply bFdiv); (focus omega); leaf_len) | ((with_reducible apply bDiv); leaf_len) | ((with_reducible apply bMod); (focus leaf_len); omega) | ((with_reducible apply Sm.ba); one_place) | ((with_reducible apply Sm.bb); one_place) | ((with_reducible apply Sm.bc); one_place) | ((with_reducible apply Sm.bd); one_place))
local macro_rules | `(tactic| one_item) => `(tactic| first | ((with_reducible apply mulBt); (focus leaf_len); (focus leaf_len); (focus decide); (focus decide)) | ((with_reducible exact dv2)) | ((with_reducible apply divB); (focus omega); (focus leaf_len); (focus decide)) | exact ⟨rfl, rfl, by simp [D.dep, D.deps], by simp [D.dep, D.deps]⟩)
local macro_rules | `(tactic| w_left) => `(tactic| repeat ((with_reducible refine And.intro ?_ ?_); (focus one_item)))
open HQ HQ.Hur
local macro_rules | `(tactic| x_go) => `(tactic| first | (with_reducible refine callW_i (bool_ok ?_)) | (with_reducible refine callW_i (add_ok ?_)) | (with_reducible refine callW_i (sub_ok ?_)) | (with_reducible refine callW_i (neg_ok ?_)) | (with_reducible refine callW_i (halves_ok ?_)) | (with_reducible refine callW_i (mirrored_ok ?_)) | (with_reducible refine callW_i (eq_ok ?_)) | (with_reducible refine callW_i (mul_ok (by one_place) (by one_place) (by decide) (by decide) ?_)) | (with_reducible refine callW_i (size_ok (by one_place) (by decide) ?_)) | (with_reducible refine callW_i (whole_ok (by leaf_len) (by decide) ?_)) | (with_reducible refine callW_i (law_four_ok ?_)) | (with_reducible refine callW_i (law_back_ok ?_)) | (with_reducible refine callW_i (law_times_ok (by one_place) (by one_place) (by decide) (by decide) ?_)) | (with_reducible refine callW_i (law_size_ok (by one_place) (by decide) ?_)))
local macro_rules | `(tactic| z_go) => `(tactic| (f_lean; repeat (first | x_go | ((with_reducible refine And.intro ?_ ?_); (focus one_item))) <;> f_lean))
local macro_rules | `(tactic| one_place) => `(tactic| first | ((with_reducible assumption)) | ((with_reducible apply Sm.mul (hm := Nat.le_refl _)); (focus one_place); (focus one_place)) | ((with_reducible apply Sm.add (hm := Nat.le_refl _)); (focus one_place); (focus one_place)) | ((with_reducible apply Sm.sub (hm := Nat.le_refl _)); (focus one_place); (focus one_place)) | ((with_reducible apply Sm.neg); one_place) | ((with_reducible apply Sm.bar); one_place) | ((with_reducible apply Sm.bwhole (hm := Nat.le_refl _)); (focus leaf_len)) | ((with_reducible apply own_small (hm := Nat.le_refl _)); (focus leaf_len); (focus one_place)) | ((with_reducible apply low_small (hm := Nat.le_refl _)); (focus leaf_len); (focus one_place)) | ((with_reducible exact sm_one3)))
local macro_rules | `(tactic| leaf_len) => `(tactic| first | ((with_reducible assumption)) | exact bLit (by decide) | ((with_reducible apply Sm.bN); (focus one_place)) | ((with_reducible apply bMul (hm := Nat.le_refl _)); (focus leaf_len); (focus leaf_len)) | ((with_reducible apply bAdd (hm := Nat.le_refl _)); (focus leaf_len); (focus leaf_len)) | ((with_reducible apply bSub (hm := Nat.le_refl _)); (focus leaf_len); (focus leaf_len)) | ((with_reducible apply bNeg); leaf_len) | ((with_reducible apply bFdiv); (focus omega); leaf_len) | ((with_reducible apply bDiv); leaf_len) | ((with_reducible apply bMod); (focus leaf_len); omega) | ((with_reducible apply Sm.ba); one_place) | ((with_reducible apply Sm.bb); one_place) | ((with_reducible apply Sm.bc); one_place) | ((with_reducible apply Sm.bd); one_place) | ((with_reducible apply HQ.Hur.mul_ne); (focus leaf_len); (focus leaf_len)) | ((with_reducible apply HQ.Hur.bar_ne); (focus leaf_len)) | ((with_reducible apply HQ.Hur.own_ne); (focus leaf_len)) | ((with_reducible exact HQ.Hur.one_ne)) | ((with_reducible apply Sm.bnu); (focus leaf_len); (focus one_place)))
local macro_rules | `(tactic| x_go) => `(tactic| first | (with_reducible refine callW_i (bool_ok ?_)) | (with_reducible refine callW_i (add_ok ?_)) | (with_reducible refine callW_i (sub_ok ?_)) | (with_reducible refine callW_i (neg_ok ?_)) | (with_reducible refine callW_i (halves_ok ?_)) | (with_reducible refine callW_i (mirrored_ok ?_)) | (with_reducible refine callW_i (eq_ok ?_)) | (with_reducible refine callW_i (mul_ok (by one_place) (by one_place) (by decide) (by decide) ?_)) | (with_reducible refine callW_i (size_ok (by one_place) (by decide) ?_)) | (with_reducible refine callW_i (whole_ok (by leaf_len) (by decide) ?_)) | (with_reducible refine callW_i (law_four_ok ?_)) | (with_reducible refine callW_i (law_back_ok ?_)) | (with_reducible refine callW_i (law_times_ok (by one_place) (by one_place) (by decide) (by decide) ?_)) | (with_reducible refine callW_i (law_size_ok (by one_place) (by decide) ?_)) | (with_reducible refine callW_i (gturn_ok ?_)) | (with_reducible refine callW_i (gfour_ok ?_)) | (with_reducible refine callW_i (geq_ok ?_)) | (with_reducible refine callW_i (teq_ok ?_)) | (with_reducible refine callW_i (tfour_ok ?_)) | (with_reducible refine callW_i (still_ok ?_)) | (with_reducible refine callW_i (gplain_ok ?_)) | (with_reducible refine callW_i (tneg_ok (by leaf_len) (by one_place) (by decide) ?_)) | (with_reducible refine callW_i (tmul_ok (by leaf_len) (by leaf_len) (by one_place) (by one_place) (by decide) ?_)) | (with_reducible refine callW_i (gspread_ok (by leaf_len) (by one_place) (by decide) ?_)) | (with_reducible refine callW_i (turned_ok (by leaf_len) (by leaf_len) (by one_place) (by one_place) (by decide) (by decide) ?_)) | (with_reducible refine callW_i (relative_ok (by leaf_len) (by leaf_len) (by one_place) (by one_place) (by decide) (by decide) ?_)) | (with_reducible refine callW_i (spread_ok (by leaf_len) (by leaf_len) (by one_place) (by one_place) (by decide) (by decide) ?_)) | (with_reducible refine callW_i (law_turn_ok (by leaf_len) (by one_place) (by decide) ?_)) | (with_reducible refine callW_i (law_grain_ok (by leaf_len) (by one_place) (by decide) ?_)) | (with_reducible refine callW_i (law_spread_ok (by leaf_len) (by leaf_len) (by one_place) (by one_place) (by decide) ?_)) | (with_reducible refine callW_i (law_own_ok (by leaf_len) (by one_place) (by decide) ?_)) | (with_reducible refine turn_ok (by leaf_len) (by one_place) (by decide) ?_) | (with_reducible refine grain_ok (by leaf_len) (by one_place) (by decide) ?_))
local macro_rules | `(tactic| z_go) => `(tactic| (f_lean; repeat (first | x_go | ((with_reducible refine And.intro ?_ ?_); (focus one_item))) <;> f_lean))
end LK
namespace LK
open PySem PySem.Spec PyProof.Rows L2 G
theorem sc__law_take : FnScope N__law_take ["_law_feed_here", "_law_many"] (defScope s__law_take) := ⟨rfl, rfl, rfl, by decide +kernel, rfl, by decide +kernel, by decide +kernel⟩
theorem ok__law_take {P : Program} {w : World} {C : Con} {mg : Str → Option Value} {base : Heap} (ck : ConOk C) (D : DefAt C mg "_law_take" (defArgs s__law_take) (defBody s__law_take) (defScope s__law_take) ["_law_feed_here", "_law_many"])
    (fr_int : mg "int" = none) (fr_len : mg "len" = none) : Fnp P w C mg base "_law_take" 2 1 p__law_take := by
  refine Fnp.of (k := 0) (N := N__law_take) (wb := w__law_take) ck D sc__law_take fun f cdv A outer s H E g W hr j => ?_
  exact (gss_cons (gs_if (PWg.pt (gw_and (gt_cmp (og_eqD j) (PEg.b (g_ix j (gb_var 0) (PEg.b g_int))) (PEg.b g_int)) (gw_and1 (gt_cmp (og_ltA j) (PEg.b (g_ix j (gb_var 0) (PEg.b g_int))) (PEg.b (g_blt call_len (ov_len j.hK) (by rfl) fr_len PySem.boot_len (gab_cons (PEg.b (g_ix j (gb_var 0) (PEg.b g_int))) gab_nil))))))) (gss_cons (gs_set j 2 (g_ix j (PEg.b (g_ix j (gb_var 0) (PEg.b g_int))) (PEg.b (g_ix j (gb_var 0) (PEg.b g_int))))) (gss_cons (gs_put j 0 (PEg.b g_int) (g_binop (og_addA j m0) (PEg.b (g_ix j (gb_var 0) (PEg.b g_int))) (PEg.b g_int))) (gss_one (gs_if (gt_cmp og_ge (gb_var 2) (PEg.b (g_binop (og_pow) (PEg.b g_int) (PEg.b g_int)))) (gss_one (gs_put j 0 (PEg.b g_int) (g_var 2))) (gss_cons (gs_set j 3 (g_binop (og_addA j m0) (PEg.b (g_binop (og_mulA j m0) (PEg.b (g_ix j (gb_var 0) (PEg.b g_int))) (PEg.b g_int))) (PEg.b (g_binop (og_mod) (PEg.b (g_bty call_int1 ov_int (by rfl) fr_int (by decide +kernel) (gab_cons (gb_var 2) gab_nil))) (PEg.b g_int))))) (gss_one (gs_put j 0 (PEg.b g_int) (g_binop (og_mod) (PEg.b (g_binop (og_addA j m0) (gb_var 3) (PEg.b (g_binop (og_mulA j m0) (PEg.b (g_ix j (gb_var 0) (PEg.b g_int))) (PEg.b g_int))))) (PEg.b g_int))))))))) gss_nil) (gss_cons (gs_if (gt_cmp (og_gtA j) (PEg.b (g_ix j (gb_var 0) (PEg.b g_int))) (PEg.b g_int)) (gss_cons (gs_set j 4 (g_binop (og_mod) (PEg.b (g_bty call_int1 ov_int (by rfl) fr_int (by decide +kernel) (gab_cons (PEg.b (g_ix j (gb_var 0) (PEg.b g_int))) gab_nil))) (gb_var 1))) (gss_cons (gs_put j 0 (PEg.b g_int) (g_binop (og_fdiv) (PEg.b (g_ix j (gb_var 0) (PEg.b g_int))) (gb_var 1))) (gss_one (gs_ret (g_var 4))))) gss_nil) (gss_cons (gs_put j 0 (PEg.b g_int) (g_binop (og_mod) (PEg.b (g_binop (og_addA j m0) (PEg.b (g_binop (og_mulA j m0) (PEg.b (g_ix j (gb_var 0) (PEg.b g_int))) (PEg.b g_int))) (PEg.b g_int))) (PEg.b g_int))) (gss_one (gs_ret (g_binop (og_mod) (PEg.b (g_binop (og_fdiv) (PEg.b (g_binop (og_mod) (PEg.b (g_binop (og_mulA j m0) (PEg.b (g_ix j (gb_var 0) (PEg.b g_int))) (PEg.b (g_bty call_int1 ov_int (by rfl) fr_int (by decide +kernel) (gab_cons (PEg.b (g_ix j (gb_var 0) (PEg.b g_int))) gab_nil))))) (PEg.b g_int))) (PEg.b g_int))) (gb_var 1)))))))
theorem sc__law_pick : FnScope N__law_pick ["_law_feed_here", "_law_things"] (defScope s__law_pick) := ⟨rfl, rfl, rfl, by decide +kernel, rfl, by decide +kernel, by decide +kernel⟩
theorem ok__law_pick {P : Program} {w : World} {C : Con} {mg : Str → Option Value} {base : Heap} (ck : ConOk C) (D : DefAt C mg "_law_pick" (defArgs s__law_pick) (defBody s__law_pick) (defScope s__law_pick) ["_law_feed_here", "_law_things"])
    (h__law_take : Fnp P w C mg base "_law_take" 2 1 p__law_take) (fr_len : mg "len" = none) : Fnp P w C mg base "_law_pick" 2 3 p__law_pick := by
  refine Fnp.of (k := 2) (N := N__law_pick) (wb := w__law_pick) ck D sc__law_pick fun f cdv A outer s H E g W hr j => ?_
  exact (gss_one (gs_ret (g_ix j (gb_var 1) (PEg.b (g_call j (h__law_take.at j.hK hr) (by rfl) (ga_cons (g_var 0) (ga_cons (g_blt call_len (ov_len j.hK) (by rfl) fr_len PySem.boot_len (gab_cons (gb_var 1) gab_nil)) ga_nil)))))))
def w__law_condition (φr : WF) : WS := (wSeq (wSet 3 (wIf (wBool (wBin oGtA (wVarB 2) (wC (.int 0)))) (wCall p__law_take (waCons (wVar 0) (waCons (wC (.int 5)) waNil))) (wC (.int 0)))) (wSeq (wIfS (wBool (wBin oEqD (wVarB 3) (wC (.int 1)))) (wRet (wTup (waCons (wC (.str "not")) (waCons (wCall φr (waCons (wVar 0) (waCons (wVar 1) (waCons (wBin (oSub M0) (wVarB 2) (wC (.int 1))) waNil)))) waNil)))) wNext) (wSeq (wIfS (wOrT (wBool (wBin oEqD (wVarB 3) (wC (.int 2)))) (wBool (wBin oEqD (wVarB 3) (wC (.int 3))))) (wSeq (wSet 4 (wCall φr (waCons (wVar 0) (waCons (wVar 1) (waCons (wBin (oSub M0) (wVarB 2) (wC (.int 1))) waNil))))) (wRet (wTup (waCons (wBin oIx (wLst (waCons (wC (.str "and")) (waCons (wC (.str "or")) waNil))) (wBin (oSub M0) (wVarB 3) (wC (.int 2)))) (waCons (wVar 4) (waCons (wCall φr (waCons (wVar 0) (waCons (wVar 1) (waCons (wBin (oSub M0) (wVarB 2) (wC (.int 1))) waNil)))) waNil)))))) wNext) (wRet (wTup (waCons (wC (.str "in")) (waCons (wCall p__law_pick (waCons (wVar 0) (waCons (wVar 1) waNil))) waNil)))))))
def p__law_condition : Nat → WF
  | 0 => fun _ _ _ _ => False
  | k + 1 => wfn 5 3 (w__law_condition (p__law_condition k))
theorem i__law_condition {a0 a1 a2 : D} {k : Nat} {st : Store} {Q : QE} {R : XQ} (h : w__law_condition (p__law_condition k) [.val a0, .val a1, .val a2, .no, .no] st (fnW Q R)) : p__law_condition (k + 1) [a0, a1, a2] st Q R := ⟨rfl, h⟩
theorem sc__law_condition : FnScope N__law_condition ["_law_feed_here", "_law_names", "_law_depth_it"] (defScope s__law_condition) := ⟨rfl, rfl, rfl, by decide +kernel, rfl, by decide +kernel, by decide +kernel⟩
theorem ok__law_condition {P : Program} {w : World} {C : Con} {mg : Str → Option Value} {base : Heap} (ck : ConOk C) (D : DefAt C mg "_law_condition" (defArgs s__law_condition) (defBody s__law_condition) (defScope s__law_condition) ["_law_feed_here", "_law_names", "_law_depth_it"])
    (h__law_pick : Fnp P w C mg base "_law_pick" 2 3 p__law_pick) (h__law_take : Fnp P w C mg base "_law_take" 2 1 p__law_take) : ∀ dep : Nat, Fnp P w C mg base "_law_condition" 3 (5 + dep) (p__law_condition dep)
  | 0 => Fnp.never (k := 4) D sc__law_condition
  | dep + 1 => by
    have h__law_condition := ok__law_condition (P := P) (w := w) (base := base) ck D h__law_pick h__law_take dep
    refine Fnp.of (k := 5 + dep) (N := N__law_condition) (wb := w__law_condition (p__law_condition dep)) ck D sc__law_condition fun f cdv A outer s H E g W hr j => ?_
    exact (gss_cons (gs_set j 3 (g_if (gt_cmp (og_gtA j) (gb_var 2) (PEg.b g_int)) (g_call j (h__law_take.at j.hK hr (by omega)) (by rfl) (ga_cons (g_var 0) (ga_cons g_int ga_nil))) g_int)) (gss_cons (gs_if (gt_cmp (og_eqD j) (gb_var 3) (PEg.b g_int)) (gss_one (gs_ret (g_tup j (ga_cons g_str (ga_cons (g_call j (h__law_condition.at j.hK hr (by omega)) (by rfl) (ga_cons (g_var 0) (ga_cons (g_var 1) (ga_cons (g_binop (og_sub j m0) (gb_var 2) (PEg.b g_int)) ga_nil)))) ga_nil))))) gss_nil) (gss_cons (gs_if (PWg.pt (gw_or (gt_cmp (og_eqD j) (gb_var 3) (PEg.b g_int)) (gw_or1 (gt_cmp (og_eqD j) (gb_var 3) (PEg.b g_int))))) (gss_cons (gs_set j 4 (g_call j (h__law_condition.at j.hK hr (by omega)) (by rfl) (ga_cons (g_var 0) (ga_cons (g_var 1) (ga_cons (g_binop (og_sub j m0) (gb_var 2) (PEg.b g_int)) ga_nil))))) (gss_one (gs_ret (g_tup j (ga_cons (g_ix j (PEg.b (g_lst j (ga_cons g_str (ga_cons g_str ga_nil)))) (PEg.b (g_binop (og_sub j m0) (gb_var 3) (PEg.b g_int)))) (ga_cons (g_var 4) (ga_cons (g_call j (h__law_condition.at j.hK hr (by omega)) (by rfl) (ga_cons (g_var 0) (ga_cons (g_var 1) (ga_cons (g_binop (og_sub j m0) (gb_var 2) (PEg.b g_int)) ga_nil)))) ga_nil))))))) gss_nil) (gss_one (gs_ret (g_tup j (ga_cons g_str (ga_cons (g_call j (h__law_pick.at j.hK hr (by omega)) (by rfl) (ga_cons (g_var 0) (ga_cons (g_var 1) ga_nil))) ga_nil))))))))
def w__law_condition_text (φr : WF) : WS := (wSeq (wSet 2 (wBin oIx (wVarB 0) (wC (.int 0)))) (wSeq (wIfS (wBool (wBin oEqD (wVarB 2) (wC (.str "in")))) (wRet (wBin oIx (wVarB 0) (wC (.int 1)))) wNext) (wSeq (wIfS (wBool (wBin oEqD (wVarB 2) (wC (.str "not")))) (wRet (wBin (oAddA M0) (wC (.str "not ")) (wCall φr (waCons (wBin oIx (wVarB 0) (wC (.int 1))) (waCons (wC (.int 2)) waNil))))) wNext) (wSeq (wSet 3 (wArgs oInt (waCons (wBin oEqD (wVarB 2) (wC (.str "and"))) waNil))) (wSeq (wSet 4 (wBin (oAddA M0) (wBin (oAddA M0) (wBin (oAddA M0) (wBin (oAddA M0) (wCall φr (waCons (wBin oIx (wVarB 0) (wC (.int 1))) (waCons (wVar 3) waNil))) (wC (.str " "))) (wVarB 2)) (wC (.str " "))) (wCall φr (waCons (wBin oIx (wVarB 0) (wC (.int 2))) (waCons (wBin (oAddA M0) (wVarB 3) (wC (.int 1))) waNil))))) (wRet (wIf (wBool (wBin oLtA (wVarB 3) (wVarB 1))) (wBin (oAddA M0) (wBin (oAddA M0) (wC (.str "( ")) (wVarB 4)) (wC (.str " )"))) (wVar 4))))))))
def p__law_condition_text : Nat → WF
  | 0 => fun _ _ _ _ => False
  | k + 1 => wfn 5 2 (w__law_condition_text (p__law_condition_text k))
theorem i__law_condition_text {a0 a1 : D} {k : Nat} {st : Store} {Q : QE} {R : XQ} (h : w__law_condition_text (p__law_condition_text k) [.val a0, .val a1, .no, .no, .no] st (fnW Q R)) : p__law_condition_text (k + 1) [a0, a1] st Q R := ⟨rfl, h⟩
theorem sc__law_condition_text : FnScope N__law_condition_text ["_law_condition_here", "_law_level"] (defScope s__law_condition_text) := ⟨rfl, rfl, rfl, by decide +kernel, rfl, by decide +kernel, by decide +kernel⟩
theorem ok__law_condition_text {P : Program} {w : World} {C : Con} {mg : Str → Option Value} {base : Heap} (ck : ConOk C) (D : DefAt C mg "_law_condition_text" (defArgs s__law_condition_text) (defBody s__law_condition_text) (defScope s__law_condition_text) ["_law_condition_here", "_law_level"])
    (fr_int : mg "int" = none) : ∀ dep : Nat, Fnp P w C mg base "_law_condition_text" 2 (1 + dep) (p__law_condition_text dep)
  | 0 => Fnp.never (k := 0) D sc__law_condition_text
  | dep + 1 => by
    have h__law_condition_text := ok__law_condition_text (P := P) (w := w) (base := base) ck D fr_int dep
    refine Fnp.of (k := 1 + dep) (N := N__law_condition_text) (wb := w__law_condition_text (p__law_condition_text dep)) ck D sc__law_condition_text fun f cdv A outer s H E g W hr j => ?_
    exact (gss_cons (gs_set j 2 (g_ix j (gb_var 0) (PEg.b g_int))) (gss_cons (gs_if (gt_cmp (og_eqD j) (gb_var 2) (PEg.b g_str)) (gss_one (gs_ret (g_ix j (gb_var 0) (PEg.b g_int)))) gss_nil) (gss_cons (gs_if (gt_cmp (og_eqD j) (gb_var 2) (PEg.b g_str)) (gss_one (gs_ret (g_binop (og_addA j m0) (PEg.b g_str) (PEg.b (g_call j (h__law_condition_text.at j.hK hr (by omega)) (by rfl) (ga_cons (g_ix j (gb_var 0) (PEg.b g_int)) (ga_cons g_int ga_nil))))))) gss_nil) (gss_cons (gs_set j 3 (g_bty call_int1 ov_int (by rfl) fr_int (by decide +kernel) (gab_cons (PEg.b (g_cmp (og_eqD j) (gb_var 2) (PEg.b g_str))) gab_nil))) (gss_cons (gs_set j 4 (g_binop (og_addA j m0) (PEg.b (g_binop (og_addA j m0) (PEg.b (g_binop (og_addA j m0) (PEg.b (g_binop (og_addA j m0) (PEg.b (g_call j (h__law_condition_text.at j.hK hr (by omega)) (by rfl) (ga_cons (g_ix j (gb_var 0) (PEg.b g_int)) (ga_cons (g_var 3) ga_nil)))) (PEg.b g_str))) (gb_var 2))) (PEg.b g_str))) (PEg.b (g_call j (h__law_condition_text.at j.hK hr (by omega)) (by rfl) (ga_cons (g_ix j (gb_var 0) (PEg.b g_int)) (ga_cons (g_binop (og_addA j m0) (gb_var 3) (PEg.b g_int)) ga_nil)))))) (gss_one (gs_ret (g_if (gt_cmp (og_ltA j) (gb_var 3) (gb_var 1)) (g_binop (og_addA j m0) (PEg.b (g_binop (og_addA j m0) (PEg.b g_str) (gb_var 4))) (PEg.b g_str)) (g_var 4)))))))))
theorem sc__law_feed : FnScope N__law_feed ["_law_script"] (defScope s__law_feed) := ⟨rfl, rfl, rfl, by decide +kernel, rfl, by decide +kernel, by decide +kernel⟩
theorem ok__law_feed {P : Program} {w : World} {C : Con} {mg : Str → Option Value} {base : Heap} (ck : ConOk C) (D : DefAt C mg "_law_feed" (defArgs s__law_feed) (defBody s__law_feed) (defScope s__law_feed) ["_law_script"])
    (fr_int : mg "int" = none) (fr_len : mg "len" = none) (fr_list : mg "list" = none) : Fnp P w C mg base "_law_feed" 1 1 p__law_feed := by
  refine Fnp.of (k := 0) (N := N__law_feed) (wb := w__law_feed) ck D sc__law_feed fun f cdv A outer s H E g W hr j => ?_
  exact (gss_cons (gs_set j 1 (g_bty call_list_of (ov_list j) (by rfl) fr_list (by decide +kernel) (gab_cons (PEg.b (g_sl j (gb_var 0) go_none (go_some g_int))) gab_nil))) (gss_cons (gs_set j 2 (g_binop (og_addA j m0) (PEg.b g_int) (PEg.b (g_binop (og_mulA j m0) (PEg.b g_int) (PEg.b (g_blt call_len (ov_len j.hK) (by rfl) fr_len PySem.boot_len (gab_cons (gb_var 1) gab_nil))))))) (gss_cons (gs_for j (gi_seq j (g_var 1)) (gg_name j 3) (gss_one (gs_set j 2 (g_binop (og_mod) (PEg.b (g_binop (og_addA j m0) (PEg.b (g_binop (og_addA j m0) (PEg.b (g_binop (og_mulA j m0) (gb_var 2) (PEg.b g_int))) (PEg.b (g_binop (og_mod) (PEg.b (g_bty call_int1 ov_int (by rfl) fr_int (by decide +kernel) (gab_cons (gb_var 3) gab_nil))) (PEg.b g_int))))) (PEg.b g_int))) (PEg.b g_int))))) (gss_one (gs_ret (g_cell j (ga_cons (g_var 1) (ga_cons g_int (ga_cons g_int (ga_cons (g_var 2) ga_nil))))))))))
def w__law_first_fault : WS := (wSeq (wAsg (wTup (waCons (wC (.int 0)) (waCons (wC (.bl true)) waNil))) (wgTup 2 (wgsCons (wgName 1) (wgsCons (wgName 2) wgsNil)))) (wSeq (wFor (wiR1 (waCons (wArgs oLen (waCons (wVarB 0) waNil)) waNil)) (wgName 3) (wSeq (wSet 4 (wBin oIx (wVarB 0) (wVarB 3))) (wIfS (wTru M0 (wVarB 2)) (wSeq (wSet 5 (wAnd (wChain oLe oLe (wC (.int 1)) (wArgs oLen (waCons (wVarB 4) waNil)) (wC (.int 8))) (wArgs oAll (waCons (wLc (wiStr (wVar 4)) [6] (wgName 6) wYes (wBin (oIn false M0) (wVarB 6) (wC (.str "abcdefghijklmnopqrstuvwxyz")))) waNil)))) (wIfS (wBool (wBin oEqD (wVarB 4) (wC (.str "(")))) (wSet 1 (wBin (oAddA M0) (wVarB 1) (wC (.int 1)))) (wIfS (wOrT (wNotT (wTru M0 (wVarB 5))) (wBool (wBin (oIn false M0) (wVarB 4) (wTup (waCons (wC (.str "and")) (waCons (wC (.str "or")) waNil)))))) (wRet (wVar 3)) (wIfS (wBool (wBin oNeD (wVarB 4) (wC (.str "not")))) (wSet 2 (wC (.bl false))) wNext)))) (wIfS (wBool (wBin (oIn false M0) (wVarB 4) (wTup (waCons (wC (.str "and")) (waCons (wC (.str "or")) waNil))))) (wSet 2 (wC (.bl true))) (wIfS (wAndT (wBool (wBin oEqD (wVarB 4) (wC (.str ")")))) (wBool (wBin oGtA (wVarB 1) (wC (.int 0))))) (wSet 1 (wBin (oSub M0) (wVarB 1) (wC (.int 1)))) (wRet (wVar 3))))))) (wRet (wIf (wOrT (wTru M0 (wVarB 2)) (wBool (wBin oGtA (wVarB 1) (wC (.int 0))))) (wArgs oLen (waCons (wVarB 0) waNil)) (wUn (oNeg M0) (wC (.int 1)))))))
def p__law_first_fault : WF := wfn 7 1 w__law_first_fault
theorem i__law_first_fault {a0 : D} {st : Store} {Q : QE} {R : XQ} (h : w__law_first_fault [.val a0, .no, .no, .no, .no, .no, .no] st (fnW Q R)) : p__law_first_fault [a0] st Q R := ⟨rfl, h⟩
theorem sc__law_first_fault : FnScope N__law_first_fault ["_law_words"] (defScope s__law_first_fault) := ⟨rfl, rfl, rfl, by decide +kernel, rfl, by decide +kernel, by decide +kernel⟩
theorem ok__law_first_fault {P : Program} {w : World} {C : Con} {mg : Str → Option Value} {base : Heap} (ck : ConOk C) (D : DefAt C mg "_law_first_fault" (defArgs s__law_first_fault) (defBody s__law_first_fault) (defScope s__law_first_fault) ["_law_words"])
    (fr_all : mg "all" = none) (fr_len : mg "len" = none) (fr_range : mg "range" = none) : Fnp P w C mg base "_law_first_fault" 1 1 p__law_first_fault := by
  refine Fnp.of (k := 0) (N := N__law_first_fault) (wb := w__law_first_fault) ck D sc__law_first_fault fun f cdv A outer s H E g W hr j => ?_
  exact (gss_cons (gs_asg (g_tup j (ga_cons g_int (ga_cons g_bl ga_nil))) (gg_tup j (ggs_cons (gg_name j 1) (ggs_cons (gg_name j 2) ggs_nil)))) (gss_cons (gs_for j (gi_r1 (by rfl) fr_range (ga_cons (g_blt call_len (ov_len j.hK) (by rfl) fr_len PySem.boot_len (gab_cons (gb_var 0) gab_nil)) ga_nil)) (gg_name j 3) (gss_cons (gs_set j 4 (g_ix j (gb_var 0) (gb_var 3))) (gss_one (gs_if (gt_truth j m0 (gb_var 2)) (gss_cons (gs_set j 5 (g_and (g_chain og_le og_le (PEg.b g_int) (PEg.b (g_blt call_len (ov_len j.hK) (by rfl) fr_len PySem.boot_len (gab_cons (gb_var 4) gab_nil))) (PEg.b g_int)) (g_bone (g_blt (cr_all j.calm) (ov_all j.hK) (by rfl) fr_all (by decide +kernel) (gab_cons (PEg.b (g_lc j [(("_law_sign" : Str), 6)] (gi_str j (g_var 4)) (blkOk_by (by kernel_rfl)) (fun s_ H_ C_ cl_ fp_ => (gg_name (j.blk s_ H_ _ _ fp_) 6)) (fun s_ H_ C_ cl_ fp_ => gts_nil) (fun s_ H_ C_ cl_ fp_ => (g_cmp (og_in (j.blk s_ H_ _ _ fp_) m0) (gb_var 6) (PEg.b g_str))) (by decide))) gab_nil))))) (gss_one (gs_if (gt_cmp (og_eqD j) (gb_var 4) (PEg.b g_str)) (gss_one (gs_set j 1 (g_binop (og_addA j m0) (gb_var 1) (PEg.b g_int)))) (gss_one (gs_if (PWg.pt (gw_or (gt_not (gt_truth j m0 (gb_var 5))) (gw_or1 (gt_cmp (og_in j m0) (gb_var 4) (PEg.b (g_tup j (ga_cons g_str (ga_cons g_str ga_nil)))))))) (gss_one (gs_ret (g_var 3))) (gss_one (gs_if (gt_cmp (og_neD j) (gb_var 4) (PEg.b g_str)) (gss_one (gs_set j 2 g_bl)) gss_nil))))))) (gss_one (gs_if (gt_cmp (og_in j m0) (gb_var 4) (PEg.b (g_tup j (ga_cons g_str (ga_cons g_str ga_nil))))) (gss_one (gs_set j 2 g_bl)) (gss_one (gs_if (PWg.pt (gw_and (gt_cmp (og_eqD j) (gb_var 4) (PEg.b g_str)) (gw_and1 (gt_cmp (og_gtA j) (gb_var 1) (PEg.b g_int))))) (gss_one (gs_set j 1 (g_binop (og_sub j m0) (gb_var 1) (PEg.b g_int)))) (gss_one (gs_ret (g_var 3))))))))))) (gss_one (gs_ret (g_if (PWg.pt (gw_or (gt_truth j m0 (gb_var 2)) (gw_or1 (gt_cmp (og_gtA j) (gb_var 1) (PEg.b g_int))))) (g_blt call_len (ov_len j.hK) (by rfl) fr_len PySem.boot_len (gab_cons (gb_var 0) gab_nil)) (g_unop (og_neg j m0) (PEg.b g_int)))))))
def F_Reader___init__ : Nat → Nat → Bool := addF 22 41 (addF 22 8 (F0))
def w_Reader___init__ : WS := (wSeq (wFld F_Reader___init__ 41 (wVar 0) (wSpl (wVarB 1) (wC (.str " ")))) (wFld F_Reader___init__ 8 (wVar 0) (wC (.int 0))))
def p_Reader___init__ : WF := wfn 2 2 w_Reader___init__
theorem i_Reader___init__ {a0 a1 : D} {st : Store} {Q : QE} {R : XQ} (h : w_Reader___init__ [.val a0, .val a1] st (fnW Q R)) : p_Reader___init__ [a0, a1] st Q R := ⟨rfl, h⟩
theorem sc_Reader___init__ : FnScope N_Reader___init__ ["self", "text"] (defScope s_Reader___init__) := ⟨rfl, rfl, rfl, by decide +kernel, rfl, by decide +kernel, by decide +kernel⟩
theorem ok_Reader___init__ {P : Program} {w : World} {C : Con} {mg : Str → Option Value} {base : Heap} {f : Addr} (ck : ConOk C) (D : DefC C f "__init__" "Reader.__init__" (defArgs s_Reader___init__) (defBody s_Reader___init__) (defScope s_Reader___init__) ["self", "text"])
    (c_Reader : Cls C.K (C.ca 22)) (n_Reader_words : NoAttr C.K (C.ca 22) (C.fn 41)) (n_Reader_at : NoAttr C.K (C.ca 22) (C.fn 8)) (inj : ∀ i j, C.fn i = C.fn j → i = j) (hfn : C.fn = nameOf Names) (hmn : C.mn = C.fn) : Fna P w C mg base 1 f p_Reader___init__ := by
  refine DefC.fna (k := 0) (N := N_Reader___init__) (wb := w_Reader___init__) ck D sc_Reader___init__ fun cdv A outer s H E g W hr j => ?_
  exact (gss_cons (gs_fld j (fok_cons c_Reader n_Reader_words j.hK (fok_cons c_Reader n_Reader_at j.hK (fok_nil inj))) 41 (congrFun hfn 41) (g_var 0) (g_split j (gb_var 1) (PEg.b g_str))) (gss_one (gs_fld j (fok_cons c_Reader n_Reader_words j.hK (fok_cons c_Reader n_Reader_at j.hK (fok_nil inj))) 8 (congrFun hfn 8) (g_var 0) g_int)))
def T_Reader_word : Nat → Nat → Option WF := P0
def F_Reader_word : Nat → Nat → Bool := addF 22 8 (addF 22 41 (F0))
def w_Reader_word : WS := (wRet (wIf (wBool (wBin oLtA (wUn (oAtt F_Reader_word T_Reader_word 8) (wVarB 0)) (wArgs oLen (waCons (wUn (oAtt F_Reader_word T_Reader_word 41) (wVarB 0)) waNil)))) (wBin oIx (wUn (oAtt F_Reader_word T_Reader_word 41) (wVarB 0)) (wUn (oAtt F_Reader_word T_Reader_word 8) (wVarB 0))) (wC (.str ""))))
def p_Reader_word : WF := wfn 1 1 w_Reader_word
theorem i_Reader_word {a0 : D} {st : Store} {Q : QE} {R : XQ} (h : w_Reader_word [.val a0] st (fnW Q R)) : p_Reader_word [a0] st Q R := ⟨rfl, h⟩
theorem sc_Reader_word : FnScope N_Reader_word ["self"] (defScope s_Reader_word) := ⟨rfl, rfl, rfl, by decide +kernel, rfl, by decide +kernel, by decide +kernel⟩
theorem ok_Reader_word {P : Program} {w : World} {C : Con} {mg : Str → Option Value} {base : Heap} {f : Addr} (ck : ConOk C) (D : DefC C f "word" "Reader.word" (defArgs s_Reader_word) (defBody s_Reader_word) (defScope s_Reader_word) ["self"])
    (c_Reader : Cls C.K (C.ca 22)) (n_Reader_at : NoAttr C.K (C.ca 22) (C.fn 8)) (n_Reader_words : NoAttr C.K (C.ca 22) (C.fn 41)) (inj : ∀ i j, C.fn i = C.fn j → i = j) (hfn : C.fn = nameOf Names) (hmn : C.mn = C.fn) (fr_len : mg "len" = none) : Fna P w C mg base 1 f p_Reader_word := by
  refine DefC.fna (k := 0) (N := N_Reader_word) (wb := w_Reader_word) ck D sc_Reader_word fun cdv A outer s H E g W hr j => ?_
  exact (gss_one (gs_ret (g_if (gt_cmp (og_ltA j) (PEg.b (g_att j (fok_cons c_Reader n_Reader_at j.hK (fok_cons c_Reader n_Reader_words j.hK (fok_nil inj))) pok_nil 8 (congrFun hfn 8) (gb_var 0))) (PEg.b (g_blt call_len (ov_len j.hK) (by rfl) fr_len PySem.boot_len (gab_cons (PEg.b (g_att j (fok_cons c_Reader n_Reader_at j.hK (fok_cons c_Reader n_Reader_words j.hK (fok_nil inj))) pok_nil 41 (congrFun hfn 41) (gb_var 0))) gab_nil)))) (g_ix j (PEg.b (g_att j (fok_cons c_Reader n_Reader_at j.hK (fok_cons c_Reader n_Reader_words j.hK (fok_nil inj))) pok_nil 41 (congrFun hfn 41) (gb_var 0))) (PEg.b (g_att j (fok_cons c_Reader n_Reader_at j.hK (fok_cons c_Reader n_Reader_words j.hK (fok_nil inj))) pok_nil 8 (congrFun hfn 8) (gb_var 0)))) g_str)))
def M_Reader_step : MT := addM 22 (.nm 42) p_Reader_word (M0)
def F_Reader_step : Nat → Nat → Bool := addF 22 8 (F0)
def w_Reader_step : WS := (wSeq (wSet 1 (wMeth M_Reader_step 42 (wVar 0) waNil)) (wSeq (wFldAug F_Reader_step 8 (wVar 0) (wC (.int 1))) (wRet (wVar 1))))
def p_Reader_step : WF := wfn 2 1 w_Reader_step
theorem i_Reader_step {a0 : D} {st : Store} {Q : QE} {R : XQ} (h : w_Reader_step [.val a0, .no] st (fnW Q R)) : p_Reader_step [a0] st Q R := ⟨rfl, h⟩
theorem sc_Reader_step : FnScope N_Reader_step ["self"] (defScope s_Reader_step) := ⟨rfl, rfl, rfl, by decide +kernel, rfl, by decide +kernel, by decide +kernel⟩
theorem ok_Reader_step {P : Program} {w : World} {C : Con} {mg : Str → Option Value} {base : Heap} {f : Addr} (ck : ConOk C) (D : DefC C f "step" "Reader.step" (defArgs s_Reader_step) (defBody s_Reader_step) (defScope s_Reader_step) ["self"])
    (m_Reader_word : MetR P w C mg base 22 (.nm 42) 1 p_Reader_word) (c_Reader : Cls C.K (C.ca 22)) (n_Reader_at : NoAttr C.K (C.ca 22) (C.fn 8)) (inj : ∀ i j, C.fn i = C.fn j → i = j) (hfn : C.fn = nameOf Names) (hmn : C.mn = C.fn) : Fna P w C mg base 3 f p_Reader_step := by
  refine DefC.fna (k := 2) (N := N_Reader_step) (wb := w_Reader_step) ck D sc_Reader_step fun cdv A outer s H E g W hr j => ?_
  exact (gss_cons (gs_set j 1 (g_meth0 j (mok_cons m_Reader_word j.hK hr m0) inj hmn 42 (congrFun hfn 42) (g_var 0))) (gss_cons (gs_fldAug j (fok_cons c_Reader n_Reader_at j.hK (fok_nil inj)) 8 (congrFun hfn 8) (g_var 0) g_int) (gss_one (gs_ret (g_var 1)))))
def w_is_name : WS := (wRet (wAnd (wChain oLe oLe (wC (.int 1)) (wArgs oLen (waCons (wVarB 0) waNil)) (wC (.int 8))) (wArgs oAll (waCons (wLc (wiStr (wVar 0)) [1] (wgName 1) wYes (wBin (oIn false M0) (wVarB 1) (wC (.str "abcdefghijklmnopqrstuvwxyz")))) waNil))))
def p_is_name : WF := wfn 2 1 w_is_name
theorem i_is_name {a0 : D} {st : Store} {Q : QE} {R : XQ} (h : w_is_name [.val a0, .no] st (fnW Q R)) : p_is_name [a0] st Q R := ⟨rfl, h⟩
theorem sc_is_name : FnScope N_is_name ["text"] (defScope s_is_name) := ⟨rfl, rfl, rfl, by decide +kernel, rfl, by decide +kernel, by decide +kernel⟩
theorem ok_is_name {P : Program} {w : World} {C : Con} {mg : Str → Option Value} {base : Heap} (ck : ConOk C) (D : DefAt C mg "is_name" (defArgs s_is_name) (defBody s_is_name) (defScope s_is_name) ["text"])
    (k_LETTERS : ∃ t, mg "LETTERS" = some (.str "abcdefghijklmnopqrstuvwxyz" t)) (fr_all : mg "all" = none) (fr_len : mg "len" = none) : Fnp P w C mg base "is_name" 1 1 p_is_name := by
  refine Fnp.of (k := 0) (N := N_is_name) (wb := w_is_name) ck D sc_is_name fun f cdv A outer s H E g W hr j => ?_
  exact (gss_one (gs_ret (g_and (g_chain og_le og_le (PEg.b g_int) (PEg.b (g_blt call_len (ov_len j.hK) (by rfl) fr_len PySem.boot_len (gab_cons (gb_var 0) gab_nil))) (PEg.b g_int)) (g_bone (g_blt (cr_all j.calm) (ov_all j.hK) (by rfl) fr_all (by decide +kernel) (gab_cons (PEg.b (g_lc j [(("sign" : Str), 1)] (gi_str j (g_var 0)) (blkOk_by (by kernel_rfl)) (fun s_ H_ C_ cl_ fp_ => (gg_name (j.blk s_ H_ _ _ fp_) 1)) (fun s_ H_ C_ cl_ fp_ => gts_nil) (fun s_ H_ C_ cl_ fp_ => (g_cmp (og_in (j.blk s_ H_ _ _ fp_) m0) (gb_var 1) (PEg.b (g_gloS (by rfl) k_LETTERS)))) (by decide))) gab_nil))))))
def M_Reader_singleE (φ_Reader_singleE φ_Reader_bothE φ_Reader_eitherE : WF) : MT := addM 22 (.nm 43) p_Reader_step (addM 22 (.nm 46) φ_Reader_singleE (addM 22 (.nm 44) φ_Reader_eitherE (M0)))
def T_Reader_singleE : Nat → Nat → Option WF := P0
def F_Reader_singleE : Nat → Nat → Bool := addF 22 8 (F0)
def w_Reader_singleE (φ_Reader_singleE φ_Reader_bothE φ_Reader_eitherE : WF) : WS := (wSeq (wPar 1 2 (waCons (wUn (oAtt F_Reader_singleE T_Reader_singleE 8) (wVarB 0)) (waCons (wMeth (M_Reader_singleE φ_Reader_singleE φ_Reader_bothE φ_Reader_eitherE) 43 (wVar 0) waNil) waNil))) (wSeq (wIfS (wBool (wBin oEqD (wVarB 2) (wC (.str "not")))) (wRet (wTup (waCons (wC (.str "not")) (waCons (wMeth (M_Reader_singleE φ_Reader_singleE φ_Reader_bothE φ_Reader_eitherE) 46 (wVar 0) waNil) waNil)))) wNext) (wSeq (wIfS (wBool (wBin oEqD (wVarB 2) (wC (.str "(")))) (wSeq (wSet 3 (wMeth (M_Reader_singleE φ_Reader_singleE φ_Reader_bothE φ_Reader_eitherE) 44 (wVar 0) waNil)) (wSeq (wIfS (wBool (wBin oNeD (wMeth (M_Reader_singleE φ_Reader_singleE φ_Reader_bothE φ_Reader_eitherE) 43 (wVar 0) waNil) (wC (.str ")")))) (wRaise 14 8 1 "ParseError" (wBin (oSub (M_Reader_singleE φ_Reader_singleE φ_Reader_bothE φ_Reader_eitherE)) (wUn (oAtt F_Reader_singleE T_Reader_singleE 8) (wVarB 0)) (wC (.int 1)))) wNext) (wRet (wVar 3)))) wNext) (wSeq (wIfS (wOrT (wNotT (wBool (wCall p_is_name (waCons (wVar 2) waNil)))) (wBool (wBin (oIn false (M_Reader_singleE φ_Reader_singleE φ_Reader_bothE φ_Reader_eitherE)) (wVarB 2) (wTup (waCons (wC (.str "and")) (waCons (wC (.str "or")) waNil)))))) (wRaise 14 8 1 "ParseError" (wVar 1)) wNext) (wRet (wTup (waCons (wC (.str "in")) (waCons (wVar 2) waNil))))))))
theorem sc_Reader_singleE : FnScope N_Reader_singleE ["self"] (defScope s_Reader_singleE) := ⟨rfl, rfl, rfl, by decide +kernel, rfl, by decide +kernel, by decide +kernel⟩
def M_Reader_bothE (φ_Reader_singleE φ_Reader_bothE φ_Reader_eitherE : WF) : MT := addM 22 (.nm 46) φ_Reader_singleE (addM 22 (.nm 42) p_Reader_word (addM 22 (.nm 43) p_Reader_step (M0)))
def w_Reader_bothE (φ_Reader_singleE φ_Reader_bothE φ_Reader_eitherE : WF) : WS := (wSeq (wSet 1 (wMeth (M_Reader_bothE φ_Reader_singleE φ_Reader_bothE φ_Reader_eitherE) 46 (wVar 0) waNil)) (wSeq (wWhile (wBool (wBin oEqD (wMeth (M_Reader_bothE φ_Reader_singleE φ_Reader_bothE φ_Reader_eitherE) 42 (wVar 0) waNil) (wC (.str "and")))) (wSeq (wExpr (wMeth (M_Reader_bothE φ_Reader_singleE φ_Reader_bothE φ_Reader_eitherE) 43 (wVar 0) waNil)) (wSet 1 (wTup (waCons (wC (.str "and")) (waCons (wVar 1) (waCons (wMeth (M_Reader_bothE φ_Reader_singleE φ_Reader_bothE φ_Reader_eitherE) 46 (wVar 0) waNil) waNil))))))) (wRet (wVar 1))))
theorem sc_Reader_bothE : FnScope N_Reader_bothE ["self"] (defScope s_Reader_bothE) := ⟨rfl, rfl, rfl, by decide +kernel, rfl, by decide +kernel, by decide +kernel⟩
def M_Reader_eitherE (φ_Reader_singleE φ_Reader_bothE φ_Reader_eitherE : WF) : MT := addM 22 (.nm 45) φ_Reader_bothE (addM 22 (.nm 42) p_Reader_word (addM 22 (.nm 43) p_Reader_step (M0)))
def w_Reader_eitherE (φ_Reader_singleE φ_Reader_bothE φ_Reader_eitherE : WF) : WS := (wSeq (wSet 1 (wMeth (M_Reader_eitherE φ_Reader_singleE φ_Reader_bothE φ_Reader_eitherE) 45 (wVar 0) waNil)) (wSeq (wWhile (wBool (wBin oEqD (wMeth (M_Reader_eitherE φ_Reader_singleE φ_Reader_bothE φ_Reader_eitherE) 42 (wVar 0) waNil) (wC (.str "or")))) (wSeq (wExpr (wMeth (M_Reader_eitherE φ_Reader_singleE φ_Reader_bothE φ_Reader_eitherE) 43 (wVar 0) waNil)) (wSet 1 (wTup (waCons (wC (.str "or")) (waCons (wVar 1) (waCons (wMeth (M_Reader_eitherE φ_Reader_singleE φ_Reader_bothE φ_Reader_eitherE) 45 (wVar 0) waNil) waNil))))))) (wRet (wVar 1))))
theorem sc_Reader_eitherE : FnScope N_Reader_eitherE ["self"] (defScope s_Reader_eitherE) := ⟨rfl, rfl, rfl, by decide +kernel, rfl, by decide +kernel, by decide +kernel⟩
def grp_Rd : Nat → WF × WF × WF
  | 0 => (wfn 4 1 (fun _ _ _ => False), wfn 2 1 (fun _ _ _ => False), wfn 2 1 (fun _ _ _ => False))
  | k + 1 => (wfn 4 1 (w_Reader_singleE ((grp_Rd k).1) ((grp_Rd k).2.1) ((grp_Rd k).2.2)), wfn 2 1 (w_Reader_bothE ((grp_Rd k).1) ((grp_Rd k).2.1) ((grp_Rd k).2.2)), wfn 2 1 (w_Reader_eitherE ((grp_Rd k).1) ((grp_Rd k).2.1) ((grp_Rd k).2.2)))
def p_Reader_singleE (k : Nat) : WF := (grp_Rd k).1
def p_Reader_bothE (k : Nat) : WF := (grp_Rd k).2.1
def p_Reader_eitherE (k : Nat) : WF := (grp_Rd k).2.2
theorem i_Reader_singleE {a0 : D} {k : Nat} {st : Store} {Q : QE} {R : XQ} (h : w_Reader_singleE (p_Reader_singleE k) (p_Reader_bothE k) (p_Reader_eitherE k) [.val a0, .no, .no, .no] st (fnW Q R)) : p_Reader_singleE (k + 1) [a0] st Q R := ⟨rfl, h⟩
theorem i_Reader_bothE {a0 : D} {k : Nat} {st : Store} {Q : QE} {R : XQ} (h : w_Reader_bothE (p_Reader_singleE k) (p_Reader_bothE k) (p_Reader_eitherE k) [.val a0, .no] st (fnW Q R)) : p_Reader_bothE (k + 1) [a0] st Q R := ⟨rfl, h⟩
theorem i_Reader_eitherE {a0 : D} {k : Nat} {st : Store} {Q : QE} {R : XQ} (h : w_Reader_eitherE (p_Reader_singleE k) (p_Reader_bothE k) (p_Reader_eitherE k) [.val a0, .no] st (fnW Q R)) : p_Reader_eitherE (k + 1) [a0] st Q R := ⟨rfl, h⟩
theorem ok_Rd {P : Program} {w : World} {C : Con} {mg : Str → Option Value} {base : Heap} {f_Reader_singleE f_Reader_bothE f_Reader_eitherE : Addr} (ck : ConOk C) (D_Reader_singleE : DefC C f_Reader_singleE "single" "Reader.single" (defArgs s_Reader_singleE) (defBody s_Reader_singleE) (defScope s_Reader_singleE) ["self"]) (H_Reader_singleE : Meth C.K (C.ca 22) (Mn.str C (.nm 46)) f_Reader_singleE) (D_Reader_bothE : DefC C f_Reader_bothE "both" "Reader.both" (defArgs s_Reader_bothE) (defBody s_Reader_bothE) (defScope s_Reader_bothE) ["self"]) (H_Reader_bothE : Meth C.K (C.ca 22) (Mn.str C (.nm 45)) f_Reader_bothE) (D_Reader_eitherE : DefC C f_Reader_eitherE "either" "Reader.either" (defArgs s_Reader_eitherE) (defBody s_Reader_eitherE) (defScope s_Reader_eitherE) ["self"]) (H_Reader_eitherE : Meth C.K (C.ca 22) (Mn.str C (.nm 44)) f_Reader_eitherE) (cc_ : Cls C.K (C.ca 22)) (sf_ : PySem.W.selfFirst C.K (C.ca 22) = true)
    (h_is_name : Fnp P w C mg base "is_name" 1 1 p_is_name) (m_Reader_step : MetR P w C mg base 22 (.nm 43) 3 p_Reader_step) (c_Reader : Cls C.K (C.ca 22)) (n_Reader_at : NoAttr C.K (C.ca 22) (C.fn 8)) (E_ParseError : ErrR P w C mg base "ParseError" 14 8 1 "ParseError" 1) (inj : ∀ i j, C.fn i = C.fn j → i = j) (hfn : C.fn = nameOf Names) (hmn : C.mn = C.fn) (m_Reader_word : MetR P w C mg base 22 (.nm 42) 1 p_Reader_word) : ∀ dep : Nat, MetR P w C mg base 22 (.nm 46) (5 + dep) (p_Reader_singleE dep) ∧ MetR P w C mg base 22 (.nm 45) (5 + dep) (p_Reader_bothE dep) ∧ MetR P w C mg base 22 (.nm 44) (5 + dep) (p_Reader_eitherE dep)
  | 0 => ⟨metR_of (DefC.never (k := 4) ck D_Reader_singleE sc_Reader_singleE) H_Reader_singleE cc_ sf_, metR_of (DefC.never (k := 4) ck D_Reader_bothE sc_Reader_bothE) H_Reader_bothE cc_ sf_, metR_of (DefC.never (k := 4) ck D_Reader_eitherE sc_Reader_eitherE) H_Reader_eitherE cc_ sf_⟩
  | dep + 1 => by
    obtain ⟨m_Reader_singleE, m_Reader_bothE, m_Reader_eitherE⟩ := ok_Rd (P := P) (w := w) (mg := mg) (base := base) ck D_Reader_singleE H_Reader_singleE D_Reader_bothE H_Reader_bothE D_Reader_eitherE H_Reader_eitherE cc_ sf_ h_is_name m_Reader_step c_Reader n_Reader_at E_ParseError inj hfn hmn m_Reader_word dep
    have q_Reader_singleE : MetR P w C mg base 22 (.nm 46) (5 + (dep + 1)) (p_Reader_singleE (dep + 1)) := by
      refine metR_of (f := f_Reader_singleE) (DefC.fna (k := 5 + dep) (N := N_Reader_singleE) (wb := w_Reader_singleE (p_Reader_singleE dep) (p_Reader_bothE dep) (p_Reader_eitherE dep)) ck D_Reader_singleE sc_Reader_singleE fun cdv A outer s H E g W hr j => ?_) H_Reader_singleE cc_ sf_
      exact (gss_cons (gs_par j 1 2 (ga_cons (g_att j (fok_cons c_Reader n_Reader_at j.hK (fok_nil inj)) pok_nil 8 (congrFun hfn 8) (gb_var 0)) (ga_cons (g_meth0 j (mok_cons m_Reader_step j.hK hr (mok_cons m_Reader_singleE j.hK hr (mok_cons m_Reader_eitherE j.hK hr m0 (by omega)) (by omega)) (by omega)) inj hmn 43 (congrFun hfn 43) (g_var 0)) ga_nil))) (gss_cons (gs_if (gt_cmp (og_eqD j) (gb_var 2) (PEg.b g_str)) (gss_one (gs_ret (g_tup j (ga_cons g_str (ga_cons (g_meth0 j (mok_cons m_Reader_step j.hK hr (mok_cons m_Reader_singleE j.hK hr (mok_cons m_Reader_eitherE j.hK hr m0 (by omega)) (by omega)) (by omega)) inj hmn 46 (congrFun hfn 46) (g_var 0)) ga_nil))))) gss_nil) (gss_cons (gs_if (gt_cmp (og_eqD j) (gb_var 2) (PEg.b g_str)) (gss_cons (gs_set j 3 (g_meth0 j (mok_cons m_Reader_step j.hK hr (mok_cons m_Reader_singleE j.hK hr (mok_cons m_Reader_eitherE j.hK hr m0 (by omega)) (by omega)) (by omega)) inj hmn 44 (congrFun hfn 44) (g_var 0))) (gss_cons (gs_if (gt_cmp (og_neD j) (PEg.b (g_meth0 j (mok_cons m_Reader_step j.hK hr (mok_cons m_Reader_singleE j.hK hr (mok_cons m_Reader_eitherE j.hK hr m0 (by omega)) (by omega)) (by omega)) inj hmn 43 (congrFun hfn 43) (g_var 0))) (PEg.b g_str)) (gss_one (gs_raiseR j E_ParseError j.hK hr (by rfl) (g_binop (og_sub j (mok_cons m_Reader_step j.hK hr (mok_cons m_Reader_singleE j.hK hr (mok_cons m_Reader_eitherE j.hK hr m0 (by omega)) (by omega)) (by omega))) (PEg.b (g_att j (fok_cons c_Reader n_Reader_at j.hK (fok_nil inj)) pok_nil 8 (congrFun hfn 8) (gb_var 0))) (PEg.b g_int)) (by omega))) gss_nil) (gss_one (gs_ret (g_var 3))))) gss_nil) (gss_cons (gs_if (PWg.pt (gw_or (gt_not (gt_val (g_call j (h_is_name.at j.hK hr (by omega)) (by rfl) (ga_cons (g_var 2) ga_nil)))) (gw_or1 (gt_cmp (og_in j (mok_cons m_Reader_step j.hK hr (mok_cons m_Reader_singleE j.hK hr (mok_cons m_Reader_eitherE j.hK hr m0 (by omega)) (by omega)) (by omega))) (gb_var 2) (PEg.b (g_tup j (ga_cons g_str (ga_cons g_str ga_nil)))))))) (gss_one (gs_raiseR j E_ParseError j.hK hr (by rfl) (g_var 1) (by omega))) gss_nil) (gss_one (gs_ret (g_tup j (ga_cons g_str (ga_cons (g_var 2) ga_nil)))))))))
    have q_Reader_bothE : MetR P w C mg base 22 (.nm 45) (5 + (dep + 1)) (p_Reader_bothE (dep + 1)) := by
      refine metR_of (f := f_Reader_bothE) (DefC.fna (k := 5 + dep) (N := N_Reader_bothE) (wb := w_Reader_bothE (p_Reader_singleE dep) (p_Reader_bothE dep) (p_Reader_eitherE dep)) ck D_Reader_bothE sc_Reader_bothE fun cdv A outer s H E g W hr j => ?_) H_Reader_bothE cc_ sf_
      exact (gss_cons (gs_set j 1 (g_meth0 j (mok_cons m_Reader_singleE j.hK hr (mok_cons m_Reader_word j.hK hr (mok_cons m_Reader_step j.hK hr m0 (by omega)) (by omega)) (by omega)) inj hmn 46 (congrFun hfn 46) (g_var 0))) (gss_cons (gs_while j (gt_cmp (og_eqD j) (PEg.b (g_meth0 j (mok_cons m_Reader_singleE j.hK hr (mok_cons m_Reader_word j.hK hr (mok_cons m_Reader_step j.hK hr m0 (by omega)) (by omega)) (by omega)) inj hmn 42 (congrFun hfn 42) (g_var 0))) (PEg.b g_str)) (gss_cons (gs_expr (PEg.b (g_meth0 j (mok_cons m_Reader_singleE j.hK hr (mok_cons m_Reader_word j.hK hr (mok_cons m_Reader_step j.hK hr m0 (by omega)) (by omega)) (by omega)) inj hmn 43 (congrFun hfn 43) (g_var 0)))) (gss_one (gs_set j 1 (g_tup j (ga_cons g_str (ga_cons (g_var 1) (ga_cons (g_meth0 j (mok_cons m_Reader_singleE j.hK hr (mok_cons m_Reader_word j.hK hr (mok_cons m_Reader_step j.hK hr m0 (by omega)) (by omega)) (by omega)) inj hmn 46 (congrFun hfn 46) (g_var 0)) ga_nil)))))))) (gss_one (gs_ret (g_var 1)))))
    have q_Reader_eitherE : MetR P w C mg base 22 (.nm 44) (5 + (dep + 1)) (p_Reader_eitherE (dep + 1)) := by
      refine metR_of (f := f_Reader_eitherE) (DefC.fna (k := 5 + dep) (N := N_Reader_eitherE) (wb := w_Reader_eitherE (p_Reader_singleE dep) (p_Reader_bothE dep) (p_Reader_eitherE dep)) ck D_Reader_eitherE sc_Reader_eitherE fun cdv A outer s H E g W hr j => ?_) H_Reader_eitherE cc_ sf_
      exact (gss_cons (gs_set j 1 (g_meth0 j (mok_cons m_Reader_bothE j.hK hr (mok_cons m_Reader_word j.hK hr (mok_cons m_Reader_step j.hK hr m0 (by omega)) (by omega)) (by omega)) inj hmn 45 (congrFun hfn 45) (g_var 0))) (gss_cons (gs_while j (gt_cmp (og_eqD j) (PEg.b (g_meth0 j (mok_cons m_Reader_bothE j.hK hr (mok_cons m_Reader_word j.hK hr (mok_cons m_Reader_step j.hK hr m0 (by omega)) (by omega)) (by omega)) inj hmn 42 (congrFun hfn 42) (g_var 0))) (PEg.b g_str)) (gss_cons (gs_expr (PEg.b (g_meth0 j (mok_cons m_Reader_bothE j.hK hr (mok_cons m_Reader_word j.hK hr (mok_cons m_Reader_step j.hK hr m0 (by omega)) (by omega)) (by omega)) inj hmn 43 (congrFun hfn 43) (g_var 0)))) (gss_one (gs_set j 1 (g_tup j (ga_cons g_str (ga_cons (g_var 1) (ga_cons (g_meth0 j (mok_cons m_Reader_bothE j.hK hr (mok_cons m_Reader_word j.hK hr (mok_cons m_Reader_step j.hK hr m0 (by omega)) (by omega)) (by omega)) inj hmn 45 (congrFun hfn 45) (g_var 0)) ga_nil)))))))) (gss_one (gs_ret (g_var 1)))))
    exact ⟨q_Reader_singleE, q_Reader_bothE, q_Reader_eitherE⟩
def M_read_conditionE : MT := addM 22 (.nm 44) (p_Reader_eitherE 70) (M0)
def T_read_conditionE : Nat → Nat → Option WF := P0
def F_read_conditionE : Nat → Nat → Bool := addF 22 41 (addF 22 8 (F0))
def w_read_conditionE : WS := (wSeq (wSet 1 (wMk false 22 p_Reader___init__ (waCons (wVar 0) waNil))) (wSeq (wIfS (wBool (wBin oGtA (wArgs oLen (waCons (wUn (oAtt F_read_conditionE T_read_conditionE 41) (wVarB 1)) waNil)) (wC (.int 60)))) (wRaise 14 8 1 "ParseError" (wC (.int 60))) wNext) (wSeq (wSet 2 (wMeth M_read_conditionE 44 (wVar 1) waNil)) (wSeq (wIfS (wBool (wBin oLtA (wUn (oAtt F_read_conditionE T_read_conditionE 8) (wVarB 1)) (wArgs oLen (waCons (wUn (oAtt F_read_conditionE T_read_conditionE 41) (wVarB 1)) waNil)))) (wRaise 14 8 1 "ParseError" (wUn (oAtt F_read_conditionE T_read_conditionE 8) (wVarB 1))) wNext) (wRet (wVar 2))))))
def p_read_conditionE : WF := wfn 3 1 w_read_conditionE
theorem i_read_conditionE {a0 : D} {st : Store} {Q : QE} {R : XQ} (h : w_read_conditionE [.val a0, .no, .no] st (fnW Q R)) : p_read_conditionE [a0] st Q R := ⟨rfl, h⟩
theorem sc_read_conditionE : FnScope N_read_conditionE ["text"] (defScope s_read_conditionE) := ⟨rfl, rfl, rfl, by decide +kernel, rfl, by decide +kernel, by decide +kernel⟩
theorem ok_read_conditionE {P : Program} {w : World} {C : Con} {mg : Str → Option Value} {base : Heap} (ck : ConOk C) (D : DefAt C mg "read_condition" (defArgs s_read_conditionE) (defBody s_read_conditionE) (defScope s_read_conditionE) ["text"])
    (m_Reader_eitherE : MetR P w C mg base 22 (.nm 44) 75 (p_Reader_eitherE 70)) (k_Reader : MakR P w C mg base "Reader" 22 1 p_Reader___init__) (c_Reader : Cls C.K (C.ca 22)) (n_Reader_words : NoAttr C.K (C.ca 22) (C.fn 41)) (n_Reader_at : NoAttr C.K (C.ca 22) (C.fn 8)) (E_ParseError : ErrR P w C mg base "ParseError" 14 8 1 "ParseError" 1) (inj : ∀ i j, C.fn i = C.fn j → i = j) (hfn : C.fn = nameOf Names) (hmn : C.mn = C.fn) (k_MOST_WORDS : ∃ t, mg "MOST_WORDS" = some (.int 60 t)) (fr_len : mg "len" = none) : Fnp P w C mg base "read_condition" 1 77 p_read_conditionE := by
  refine Fnp.of (k := 76) (N := N_read_conditionE) (wb := w_read_conditionE) ck D sc_read_conditionE fun f cdv A outer s H E g W hr j => ?_
  exact (gss_cons (gs_set j 1 (g_make false j (k_Reader.at j.hK hr) (by rfl) (ga_cons (g_var 0) ga_nil))) (gss_cons (gs_if (gt_cmp (og_gtA j) (PEg.b (g_blt call_len (ov_len j.hK) (by rfl) fr_len PySem.boot_len (gab_cons (PEg.b (g_att j (fok_cons c_Reader n_Reader_words j.hK (fok_cons c_Reader n_Reader_at j.hK (fok_nil inj))) pok_nil 41 (congrFun hfn 41) (gb_var 1))) gab_nil))) (PEg.b (g_glo (by rfl) k_MOST_WORDS))) (gss_one (gs_raiseR j E_ParseError j.hK hr (by rfl) (g_glo (by rfl) k_MOST_WORDS))) gss_nil) (gss_cons (gs_set j 2 (g_meth0 j (mok_cons m_Reader_eitherE j.hK hr m0) inj hmn 44 (congrFun hfn 44) (g_var 1))) (gss_cons (gs_if (gt_cmp (og_ltA j) (PEg.b (g_att j (fok_cons c_Reader n_Reader_words j.hK (fok_cons c_Reader n_Reader_at j.hK (fok_nil inj))) pok_nil 8 (congrFun hfn 8) (gb_var 1))) (PEg.b (g_blt call_len (ov_len j.hK) (by rfl) fr_len PySem.boot_len (gab_cons (PEg.b (g_att j (fok_cons c_Reader n_Reader_words j.hK (fok_cons c_Reader n_Reader_at j.hK (fok_nil inj))) pok_nil 41 (congrFun hfn 41) (gb_var 1))) gab_nil)))) (gss_one (gs_raiseR j E_ParseError j.hK hr (by rfl) (g_att j (fok_cons c_Reader n_Reader_words j.hK (fok_cons c_Reader n_Reader_at j.hK (fok_nil inj))) pok_nil 8 (congrFun hfn 8) (gb_var 1)))) gss_nil) (gss_one (gs_ret (g_var 2)))))))
def w_law : WS := (wSeq (wSet 1 (wCall p__law_feed (waCons (wVar 0) waNil))) (wSeq (wSet 2 (wLst (waCons (wC (.str "(")) (waCons (wC (.str ")")) (waCons (wC (.str "not")) (waCons (wC (.str "and")) (waCons (wC (.str "or")) (waCons (wC (.str "a")) (waCons (wC (.str "")) (waCons (wC (.str "A")) (waCons (wC (.str "abcdefghi")) (waCons (wC (.str "b1")) (waCons (wC (.str "in")) waNil))))))))))))) (wSeq (wFor (wiR1 (waCons (wC (.int 6)) waNil)) (wgName 3) (wSeq (wSet 4 (wSpl (wCall (p__law_condition_text 5) (waCons (wCall (p__law_condition 3) (waCons (wVar 1) (waCons (wLst (waCons (wC (.str "a")) (waCons (wC (.str "b")) (waCons (wC (.str "c")) waNil)))) (waCons (wC (.int 2)) waNil)))) (waCons (wC (.int 0)) waNil))) (wC (.str " ")))) (wSeq (wFor (wiR1 (waCons (wBin (oAddA M0) (wC (.int 1)) (wCall p__law_take (waCons (wVar 1) (waCons (wC (.int 2)) waNil)))) waNil)) (wgName 5) (wSeq (wSet 6 (wCall p__law_take (waCons (wVar 1) (waCons (wBin (oAddA M0) (wArgs oLen (waCons (wVarB 4) waNil)) (wC (.int 1))) waNil)))) (wSet 4 (wBin (oAddA M0) (wBin (oAddA M0) (wSl (wVarB 4) woNone (woSome (wVar 6))) (wBin (oMulA M0) (wLst (waCons (wCall p__law_pick (waCons (wVar 1) (waCons (wVar 2) waNil))) waNil)) (wCall p__law_take (waCons (wVar 1) (waCons (wC (.int 2)) waNil))))) (wSl (wVarB 4) (woSome (wBin (oAddA M0) (wVarB 6) (wCall p__law_take (waCons (wVar 1) (waCons (wC (.int 2)) waNil))))) woNone))))) (wSeq (wIfS (wBool (wBin oEqD (wVarB 4) (wLst waNil))) (wSet 4 (wLst (waCons (wC (.str "")) waNil))) wNext) (wSeq (wSet 7 (wTx oJoin (wC (.str " ")) (wVarB 4))) (wSeq (wSet 8 (wCall p__law_first_fault (waCons (wVar 4) waNil))) (wSeq (wSet 9 (wRef 1 tcl (wCall p_read_conditionE (waCons (wVar 7) waNil)))) (wIfS (wBool (wBin oNeD (wVarB 9) (wIf (wBool (wBin oLtA (wVarB 8) (wC (.int 0)))) (wTup (waCons (wC (.str "")) (waCons (wC .non) waNil))) (wTup (waCons (wC (.str "ParseError")) (waCons (wVar 8) waNil)))))) (wRet (wC (.bl false))) wNext)))))))) (wSeq (wSet 10 (wTx oJoin (wC (.str " and ")) (wBin (oMulA M0) (wLst (waCons (wC (.str "a")) waNil)) (wBin (oAddA M0) (wC (.int 29)) (wCall p__law_take (waCons (wVar 1) (waCons (wC (.int 4)) waNil))))))) (wSeq (wSet 8 (wIf (wBool (wBin oGtA (wArgs oLen (waCons (wSpl (wVarB 10) (wC (.str " "))) waNil)) (wC (.int 60)))) (wTup (waCons (wC (.str "ParseError")) (waCons (wC (.int 60)) waNil))) (wTup (waCons (wC (.str "")) (waCons (wC .non) waNil))))) (wSeq (wSet 11 (wIf (wBool (wBin oGtA (wArgs oLen (waCons (wSpl (wVarB 10) (wC (.str " "))) waNil)) (wC (.int 59)))) (wTup (waCons (wC (.str "ParseError")) (waCons (wC (.int 60)) waNil))) (wTup (waCons (wC (.str "ParseError")) (waCons (wC (.int 0)) waNil))))) (wSeq (wIfS (wBool (wBin oNeD (wRef 1 tcl (wCall p_read_conditionE (waCons (wBin (oAddA M0) (wC (.str "and ")) (wVarB 10)) waNil))) (wVarB 11))) (wRet (wC (.bl false))) wNext) (wRet (wAnd (wBin oEqD (wRef 1 tcl (wCall p_read_conditionE (waCons (wVar 10) waNil))) (wVarB 8)) (wBin oEqD (wRef 1 tcl (wCall p_read_conditionE (waCons (wC (.str "")) waNil))) (wTup (waCons (wC (.str "ParseError")) (waCons (wC (.int 0)) waNil)))))))))))))
def p_law : WF := wfn 12 1 w_law
theorem i_law {a0 : D} {st : Store} {Q : QE} {R : XQ} (h : w_law [.val a0, .no, .no, .no, .no, .no, .no, .no, .no, .no, .no, .no] st (fnW Q R)) : p_law [a0] st Q R := ⟨rfl, h⟩
theorem sc_law : FnScope N_law ["_law_script"] (defScope s_law) := ⟨rfl, rfl, rfl, by decide +kernel, rfl, by decide +kernel, by decide +kernel⟩
theorem ok_law {P : Program} {w : World} {C : Con} {mg : Str → Option Value} {base : Heap} {f cA pA : Addr} {fd : FuncData} (ck : ConOk C) (F : FunD C.K "law" "law" (defArgs s_law) (defBody s_law) (defScope s_law) [] [] f fd)
    (fc : fd.code = .ref cA) (h__law_condition : Fnp P w C mg base "_law_condition" 3 8 (p__law_condition 3)) (h__law_condition_text : Fnp P w C mg base "_law_condition_text" 2 6 (p__law_condition_text 5)) (h__law_feed : Fnp P w C mg base "_law_feed" 1 1 p__law_feed) (h__law_first_fault : Fnp P w C mg base "_law_first_fault" 1 1 p__law_first_fault) (h__law_pick : Fnp P w C mg base "_law_pick" 2 3 p__law_pick) (h__law_take : Fnp P w C mg base "_law_take" 2 1 p__law_take) (h_read_condition : Fnp P w C mg base "read_condition" 1 77 p_read_conditionE) (RR_ : RefR P w C mg base "_law_refused" "_law_ask" 1 tcl) (LT_ : LamT C mg base cA pA "law.<locals>.<lambda>") (fr_len : mg "len" = none) (fr_range : mg "range" = none) : FnOk P w C.K mg base (L2.CX P w) 81 f fd ["_law_script"] (spOf C p_law 1) := by
  refine fn_okC (k := 80) (N := N_law) (wb := w_law) ck F sc_law fc fun A outer s H E g W hr j => ?_
  exact (gss_cons (gs_set j 1 (g_call j (h__law_feed.at j.hK hr) (by rfl) (ga_cons (g_var 0) ga_nil))) (gss_cons (gs_set j 2 (g_lst j (ga_cons g_str (ga_cons g_str (ga_cons g_str (ga_cons g_str (ga_cons g_str (ga_cons g_str (ga_cons g_str (ga_cons g_str (ga_cons g_str (ga_cons g_str (ga_cons g_str ga_nil))))))))))))) (gss_cons (gs_for j (gi_r1 (by rfl) fr_range (ga_cons g_int ga_nil)) (gg_name j 3) (gss_cons (gs_set j 4 (g_split j (PEg.b (g_call j (h__law_condition_text.at j.hK hr) (by rfl) (ga_cons (g_call j (h__law_condition.at j.hK hr) (by rfl) (ga_cons (g_var 1) (ga_cons (g_lst j (ga_cons g_str (ga_cons g_str (ga_cons g_str ga_nil)))) (ga_cons g_int ga_nil)))) (ga_cons g_int ga_nil)))) (PEg.b g_str))) (gss_cons (gs_for j (gi_r1 (by rfl) fr_range (ga_cons (g_binop (og_addA j m0) (PEg.b g_int) (PEg.b (g_call j (h__law_take.at j.hK hr) (by rfl) (ga_cons (g_var 1) (ga_cons g_int ga_nil))))) ga_nil)) (gg_name j 5) (gss_cons (gs_set j 6 (g_call j (h__law_take.at j.hK hr) (by rfl) (ga_cons (g_var 1) (ga_cons (g_binop (og_addA j m0) (PEg.b (g_blt call_len (ov_len j.hK) (by rfl) fr_len PySem.boot_len (gab_cons (gb_var 4) gab_nil))) (PEg.b g_int)) ga_nil)))) (gss_one (gs_set j 4 (g_binop (og_addA j m0) (PEg.b (g_binop (og_addA j m0) (PEg.b (g_sl j (gb_var 4) go_none (go_some (g_var 6)))) (PEg.b (g_binop (og_mulA j m0) (PEg.b (g_lst j (ga_cons (g_call j (h__law_pick.at j.hK hr) (by rfl) (ga_cons (g_var 1) (ga_cons (g_var 2) ga_nil))) ga_nil))) (PEg.b (g_call j (h__law_take.at j.hK hr) (by rfl) (ga_cons (g_var 1) (ga_cons g_int ga_nil)))))))) (PEg.b (g_sl j (gb_var 4) (go_some (g_binop (og_addA j m0) (gb_var 6) (PEg.b (g_call j (h__law_take.at j.hK hr) (by rfl) (ga_cons (g_var 1) (ga_cons g_int ga_nil)))))) go_none))))))) (gss_cons (gs_if (gt_cmp (og_eqD j) (gb_var 4) (PEg.b (g_lst j ga_nil))) (gss_one (gs_set j 4 (g_lst j (ga_cons g_str ga_nil)))) gss_nil) (gss_cons (gs_set j 7 (g_join j (PEg.b g_str) (gb_var 4))) (gss_cons (gs_set j 8 (g_call j (h__law_first_fault.at j.hK hr) (by rfl) (ga_cons (g_var 4) ga_nil))) (gss_cons (gs_set j 9 (g_ref (k := 78) j RR_ LT_ (by rfl) (by rfl) hr (by decide) (by rfl) (LamX.lamS_by (by kernel_rfl)) (by rfl) (fun _ _ _ _ _ => by rfl) (fun g_ H_ A_ O_ s_ Z_ E_ f_ c_ hr j => (g_call j (h_read_condition.at j.hK hr) (by rfl) (ga_cons (g_var 7) ga_nil))))) (gss_one (gs_if (gt_cmp (og_neD j) (gb_var 9) (PEg.b (g_if (gt_cmp (og_ltA j) (gb_var 8) (PEg.b g_int)) (g_tup j (ga_cons g_str (ga_cons g_non ga_nil))) (g_tup j (ga_cons g_str (ga_cons (g_var 8) ga_nil)))))) (gss_one (gs_ret g_bl)) gss_nil))))))))) (gss_cons (gs_set j 10 (g_join j (PEg.b g_str) (PEg.b (g_binop (og_mulA j m0) (PEg.b (g_lst j (ga_cons g_str ga_nil))) (PEg.b (g_binop (og_addA j m0) (PEg.b g_int) (PEg.b (g_call j (h__law_take.at j.hK hr) (by rfl) (ga_cons (g_var 1) (ga_cons g_int ga_nil)))))))))) (gss_cons (gs_set j 8 (g_if (gt_cmp (og_gtA j) (PEg.b (g_blt call_len (ov_len j.hK) (by rfl) fr_len PySem.boot_len (gab_cons (PEg.b (g_split j (gb_var 10) (PEg.b g_str))) gab_nil))) (PEg.b g_int)) (g_tup j (ga_cons g_str (ga_cons g_int ga_nil))) (g_tup j (ga_cons g_str (ga_cons g_non ga_nil))))) (gss_cons (gs_set j 11 (g_if (gt_cmp (og_gtA j) (PEg.b (g_blt call_len (ov_len j.hK) (by rfl) fr_len PySem.boot_len (gab_cons (PEg.b (g_split j (gb_var 10) (PEg.b g_str))) gab_nil))) (PEg.b g_int)) (g_tup j (ga_cons g_str (ga_cons g_int ga_nil))) (g_tup j (ga_cons g_str (ga_cons g_int ga_nil))))) (gss_cons (gs_if (gt_cmp (og_neD j) (PEg.b (g_ref (k := 78) j RR_ LT_ (by rfl) (by rfl) hr (by decide) (by rfl) (LamX.lamS_by (by kernel_rfl)) (by rfl) (fun _ _ _ _ _ => by rfl) (fun g_ H_ A_ O_ s_ Z_ E_ f_ c_ hr j => (g_call j (h_read_condition.at j.hK hr) (by rfl) (ga_cons (g_binop (og_addA j m0) (PEg.b g_str) (gb_var 10)) ga_nil))))) (gb_var 11)) (gss_one (gs_ret g_bl)) gss_nil) (gss_one (gs_ret (g_and (g_cmp (og_eqD j) (PEg.b (g_ref (k := 78) j RR_ LT_ (by rfl) (by rfl) hr (by decide) (by rfl) (LamX.lamS_by (by kernel_rfl)) (by rfl) (fun _ _ _ _ _ => by rfl) (fun g_ H_ A_ O_ s_ Z_ E_ f_ c_ hr j => (g_call j (h_read_condition.at j.hK hr) (by rfl) (ga_cons (g_var 10) ga_nil))))) (gb_var 8)) (g_bone (g_cmp (og_eqD j) (PEg.b (g_ref (k := 78) j RR_ LT_ (by rfl) (by rfl) hr (by decide) (by rfl) (LamX.lamS_by (by kernel_rfl)) (by rfl) (fun _ _ _ _ _ => by rfl) (fun g_ H_ A_ O_ s_ Z_ E_ f_ c_ hr j => (g_call j (h_read_condition.at j.hK hr) (by rfl) (ga_cons g_str ga_nil))))) (PEg.b (g_tup j (ga_cons g_str (ga_cons g_int ga_nil))))))))))))))))
end LK
namespace LK
open PySem PySem.Spec PyProof.Rows L2 G
local macro_rules | `(tactic| f_lean) => `(tactic| simp (config := { dsimp := false, failIfUnchanged := false, implicitDefEqProofs := false }) only [↓e_wNext, ↓e_wBin, ↓e_wUn, ↓e_wArgs, ↓e_wC, ↓e_waNil, ↓e_waCons, ↓e_wTup, ↓e_wLst, ↓e_wCell, ↓e_wNotT, ↓e_wIsN, ↓e_wNotN, ↓e_wTru, ↓e_wSl, ↓e_woNone, ↓e_wSet, ↓e_wRet, ↓e_wRetN, ↓e_wExpr, ↓e_wFrz, ↓e_wBrk, ↓e_wCnt, ↓e_wAsg, ↓e_wgName, ↓e_wOwn, ↓seqK_nx, ↓seqK_rt, ↓seqK_bk, ↓seqK_ct, ↓seqK_ex, ↓loopK_nx, ↓loopK_rt, ↓loopK_bk, ↓loopK_ct, ↓loopK_ex, ↓e_wSeq, iteW_t, iteW_f, ↓e_wCall, ↓e_wIfS, ↓e_wIf, ↓e_wAndT, ↓e_wOrT, ↓e_wFor, ↓e_wWhile, ↓e_wLc, ↓blW_b, ↓e_wBool, ↓e_wAnd, ↓e_wOr, ↓e_wNot, ↓e_wChain, ↓e_var0, ↓e_varS, ↓e_varB0, ↓e_varB1, ↓e_varBS, e_set0, e_setS, ↓e_add, ↓e_addS, ↓e_addL, ↓e_addO, ↓e_sub, ↓e_subO, ↓e_mul, ↓e_mulL, ↓e_mulO, ↓e_fdiv, ↓e_mod, ↓e_pow, ↓e_lt, ↓e_le, ↓e_gt, ↓e_ge, ↓e_neg, ↓e_negO, ↓e_eqI, ↓e_neI, ↓e_eqB, ↓e_neB, ↓e_eqS, ↓e_neS, getW_s, ↓e_ixL, ↓e_ixT, celW_s, ↓e_ixC, atI_0, atI_1, atI_2, atI_3, ixN_10, ixN_20, ixN_21, ixN_30, ixN_31, ixN_32, ixN_40, ixN_41, ixN_42, ixN_43, ixN_l0, ↓e_lenL, ↓e_lenT, ↓e_lenS, ↓e_abs, ↓e_intI, ↓e_intB, ↓e_listL, ↓e_listT, ↓e_tupleL, ↓e_tupleT, ↓e_slL, ↓intW_i, ↓e_woSome, ↓e_slR, ↓e_par, ↓e_parW, ↓e_gTup, ↓e_gTupL, ↓e_gsNil, ↓e_gsCons, ↓e_iLst, ↓lstW_i, ↓e_iTup, ↓tupW_i, ↓e_iR1, ↓r1W_i, ↓e_iR2, ↓r2W_i, ↓e_iZip, ↓zipW_l, ↓zipW_t, ↓e_put, e_putO, e_putC, natW_s, ↓e_aug, e_augV, ↓e_app, e_appV, ↓e_addI, ↓e_addIS, ↓e_subI, ↓e_mulI, ↓e_fdivI, e_frzN, e_frzO, e_frzV, e_frzX, e_frzS, e_frzC, ↓e_all, ↓e_any, ↓e_sum, blsW_s, intsW_s, ↓e_truN, ↓e_truB, ↓e_truI, ↓e_truL, ↓e_truT, ↓e_isiT, ↓e_isiC, ↓e_isiY, bo1W_s, isi_ii, isi_is, isi_ib, isi_it, isi_il, isi_bi, isi_bs, isi_bb, isi_bt, isi_bll, isi_ni, isi_ns, isi_nb, isi_nt, isi_nl, isi_si, isi_ss, isi_sb, isi_st, isi_sl, isi_ti, isi_ts, isi_tb, isi_tt, isi_tl, isi_li, isi_ls, isi_lb, isi_lt, isi_ll, isi_ds0, isi_dsT, isi_isI, isi_isS, isi_isB, isi_isN, isi_isT, isi_isL, ixZ_0, ixZ_1, ixZ_2, ixZ_3, ixZ_4, ixZ_5, ixZ_6, ixZ_7, ixZ_8, ixZ_9, ixZ_10, ixZ_11, ixZ_12, ixZ_13, ixZ_14, ixZ_15, ixZ_16, bo2_s, isi_dsF, ↓e_nonN, ↓e_nonI, ↓e_nonB, ↓e_nonS, ↓e_nonT, ↓e_nonL, ↓e_nonO, ↓fnW_rt, ↓fnW_nx, ↓fnW_ex, ↓e_wipe0, ↓e_wipe1, ↓e_wYes, mW_s, ↓e_callM, attW_p, attW_f, ↓e_attO, insW_s, ↓e_attC, e_getC, e_getN, e_putC', e_putN, ↓e_wMeth, ↓e_clsO, ↓e_clsC, mthW_s, mthZW_s, ownW_s, ↓e_eqOO, ↓e_neOO, ↓e_eqOI, ↓e_neOI, ↓e_eqOT, ↓e_neOT, ↓e_eqOL, ↓e_neOL, ↓e_eqTT, ↓e_neTT, ↓e_eqLL, ↓e_neLL, ↓e_wMk, ↓sqW_t, ↓sqW_l, ↓e_wMkS, ↓fldW_c, ↓e_wFld, st_last, st_setL, ↓e_wLenIs, e_addT, e_addF, e_addM, e_addE, e_F0, e_P0, e_T0, e_M0, e_lcN, e_lcC, e_zipC, e_zipN, e_intsN, e_intsC, e_blsN, e_blsC, e_ltz0, e_ltz1, e_ltz2, e_ltz3, e_ltz4, e_ltz5, e_ltz6, e_ltz7, e_ltz8, e_ltz9, e_ltz10, e_ltz11, e_ltz12, e_ltz13, e_ltz14, e_ltz15, e_ltz16, e_ltz17, e_ltz18, e_ltz19, e_ltz20, e_ltz21, e_ltz22, e_ltz23, e_ltz24, e_cst0, e_cst1, e_cst2, e_cst3, e_cst4, e_cst5, e_cst6, e_cst7, e_cst8, e_cst9, e_cst10, e_cst11, e_cst12, e_cst13, e_cst14, e_cst15, e_cst16, e_cst17, e_cst18, e_cst19, e_cst20, e_cst21, e_cst22, e_cst23, e_cst24, ↓e_wiSeq, ↓e_ext, e_extO, ↓gfldW_c, ↓e_wgFld, ↓e_wLcN, e_tskN, e_tskC, e_lpN, e_lpC, calW_s, ↓obW_o, ↓e_wCal, ↓e_srt, ↓e_max, max_2, ↓e_min, min_2, optW_s, ↓e_gtA, ↓e_ltA, ↓e_gtT, ↓e_ltT, lexD_4, ↓e_inL, ↓e_inT, ↓e_inO, ↓e_isBB, bneF, bneT, e_isiOb, e_isiIc, e_isiTc, e_isOf, ↓e_addAi, ↓e_addAs, ↓e_addAl, ↓e_addAt, ↓e_addAo, ↓e_mulAi, ↓e_mulAl, ↓e_mulAt, ↓e_mulAo, e_forN, e_forC, ↓e_iZipA, ↓zipAW_l, ↓zipAW_t, ↓zipAW_w, ↓zipAW_m, ↓e_truO, ↓e_wParO, ↓e_par3, ↓e_par3W, ↓e_eqLl, ↓e_neLl, e_oaN, e_oaC, ↓e_wFldAug, s_lit, String.reduceEq, ↓e_wiStr, ↓sgnW_s, ↓e_wRaise, ↓e_wRef, noS_val, noS_no, List.map_cons, List.map_nil, ↓e_wJsN, ↓e_wJsC, strW_i, ↓e_wTx, e_joinL, e_joinT, strsW_s, e_strI, e_strS, e_fmtS, e_fmtI, e_repr, e_boolc, e_eqXO, e_eqXT, e_eqXI, eqxW_s, ↓e_wAsksD, e_oneS, ↓e_wSq, ↓e_wSq1, ↓e_wSt1, ↓e_wSpl, ↓e_wRpl, ↓e_wSlS, ↓e_wTix, ↓e_wAtC, ↓e_wCallC, e_intT, enW_l, ↓e_wiEnum, agW_o, ↓e_wAugAt, F_Four___init__, T_Four___add__, F_Four___add__, IL_Four___eq__, T_Four___eq__, F_Four___eq__, T_Four___mul__, F_Four___mul__, T_Four___neg__, F_Four___neg__, T_Four___sub__, F_Four___sub__, T_Four_halves, F_Four_halves, T_Four_mirrored, F_Four_mirrored, T_Four_size, F_Four_size, M_associate, T_associate, F_associate, T_Four___bool__, F_Four___bool__, T_nearest, F_nearest, M_divide_left, T_divide_left, F_divide_left, M_common_left, M_divides_left, T_Turn_rows, F_Turn_rows, M_Turn_image, T_Turn_image, F_Turn_image, M_Turn___call__, IL_Turn___eq__, T_Turn___eq__, F_Turn___eq__, E_Turn___eq__, T_Four_content, F_Four_content, M_Four_divided, T_Four_divided, F_Four_divided, M_lowest, T_lowest, F_lowest, M_table_of, T_table_of, F_table_of, M_Turn___init__, T_Turn___init__, F_Turn___init__, M_Turn___mul__, T_Turn___mul__, F_Turn___mul__, M_Turn___neg__, T_Turn___neg__, F_Turn___neg__, M_Turn_power, M_Grain_coordinates, T_Grain_coordinates, F_Grain_coordinates, M_Grain___contains__, T_Turn_four, F_Turn_four, M_odd_four, T_odd_four, F_odd_four, T_Grain___init__, F_Grain___init__, T_Grain_turn, F_Grain_turn, T_Grain_spread, F_Grain_spread, IL_Grain___eq__, T_Grain___eq__, F_Grain___eq__, E_Grain___eq__, T_Grain_four, F_Grain_four, M_Grain_turned, T_Grain_turned, F_Grain_turned, M_relative, T_relative, F_relative, T_spread, F_spread, M_midst, T_midst, F_midst, F_Reader___init__, T_Reader_word, F_Reader_word, M_Reader_step, F_Reader_step, M_Reader_singleE, T_Reader_singleE, F_Reader_singleE, M_Reader_bothE, M_Reader_eitherE, M_read_conditionE, T_read_conditionE, F_read_conditionE, List.reduceReplicate, List.flatten_cons, List.flatten_nil, List.append_nil, decide_true, decide_false, Bool.not_true, Bool.not_false, List.length_cons, List.length_nil, List.getElem?_cons_zero, List.getElem?_cons_succ, List.set_cons_zero, List.set_cons_succ, true_and, and_true, ne_eq, not_false_eq_true, not_true_eq_false, Nat.zero_add, reduceCtorEq, Mn.nm.injEq, and_self, and_false, false_and, Bool.true_or, Bool.or_true, Bool.or_false, Bool.false_or, Bool.and_self, Bool.and_true, Bool.true_and, Bool.and_false, Bool.false_and, List.nil_append, List.cons_append, Option.map_some, List.sum_cons, List.sum_nil, if_true, if_false, ↓reduceIte, beq_self_eq_true, eq_self, Nat.reduceAdd, Nat.reduceMul, Nat.reduceSub, Nat.reduceLT, Nat.reduceLeDiff, Nat.reduceEqDiff, Int.reduceAdd, Int.reduceMul, Int.reduceSub, Int.reduceNeg, Int.reducePow, Int.reduceLT, Int.reduceLE, Int.reduceEq, Int.reduceNe, Int.reduceToNat, Nat.reducePow])
local macro_rules | `(tactic| one_place) => `(tactic| first | ((with_reducible assumption)) | ((with_reducible apply Sm.mul (hm := Nat.le_refl _)); (focus one_place); (focus one_place)) | ((with_reducible apply Sm.add (hm := Nat.le_refl _)); (focus one_place); (focus one_place)) | ((with_reducible apply Sm.sub (hm := Nat.le_refl _)); (focus one_place); (focus one_place)) | ((with_reducible apply Sm.neg); one_place) | ((with_reducible apply Sm.bar); one_place) | ((with_reducible apply Sm.bwhole (hm := Nat.le_refl _)); (focus leaf_len)))
local macro_rules | `(tactic| leaf_len) => `(tactic| first | ((with_reducible assumption)) | exact bLit (by decide) | ((with_reducible apply Sm.bN); (focus one_place)) | ((with_reducible apply bMul (hm := Nat.le_refl _)); (focus leaf_len); (focus leaf_len)) | ((with_reducible apply bAdd (hm := Nat.le_refl _)); (focus leaf_len); (focus leaf_len)) | ((with_reducible apply bSub (hm := Nat.le_refl _)); (focus leaf_len); (focus leaf_len)) | ((with_reducible apply bNeg); leaf_len) | ((with_reducible apply bFdiv); (focus omega); leaf_len) | ((with_reducible apply bDiv); leaf_len) | ((with_reducible apply bMod); (focus leaf_len); omega) | ((with_reducible apply Sm.ba); one_place) | ((with_reducible apply Sm.bb); one_place) | ((with_reducible apply Sm.bc); one_place) | ((with_reducible apply Sm.bd); one_place))
local macro_rules | `(tactic| one_item) => `(tactic| first | ((with_reducible apply mulBt); (focus leaf_len); (focus leaf_len); (focus decide); (focus decide)) | ((with_reducible exact dv2)) | ((with_reducible apply divB); (focus omega); (focus leaf_len); (focus decide)) | exact ⟨rfl, rfl, by simp [D.dep, D.deps], by simp [D.dep, D.deps]⟩)
local macro_rules | `(tactic| w_left) => `(tactic| repeat ((with_reducible refine And.intro ?_ ?_); (focus one_item)))
local macro_rules | `(tactic| x_go) => `(tactic| first | (with_reducible refine callW_i (bool_ok ?_)) | (with_reducible refine callW_i (add_ok ?_)) | (with_reducible refine callW_i (sub_ok ?_)) | (with_reducible refine callW_i (neg_ok ?_)) | (with_reducible refine callW_i (halves_ok ?_)) | (with_reducible refine callW_i (mirrored_ok ?_)) | (with_reducible refine callW_i (eq_ok ?_)) | (with_reducible refine callW_i (mul_ok (by one_place) (by one_place) (by decide) (by decide) ?_)) | (with_reducible refine callW_i (size_ok (by one_place) (by decide) ?_)) | (with_reducible refine callW_i (whole_ok (by leaf_len) (by decide) ?_)) | (with_reducible refine callW_i (law_four_ok ?_)) | (with_reducible refine callW_i (law_back_ok ?_)) | (with_reducible refine callW_i (law_times_ok (by one_place) (by one_place) (by decide) (by decide) ?_)) | (with_reducible refine callW_i (law_size_ok (by one_place) (by decide) ?_)))
local macro_rules | `(tactic| z_go) => `(tactic| (f_lean; repeat (first | x_go | ((with_reducible refine And.intro ?_ ?_); (focus one_item))) <;> f_lean))
local macro_rules | `(tactic| one_place) => `(tactic| first | ((with_reducible assumption)) | ((with_reducible apply Sm.mul (hm := Nat.le_refl _)); (focus one_place); (focus one_place)) | ((with_reducible apply Sm.add (hm := Nat.le_refl _)); (focus one_place); (focus one_place)) | ((with_reducible apply Sm.sub (hm := Nat.le_refl _)); (focus one_place); (focus one_place)) | ((with_reducible apply Sm.neg); one_place) | ((with_reducible apply Sm.bar); one_place) | ((with_reducible apply Sm.bwhole (hm := Nat.le_refl _)); (focus leaf_len)) | ((with_reducible apply own_small (hm := Nat.le_refl _)); (focus leaf_len); (focus one_place)) | ((with_reducible apply low_small (hm := Nat.le_refl _)); (focus leaf_len); (focus one_place)) | ((with_reducible exact sm_one3)))
local macro_rules | `(tactic| leaf_len) => `(tactic| first | ((with_reducible assumption)) | exact bLit (by decide) | ((with_reducible apply Sm.bN); (focus one_place)) | ((with_reducible apply bMul (hm := Nat.le_refl _)); (focus leaf_len); (focus leaf_len)) | ((with_reducible apply bAdd (hm := Nat.le_refl _)); (focus leaf_len); (focus leaf_len)) | ((with_reducible apply bSub (hm := Nat.le_refl _)); (focus leaf_len); (focus leaf_len)) | ((with_reducible apply bNeg); leaf_len) | ((with_reducible apply bFdiv); (focus omega); leaf_len) | ((with_reducible apply bDiv); leaf_len) | ((with_reducible apply bMod); (focus leaf_len); omega) | ((with_reducible apply Sm.ba); one_place) | ((with_reducible apply Sm.bb); one_place) | ((with_reducible apply Sm.bc); one_place) | ((with_reducible apply Sm.bd); one_place) | ((with_reducible apply HQ.Hur.mul_ne); (focus leaf_len); (focus leaf_len)) | ((with_reducible apply HQ.Hur.bar_ne); (focus leaf_len)) | ((with_reducible apply HQ.Hur.own_ne); (focus leaf_len)) | ((with_reducible exact HQ.Hur.one_ne)) | ((with_reducible apply Sm.bnu); (focus leaf_len); (focus one_place)))
local macro_rules | `(tactic| x_go) => `(tactic| first | (with_reducible refine callW_i (bool_ok ?_)) | (with_reducible refine callW_i (add_ok ?_)) | (with_reducible refine callW_i (sub_ok ?_)) | (with_reducible refine callW_i (neg_ok ?_)) | (with_reducible refine callW_i (halves_ok ?_)) | (with_reducible refine callW_i (mirrored_ok ?_)) | (with_reducible refine callW_i (eq_ok ?_)) | (with_reducible refine callW_i (mul_ok (by one_place) (by one_place) (by decide) (by decide) ?_)) | (with_reducible refine callW_i (size_ok (by one_place) (by decide) ?_)) | (with_reducible refine callW_i (whole_ok (by leaf_len) (by decide) ?_)) | (with_reducible refine callW_i (law_four_ok ?_)) | (with_reducible refine callW_i (law_back_ok ?_)) | (with_reducible refine callW_i (law_times_ok (by one_place) (by one_place) (by decide) (by decide) ?_)) | (with_reducible refine callW_i (law_size_ok (by one_place) (by decide) ?_)) | (with_reducible refine callW_i (gturn_ok ?_)) | (with_reducible refine callW_i (gfour_ok ?_)) | (with_reducible refine callW_i (geq_ok ?_)) | (with_reducible refine callW_i (teq_ok ?_)) | (with_reducible refine callW_i (tfour_ok ?_)) | (with_reducible refine callW_i (still_ok ?_)) | (with_reducible refine callW_i (gplain_ok ?_)) | (with_reducible refine callW_i (tneg_ok (by leaf_len) (by one_place) (by decide) ?_)) | (with_reducible refine callW_i (tmul_ok (by leaf_len) (by leaf_len) (by one_place) (by one_place) (by decide) ?_)) | (with_reducible refine callW_i (gspread_ok (by leaf_len) (by one_place) (by decide) ?_)) | (with_reducible refine callW_i (turned_ok (by leaf_len) (by leaf_len) (by one_place) (by one_place) (by decide) (by decide) ?_)) | (with_reducible refine callW_i (relative_ok (by leaf_len) (by leaf_len) (by one_place) (by one_place) (by decide) (by decide) ?_)) | (with_reducible refine callW_i (spread_ok (by leaf_len) (by leaf_len) (by one_place) (by one_place) (by decide) (by decide) ?_)) | (with_reducible refine callW_i (law_turn_ok (by leaf_len) (by one_place) (by decide) ?_)) | (with_reducible refine callW_i (law_grain_ok (by leaf_len) (by one_place) (by decide) ?_)) | (with_reducible refine callW_i (law_spread_ok (by leaf_len) (by leaf_len) (by one_place) (by one_place) (by decide) ?_)) | (with_reducible refine callW_i (law_own_ok (by leaf_len) (by one_place) (by decide) ?_)) | (with_reducible refine turn_ok (by leaf_len) (by one_place) (by decide) ?_) | (with_reducible refine grain_ok (by leaf_len) (by one_place) (by decide) ?_))
local macro_rules | `(tactic| z_go) => `(tactic| (f_lean; repeat (first | x_go | ((with_reducible refine And.intro ?_ ?_); (focus one_item))) <;> f_lean))
open HQ HQ.Hur
theorem datSS {x y : Str} (hx : PyData.strOk x = true) (hy : PyData.strOk y = true) : DatOk (.str x) (.str y) := ⟨hx, hy, by simp [D.dep], by simp [D.dep]⟩
local macro_rules | `(tactic| one_item) => `(tactic| first | ((with_reducible refine datSS ?_ ?_) <;> first | assumption | decide +kernel) | ((with_reducible apply mulBt); (focus leaf_len); (focus leaf_len); (focus decide); (focus decide)) | ((with_reducible exact dv2)) | ((with_reducible apply divB); (focus omega); (focus leaf_len); (focus decide)))
local macro_rules | `(tactic| z_go) => `(tactic| (f_lean; repeat ((with_reducible refine And.intro ?_ ?_); (focus one_item); f_lean)))
theorem line_big : 5000000 ≤ sizeLine := by rw [sizeLine_eq]; decide
theorem dats_of : ∀ {ds : List D}, (∀ d ∈ ds, d.dat = true) → D.dats ds = true
  | [], _ => rfl
  | d :: ds, h => by
    rw [D.dats, h d (by simp), dats_of fun x hx => h x (by simp [hx])]; rfl
theorem deps_of {n : Nat} : ∀ {ds : List D}, (∀ d ∈ ds, d.dep ≤ n) → D.deps ds ≤ n
  | [], _ => by simp [D.deps]
  | d :: ds, h => by
    rw [D.deps]
    have := h d (by simp)
    have := deps_of (ds := ds) fun x hx => h x (by simp [hx])
    omega
open SX TL
section
theorem split_space {parts : List (List Nat)} (hne : parts ≠ []) (h : ∀ p ∈ parts, 32 ∉ p) : Txt.split (S (joinL [32] parts)) " " = parts.map S := by
  rw [show ((" " : Str)) = S [32] by decide +kernel, split_S (by simp) (by decide), SX.spl_join hne h]
theorem join_app {s : List Nat} : ∀ {a b : List (List Nat)}, a ≠ [] → b ≠ [] → joinL s (a ++ b) = joinL s a ++ (s ++ joinL s b)
  | [], _, h, _ => absurd rfl h
  | [p], b, _, hb => by
    cases b with
    | nil => exact absurd rfl hb
    | cons q r => rfl
  | p :: q :: a, b, _, hb => by
    have ih := join_app (s := s) (a := q :: a) (b := b) (by simp) hb
    show p ++ (s ++ joinL s ((q :: a) ++ b)) = p ++ (s ++ joinL s (q :: a)) ++ _
    rw [ih]
    simp only [List.append_assoc]
inductive Co where
  | nm (z : List Nat) | neg (a : Co) | bin (o : Bool) (a b : Co)
abbrev wAnd' : List Nat := [97, 110, 100]
abbrev wOr' : List Nat := [111, 114]
abbrev wNot' : List Nat := [110, 111, 116]
/-- and (true), or -/
def opw (o : Bool) : List Nat := if o then wAnd' else wOr'
theorem x_and : (("and" : Str)) = S wAnd' := by decide +kernel
theorem x_or : (("or" : Str)) = S wOr' := by decide +kernel
theorem x_not : (("not" : Str)) = S wNot' := by decide +kernel
theorem x_nots : (("not " : Str)) = S (wNot' ++ [32]) := by decide +kernel
theorem x_sp : ((" " : Str)) = S [32] := by decide +kernel
theorem x_lb : (("( " : Str)) = S [40, 32] := by decide +kernel
theorem x_rb : ((" )" : Str)) = S [32, 41] := by decide +kernel
theorem x_l : (("(" : Str)) = S [40] := by decide +kernel
theorem x_r : ((")" : Str)) = S [41] := by decide +kernel
theorem x_in : (("in" : Str)) = S [105, 110] := by decide +kernel
theorem x_e : (("" : Str)) = S [] := by decide +kernel
def opS (o : Bool) : Str := if o then "and" else "or"
def Co.d : Co → D
  | .nm z => .tup [.str "in", .str (S z)]
  | .neg a => .tup [.str "not", a.d]
  | .bin o a b => .tup [.str (opS o), a.d, b.d]
def Co.hgt : Co → Nat
  | .nm _ => 0
  | .neg a => a.hgt + 1
  | .bin _ a b => max a.hgt b.hgt + 1
/-- names of the law -/
abbrev N7 : List (List Nat) := [[97], [98], [99]]
def Co.ok : Co → Prop
  | .nm z => z ∈ N7
  | .neg a => a.ok
  | .bin _ a b => a.ok ∧ b.ok
def lev (o : Bool) : Nat := if o then 1 else 0
/-- the words of a condition where things of a level may stand -/
def Co.ws : Co → Nat → List (List Nat)
  | .nm z, _ => [z]
  | .neg a, _ => wNot' :: a.ws 2
  | .bin o a b, l => if lev o < l then [[40]] ++ (a.ws (lev o) ++ [opw o] ++ b.ws (lev o + 1)) ++ [[41]] else a.ws (lev o) ++ [opw o] ++ b.ws (lev o + 1)
theorem Co.ws_ne : ∀ (c : Co) (l : Nat), c.ws l ≠ []
  | .nm _, _ => by simp [Co.ws]
  | .neg _, _ => by simp [Co.ws]
  | .bin o a b, l => by unfold Co.ws; split <;> simp
theorem Co.ws_sp : ∀ (c : Co) (l : Nat), c.ok → ∀ p ∈ c.ws l, 32 ∉ p ∧ p ≠ [] ∧ p.length ≤ 8
  | .nm z, _, h, p, hp => by
    rw [List.mem_singleton.mp hp]
    have h : z ∈ N7 := h
    simp only [N7, List.mem_cons, List.not_mem_nil, or_false] at h
    rcases h with rfl | rfl | rfl <;> decide
  | .neg a, _, h, p, hp => by
    rcases List.mem_cons.mp hp with rfl | hp
    · decide
    · exact Co.ws_sp a 2 h p hp
  | .bin o a b, l, h, p, hp => by
    have ho : 32 ∉ opw o ∧ opw o ≠ [] ∧ (opw o).length ≤ 8 := by cases o <;> decide
    have hin : p ∈ a.ws (lev o) ++ [opw o] ++ b.ws (lev o + 1) → 32 ∉ p ∧ p ≠ [] ∧ p.length ≤ 8 := fun hp => by
      rcases List.mem_append.mp hp with hp | hp
      · rcases List.mem_append.mp hp with hp | hp
        · exact Co.ws_sp a _ h.1 p hp
        · rw [List.mem_singleton.mp hp]; exact ho
      · exact Co.ws_sp b _ h.2 p hp
    unfold Co.ws at hp
    split at hp
    · rcases List.mem_append.mp hp with hp | hp
      · rcases List.mem_append.mp hp with hp | hp
        · rw [List.mem_singleton.mp hp]; decide
        · exact hin hp
      · rw [List.mem_singleton.mp hp]; decide
    · exact hin hp
/-- how many words -/
theorem Co.ws_len : ∀ (c : Co) (l : Nat), (c.ws l).length + 3 ≤ 2 ^ (c.hgt + 2)
  | .nm _, _ => by simp [Co.ws, Co.hgt]
  | .neg a, _ => by
    have h := Co.ws_len a 2
    have e : 2 ^ (a.hgt + 1 + 2) = 2 * 2 ^ (a.hgt + 2) := by rw [Nat.pow_succ]; omega
    show (wNot' :: a.ws 2).length + 3 ≤ 2 ^ (a.hgt + 1 + 2)
    rw [List.length_cons]; omega
  | .bin o a b, l => by
    have h1 := Co.ws_len a (lev o)
    have h2 := Co.ws_len b (lev o + 1)
    have m1 : 2 ^ (a.hgt + 2) ≤ 2 ^ (max a.hgt b.hgt + 2) := Nat.pow_le_pow_right (by decide) (by omega)
    have m2 : 2 ^ (b.hgt + 2) ≤ 2 ^ (max a.hgt b.hgt + 2) := Nat.pow_le_pow_right (by decide) (by omega)
    have e : 2 ^ (max a.hgt b.hgt + 1 + 2) = 2 * 2 ^ (max a.hgt b.hgt + 2) := by rw [Nat.pow_succ]; omega
    show ((Co.bin o a b).ws l).length + 3 ≤ 2 ^ (max a.hgt b.hgt + 1 + 2)
    unfold Co.ws
    split <;> simp only [List.length_append, List.length_singleton] <;> omega
def Co.tx (c : Co) (l : Nat) : List Nat := joinL [32] (c.ws l)
theorem join_len : ∀ {ws : List (List Nat)}, (∀ p ∈ ws, p.length ≤ 8) → (joinL [32] ws).length ≤ 9 * ws.length
  | [], _ => Nat.le_refl _
  | [p], h => by have := h p (by simp); simp [joinL]; omega
  | p :: q :: r, h => by
    have h1 := h p (by simp)
    have h2 := join_len (ws := q :: r) fun x hx => h x (by simp [hx])
    show (p ++ ([32] ++ joinL [32] (q :: r))).length ≤ 9 * (p :: q :: r).length
    rw [List.length_append, List.length_append]
    simp only [List.length_cons, List.length_nil] at h2 ⊢
    omega
theorem Co.tx_len {c : Co} (h : c.ok) (l : Nat) (hh : c.hgt ≤ 12) : (c.tx l).length ≤ 200000 := by
  have h1 := join_len (ws := c.ws l) fun p hp => (Co.ws_sp c l h p hp).2.2
  have h2 := c.ws_len l
  have h3 : 2 ^ (c.hgt + 2) ≤ 2 ^ 14 := Nat.pow_le_pow_right (by decide) (by omega)
  unfold Co.tx
  omega
theorem tx_neg (a : Co) (l : Nat) : (Co.neg a).tx l = wNot' ++ [32] ++ a.tx 2 := by
  show joinL [32] ([wNot'] ++ a.ws 2) = _
  rw [join_app (by simp) (a.ws_ne 2)]
  simp [joinL, Co.tx]
theorem tx_in (o : Bool) (a b : Co) : joinL [32] (a.ws (lev o) ++ [opw o] ++ b.ws (lev o + 1)) = a.tx (lev o) ++ [32] ++ opw o ++ [32] ++ b.tx (lev o + 1) := by
  rw [join_app (by simp) (b.ws_ne _), join_app (a.ws_ne _) (by simp)]
  simp [joinL, Co.tx]
theorem tx_bin (o : Bool) (a b : Co) (l : Nat) : (Co.bin o a b).tx l = if lev o < l then [40, 32] ++ (a.tx (lev o) ++ [32] ++ opw o ++ [32] ++ b.tx (lev o + 1)) ++ [32, 41] else a.tx (lev o) ++ [32] ++ opw o ++ [32] ++ b.tx (lev o + 1) := by
  show joinL [32] ((Co.bin o a b).ws l) = _
  rw [Co.ws]
  by_cases h : lev o < l
  · rw [if_pos h, if_pos h, join_app (by simp) (by simp), join_app (by simp) (by simp), tx_in]
    simp [joinL]
  · rw [if_neg h, if_neg h]
    exact tx_in o a b
end
theorem strOk_S {l : List Nat} (h : ∀ x ∈ l, x < 128) : PyData.strOk (S l) = true := by
  unfold PyData.strOk
  show (l.toArray.all fun x => decide (x < 0x110000)) = true
  rw [Array.all_eq_true']
  intro x hx
  have := h x (by simpa using hx)
  exact decide_eq_true (by omega)
abbrev namesL : List D := [.str "a", .str "b", .str "c"]
theorem name_of {d : D} (h : d ∈ namesL) : ∃ z, z ∈ N7 ∧ d = .str (S z) := by
  simp only [namesL, List.mem_cons, List.not_mem_nil, or_false] at h
  rcases h with rfl | rfl | rfl
  · exact ⟨[97], by decide, congrArg D.str (by decide +kernel)⟩
  · exact ⟨[98], by decide, congrArg D.str (by decide +kernel)⟩
  · exact ⟨[99], by decide, congrArg D.str (by decide +kernel)⟩
theorem law_condition_ok : ∀ (k : Nat) {c : Cell} {rest : Store} {Q : QE} {R : XQ} (hc : FC c) (hk : k ≤ 12) (q : ∀ (c' : Cell) (t : Co), FC c' → t.ok → t.hgt ≤ k → Q t.d (c' :: rest)),
    p__law_condition (k + 1) [.cel 0, .lst namesL, .int k] (c :: rest) Q R := by
  intro k
  induction k with
  | zero =>
    intro c rest Q R hc hk q
    refine i__law_condition ?_
    unfold w__law_condition
    f_lean
    refine callW_i (law_pick_ok hc (by decide) (by decide) fun c d hc hd => ?_)
    obtain ⟨z, hz, rfl⟩ := name_of hd
    f_lean
    exact q c (.nm z) hc hz (Nat.le_refl _)
  | succ k ih =>
    intro c rest Q R hc hk q
    refine i__law_condition ?_
    unfold w__law_condition
    f_lean
    rw [show decide ((0 : Int) < ((k + 1 : Nat) : Int)) = true from decide_eq_true (by omega)]
    f_lean
    refine callW_i (take_ok hc (by omega) (by omega) fun r c hc r0 r1 => ?_)
    f_lean
    refine iteW_i (fun hb => ?_) (fun hb => ?_)
    · f_lean
      rw [show (((k + 1 : Nat) : Int) - 1) = (k : Int) by omega]
      refine callW_i (ih hc (by omega) fun c t hc t1 t2 => ?_)
      f_lean
      exact q c (.neg t) hc t1 (Nat.succ_le_succ t2)
    · f_lean
      refine iteW_i (fun hb2 => ?_) (fun hb2 => ?_)
      · have e2 : r = 2 := of_decide_eq_true hb2
        subst e2
        f_lean
        rw [show (((k + 1 : Nat) : Int) - 1) = (k : Int) by omega]
        refine callW_i (ih hc (by omega) fun c t hc t1 t2 => ?_)
        f_lean
        rw [show (((k + 1 : Nat) : Int) - 1) = (k : Int) by omega]
        refine callW_i (ih hc (by omega) fun c u hc u1 u2 => ?_)
        f_lean
        exact q c (.bin true t u) hc ⟨t1, u1⟩ (Nat.succ_le_succ (by omega))
      · f_lean
        refine iteW_i (fun hb3 => ?_) (fun hb3 => ?_)
        · have e3 : r = 3 := of_decide_eq_true hb3
          subst e3
          f_lean
          rw [show (((k + 1 : Nat) : Int) - 1) = (k : Int) by omega]
          refine callW_i (ih hc (by omega) fun c t hc t1 t2 => ?_)
          f_lean
          rw [show (((k + 1 : Nat) : Int) - 1) = (k : Int) by omega]
          refine callW_i (ih hc (by omega) fun c u hc u1 u2 => ?_)
          f_lean
          exact q c (.bin false t u) hc ⟨t1, u1⟩ (Nat.succ_le_succ (by omega))
        · f_lean
          refine callW_i (law_pick_ok hc (by decide) (by decide) fun c d hc hd => ?_)
          obtain ⟨z, hz, rfl⟩ := name_of hd
          f_lean
          exact q c (.nm z) hc hz (Nat.zero_le _)
theorem law_condition_text_ok : ∀ (k : Nat) (t : Co) (l : Nat) {st : Store} {Q : QE} {R : XQ}, t.hgt ≤ k → k ≤ 12 → t.ok → Q (.str (S (t.tx l))) st → p__law_condition_text (k + 1) [t.d, .int l] st Q R := by
  intro k
  induction k with
  | zero =>
    intro t l st Q R hd hk ho q
    refine i__law_condition_text ?_
    unfold w__law_condition_text
    cases t with
    | nm z => unfold Co.d; z_go; exact q
    | neg t => simp [Co.hgt] at hd
    | bin o a b => simp [Co.hgt] at hd
  | succ k ih =>
    intro t l st Q R hd hk ho q
    refine i__law_condition_text ?_
    unfold w__law_condition_text
    have big := line_big
    cases t with
    | nm z => unfold Co.d; z_go; exact q
    | neg t =>
      have hd : t.hgt ≤ k := by simpa [Co.hgt] using hd
      have l1 := Co.tx_len (c := t) ho 2 (by omega)
      unfold Co.d; z_go
      refine callW_i (ih t 2 hd (by omega) ho ?_)
      f_lean
      rw [x_nots, S_cat]
      refine ⟨by rw [S_len, S_len]; simp; omega, ?_⟩
      rw [tx_neg] at q
      exact q
    | bin o a b =>
      have hd : max a.hgt b.hgt ≤ k := by simpa [Co.hgt] using hd
      have l1 := Co.tx_len (c := a) ho.1 (lev o) (by omega)
      have l2 := Co.tx_len (c := b) ho.2 (lev o + 1) (by omega)
      rw [tx_bin] at q
      have e1 : ((" " : Str)).length = 1 := by rw [x_sp, S_len]; rfl
      have e2 : (("( " : Str)).length = 2 := by rw [x_lb, S_len]; rfl
      have e3 : ((" )" : Str)).length = 2 := by rw [x_rb, S_len]; rfl
      have e4 : (("and" : Str)).length = 3 := by rw [x_and, S_len]; rfl
      have e5 : (("or" : Str)).length = 2 := by rw [x_or, S_len]; rfl
      cases o with
      | true =>
        unfold Co.d opS; z_go
        refine callW_i (ih a 1 (by omega) (by omega) ho.1 ?_)
        have l1 : (a.tx 1).length ≤ 200000 := l1
        have l2 : (b.tx 2).length ≤ 200000 := l2
        f_lean
        refine ⟨by rw [S_len, e1]; omega, ?_⟩
        f_lean
        refine ⟨by simp only [Str.length_append, S_len, e1, e4]; omega, ?_⟩
        f_lean
        refine ⟨by simp only [Str.length_append, S_len, e1, e4]; omega, ?_⟩
        f_lean
        refine callW_i (ih b 2 (by omega) (by omega) ho.2 ?_)
        f_lean
        refine ⟨by simp only [Str.length_append, S_len, e1, e4]; omega, ?_⟩
        have q : Q (.str (S (if 1 < l then [40, 32] ++ (a.tx 1 ++ [32] ++ wAnd' ++ [32] ++ b.tx 2) ++ [32, 41] else a.tx 1 ++ [32] ++ wAnd' ++ [32] ++ b.tx 2))) st := q
        f_lean
        refine iteW_i (fun hb => ?_) (fun hb => ?_)
        · have hl : 1 < l := by have := of_decide_eq_true hb; omega
          rw [if_pos hl] at q
          f_lean
          refine ⟨by simp only [Str.length_append, S_len, e1, e2, e4]; omega, ?_⟩
          f_lean
          refine ⟨by simp only [Str.length_append, S_len, e1, e2, e3, e4]; omega, ?_⟩
          rw [x_sp, x_lb, x_rb, x_and]
          simp only [S_cat]
          exact q
        · have hl : ¬ 1 < l := by have := of_decide_eq_false hb; omega
          rw [if_neg hl] at q
          f_lean
          rw [x_sp, x_and]
          simp only [S_cat]
          exact q
      | false =>
        unfold Co.d opS; z_go
        refine callW_i (ih a 0 (by omega) (by omega) ho.1 ?_)
        have l1 : (a.tx 0).length ≤ 200000 := l1
        have l2 : (b.tx 1).length ≤ 200000 := l2
        f_lean
        refine ⟨by rw [S_len, e1]; omega, ?_⟩
        f_lean
        refine ⟨by simp only [Str.length_append, S_len, e1, e5]; omega, ?_⟩
        f_lean
        refine ⟨by simp only [Str.length_append, S_len, e1, e5]; omega, ?_⟩
        f_lean
        refine callW_i (ih b 1 (by omega) (by omega) ho.2 ?_)
        f_lean
        refine ⟨by simp only [Str.length_append, S_len, e1, e5]; omega, ?_⟩
        have q : Q (.str (S (if 0 < l then [40, 32] ++ (a.tx 0 ++ [32] ++ wOr' ++ [32] ++ b.tx 1) ++ [32, 41] else a.tx 0 ++ [32] ++ wOr' ++ [32] ++ b.tx 1))) st := q
        f_lean
        refine iteW_i (fun hb => ?_) (fun hb => ?_)
        · have hl : 0 < l := by have := of_decide_eq_true hb; omega
          rw [if_pos hl] at q
          f_lean
          refine ⟨by simp only [Str.length_append, S_len, e1, e2, e5]; omega, ?_⟩
          f_lean
          refine ⟨by simp only [Str.length_append, S_len, e1, e2, e3, e5]; omega, ?_⟩
          rw [x_sp, x_lb, x_rb, x_or]
          simp only [S_cat]
          exact q
        · have hl : ¬ 0 < l := by have := of_decide_eq_false hb; omega
          rw [if_neg hl] at q
          f_lean
          rw [x_sp, x_or]
          simp only [S_cat]
          exact q
theorem small_word (c : Co) : ∀ (l : Nat), c.ok → ∀ p ∈ c.ws l, ∀ x ∈ p, x < 128 := by
  induction c with
  | nm z =>
    intro l h p hp
    rw [List.mem_singleton.mp hp]
    have h : z ∈ N7 := h
    simp only [N7, List.mem_cons, List.not_mem_nil, or_false] at h
    rcases h with rfl | rfl | rfl <;> decide
  | neg a ih =>
    intro l h p hp
    rcases List.mem_cons.mp hp with rfl | hp
    · decide
    · exact ih 2 h p hp
  | bin o a b iha ihb =>
    intro l h p hp
    have ho : ∀ x ∈ opw o, x < 128 := by cases o <;> decide
    have hin : p ∈ a.ws (lev o) ++ [opw o] ++ b.ws (lev o + 1) → ∀ x ∈ p, x < 128 := fun hp => by
      rcases List.mem_append.mp hp with hp | hp
      · rcases List.mem_append.mp hp with hp | hp
        · exact iha _ h.1 p hp
        · rw [List.mem_singleton.mp hp]; exact ho
      · exact ihb _ h.2 p hp
    unfold Co.ws at hp
    split at hp
    · rcases List.mem_append.mp hp with hp | hp
      · rcases List.mem_append.mp hp with hp | hp
        · rw [List.mem_singleton.mp hp]; decide
        · exact hin hp
      · rw [List.mem_singleton.mp hp]; decide
    · exact hin hp
abbrev rd (ws : List (List Nat)) (at_ : Nat) : Cell := .ins 22 [(41, .lst (ws.map fun z => D.str (S z))), (8, .int at_)]
theorem word_ok {n a : Nat} {ws : List (List Nat)} {st : Store} {Q : QE} {R : XQ} (h : st[n]? = some (rd ws a)) (q : Q (.str (S (ws.getD a []))) st) : p_Reader_word [.cel n] st Q R := by
  refine i_Reader_word ?_
  unfold w_Reader_word
  f_lean
  rw [h]
  f_lean
  rw [h]
  f_lean
  refine iteW_i (fun hb => ?_) (fun hb => ?_)
  · have hl : a < ws.length := by have := of_decide_eq_true hb; rw [List.length_map] at this; omega
    f_lean
    rw [h]
    f_lean
    rw [h]
    f_lean
    refine getW_i (d := .str (S (ws.getD a []))) (by rw [G.atI_nat, List.getElem?_map, List.getElem?_eq_getElem hl]; simp [hl]) ?_
    exact q
  · have hl : ¬ a < ws.length := by have := of_decide_eq_false hb; rw [List.length_map] at this; omega
    f_lean
    rw [show ws.getD a [] = [] by simp [List.getD, List.getElem?_eq_none (Nat.le_of_not_lt hl)], ← x_e] at q
    exact q
theorem step_ok {n a : Nat} {ws : List (List Nat)} {st : Store} {Q : QE} {R : XQ} (h : st[n]? = some (rd ws a)) (q : Q (.str (S (ws.getD a []))) (st.set n (rd ws (a + 1)))) : p_Reader_step [.cel n] st Q R := by
  refine i_Reader_step ?_
  unfold w_Reader_step
  f_lean
  rw [h]
  f_lean
  refine callW_i (word_ok h ?_)
  f_lean
  refine fldAug_i (a := (a : Int)) (b := 1) h rfl rfl (by simp) ?_
  f_lean

  exact q
theorem getD_drop {ws : List (List Nat)} {a : Nat} : ws.getD a [] = (ws.drop a).headD [] := by
  rw [List.headD_eq_head?_getD, List.head?_drop]; rfl
theorem drop_next {ws r : List (List Nat)} {a : Nat} {x : List Nat} (h : ws.drop a = x :: r) : ws.drop (a + 1) = r := by
  rw [← List.drop_drop, h]; rfl
section
variable {st : Store} {n a : Nat} {ws : List (List Nat)}
theorem rd_get (hn : n < st.length) (a : Nat) : (st.set n (rd ws a))[n]? = some (rd ws a) := by simp [hn]
theorem word2 {Q : QE} {R : XQ} (hn : n < st.length) (q : Q (.str (S ((ws.drop a).headD []))) (st.set n (rd ws a))) : p_Reader_word [.cel n] (st.set n (rd ws a)) Q R := word_ok (rd_get hn a) (by rw [getD_drop]; exact q)
theorem step2 {Q : QE} {R : XQ} (hn : n < st.length) (q : Q (.str (S ((ws.drop a).headD []))) (st.set n (rd ws (a + 1)))) : p_Reader_step [.cel n] (st.set n (rd ws a)) Q R := step_ok (rd_get hn a) (by rw [getD_drop, List.set_set]; exact q)
end
def isn (z : List Nat) : Bool := decide (1 ≤ z.length ∧ z.length ≤ 8) && z.all fun c => decide (97 ≤ c ∧ c ≤ 122)
theorem mem_alpha {c : Nat} : (c ∈ ("abcdefghijklmnopqrstuvwxyz" : Str).cps.toList) ↔ (97 ≤ c ∧ c ≤ 122) := by
  have e : ("abcdefghijklmnopqrstuvwxyz" : Str).cps.toList = (List.range 26).map fun i => 97 + i := by decide +kernel
  rw [e, List.mem_map]
  constructor
  · rintro ⟨i, hi, rfl⟩
    have := List.mem_range.mp hi
    omega
  · intro h
    exact ⟨c - 97, List.mem_range.mpr (by omega), by omega⟩
theorem inS_dec {M : MT} {c : Nat} {z : Str} {st : Store} {Q : QE} {R : XQ} (q : Q (.bl (decide (c ∈ z.cps.toList))) st) : oIn false M (.str ⟨#[c]⟩) (.str z) st Q R := by
  show Q (.bl (decide (c ∈ z.cps.toList) != false)) st
  rw [Bool.bne_false]; exact q
theorem all_bls : ∀ {bs : List Bool}, D.bls (bs.map D.bl) = some bs
  | [] => rfl
  | b :: bs => by
    rw [List.map_cons, D.bls, all_bls]
    rfl
theorem is_name_ok {z : List Nat} (hz : z.length ≤ 4096) {st : Store} {Q : QE} {R : XQ} (q : Q (.bl (isn z)) st) : p_is_name [.str (S z)] st Q R := by
  refine i_is_name ?_
  unfold w_is_name
  have big := line_big
  f_lean
  refine ⟨by rw [S_len]; omega, ?_⟩
  rw [S_len]
  unfold isn at q
  by_cases h1 : 1 ≤ z.length
  · rw [show decide ((1 : Int) ≤ ((z.length : Nat) : Int)) = true from decide_eq_true (by omega)]
    f_lean
    by_cases h2 : z.length ≤ 8
    · rw [show decide (((z.length : Nat) : Int) ≤ 8) = true from decide_eq_true (by omega)]
      rw [decide_eq_true (⟨h1, h2⟩ : 1 ≤ z.length ∧ z.length ≤ 8), Bool.true_and] at q
      f_lean
      refine lcW_i (fun i acc s => acc = ((z.take i).map fun c => decide (97 ≤ c ∧ c ≤ 122)).map D.bl ∧ st = s ∧ i ≤ z.length) ⟨rfl, rfl, Nat.zero_le _⟩ ?_ ?_
      · rintro i d _ _ hd ⟨rfl, rfl, hi⟩ K hK
        rw [List.getElem?_map, Option.map_eq_some_iff] at hd
        obtain ⟨c, hc, rfl⟩ := hd
        have hc2 : z[i]? = some c := hc
        have hi2 := (List.getElem?_eq_some_iff.mp hc2).1
        f_lean
        refine inS_dec ?_
        refine ⟨by rw [List.length_map, List.length_map, List.length_take]; omega, hK _ _ ⟨?_, rfl, hi2⟩⟩
        rw [List.take_add_one, hc2, List.map_append, List.map_append]
        simp only [Option.toList_some, List.map_cons, List.map_nil]
        rw [show decide (c ∈ ("abcdefghijklmnopqrstuvwxyz" : Str).cps.toList) = decide (97 ≤ c ∧ c ≤ 122) from decide_eq_decide.mpr mem_alpha]
      · rintro _ _ ⟨rfl, rfl, _⟩
        have el : (S z).cps.toList = z := rfl
        rw [List.length_map, el, List.take_length]
        f_lean
        rw [all_bls]
        f_lean
        rw [List.all_map] 
        exact q
    · rw [show decide (((z.length : Nat) : Int) ≤ 8) = false from decide_eq_false (by omega)]
      rw [decide_eq_false (fun h => h2 h.2), Bool.false_and] at q
      f_lean
      exact q
  · rw [show decide ((1 : Int) ≤ ((z.length : Nat) : Int)) = false from decide_eq_false (by omega)]
    rw [decide_eq_false (fun h => h1 h.1), Bool.false_and] at q
    f_lean
    exact q
open SX TL
abbrev W' := List (List Nat)
inductive PR where
  | ok (b : Nat) | er (e : Nat)
deriving DecidableEq
/-- the loop over one operation -/
def lpR (f : Nat → Option PR) (ws : W') (w : List Nat) : Nat → Nat → Option PR
  | 0, _ => none
  | m + 1, b => if (ws.drop b).headD [] = w then (match f (b + 1) with | some (.ok c) => lpR f ws w m c | r => r) else some (.ok b)
mutual
def sgR (ws : W') : Nat → Nat → Option PR
  | 0, _ => none
  | k + 1, a =>
    if (ws.drop a).headD [] = wNot' then sgR ws k (a + 1)
    else if (ws.drop a).headD [] = [40] then (match eiR ws k (a + 1) with
      | some (.ok b) => if (ws.drop b).headD [] = [41] then some (.ok (b + 1)) else some (.er b)
      | r => r)
    else if isn ((ws.drop a).headD []) = true ∧ (ws.drop a).headD [] ≠ wAnd' ∧ (ws.drop a).headD [] ≠ wOr' then some (.ok (a + 1)) else some (.er a)
def boR (ws : W') : Nat → Nat → Option PR
  | 0, _ => none
  | k + 1, a => match sgR ws k a with
    | some (.ok b) => lpR (sgR ws k) ws wAnd' (ws.length + 2) b
    | r => r
def eiR (ws : W') : Nat → Nat → Option PR
  | 0, _ => none
  | k + 1, a => match boR ws k a with
    | some (.ok b) => lpR (boR ws k) ws wOr' (ws.length + 2) b
    | r => r
end
def PEx (e : Nat) : Exc := ⟨14, [(1, .str "ParseError"), (8, .int e)]⟩
def Fin (ws : W') (n : Nat) (st : Store) (Q : QE) (R : XQ) : PR → Prop
  | .ok b => ∀ d, Q d (st.set n (rd ws b))
  | .er e => ∀ c, R (PEx e) (st.set n (rd ws c))
/-- what a def of the reader does, told by where it stops -/
def Stops (φ : WF) (ws : W') (n : Nat) (st : Store) (a : Nat) : Option PR → Prop
  | none => True
  | some r => ∀ (Q : QE) (R : XQ), Fin ws n st Q R r → φ [.cel n] (st.set n (rd ws a)) Q R
section
variable {ws : W'} {st : Store} {n : Nat}
theorem hd_ok (hs : ∀ z ∈ ws, PyData.strOk (S z) = true ∧ z.length ≤ 4096) (a : Nat) : PyData.strOk (S ((ws.drop a).headD [])) = true ∧ ((ws.drop a).headD []).length ≤ 4096 := by
  cases e : ws.drop a with
  | nil => exact ⟨by show PyData.strOk (S []) = true; decide +kernel, by simp⟩
  | cons y r => exact hs y (List.mem_of_mem_drop (by rw [e]; exact List.mem_cons_self))
theorem single_stops {k : Nat} (hn : n < st.length) (hs : ∀ z ∈ ws, PyData.strOk (S z) = true ∧ z.length ≤ 4096) (hS : ∀ a, Stops (p_Reader_singleE k) ws n st a (sgR ws k a)) (hE : ∀ a, Stops (p_Reader_eitherE k) ws n st a (eiR ws k a)) (a : Nat) :
    Stops (p_Reader_singleE (k + 1)) ws n st a (sgR ws (k + 1) a) := by
  have hg : ∀ b, (st.set n (rd ws b))[n]? = some (rd ws b) := rd_get hn
  obtain ⟨so, sl⟩ := hd_ok hs a
  rw [sgR]
  generalize hw : (ws.drop a).headD [] = w at so sl
  by_cases h1 : w = wNot'
  · rw [if_pos h1]
    have ih := hS (a + 1)
    cases e : sgR ws k (a + 1) with
    | none => trivial
    | some r =>
      rw [e] at ih
      cases r with
      | ok b =>
        intro Q R q
        refine i_Reader_singleE ?_
        unfold w_Reader_singleE
        f_lean
        rw [hg]
        f_lean
        rw [hg]
        f_lean
        refine callW_i (step2 hn ?_)
        rw [hw, h1, ← x_not]
        f_lean
        refine ⟨datSS (by decide +kernel) (by decide +kernel), ?_⟩
        rw [hg]
        f_lean
        refine callW_i (ih _ _ fun d => ?_)
        f_lean
        exact q _
      | er b =>
        intro Q R q
        refine i_Reader_singleE ?_
        unfold w_Reader_singleE
        f_lean
        rw [hg]
        f_lean
        rw [hg]
        f_lean
        refine callW_i (step2 hn ?_)
        rw [hw, h1, ← x_not]
        f_lean
        refine ⟨datSS (by decide +kernel) (by decide +kernel), ?_⟩
        rw [hg]
        f_lean
        refine callW_i (ih _ _ fun d => ?_)
        f_lean
        exact q _
  rw [if_neg h1]
  by_cases h2 : w = [40]
  · rw [if_pos h2]
    have ih := hE (a + 1)
    cases e : eiR ws k (a + 1) with
    | none => trivial
    | some r =>
      rw [e] at ih
      cases r with
      | er b =>
        intro Q R q
        refine i_Reader_singleE ?_
        unfold w_Reader_singleE
        f_lean
        rw [hg]
        f_lean
        rw [hg]
        f_lean
        refine callW_i (step2 hn ?_)
        rw [hw, h2, ← x_l]
        f_lean
        refine ⟨datSS (by decide +kernel) (by decide +kernel), ?_⟩
        f_lean
        refine ⟨datSS (by decide +kernel) (by decide +kernel), ?_⟩
        rw [hg]
        f_lean
        refine callW_i (ih _ _ fun d => ?_)
        f_lean
        exact q _
      | ok b =>
        obtain ⟨sb, slb⟩ := hd_ok hs b
        show Stops _ ws n st a (if (ws.drop b).headD [] = [41] then some (.ok (b + 1)) else some (.er b))
        generalize hwb : (ws.drop b).headD [] = v at sb slb
        by_cases h3 : v = [41]
        · rw [if_pos h3]
          intro Q R q
          refine i_Reader_singleE ?_
          unfold w_Reader_singleE
          f_lean
          rw [hg]
          f_lean
          rw [hg]
          f_lean
          refine callW_i (step2 hn ?_)
          rw [hw, h2, ← x_l]
          f_lean
          refine ⟨datSS (by decide +kernel) (by decide +kernel), ?_⟩
          f_lean
          refine ⟨datSS (by decide +kernel) (by decide +kernel), ?_⟩
          rw [hg]
          f_lean
          refine callW_i (ih _ _ fun d => ?_)
          f_lean
          rw [hg]
          f_lean
          refine callW_i (step2 hn ?_)
          rw [hwb, h3, ← x_r]
          f_lean
          refine ⟨datSS (by decide +kernel) (by decide +kernel), ?_⟩
          f_lean
          exact q _
        · rw [if_neg h3]
          intro Q R q
          refine i_Reader_singleE ?_
          unfold w_Reader_singleE
          f_lean
          rw [hg]
          f_lean
          rw [hg]
          f_lean
          refine callW_i (step2 hn ?_)
          rw [hw, h2, ← x_l]
          f_lean
          refine ⟨datSS (by decide +kernel) (by decide +kernel), ?_⟩
          f_lean
          refine ⟨datSS (by decide +kernel) (by decide +kernel), ?_⟩
          rw [hg]
          f_lean
          refine callW_i (ih _ _ fun d => ?_)
          f_lean
          rw [hg]
          f_lean
          refine callW_i (step2 hn ?_)
          rw [hwb]
          f_lean
          refine ⟨datSS sb (by decide +kernel), ?_⟩
          rw [decide_eq_false fun h => h3 (S_inj (h.trans x_r))]
          f_lean
          rw [hg]
          f_lean
          have q := q (b + 1)
          unfold PEx at q
          rw [show (((b + 1 : Nat) : Int) - 1) = (b : Int) by omega]
          exact q
  rw [if_neg h2]
  have e1 : decide (S w = ("not" : Str)) = false := decide_eq_false fun h => h1 (S_inj (h.trans x_not))
  have e2 : decide (S w = ("(" : Str)) = false := decide_eq_false fun h => h2 (S_inj (h.trans x_l))
  have nm : ∀ (Q : QE) (R : XQ), (if isn w = true ∧ w ≠ wAnd' ∧ w ≠ wOr' then ∀ d, Q d (st.set n (rd ws (a + 1))) else R (PEx a) (st.set n (rd ws (a + 1)))) → p_Reader_singleE (k + 1) [.cel n] (st.set n (rd ws a)) Q R := fun Q R q => by
    refine i_Reader_singleE ?_
    unfold w_Reader_singleE
    f_lean
    rw [hg]
    f_lean
    rw [hg]
    f_lean
    refine callW_i (step2 hn ?_)
    rw [hw]
    f_lean
    refine ⟨datSS so (by decide +kernel), ?_⟩
    rw [e1]
    f_lean
    refine ⟨datSS so (by decide +kernel), ?_⟩
    rw [e2]
    f_lean
    refine callW_i (is_name_ok (by omega) ?_)
    cases hI : isn w with
    | false =>
      rw [if_neg (fun h => by rw [hI] at h; exact Bool.noConfusion h.1)] at q
      f_lean
      exact q
    | true =>
      f_lean
      have fl : D.flat (.str (S w)) = true := rfl
      refine ⟨fl, by decide +kernel, ?_⟩
      simp only [List.any_cons, List.any_nil, eqD, Bool.or_false]
      by_cases h4 : w = wAnd'
      · rw [if_neg (fun h => h.2.1 h4)] at q
        rw [show decide (("and" : Str) = S w) = true from decide_eq_true (by rw [h4, x_and])]
        f_lean
        exact q
      · rw [show decide (("and" : Str) = S w) = false from decide_eq_false fun h => h4 (S_inj (h.symm.trans x_and))]
        by_cases h5 : w = wOr'
        · rw [if_neg (fun h => h.2.2 h5)] at q
          rw [show decide (("or" : Str) = S w) = true from decide_eq_true (by rw [h5, x_or])]
          f_lean
          exact q
        · rw [if_pos ⟨hI, h4, h5⟩] at q
          rw [show decide (("or" : Str) = S w) = false from decide_eq_false fun h => h5 (S_inj (h.symm.trans x_or))]
          f_lean
          exact q _
  by_cases h3 : isn w = true ∧ w ≠ wAnd' ∧ w ≠ wOr'
  · rw [if_pos h3]
    exact fun Q R q => nm Q R (by rw [if_pos h3]; exact q)
  · rw [if_neg h3]
    exact fun Q R q => nm Q R (by rw [if_neg h3]; exact q _)
theorem both_stops {k : Nat} (hn : n < st.length) (hs : ∀ z ∈ ws, PyData.strOk (S z) = true ∧ z.length ≤ 4096) (hS : ∀ a, Stops (p_Reader_singleE k) ws n st a (sgR ws k a)) (a : Nat) :
    Stops (p_Reader_bothE (k + 1)) ws n st a (boR ws (k + 1) a) := by
  have hg : ∀ b, (st.set n (rd ws b))[n]? = some (rd ws b) := rd_get hn
  rw [boR]
  have ih := hS a
  cases e : sgR ws k a with
  | none => trivial
  | some r0 =>
    rw [e] at ih
    cases r0 with
    | er b =>
      intro Q R q
      refine i_Reader_bothE ?_
      unfold w_Reader_bothE
      f_lean
      rw [hg]
      f_lean
      refine callW_i (ih _ _ fun c => ?_)
      f_lean
      exact q _
    | ok b =>
      show Stops _ ws n st a (lpR (sgR ws k) ws wAnd' (ws.length + 2) b)
      cases el : lpR (sgR ws k) ws wAnd' (ws.length + 2) b with
      | none => trivial
      | some r =>
        intro Q R q
        refine i_Reader_bothE ?_
        unfold w_Reader_bothE
        f_lean
        rw [hg]
        f_lean
        refine callW_i (ih _ _ fun d => ?_)
        f_lean
        refine whileW_i (m := ws.length + 2) (fun m e s => ∃ b d, e = [.val (.cel n), .val d] ∧ s = st.set n (rd ws b) ∧ lpR (sgR ws k) ws wAnd' m b = some r) ⟨b, d, rfl, rfl, el⟩ ?_
        rintro m _ _ ⟨b, d, rfl, rfl, hl⟩ K hK
        obtain ⟨sb, slb⟩ := hd_ok hs b
        f_lean
        rw [hg]
        f_lean
        refine callW_i (word2 hn ?_)
        cases m with
        | zero => simp [lpR] at hl
        | succ m =>
          rw [lpR] at hl
          generalize hw : (ws.drop b).headD [] = w at sb slb hl
          by_cases h1 : w = wAnd'
          · rw [if_pos h1] at hl
            rw [h1, ← x_and]
            f_lean
            refine ⟨datSS (by decide +kernel) (by decide +kernel), ?_⟩
            rw [hg]
            f_lean
            refine callW_i (step2 hn ?_)
            f_lean
            rw [hg]
            f_lean
            have ih2 := hS (b + 1)
            cases e2 : sgR ws k (b + 1) with
            | none => rw [e2] at hl; cases hl
            | some r2 =>
              rw [e2] at hl ih2
              cases r2 with
              | ok c =>
                refine callW_i (ih2 _ _ fun d => ?_)
                f_lean
                exact hK _ _ _ (Nat.lt_succ_self _) ⟨c, _, rfl, rfl, hl⟩
              | er c =>
                cases hl
                refine callW_i (ih2 _ _ fun d => ?_)
                f_lean
                exact q _
          · rw [if_neg h1] at hl
            cases hl
            f_lean
            refine ⟨datSS sb (by decide +kernel), ?_⟩
            rw [show decide (S w = ("and" : Str)) = false from decide_eq_false fun h => h1 (S_inj (h.trans x_and))]
            f_lean
            exact q _
theorem either_stops {k : Nat} (hn : n < st.length) (hs : ∀ z ∈ ws, PyData.strOk (S z) = true ∧ z.length ≤ 4096) (hS : ∀ a, Stops (p_Reader_bothE k) ws n st a (boR ws k a)) (a : Nat) :
    Stops (p_Reader_eitherE (k + 1)) ws n st a (eiR ws (k + 1) a) := by
  have hg : ∀ b, (st.set n (rd ws b))[n]? = some (rd ws b) := rd_get hn
  rw [eiR]
  have ih := hS a
  cases e : boR ws k a with
  | none => trivial
  | some r0 =>
    rw [e] at ih
    cases r0 with
    | er b =>
      intro Q R q
      refine i_Reader_eitherE ?_
      unfold w_Reader_eitherE
      f_lean
      rw [hg]
      f_lean
      refine callW_i (ih _ _ fun c => ?_)
      f_lean
      exact q _
    | ok b =>
      show Stops _ ws n st a (lpR (boR ws k) ws wOr' (ws.length + 2) b)
      cases el : lpR (boR ws k) ws wOr' (ws.length + 2) b with
      | none => trivial
      | some r =>
        intro Q R q
        refine i_Reader_eitherE ?_
        unfold w_Reader_eitherE
        f_lean
        rw [hg]
        f_lean
        refine callW_i (ih _ _ fun d => ?_)
        f_lean
        refine whileW_i (m := ws.length + 2) (fun m e s => ∃ b d, e = [.val (.cel n), .val d] ∧ s = st.set n (rd ws b) ∧ lpR (boR ws k) ws wOr' m b = some r) ⟨b, d, rfl, rfl, el⟩ ?_
        rintro m _ _ ⟨b, d, rfl, rfl, hl⟩ K hK
        obtain ⟨sb, slb⟩ := hd_ok hs b
        f_lean
        rw [hg]
        f_lean
        refine callW_i (word2 hn ?_)
        cases m with
        | zero => simp [lpR] at hl
        | succ m =>
          rw [lpR] at hl
          generalize hw : (ws.drop b).headD [] = w at sb slb hl
          by_cases h1 : w = wOr'
          · rw [if_pos h1] at hl
            rw [h1, ← x_or]
            f_lean
            refine ⟨datSS (by decide +kernel) (by decide +kernel), ?_⟩
            rw [hg]
            f_lean
            refine callW_i (step2 hn ?_)
            f_lean
            rw [hg]
            f_lean
            have ih2 := hS (b + 1)
            cases e2 : boR ws k (b + 1) with
            | none => rw [e2] at hl; cases hl
            | some r2 =>
              rw [e2] at hl ih2
              cases r2 with
              | ok c =>
                refine callW_i (ih2 _ _ fun d => ?_)
                f_lean
                exact hK _ _ _ (Nat.lt_succ_self _) ⟨c, _, rfl, rfl, hl⟩
              | er c =>
                cases hl
                refine callW_i (ih2 _ _ fun d => ?_)
                f_lean
                exact q _
          · rw [if_neg h1] at hl
            cases hl
            f_lean
            refine ⟨datSS sb (by decide +kernel), ?_⟩
            rw [show decide (S w = ("or" : Str)) = false from decide_eq_false fun h => h1 (S_inj (h.trans x_or))]
            f_lean
            exact q _
theorem all_stops (hn : n < st.length) (hs : ∀ z ∈ ws, PyData.strOk (S z) = true ∧ z.length ≤ 4096) : ∀ k : Nat, (∀ a, Stops (p_Reader_singleE k) ws n st a (sgR ws k a)) ∧ (∀ a, Stops (p_Reader_bothE k) ws n st a (boR ws k a)) ∧ ∀ a, Stops (p_Reader_eitherE k) ws n st a (eiR ws k a)
  | 0 => ⟨fun a => trivial, fun a => trivial, fun a => trivial⟩
  | k + 1 => by
    obtain ⟨h1, h2, h3⟩ := all_stops hn hs k
    exact ⟨single_stops hn hs h1 h3, both_stops hn hs h1, either_stops hn hs h2⟩
end
def scanL : W' → Nat → Nat → Bool → Int
  | [], a, o, w => if w = true ∨ 0 < o then (a : Int) else -1
  | x :: r, a, o, true => if x = [40] then scanL r (a + 1) (o + 1) true else if isn x = false ∨ x = wAnd' ∨ x = wOr' then (a : Int) else if x ≠ wNot' then scanL r (a + 1) o false else scanL r (a + 1) o true
  | x :: r, a, o, false => if x = wAnd' ∨ x = wOr' then scanL r (a + 1) o true else if x = [41] ∧ 0 < o then scanL r (a + 1) (o - 1) false else (a : Int)
section
variable {ws : W'}
abbrev hd (ws : W') (a : Nat) : List Nat := (ws.drop a).headD []
theorem drop_hd {a : Nat} {w : List Nat} (h : hd ws a = w) (hne : w ≠ []) : a < ws.length ∧ ws.drop a = w :: ws.drop (a + 1) := by
  unfold hd at h
  cases e : ws.drop a with
  | nil => rw [e] at h; exact absurd h.symm hne
  | cons x r =>
    rw [e] at h
    have h : x = w := h
    have hl : a < ws.length := by
      rcases Nat.lt_or_ge a ws.length with g | g
      · exact g
      · rw [List.drop_of_length_le g] at e; cases e
    refine ⟨hl, ?_⟩
    rw [drop_next e, h]
/-- what a part of the reader tells of the scan -/
def TellF (ws : W') (a : Nat) (P : Nat → Prop) : PR → Prop
  | .ok b => a < b ∧ b ≤ ws.length ∧ (∀ o, scanL (ws.drop a) a o true = scanL (ws.drop b) b o false) ∧ P b
  | .er e => ∀ o, scanL (ws.drop a) a o true = (e : Int)
def TellL (ws : W') (a : Nat) (P : Nat → Prop) : PR → Prop
  | .ok b => a ≤ b ∧ b ≤ ws.length ∧ (∀ o, scanL (ws.drop a) a o false = scanL (ws.drop b) b o false) ∧ P b
  | .er e => ∀ o, scanL (ws.drop a) a o false = (e : Int)
def Tells (ws : W') (f : Nat → Option PR) (P : Nat → Prop) : Prop := ∀ a r, a ≤ ws.length → f a = some r → TellF ws a P r
theorem lp_tells {f : Nat → Option PR} {P : Nat → Prop} {w : List Nat} (hw : w = wAnd' ∨ w = wOr') (hf : Tells ws f P) : ∀ (m b : Nat) (r : PR), b ≤ ws.length → P b → lpR f ws w m b = some r → TellL ws b (fun c => P c ∧ hd ws c ≠ w) r
  | 0, b, r, _, _, h => by simp [lpR] at h
  | m + 1, b, r, hb, hP, h => by
    rw [lpR] at h
    by_cases h1 : (ws.drop b).headD [] = w
    · rw [if_pos h1] at h
      have hne : w ≠ [] := by rcases hw with rfl | rfl <;> decide
      obtain ⟨hl, hd1⟩ := drop_hd h1 hne
      have es : ∀ o, scanL (ws.drop b) b o false = scanL (ws.drop (b + 1)) (b + 1) o true := fun o => by
        rw [hd1, scanL, if_pos hw]
      cases e : f (b + 1) with
      | none => rw [e] at h; cases h
      | some r2 =>
        rw [e] at h
        have t := hf (b + 1) r2 (by omega) e
        cases r2 with
        | er c =>
          cases h
          exact fun o => (es o).trans (t o)
        | ok c =>
          obtain ⟨t1, t2, t3, t4⟩ := t
          have ih := lp_tells hw hf m c r t2 t4 h
          cases r with
          | er e => exact fun o => (es o).trans ((t3 o).trans (ih o))
          | ok d =>
            obtain ⟨u1, u2, u3, u4⟩ := ih
            exact ⟨by omega, u2, fun o => (es o).trans ((t3 o).trans (u3 o)), u4⟩
    · rw [if_neg h1] at h
      cases h
      exact ⟨Nat.le_refl _, hb, fun o => rfl, hP, h1⟩
theorem sg_tells {k : Nat} (hS : Tells ws (sgR ws k) fun _ => True) (hE : Tells ws (eiR ws k) fun b => hd ws b ≠ wAnd' ∧ hd ws b ≠ wOr') : Tells ws (sgR ws (k + 1)) fun _ => True := by
  intro a r ha h
  rw [sgR] at h
  by_cases h1 : hd ws a = wNot'
  · rw [if_pos h1] at h
    obtain ⟨hl, hd1⟩ := drop_hd h1 (by decide)
    have es : ∀ o, scanL (ws.drop a) a o true = scanL (ws.drop (a + 1)) (a + 1) o true := fun o => by
      rw [hd1, scanL, if_neg (by decide), if_neg (by decide), if_neg (by decide)]
    have t := hS (a + 1) r (by omega) h
    cases r with
    | er e => exact fun o => (es o).trans (t o)
    | ok b =>
      obtain ⟨t1, t2, t3, t4⟩ := t
      exact ⟨by omega, t2, fun o => (es o).trans (t3 o), trivial⟩
  rw [if_neg h1] at h
  by_cases h2 : hd ws a = [40]
  · rw [if_pos h2] at h
    obtain ⟨hl, hd1⟩ := drop_hd h2 (by decide)
    have es : ∀ o, scanL (ws.drop a) a o true = scanL (ws.drop (a + 1)) (a + 1) (o + 1) true := fun o => by
      rw [hd1, scanL, if_pos rfl]
    cases e : eiR ws k (a + 1) with
    | none => rw [e] at h; cases h
    | some r2 =>
      rw [e] at h
      have t := hE (a + 1) r2 (by omega) e
      cases r2 with
      | er c =>
        cases h
        exact fun o => (es o).trans (t _)
      | ok b =>
        obtain ⟨t1, t2, t3, t4, t5⟩ := t
        have h : (if hd ws b = [41] then some (PR.ok (b + 1)) else some (PR.er b)) = some r := h
        by_cases h3 : hd ws b = [41]
        · rw [if_pos h3] at h
          cases h
          obtain ⟨hlb, hdb⟩ := drop_hd h3 (by decide)
          refine ⟨by omega, hlb, fun o => (es o).trans ((t3 _).trans ?_), trivial⟩
          rw [hdb, scanL, if_neg (by decide), if_pos ⟨rfl, by omega⟩, Nat.add_sub_cancel]
        · rw [if_neg h3] at h
          cases h
          refine fun o => (es o).trans ((t3 _).trans ?_)
          cases ed : ws.drop b with
          | nil => rw [scanL, if_pos (.inr (by omega))]
          | cons x q =>
            have ex : hd ws b = x := by unfold hd; rw [ed]; rfl
            rw [ex] at h3 t4 t5
            rw [scanL, if_neg (fun z => z.elim t4 t5), if_neg (fun z => h3 z.1)]
  rw [if_neg h2] at h
  have fault : ∀ o, ¬ (isn (hd ws a) = true ∧ hd ws a ≠ wAnd' ∧ hd ws a ≠ wOr') → scanL (ws.drop a) a o true = (a : Int) := fun o hn => by
    cases ed : ws.drop a with
    | nil => rw [scanL, if_pos (.inl rfl)]
    | cons x q =>
      have ex : hd ws a = x := by unfold hd; rw [ed]; rfl
      rw [ex] at h2 hn
      rw [scanL, if_neg h2, if_pos]
      by_cases g1 : isn x = true
      · by_cases g2 : x = wAnd'
        · exact .inr (.inl g2)
        · by_cases g3 : x = wOr'
          · exact .inr (.inr g3)
          · exact absurd ⟨g1, g2, g3⟩ hn
      · exact .inl (by simpa using g1)
  by_cases h3 : isn (hd ws a) = true ∧ hd ws a ≠ wAnd' ∧ hd ws a ≠ wOr'
  · rw [if_pos h3] at h
    cases h
    have hne : hd ws a ≠ [] := fun e => by rw [e] at h3; exact absurd h3.1 (by decide)
    obtain ⟨hl, hd1⟩ := drop_hd rfl hne
    refine ⟨Nat.lt_succ_self _, hl, fun o => ?_, trivial⟩
    rw [hd1, scanL, if_neg h2, if_neg (fun z => by
      rcases z with z | z | z
      · rw [h3.1] at z; cases z
      · exact h3.2.1 z
      · exact h3.2.2 z), if_pos h1]
  · rw [if_neg h3] at h
    cases h
    exact fun o => fault o h3
theorem chain_tells {f : Nat → Option PR} {P : Nat → Prop} {w : List Nat} {m : Nat} (hw : w = wAnd' ∨ w = wOr') (hf : Tells ws f P) : Tells ws (fun a => match f a with | some (.ok b) => lpR f ws w m b | r => r) fun c => P c ∧ hd ws c ≠ w := by
  intro a r ha h
  have h : (match f a with | some (.ok b) => lpR f ws w m b | r => r) = some r := h
  cases e : f a with
  | none => rw [e] at h; cases h
  | some r2 =>
    rw [e] at h
    have t := hf a r2 ha e
    cases r2 with
    | er c =>
      cases h
      exact t
    | ok b =>
      obtain ⟨t1, t2, t3, t4⟩ := t
      have ih := lp_tells hw hf m b r t2 t4 h
      cases r with
      | er e => exact fun o => (t3 o).trans (ih o)
      | ok d =>
        obtain ⟨u1, u2, u3, u4⟩ := ih
        exact ⟨by omega, u2, fun o => (t3 o).trans (u3 o), u4⟩
theorem all_tells : ∀ k : Nat, Tells ws (sgR ws k) (fun _ => True) ∧ Tells ws (boR ws k) (fun b => True ∧ hd ws b ≠ wAnd') ∧ Tells ws (eiR ws k) fun b => hd ws b ≠ wAnd' ∧ hd ws b ≠ wOr'
  | 0 => ⟨fun a r _ h => by simp [sgR] at h, fun a r _ h => by simp [boR] at h, fun a r _ h => by simp [eiR] at h⟩
  | k + 1 => by
    obtain ⟨h1, h2, h3⟩ := all_tells k
    refine ⟨sg_tells h1 h3, ?_, ?_⟩
    · intro a r ha h
      rw [boR] at h
      exact chain_tells (m := ws.length + 2) (.inl rfl) h1 a r ha h
    · intro a r ha h
      rw [eiR] at h
      have t := chain_tells (m := ws.length + 2) (.inr rfl) h2 a r ha h
      cases r with
      | er e => exact t
      | ok b => exact ⟨t.1, t.2.1, t.2.2.1, t.2.2.2.1.2, t.2.2.2.2⟩
theorem lp_some2 {f : Nat → Option PR} {P : Nat → Prop} {w : List Nat} {a0 : Nat} (hne : w ≠ []) (hf : Tells ws f P) (ht : ∀ a, a0 ≤ a → a ≤ ws.length → (f a).isSome = true) : ∀ (m b : Nat), a0 ≤ b → b ≤ ws.length → ws.length - b + 1 ≤ m → (lpR f ws w m b).isSome = true
  | 0, b, _, _, hm => by omega
  | m + 1, b, h0, hb, hm => by
    rw [lpR]
    by_cases h1 : (ws.drop b).headD [] = w
    · rw [if_pos h1]
      obtain ⟨hl, _⟩ := drop_hd h1 hne
      have t := ht (b + 1) (by omega) (by omega)
      cases e : f (b + 1) with
      | none => rw [e] at t; cases t
      | some r =>
        cases r with
        | er c => rfl
        | ok c =>
          obtain ⟨t1, t2, _⟩ := hf (b + 1) _ (by omega) e
          exact lp_some2 hne hf ht m c (by omega) t2 (by omega)
    · rw [if_neg h1]; rfl
theorem all_some : ∀ (k a : Nat), a ≤ ws.length → (3 * (ws.length - a) + 1 ≤ k → (sgR ws k a).isSome = true) ∧ (3 * (ws.length - a) + 2 ≤ k → (boR ws k a).isSome = true) ∧ (3 * (ws.length - a) + 3 ≤ k → (eiR ws k a).isSome = true)
  | 0, a, _ => ⟨fun h => by omega, fun h => by omega, fun h => by omega⟩
  | k + 1, a, ha => by
    obtain ⟨t1, t2, t3⟩ := all_tells (ws := ws) k
    refine ⟨fun h => ?_, fun h => ?_, fun h => ?_⟩
    · rw [sgR]
      by_cases h1 : hd ws a = wNot'
      · rw [if_pos h1]
        obtain ⟨hl, _⟩ := drop_hd h1 (by decide)
        exact (all_some k (a + 1) hl).1 (by omega)
      rw [if_neg h1]
      by_cases h2 : hd ws a = [40]
      · rw [if_pos h2]
        obtain ⟨hl, _⟩ := drop_hd h2 (by decide)
        have s := (all_some k (a + 1) hl).2.2 (by omega)
        cases e : eiR ws k (a + 1) with
        | none => rw [e] at s; cases s
        | some r =>
          cases r with
          | er c => rfl
          | ok b =>
            show (if hd ws b = [41] then some (PR.ok (b + 1)) else some (PR.er b)).isSome = true
            split <;> rfl
      rw [if_neg h2]
      split <;> rfl
    · rw [boR]
      have s := (all_some k a ha).1 (by omega)
      cases e : sgR ws k a with
      | none => rw [e] at s; cases s
      | some r =>
        cases r with
        | er c => rfl
        | ok b =>
          obtain ⟨u1, u2, _⟩ := t1 a _ ha e
          exact lp_some2 (a0 := a) (by decide) t1 (fun x h0 hx => (all_some k x hx).1 (by omega)) _ _ (by omega) u2 (by omega)
    · rw [eiR]
      have s := (all_some k a ha).2.1 (by omega)
      cases e : boR ws k a with
      | none => rw [e] at s; cases s
      | some r =>
        cases r with
        | er c => rfl
        | ok b =>
          obtain ⟨u1, u2, _⟩ := t2 a _ ha e
          exact lp_some2 (a0 := a) (by decide) t2 (fun x h0 hx => (all_some k x hx).2.1 (by omega)) _ _ (by omega) u2 (by omega)
end
abbrev sW (ws : W') : List D := ws.map fun z => D.str (S z)
def okw (w : List Nat) : Prop := 32 ∉ w ∧ w.length ≤ 20 ∧ ∀ x ∈ w, x < 128
theorem okw_str {w : List Nat} (h : okw w) : PyData.strOk (S w) = true := strOk_S h.2.2
theorem hd_eq {ws : W'} {i : Nat} {z : List Nat} (h : ws[i]? = some z) : ws.drop i = z :: ws.drop (i + 1) := by
  obtain ⟨hi, e⟩ := List.getElem?_eq_some_iff.mp h
  rw [List.drop_eq_getElem_cons hi, e]
theorem good_ok {z : List Nat} (hz : z.length ≤ 4096) {st : Store} {Q : QE} {R : XQ}
    {x0 x1 x2 x3 x5 x6 : Slot} (q : Q (.bl (isn z)) st) : (wAnd (wChain oLe oLe (wC (.int 1)) (wArgs oLen (waCons (wVarB 4) waNil)) (wC (.int 8))) (wArgs oAll (waCons (wLc (wiStr (wVar 4)) [6] (wgName 6) wYes (wBin (oIn false M0) (wVarB 6) (wC (.str "abcdefghijklmnopqrstuvwxyz")))) waNil))) [x0, x1, x2, x3, .val (.str (S z)), x5, x6] st Q R := by
  have big := line_big
  f_lean
  refine ⟨by rw [S_len]; omega, ?_⟩
  rw [S_len]
  unfold isn at q
  by_cases h1 : 1 ≤ z.length
  · rw [show decide ((1 : Int) ≤ ((z.length : Nat) : Int)) = true from decide_eq_true (by omega)]
    f_lean
    by_cases h2 : z.length ≤ 8
    · rw [show decide (((z.length : Nat) : Int) ≤ 8) = true from decide_eq_true (by omega)]
      rw [decide_eq_true (⟨h1, h2⟩ : 1 ≤ z.length ∧ z.length ≤ 8), Bool.true_and] at q
      f_lean
      refine lcW_i (fun i acc s => acc = ((z.take i).map fun c => decide (97 ≤ c ∧ c ≤ 122)).map D.bl ∧ st = s ∧ i ≤ z.length) ⟨rfl, rfl, Nat.zero_le _⟩ ?_ ?_
      · rintro i d _ _ hd ⟨rfl, rfl, hi⟩ K hK
        rw [List.getElem?_map, Option.map_eq_some_iff] at hd
        obtain ⟨c, hc, rfl⟩ := hd
        have hc2 : z[i]? = some c := hc
        have hi2 := (List.getElem?_eq_some_iff.mp hc2).1
        f_lean
        refine inS_dec ?_
        refine ⟨by rw [List.length_map, List.length_map, List.length_take]; omega, hK _ _ ⟨?_, rfl, hi2⟩⟩
        rw [List.take_add_one, hc2, List.map_append, List.map_append]
        simp only [Option.toList_some, List.map_cons, List.map_nil]
        rw [show decide (c ∈ ("abcdefghijklmnopqrstuvwxyz" : Str).cps.toList) = decide (97 ≤ c ∧ c ≤ 122) from decide_eq_decide.mpr mem_alpha]
      · rintro _ _ ⟨rfl, rfl, _⟩
        have el : (S z).cps.toList = z := rfl
        rw [List.length_map, el, List.take_length]
        f_lean
        rw [all_bls]
        f_lean
        rw [List.all_map]
        exact q
    · rw [show decide (((z.length : Nat) : Int) ≤ 8) = false from decide_eq_false (by omega)]
      rw [decide_eq_false (fun h => h2 h.2), Bool.false_and] at q
      f_lean
      exact q
  · rw [show decide ((1 : Int) ≤ ((z.length : Nat) : Int)) = false from decide_eq_false (by omega)]
    rw [decide_eq_false (fun h => h1 h.1), Bool.false_and] at q
    f_lean
    exact q
theorem andor {z : List Nat} : (([D.str "and", D.str "or"].any fun d => eqD d (D.str (S z)))) = decide (z = wAnd' ∨ z = wOr') := by
  simp only [List.any_cons, List.any_nil, eqD, Bool.or_false]
  rw [Bool.decide_or]
  congr 1
  · exact decide_eq_decide.mpr ⟨fun h => S_inj (h.symm.trans x_and), fun h => by rw [h, x_and]⟩
  · exact decide_eq_decide.mpr ⟨fun h => S_inj (h.symm.trans x_or), fun h => by rw [h, x_or]⟩
def w_tr44 : WS := (wSeq (wSet 5 (wAnd (wChain oLe oLe (wC (.int 1)) (wArgs oLen (waCons (wVarB 4) waNil)) (wC (.int 8))) (wArgs oAll (waCons (wLc (wiStr (wVar 4)) [6] (wgName 6) wYes (wBin (oIn false M0) (wVarB 6) (wC (.str "abcdefghijklmnopqrstuvwxyz")))) waNil)))) (wIfS (wBool (wBin oEqD (wVarB 4) (wC (.str "(")))) (wSet 1 (wBin (oAddA M0) (wVarB 1) (wC (.int 1)))) (wIfS (wOrT (wNotT (wTru M0 (wVarB 5))) (wBool (wBin (oIn false M0) (wVarB 4) (wTup (waCons (wC (.str "and")) (waCons (wC (.str "or")) waNil)))))) (wRet (wVar 3)) (wIfS (wBool (wBin oNeD (wVarB 4) (wC (.str "not")))) (wSet 2 (wC (.bl false))) wNext))))
theorem tr44 {z : List Nat} {i o : Nat} {x0 x5 x6 : Slot} {st : Store} {D0 : EW} (hz : okw z) (k1 : z = [40] → ∀ x5 x6, D0.nx [x0, .val (.int ((o + 1 : Nat) : Int)), .val (.bl true), .val (.int i), .val (.str (S z)), x5, x6] st)
    (k2 : z ≠ [40] → isn z = false ∨ z = wAnd' ∨ z = wOr' → D0.rt (.int i) st) (k3 : z ≠ [40] → ¬ (isn z = false ∨ z = wAnd' ∨ z = wOr') → ∀ x5 x6, D0.nx [x0, .val (.int o), .val (.bl (decide (z = wNot'))), .val (.int i), .val (.str (S z)), x5, x6] st) :
    w_tr44 [x0, .val (.int o), .val (.bl true), .val (.int i), .val (.str (S z)), x5, x6] st D0 := by
  have zo := okw_str hz
  have e40 : (S z = ("(" : Str)) = (z = [40]) := propext ⟨fun h => S_inj (h.trans x_l), fun h => by rw [h, x_l]⟩
  have eno : (S z = ("not" : Str)) = (z = wNot') := propext ⟨fun h => S_inj (h.trans x_not), fun h => by rw [h, x_not]⟩
  unfold w_tr44
  refine seq_i (fun e s => e = [x0, .val (.int o), .val (.bl true), .val (.int i), .val (.str (S z)), .val (.bl (isn z)), x6] ∧ s = st) (fun K hK => ?_) ?_
  · rw [e_wSet]
    exact good_ok (by have := hz.2.1; omega) (hK _ _ ⟨rfl, rfl⟩)
  rintro _ _ ⟨rfl, rfl⟩
  f_lean
  refine ⟨datSS zo (by decide +kernel), ?_⟩
  by_cases h1 : z = [40]
  · rw [show decide (S z = ("(" : Str)) = true from decide_eq_true (by rw [e40]; exact h1)]
    f_lean
    exact k1 h1 _ _
  · rw [show decide (S z = ("(" : Str)) = false from decide_eq_false (by rw [e40]; exact h1)]
    f_lean
    cases hI : isn z with
    | false =>
      f_lean
      exact k2 h1 (.inl hI)
    | true =>
      f_lean
      refine ⟨rfl, by decide +kernel, ?_⟩
      rw [andor]
      by_cases h2 : z = wAnd' ∨ z = wOr'
      · rw [decide_eq_true h2]
        f_lean
        exact k2 h1 (.inr h2)
      · rw [decide_eq_false h2]
        f_lean
        refine ⟨datSS zo (by decide +kernel), ?_⟩
        have k3 := k3 h1 (fun h => h.elim (fun h => by rw [hI] at h; cases h) h2)
        by_cases h3 : z = wNot'
        · rw [show decide (S z = ("not" : Str)) = true from decide_eq_true (by rw [eno]; exact h3)]
          rw [decide_eq_true h3] at k3
          f_lean
          exact k3 _ _
        · rw [show decide (S z = ("not" : Str)) = false from decide_eq_false (by rw [eno]; exact h3)]
          rw [decide_eq_false h3] at k3
          f_lean
          exact k3 _ _
theorem first_fault_ok {ws : W'} (hs : ∀ w ∈ ws, okw w) (hl : ws.length ≤ 4096) {st : Store} {Q : QE} {R : XQ} (q : Q (.int (scanL ws 0 0 true)) st) : p__law_first_fault [.lst (sW ws)] st Q R := by
  have big := line_big
  refine i__law_first_fault ?_
  unfold w__law_first_fault
  rw [show (wSeq (wSet 5 (wAnd (wChain oLe oLe (wC (.int 1)) (wArgs oLen (waCons (wVarB 4) waNil)) (wC (.int 8))) (wArgs oAll (waCons (wLc (wiStr (wVar 4)) [6] (wgName 6) wYes (wBin (oIn false M0) (wVarB 6) (wC (.str "abcdefghijklmnopqrstuvwxyz")))) waNil)))) (wIfS (wBool (wBin oEqD (wVarB 4) (wC (.str "(")))) (wSet 1 (wBin (oAddA M0) (wVarB 1) (wC (.int 1)))) (wIfS (wOrT (wNotT (wTru M0 (wVarB 5))) (wBool (wBin (oIn false M0) (wVarB 4) (wTup (waCons (wC (.str "and")) (waCons (wC (.str "or")) waNil)))))) (wRet (wVar 3)) (wIfS (wBool (wBin oNeD (wVarB 4) (wC (.str "not")))) (wSet 2 (wC (.bl false))) wNext)))) = w_tr44 from rfl]
  f_lean
  rw [List.length_map]
  refine ⟨by omega, ?_⟩
  refine forW_i (fun i e s => ∃ (o : Nat) (w : Bool) (x3 x4 x5 x6 : Slot), e = [.val (.lst (sW ws)), .val (.int o), .val (.bl w), x3, x4, x5, x6] ∧ s = st ∧ i ≤ ws.length ∧ scanL ws 0 0 true = scanL (ws.drop i) i o w) ⟨0, true, _, _, _, _, rfl, rfl, Nat.zero_le _, rfl⟩ ?_ ?_
  · rintro i d _ st hd ⟨o, w, x3, x4, x5, x6, rfl, rfl, hi, he⟩ K hK
    obtain ⟨hi, rfl⟩ := rngD_get hd
    have hlt : i < ws.length := by omega
    obtain ⟨z, hz⟩ : ∃ z, ws[i]? = some z := ⟨_, List.getElem?_eq_getElem hlt⟩
    have hzo := hs z (List.mem_of_getElem? hz)
    have zo := okw_str hzo
    rw [hd_eq hz] at he
    have eix : atI (sW ws) (0 + (i : Int)) = some (.str (S z)) := by
      rw [show (0 + (i : Int)) = ((i : Nat) : Int) by omega, _root_.G.atI_nat, List.getElem?_map, hz]
      rfl
    have e40 : (S z = ("(" : Str)) = (z = [40]) := propext ⟨fun h => S_inj (h.trans x_l), fun h => by rw [h, x_l]⟩
    have e41 : (S z = (")" : Str)) = (z = [41]) := propext ⟨fun h => S_inj (h.trans x_r), fun h => by rw [h, x_r]⟩
    have eno : (S z = ("not" : Str)) = (z = wNot') := propext ⟨fun h => S_inj (h.trans x_not), fun h => by rw [h, x_not]⟩
    rw [show (0 + (i : Int)) = (i : Int) by omega] at eix ⊢
    cases w with
    | true =>
      rw [scanL] at he
      f_lean
      rw [eix]
      f_lean
      refine tr44 hzo (fun h1 x5 x6 => ?_) (fun h1 h2 => ?_) (fun h1 h2 x5 x6 => ?_)
      · rw [if_pos h1] at he
        exact hK _ _ ⟨o + 1, true, _, _, _, _, rfl, rfl, hlt, he⟩
      · rw [if_neg h1, if_pos h2] at he
        f_lean
        rw [← he]
        exact q
      · rw [if_neg h1, if_neg h2] at he
        by_cases h3 : z = wNot'
        · rw [if_neg (fun h => h h3)] at he
          rw [decide_eq_true h3]
          exact hK _ _ ⟨o, true, _, _, _, _, rfl, rfl, hlt, he⟩
        · rw [if_pos h3] at he
          rw [decide_eq_false h3]
          exact hK _ _ ⟨o, false, _, _, _, _, rfl, rfl, hlt, he⟩
    | false =>
      rw [scanL] at he
      f_lean
      rw [eix]
      f_lean
      refine ⟨rfl, by decide +kernel, ?_⟩
      rw [andor]
      by_cases h1 : z = wAnd' ∨ z = wOr'
      · rw [if_pos h1] at he
        rw [decide_eq_true h1]
        f_lean
        exact hK _ _ ⟨o, true, _, _, _, _, rfl, rfl, hlt, he⟩
      · rw [if_neg h1] at he
        rw [decide_eq_false h1]
        f_lean
        refine ⟨datSS zo (by decide +kernel), ?_⟩
        by_cases h2 : z = [41]
        · rw [show decide (S z = (")" : Str)) = true from decide_eq_true (by rw [e41]; exact h2)]
          f_lean
          by_cases h3 : 0 < o
          · rw [if_pos ⟨h2, h3⟩] at he
            rw [show decide ((0 : Int) < (o : Int)) = true from decide_eq_true (by omega)]
            f_lean
            exact hK _ _ ⟨o - 1, false, _, _, _, _, by rw [show ((o - 1 : Nat) : Int) = (o : Int) - 1 by omega], rfl, hlt, he⟩
          · rw [if_neg (fun h => h3 h.2)] at he
            rw [show decide ((0 : Int) < (o : Int)) = false from decide_eq_false (by omega)]
            f_lean
            rw [← he]
            exact q
        · rw [if_neg (fun h => h2 h.1)] at he
          rw [show decide (S z = (")" : Str)) = false from decide_eq_false (by rw [e41]; exact h2)]
          f_lean
          rw [← he]
          exact q
  · rintro _ _ ⟨o, w, x3, x4, x5, x6, rfl, rfl, hi, he⟩
    have el : (rngD 0 ((ws.length : Nat) : Int).toNat).length = ws.length := by simp [rngD]
    rw [el, List.drop_length, scanL] at he
    cases w with
    | true =>
      rw [if_pos (.inl rfl)] at he
      rw [he] at q
      f_lean
      rw [List.length_map]
      exact q
    | false =>
      f_lean
      by_cases h3 : 0 < o
      · rw [if_pos (.inr h3)] at he
        rw [show decide ((0 : Int) < (o : Int)) = true from decide_eq_true (by omega)]
        rw [he] at q
        f_lean
        rw [List.length_map]
        exact q
      · rw [if_neg (fun h => h.elim (fun h => by cases h) h3)] at he
        rw [show decide ((0 : Int) < (o : Int)) = false from decide_eq_false (by omega)]
        f_lean
        rw [← he]
        exact q
theorem join_20 : ∀ {ws : W'}, (∀ p ∈ ws, p.length ≤ 20) → (joinL [32] ws).length ≤ 21 * ws.length
  | [], _ => Nat.zero_le _
  | [p], h => by have := h p (by simp); simp [joinL]; omega
  | p :: q :: r, h => by
    have h1 := h p (by simp)
    have h2 := join_20 (ws := q :: r) fun x hx => h x (by simp [hx])
    show (p ++ ([32] ++ joinL [32] (q :: r))).length ≤ 21 * (p :: q :: r).length
    rw [List.length_append, List.length_append]
    simp only [List.length_cons, List.length_nil] at h2 ⊢
    omega
theorem init44 {W : W'} (hne : W ≠ []) (hsp : ∀ p ∈ W, okw p) (hlen : W.length ≤ 100) {st : Store} {Q : QE} {R : XQ} (q : Q .non (st ++ [rd W 0])) : p_Reader___init__ [.cel st.length, .str (S (joinL [32] W))] (st ++ [.ins 22 []]) Q R := by
  refine i_Reader___init__ ?_
  unfold w_Reader___init__
  have big := line_big
  have hl := join_20 (ws := W) fun p hp => (hsp p hp).2.1
  f_lean
  refine ⟨by rw [x_sp, S_len]; rfl, by rw [S_len]; omega, ?_⟩
  rw [split_space hne fun p hp => (hsp p hp).1]
  f_lean
  rw [List.map_map]
  exact q
/-- what read_condition says of words -/
def Reads (W : W') (Q : Store → Prop) (R : XQ) (st : Store) : PR → Prop
  | .ok b => if b < W.length then R (PEx b) (st ++ [rd W b]) else Q (st ++ [rd W b])
  | .er e => ∀ c, R (PEx e) (st ++ [rd W c])
theorem read44 {W : W'} (hne : W ≠ []) (hsp : ∀ p ∈ W, okw p) (hlen : W.length ≤ 60) {r : PR} (hr : eiR W 70 0 = some r) {st : Store} {Q : QE} {R : XQ} (q : Reads W (fun st' => ∀ d, Q d st') R st r) : p_read_conditionE [.str (S (joinL [32] W))] st Q R := by
  refine i_read_conditionE ?_
  unfold w_read_conditionE
  have big := line_big
  f_lean
  refine mkW_c (init44 hne hsp (by omega) ⟨rfl, ?_⟩)
  have hg : ∀ a, (st ++ [rd W a])[st.length]? = some (rd W a) := fun a => by simp
  f_lean
  rw [List.length_map, show decide ((60 : Int) < ((W.length : Nat) : Int)) = false from decide_eq_false (by omega)]
  f_lean
  have hset : ∀ a b, (st ++ [rd W a]).set st.length (rd W b) = st ++ [rd W b] := fun a b => st_setL
  have h := (all_stops (ws := W) (st := st ++ [rd W 0]) (n := st.length) (by simp) (fun z hz => ⟨okw_str (hsp z hz), by have := (hsp z hz).2.1; omega⟩) 70).2.2 0
  rw [hr] at h
  cases r with
  | er e =>
    have h : ∀ (Q : QE) (R : XQ), (∀ c, R (PEx e) ((st ++ [rd W 0]).set st.length (rd W c))) → p_Reader_eitherE 70 [.cel st.length] ((st ++ [rd W 0]).set st.length (rd W 0)) Q R := h
    simp only [hset] at h
    refine callW_i (h _ _ fun c => ?_)
    f_lean
    exact q c
  | ok b =>
    have h : ∀ (Q : QE) (R : XQ), (∀ d, Q d ((st ++ [rd W 0]).set st.length (rd W b))) → p_Reader_eitherE 70 [.cel st.length] ((st ++ [rd W 0]).set st.length (rd W 0)) Q R := h
    simp only [hset] at h
    refine callW_i (h _ _ fun d => ?_)
    f_lean
    rw [List.length_map]
    have q : if b < W.length then R (PEx b) (st ++ [rd W b]) else ∀ d, Q d (st ++ [rd W b]) := q
    by_cases hb : b < W.length
    · rw [if_pos hb] at q
      rw [show decide (((b : Nat) : Int) < ((W.length : Nat) : Int)) = true from decide_eq_true (by omega)]
      f_lean
      exact q
    · rw [if_neg hb] at q
      rw [show decide (((b : Nat) : Int) < ((W.length : Nat) : Int)) = false from decide_eq_false (by omega)]
      f_lean
      exact q d
theorem read44_long {W : W'} (hne : W ≠ []) (hsp : ∀ p ∈ W, okw p) (hlen : W.length ≤ 100) (hl : 60 < W.length) {st : Store} {Q : QE} {R : XQ} (q : R (PEx 60) (st ++ [rd W 0])) : p_read_conditionE [.str (S (joinL [32] W))] st Q R := by
  refine i_read_conditionE ?_
  unfold w_read_conditionE
  have big := line_big
  f_lean
  refine mkW_c (init44 hne hsp hlen ⟨rfl, ?_⟩)
  have hg : ∀ a, (st ++ [rd W a])[st.length]? = some (rd W a) := fun a => by simp
  f_lean
  rw [List.length_map, show decide ((60 : Int) < ((W.length : Nat) : Int)) = true from decide_eq_true (by omega)]
  f_lean
  exact q
/-- the scan and the reader agree -/
theorem scan_reads {W : W'} (h22 : W.length ≤ 22) : ∃ r, eiR W 70 0 = some r ∧ (match r with | .er e => scanL W 0 0 true = (e : Int) | .ok b => b ≤ W.length ∧ scanL W 0 0 true = if b < W.length then (b : Int) else -1) := by
  have s := (all_some (ws := W) 70 0 (Nat.zero_le _)).2.2 (by omega)
  cases e : eiR W 70 0 with
  | none => rw [e] at s; cases s
  | some r =>
    have t := (all_tells (ws := W) 70).2.2 0 r (Nat.zero_le _) e
    refine ⟨r, rfl, ?_⟩
    cases r with
    | er c => exact t 0
    | ok b =>
      obtain ⟨t1, t2, t3, t4, t5⟩ := t
      refine ⟨t2, (t3 0).trans ?_⟩
      cases ed : W.drop b with
      | nil =>
        have : W.length ≤ b := List.drop_eq_nil_iff.mp ed
        rw [scanL, if_neg (by simp), if_neg (by omega)]
      | cons x q =>
        have ex : hd W b = x := by unfold hd; rw [ed]; rfl
        have hb : b < W.length := by
          rcases Nat.lt_or_ge b W.length with g | g
          · exact g
          · rw [List.drop_of_length_le g] at ed; cases ed
        rw [ex] at t4 t5
        rw [scanL, if_neg (fun z => z.elim t4 t5), if_neg (fun z => by omega), if_pos hb]
theorem cutT {ws : W'} {k : Nat} (hk : k ≤ ws.length) : G.cutD (sW ws) none (some (k : Int)) = sW (ws.take k) := by
  unfold G.cutD
  rw [HT.sIx_none, HT.sIx_nat, List.drop_zero, Nat.sub_zero, List.length_map, Nat.min_eq_left hk]
  exact (List.map_take ..).symm
theorem cutF {ws : W'} {k : Nat} : G.cutD (sW ws) (some (k : Int)) none = sW (ws.drop k) := by
  unfold G.cutD
  rw [HT.sIx_none, HT.sIx_nat, List.length_map, ← List.map_drop]
  rw [List.take_of_length_le (by simp)]
  rcases Nat.le_total k ws.length with h | h
  · rw [Nat.min_eq_left h]
  · rw [Nat.min_eq_right h, List.drop_length, List.drop_of_length_le h]
theorem strs_sW : ∀ ws : W', D.strs (sW ws) = some (ws.map S)
  | [] => rfl
  | x :: xs => by
    show D.strs (D.str (S x) :: sW xs) = _
    rw [D.strs, strs_sW xs]
    rfl
theorem sum_le {ws : W'} (h : ∀ w ∈ ws, w.length ≤ 20) : ((ws.map S).map (·.length)).sum ≤ 20 * ws.length := by
  induction ws with
  | nil => simp
  | cons x xs ih =>
    have h1 := h x (by simp)
    have h2 := ih fun w hw => h w (by simp [hw])
    rw [List.map_cons, List.map_cons, List.sum_cons, S_len, List.length_cons]
    omega
theorem sp_len : ((" " : Str)).length = 1 := by rw [x_sp, S_len]; rfl
theorem jOk {ws : W'} (h : ∀ w ∈ ws, okw w) (hl : ws.length ≤ 1000) : joinOk " " (ws.map S) := by
  have := sum_le fun w hw => (h w hw).2.1
  unfold joinOk
  rw [sp_len, List.length_map]
  omega
theorem jS (ws : W') : Txt.join " " (ws.map S) = S (joinL [32] ws) := by
  rw [x_sp]
  exact join_S [32] ws
abbrev oddW : W' := [[40], [41], [110, 111, 116], [97, 110, 100], [111, 114], [97], [], [65], [97, 98, 99, 100, 101, 102, 103, 104, 105], [98, 49], [105, 110]]
abbrev oddL : List D := [.str "(", .str ")", .str "not", .str "and", .str "or", .str "a", .str "", .str "A", .str "abcdefghi", .str "b1", .str "in"]
theorem x_oa : (("a" : Str)) = S [97] := by decide +kernel
theorem x_oA : (("A" : Str)) = S [65] := by decide +kernel
theorem x_oi : (("abcdefghi" : Str)) = S [97, 98, 99, 100, 101, 102, 103, 104, 105] := by decide +kernel
theorem x_ob : (("b1" : Str)) = S [98, 49] := by decide +kernel
theorem odd_eq : oddL = sW oddW := by
  unfold oddL
  rw [x_l, x_r, x_not, x_and, x_or, x_oa, x_e, x_oA, x_oi, x_ob, x_in]
  rfl
theorem odd_okw : ∀ w ∈ oddW, okw w := by
  intro w hw
  simp only [oddW, List.mem_cons, List.not_mem_nil, or_false] at hw
  rcases hw with rfl | rfl | rfl | rfl | rfl | rfl | rfl | rfl | rfl | rfl | rfl <;> exact ⟨by decide, by decide, by decide⟩
theorem told_P {e : Nat} : eqDs [.str "ParseError", .int (e : Int)] [.str "ParseError", .int (e : Int)] = true := by simp [eqDs, eqD]
theorem datP {i j : Int} : DatOk (.tup [.str "ParseError", .int i]) (.tup [.str "ParseError", .int j]) := by
  have e : ∀ k : Int, (D.tup [.str "ParseError", .int k]).dat = true := fun k => by
    simp only [D.dat, D.dats, Bool.and_true]
    decide +kernel
  exact ⟨e i, e j, by simp [D.dep, D.deps], by simp [D.dep, D.deps]⟩
theorem datN : DatOk (.tup [.str "", .non]) (.tup [.str "", .non]) := by
  have e : (D.tup [.str "", .non]).dat = true := by
    simp only [D.dat, D.dats, Bool.and_true]
    decide +kernel
  exact ⟨e, e, by simp [D.dep, D.deps], by simp [D.dep, D.deps]⟩
theorem rep_one {b : Nat} {d : D} : (List.replicate b [d]).flatten = List.replicate b d := by
  induction b with
  | zero => rfl
  | succ k ih => rw [List.replicate_succ, List.flatten_cons, ih, List.replicate_succ]; rfl
def w_long : WS := (wSeq (wSet 10 (wTx oJoin (wC (.str " and ")) (wBin (oMulA M0) (wLst (waCons (wC (.str "a")) waNil)) (wBin (oAddA M0) (wC (.int 29)) (wCall p__law_take (waCons (wVar 1) (waCons (wC (.int 4)) waNil))))))) (wSeq (wSet 8 (wIf (wBool (wBin oGtA (wArgs oLen (waCons (wSpl (wVarB 10) (wC (.str " "))) waNil)) (wC (.int 60)))) (wTup (waCons (wC (.str "ParseError")) (waCons (wC (.int 60)) waNil))) (wTup (waCons (wC (.str "")) (waCons (wC .non) waNil))))) (wSeq (wSet 11 (wIf (wBool (wBin oGtA (wArgs oLen (waCons (wSpl (wVarB 10) (wC (.str " "))) waNil)) (wC (.int 59)))) (wTup (waCons (wC (.str "ParseError")) (waCons (wC (.int 60)) waNil))) (wTup (waCons (wC (.str "ParseError")) (waCons (wC (.int 0)) waNil))))) (wSeq (wIfS (wBool (wBin oNeD (wRef 1 tcl (wCall p_read_conditionE (waCons (wBin (oAddA M0) (wC (.str "and ")) (wVarB 10)) waNil))) (wVarB 11))) (wRet (wC (.bl false))) wNext) (wRet (wAnd (wBin oEqD (wRef 1 tcl (wCall p_read_conditionE (waCons (wVar 10) waNil))) (wVarB 8)) (wBin oEqD (wRef 1 tcl (wCall p_read_conditionE (waCons (wC (.str "")) waNil))) (wTup (waCons (wC (.str "ParseError")) (waCons (wC (.int 0)) waNil))))))))))
def LW : Nat → W'
  | 0 => [[97]]
  | n + 1 => [97] :: wAnd' :: LW n
theorem LW_len : ∀ n, (LW n).length = 2 * n + 1
  | 0 => rfl
  | n + 1 => by rw [LW, List.length_cons, List.length_cons, LW_len n]; omega
theorem LW_ok : ∀ n, ∀ w ∈ LW n, okw w
  | 0, w, hw => by rw [List.mem_singleton.mp hw]; exact ⟨by decide, by decide, by decide⟩
  | n + 1, w, hw => by
    rcases List.mem_cons.mp hw with rfl | hw
    · exact ⟨by decide, by decide, by decide⟩
    · rcases List.mem_cons.mp hw with rfl | hw
      · exact ⟨by decide, by decide, by decide⟩
      · exact LW_ok n w hw
theorem LW_ne (n : Nat) : LW n ≠ [] := by cases n <;> simp [LW]
theorem LW_join : ∀ n, joinL [32, 97, 110, 100, 32] (List.replicate (n + 1) [97]) = joinL [32] (LW n)
  | 0 => rfl
  | n + 1 => by
    have ih := LW_join n
    rw [List.replicate_succ, List.replicate_succ]
    show [97] ++ ([32, 97, 110, 100, 32] ++ joinL [32, 97, 110, 100, 32] ([97] :: List.replicate n [97])) = _
    rw [← List.replicate_succ, ih, LW]
    cases e : LW n with
    | nil => exact absurd e (LW_ne n)
    | cons x r => simp [joinL]
theorem strs_rep {x : Str} : ∀ n, D.strs (List.replicate n (D.str x)) = some (List.replicate n x)
  | 0 => rfl
  | n + 1 => by
    rw [List.replicate_succ, D.strs, strs_rep n]
    rfl
theorem x_sas : ((" and " : Str)) = S [32, 97, 110, 100, 32] := by decide +kernel
theorem x_as : (("and " : Str)) = S [97, 110, 100, 32] := by decide +kernel
theorem jA (n : Nat) : Txt.join " and " (List.replicate (n + 1) ("a" : Str)) = S (joinL [32] (LW n)) := by
  rw [x_sas, x_oa, ← List.map_replicate, join_S, LW_join]
theorem jAO {n : Nat} (h : n ≤ 1000) : joinOk " and " (List.replicate n ("a" : Str)) := by
  unfold joinOk
  rw [List.map_replicate, List.sum_replicate_nat, List.length_replicate, x_sas, x_oa, S_len, S_len]
  simp
  omega
theorem ei_and {n : Nat} : eiR (wAnd' :: LW n) 70 0 = some (.er 0) := by
  rw [eiR, boR, sgR, List.drop_zero, List.headD_cons, if_neg (by decide), if_neg (by decide), if_neg (fun h => h.2.1 rfl)]
theorem ei_long0 : eiR (LW 28) 70 0 = some (.ok 57) := by decide +kernel
theorem ei_long1 : eiR (LW 29) 70 0 = some (.ok 59) := by decide +kernel
theorem ei_nil : eiR [[]] 70 0 = some (.er 0) := by decide +kernel
theorem long44 {c : Cell} {rest : Store} {x0 x2 x3 x4 x5 x6 x7 x8 x9 x10 x11 : Slot} (hc : FC c) : w_long [x0, .val (.cel 0), x2, x3, x4, x5, x6, x7, x8, x9, x10, x11] (c :: rest) (fnW (fun d _ => d = .bl true) (fun _ _ => False)) := by
  have big := line_big
  unfold w_long
  f_lean
  refine callW_i (take_ok hc (by omega) (by omega) fun r c hc r0 r1 => ?_)
  f_lean
  obtain ⟨n, hn, hn2⟩ : ∃ n : Nat, (29 + r).toNat = n + 1 ∧ r = (n : Int) - 28 := ⟨(28 + r).toNat, by omega, by omega⟩
  rw [hn, rep_one, strs_rep]
  refine ⟨⟨by omega, by omega, by omega⟩, ?_⟩
  f_lean
  rw [jA]
  have ll := LW_len n
  have lj := join_20 (ws := LW n) fun w hw => (LW_ok n w hw).2.1
  refine ⟨jAO (by omega), ?_⟩
  f_lean
  refine ⟨by rw [x_sp, S_len]; rfl, by rw [S_len]; omega, ?_⟩
  rw [split_space (LW_ne n) fun p hp => (LW_ok n p hp).1]
  f_lean
  rw [List.length_map, List.length_map]
  have aW : wAnd' :: LW n ≠ [] := by simp
  have aO : ∀ w ∈ wAnd' :: LW n, okw w := fun w hw => by
    rcases List.mem_cons.mp hw with rfl | hw
    · exact ⟨by decide, by decide, by decide⟩
    · exact LW_ok n w hw
  have aJ : ("and " : Str) ++ S (joinL [32] (LW n)) = S (joinL [32] (wAnd' :: LW n)) := by
    rw [x_as, S_cat]
    cases e : LW n with
    | nil => exact absurd e (LW_ne n)
    | cons x r => simp [joinL]
  have aL : (wAnd' :: LW n).length = 2 * n + 2 := by rw [List.length_cons, ll]
  have eE : (("" : Str)) = S (joinL [32] [[]]) := by decide +kernel
  have okE : ∀ w ∈ ([[]] : W'), okw w := fun w hw => by rw [List.mem_singleton.mp hw]; exact ⟨by decide, by decide, by decide⟩
  have e4 : (("and " : Str)).length = 4 := by rw [x_as, S_len]; rfl
  by_cases h : n ≤ 29
  · rw [show decide ((60 : Int) < (((LW n).length : Nat) : Int)) = false from decide_eq_false (by omega)]
    f_lean
    refine ⟨by rw [x_sp, S_len]; rfl, by rw [S_len]; omega, ?_⟩
    rw [split_space (LW_ne n) fun p hp => (LW_ok n p hp).1]
    f_lean
    rw [List.length_map, List.length_map]
    rw [show decide ((59 : Int) < (((LW n).length : Nat) : Int)) = false from decide_eq_false (by omega)]
    f_lean
    refine ⟨by simp only [S_len, e4]; omega, ?_⟩
    rw [aJ]
    refine callW_i (read44 aW aO (by omega) ei_and fun c2 => ?_)
    refine tell_next (by decide) (tell_next (by decide) (tell_next (by decide) (tell_next (by decide) (tell_next (by decide) (tell_next (by decide) (tell_next (by decide) (tell_here (by decide) rfl rfl ?_)))))))
    f_lean
    refine ⟨datP, ?_⟩
    rw [show eqDs [D.str "ParseError", D.int 0] [D.str "ParseError", D.int 0] = true from told_P (e := 0)]
    f_lean
    have el : eiR (LW n) 70 0 = some (.ok (2 * n + 1)) := by
      rcases (show n = 28 ∨ n = 29 by omega) with rfl | rfl
      · exact ei_long0
      · exact ei_long1
    refine callW_i (read44 (LW_ne n) (LW_ok n) (by omega) el ?_)
    show if 2 * n + 1 < (LW n).length then _ else _
    rw [if_neg (by omega)]
    intro d2
    f_lean
    refine ⟨datN, ?_⟩
    rw [show eqDs [D.str "", D.non] [D.str "", D.non] = true by simp [eqDs, eqD]]
    f_lean
    rw [eE]
    refine callW_i (read44 (by simp) okE (by decide) ei_nil fun c2 => ?_)
    refine tell_next (by decide) (tell_next (by decide) (tell_next (by decide) (tell_next (by decide) (tell_next (by decide) (tell_next (by decide) (tell_next (by decide) (tell_here (by decide) rfl rfl ?_)))))))
    f_lean
    exact ⟨datP, by rw [show eqDs [D.str "ParseError", D.int 0] [D.str "ParseError", D.int 0] = true from told_P (e := 0)]⟩
  · rw [show decide ((60 : Int) < (((LW n).length : Nat) : Int)) = true from decide_eq_true (by omega)]
    f_lean
    refine ⟨by rw [x_sp, S_len]; rfl, by rw [S_len]; omega, ?_⟩
    rw [split_space (LW_ne n) fun p hp => (LW_ok n p hp).1]
    f_lean
    rw [List.length_map, List.length_map]
    rw [show decide ((59 : Int) < (((LW n).length : Nat) : Int)) = true from decide_eq_true (by omega)]
    f_lean
    refine ⟨by simp only [S_len, e4]; omega, ?_⟩
    rw [aJ]
    refine callW_i (read44_long aW aO (by omega) (by omega) ?_)
    refine tell_next (by decide) (tell_next (by decide) (tell_next (by decide) (tell_next (by decide) (tell_next (by decide) (tell_next (by decide) (tell_next (by decide) (tell_here (by decide) rfl rfl ?_)))))))
    f_lean
    refine ⟨datP, ?_⟩
    first | rw [show eqDs [D.str "ParseError", D.int 60] [D.str "ParseError", D.int 60] = true from told_P (e := 60)] | rw [show eqDs [D.str "ParseError", D.int ((60 : Nat) : Int)] [D.str "ParseError", D.int 60] = true from told_P (e := 60)]
    f_lean
    refine callW_i (read44_long (LW_ne n) (LW_ok n) (by omega) (by omega) ?_)
    refine tell_next (by decide) (tell_next (by decide) (tell_next (by decide) (tell_next (by decide) (tell_next (by decide) (tell_next (by decide) (tell_next (by decide) (tell_here (by decide) rfl rfl ?_)))))))
    f_lean
    refine ⟨datP, ?_⟩
    first | rw [show eqDs [D.str "ParseError", D.int 60] [D.str "ParseError", D.int 60] = true from told_P (e := 60)] | rw [show eqDs [D.str "ParseError", D.int ((60 : Nat) : Int)] [D.str "ParseError", D.int 60] = true from told_P (e := 60)]
    f_lean
    rw [eE]
    refine callW_i (read44 (by simp) okE (by decide) ei_nil fun c2 => ?_)
    refine tell_next (by decide) (tell_next (by decide) (tell_next (by decide) (tell_next (by decide) (tell_next (by decide) (tell_next (by decide) (tell_next (by decide) (tell_here (by decide) rfl rfl ?_)))))))
    f_lean
    exact ⟨datP, by rw [show eqDs [D.str "ParseError", D.int 0] [D.str "ParseError", D.int 0] = true from told_P (e := 0)]⟩
theorem law_true (ns : List Int) : p_law [.scr (ns.map D.int)] [] (fun d _ => d = .bl true) (fun _ _ => False) := by
  refine i_law ?_
  unfold w_law
  rw [show (wSeq (wSet 10 (wTx oJoin (wC (.str " and ")) (wBin (oMulA M0) (wLst (waCons (wC (.str "a")) waNil)) (wBin (oAddA M0) (wC (.int 29)) (wCall p__law_take (waCons (wVar 1) (waCons (wC (.int 4)) waNil))))))) (wSeq (wSet 8 (wIf (wBool (wBin oGtA (wArgs oLen (waCons (wSpl (wVarB 10) (wC (.str " "))) waNil)) (wC (.int 60)))) (wTup (waCons (wC (.str "ParseError")) (waCons (wC (.int 60)) waNil))) (wTup (waCons (wC (.str "")) (waCons (wC .non) waNil))))) (wSeq (wSet 11 (wIf (wBool (wBin oGtA (wArgs oLen (waCons (wSpl (wVarB 10) (wC (.str " "))) waNil)) (wC (.int 59)))) (wTup (waCons (wC (.str "ParseError")) (waCons (wC (.int 60)) waNil))) (wTup (waCons (wC (.str "ParseError")) (waCons (wC (.int 0)) waNil))))) (wSeq (wIfS (wBool (wBin oNeD (wRef 1 tcl (wCall p_read_conditionE (waCons (wBin (oAddA M0) (wC (.str "and ")) (wVarB 10)) waNil))) (wVarB 11))) (wRet (wC (.bl false))) wNext) (wRet (wAnd (wBin oEqD (wRef 1 tcl (wCall p_read_conditionE (waCons (wVar 10) waNil))) (wVarB 8)) (wBin oEqD (wRef 1 tcl (wCall p_read_conditionE (waCons (wC (.str "")) waNil))) (wTup (waCons (wC (.str "ParseError")) (waCons (wC (.int 0)) waNil)))))))))) = w_long from rfl]
  have big := line_big
  f_lean
  refine callW_i (feed_ok fun c hc => ?_)
  f_lean
  refine forW_i (fun i e s => ∃ (c : Cell) (rest : Store) (x0 x3 x4 x5 x6 x7 x8 x9 x10 x11 : Slot), e = [x0, .val (.cel 0), .val (.lst oddL), x3, x4, x5, x6, x7, x8, x9, x10, x11] ∧ s = c :: rest ∧ FC c) ⟨_, _, _, _, _, _, _, _, _, _, _, _, rfl, rfl, hc⟩ ?_ ?_
  · rintro i d _ _ hd ⟨c, rest, x0, x3, x4, x5, x6, x7, x8, x9, x10, x11, rfl, rfl, hc⟩ K hK
    f_lean
    refine callW_i (law_condition_ok 2 hc (by omega) fun c t hc t1 t2 => ?_)
    f_lean
    refine callW_i (law_condition_text_ok 4 t 0 (by omega) (by omega) t1 ?_)
    have tl := Co.tx_len t1 0 (by omega)
    have wl : (t.ws 0).length ≤ 13 := by
      have hl := t.ws_len 0
      have h2 : 2 ^ (t.hgt + 2) ≤ 2 ^ 4 := Nat.pow_le_pow_right (by decide) (by omega)
      omega
    f_lean
    refine ⟨by rw [x_sp, S_len]; rfl, by rw [S_len]; omega, ?_⟩
    rw [show t.tx 0 = joinL [32] (t.ws 0) from rfl, split_space (t.ws_ne 0) fun p hp => (Co.ws_sp t 0 t1 p hp).1, List.map_map]
    have ok0 : ∀ w ∈ t.ws 0, okw w := fun w hw => ⟨(Co.ws_sp t 0 t1 w hw).1, by have := (Co.ws_sp t 0 t1 w hw).2.2; omega, small_word t 0 t1 w hw⟩
    generalize t.ws 0 = W0 at wl ok0
    clear tl t1 t2
    f_lean
    refine callW_i (take_ok hc (by omega) (by omega) fun r c hc r0 r1 => ?_)
    f_lean
    refine ⟨by omega, ?_⟩
    refine forW_i (fun i e s => ∃ (c : Cell) (W : W') (x5 x6 : Slot), e = [x0, .val (.cel 0), .val (.lst oddL), .val d, .val (.lst (sW W)), x5, x6, x7, x8, x9, x10, x11] ∧ s = c :: rest ∧ FC c ∧ (∀ w ∈ W, okw w) ∧ W.length ≤ 13 + i) ⟨_, W0, _, _, rfl, rfl, hc, ok0, by omega⟩ ?_ ?_
    · rintro i2 d2 _ _ hd2 ⟨c, W, x5, x6, rfl, rfl, hc, hW, hl⟩ K2 hK2
      have hi2 : i2 < 3 := by
        have := (List.getElem?_eq_some_iff.mp hd2).1
        simp [rngD] at this
        omega
      f_lean
      rw [List.length_map]
      refine callW_i (take_ok hc (by omega) (by omega) fun a c hc a0 a1 => ?_)
      obtain ⟨a, rfl⟩ : ∃ k : Nat, a = k := ⟨a.toNat, by omega⟩
      f_lean
      rw [cutT (by omega)]
      refine callW_i (law_pick_ok hc (by decide) (by decide) fun c d3 hc hd3 => ?_)
      rw [odd_eq] at hd3
      obtain ⟨z, hz, rfl⟩ := List.mem_map.mp hd3
      f_lean
      refine callW_i (take_ok hc (by omega) (by omega) fun b c hc b0 b1 => ?_)
      obtain ⟨b, rfl⟩ : ∃ k : Nat, b = k := ⟨b.toNat, by omega⟩
      have efl : (List.replicate (b : Int).toNat [D.str (S z)]).flatten = sW (List.replicate b z) := by
        rw [Int.toNat_natCast, rep_one]
        show _ = List.map _ _
        rw [List.map_replicate]
      f_lean
      rw [efl, Int.toNat_natCast]
      refine ⟨⟨by omega, by omega, by omega⟩, by rw [List.length_map, List.length_map, List.length_take, List.length_replicate]; omega, ?_⟩
      rw [← List.map_append]
      refine callW_i (take_ok hc (by omega) (by omega) fun e c hc e0 e1 => ?_)
      obtain ⟨e, rfl⟩ : ∃ k : Nat, e = k := ⟨e.toNat, by omega⟩
      f_lean
      rw [show ((a : Int) + (e : Int)) = ((a + e : Nat) : Int) by omega, cutF]
      f_lean
      rw [← List.map_append]
      refine ⟨by rw [List.length_map, List.length_map, List.length_append, List.length_take, List.length_replicate, List.length_drop]; omega, hK2 _ _ ⟨c, W.take a ++ List.replicate b z ++ W.drop (a + e), _, _, rfl, rfl, hc, fun w hw => ?_, ?_⟩⟩
      · rcases List.mem_append.mp hw with hw | hw
        · rcases List.mem_append.mp hw with hw | hw
          · exact hW w (List.mem_of_mem_take hw)
          · rw [(List.mem_replicate.mp hw).2]; exact odd_okw z hz
        · exact hW w (List.mem_of_mem_drop hw)
      · rw [List.length_append, List.length_append, List.length_take, List.length_replicate, List.length_drop]
        omega
    · rintro _ _ ⟨c, W, x5, x6, rfl, rfl, hc, hW, hl⟩
      have hl : W.length ≤ 15 := by
        have : (rngD 0 (1 + r).toNat).length ≤ 2 := by simp [rngD]; omega
        omega
      rw [seqK_nx]
      refine seq_i (fun e s => ∃ W : W', e = [x0, .val (.cel 0), .val (.lst oddL), .val d, .val (.lst (sW W)), x5, x6, x7, x8, x9, x10, x11] ∧ s = c :: rest ∧ (∀ w ∈ W, okw w) ∧ W.length ≤ 15 ∧ W ≠ []) (fun K2 hK2 => ?_) ?_
      · cases W with
        | nil =>
          f_lean
          rw [show eqDs [] [] = true from rfl]
          refine ⟨⟨rfl, rfl, by simp [D.dep, D.deps], by simp [D.dep, D.deps]⟩, ?_⟩
          f_lean
          rw [x_e]
          exact hK2 _ _ ⟨[[]], rfl, rfl, fun w hw => by rw [List.mem_singleton.mp hw]; exact ⟨by decide, by decide, by decide⟩, by decide, by decide⟩
        | cons w W =>
          have dd : D.dat (.lst (sW (w :: W))) = true ∧ D.dep (.lst (sW (w :: W))) ≤ 64 := by
            refine ⟨?_, ?_⟩
            · show D.dats (sW (w :: W)) = true
              exact dats_of fun d hd => by
                obtain ⟨y, hy, rfl⟩ := List.mem_map.mp hd
                exact okw_str (hW y hy)
            · show D.deps (sW (w :: W)) + 1 ≤ 64
              have := deps_of (n := 0) (ds := sW (w :: W)) fun d hd => by
                obtain ⟨y, hy, rfl⟩ := List.mem_map.mp hd
                exact Nat.le_refl _
              omega
          f_lean
          refine ⟨⟨dd.1, rfl, dd.2, by simp [D.dep, D.deps]⟩, ?_⟩
          rw [show eqDs (D.str (S w) :: List.map (fun z => D.str (S z)) W) [] = false by simp [eqDs]]
          f_lean
          exact hK2 _ _ ⟨w :: W, rfl, rfl, hW, hl, by simp⟩
      rintro _ _ ⟨W, rfl, rfl, hW, hl, hne⟩
      f_lean
      rw [strs_sW]
      f_lean
      rw [jS]
      refine ⟨jOk hW (by omega), ?_⟩
      refine callW_i (first_fault_ok hW (by omega) ?_)
      f_lean
      obtain ⟨r0, hr, hs⟩ := scan_reads (W := W) (by omega)
      refine callW_i (read44 hne hW (by omega) hr ?_)
      cases r0 with
      | er e =>
        intro c2
        refine tell_next (by decide) (tell_next (by decide) (tell_next (by decide) (tell_next (by decide) (tell_next (by decide) (tell_next (by decide) (tell_next (by decide) (tell_here (by decide) rfl rfl ?_)))))))
        have hs : scanL W 0 0 true = (e : Int) := hs
        rw [hs]
        f_lean
        rw [show decide ((e : Int) < 0) = false from decide_eq_false (by omega)]
        f_lean
        refine ⟨datP, ?_⟩
        rw [told_P]
        f_lean
        exact hK _ _ ⟨_, _, _, _, _, _, _, _, _, _, _, _, rfl, rfl, hc⟩
      | ok b =>
        have hs : b ≤ W.length ∧ scanL W 0 0 true = if b < W.length then (b : Int) else -1 := hs
        show if b < W.length then _ else _
        by_cases hb : b < W.length
        · rw [if_pos hb]
          rw [if_pos hb] at hs
          rw [hs.2]
          refine tell_next (by decide) (tell_next (by decide) (tell_next (by decide) (tell_next (by decide) (tell_next (by decide) (tell_next (by decide) (tell_next (by decide) (tell_here (by decide) rfl rfl ?_)))))))
          f_lean
          rw [show decide ((b : Int) < 0) = false from decide_eq_false (by omega)]
          f_lean
          refine ⟨datP, ?_⟩
          rw [told_P]
          f_lean
          exact hK _ _ ⟨_, _, _, _, _, _, _, _, _, _, _, _, rfl, rfl, hc⟩
        · rw [if_neg hb]
          rw [if_neg hb] at hs
          rw [hs.2]
          intro d2
          f_lean
          refine ⟨datN, ?_⟩
          rw [show eqDs [D.str "", D.non] [D.str "", D.non] = true by simp [eqDs, eqD]]
          f_lean
          exact hK _ _ ⟨_, _, _, _, _, _, _, _, _, _, _, _, rfl, rfl, hc⟩
  · rintro _ _ ⟨c, rest, x0, x3, x4, x5, x6, x7, x8, x9, x10, x11, rfl, rfl, hc⟩
    f_lean
    exact long44 hc
end LK
namespace LK
open PySem PySem.Spec PyProof.Rows L2 G
theorem nd_refd : ([("_law_ask" : Str), "_law_told", "e"] : List Str).Nodup := by decide +kernel
theorem sc_refd : FnScope ["_law_ask", "_law_told", "e"] ["_law_ask"] (defScope s_refd) := ⟨rfl, rfl, rfl, by decide +kernel, rfl, by decide +kernel, by decide +kernel⟩
theorem gv_refd {K : PySem.W.Frag} {ca : Nat → Addr} {TT : Hp → Prop} {X : Cx} {g : Addr} {cdg : Value} {q : Str} (hK : X.K = K) (g_InvalidFour : X.mg "InvalidFour" = some (.ref (ca 2))) (g_InvalidNumber : X.mg "InvalidNumber" = some (.ref (ca 3))) (g_InvalidOrder : X.mg "InvalidOrder" = some (.ref (ca 5))) (g_InvalidLimit : X.mg "InvalidLimit" = some (.ref (ca 8))) (g_InvalidRing : X.mg "InvalidRing" = some (.ref (ca 4))) (g_NotApart : X.mg "NotApart" = some (.ref (ca 6))) (g_TooFar : X.mg "TooFar" = some (.ref (ca 7))) (g_CapacityExceeded : X.mg "CapacityExceeded" = some (.ref (ca 12))) (g_InvalidName : X.mg "InvalidName" = some (.ref (ca 9))) (g_DuplicateName : X.mg "DuplicateName" = some (.ref (ca 10))) (g_UnknownName : X.mg "UnknownName" = some (.ref (ca 15))) (g_DuplicateMark : X.mg "DuplicateMark" = some (.ref (ca 11))) (g_UnknownMark : X.mg "UnknownMark" = some (.ref (ca 16))) (g_InvalidCommand : X.mg "InvalidCommand" = some (.ref (ca 13))) (g_ParseError : X.mg "ParseError" = some (.ref (ca 14))) (g_NothingLeft : X.mg "NothingLeft" = some (.ref (ca 17))) : LamX.GivesTo X ["_law_ask", "_law_told", "e"] "_law_refused" (defScope s_refd) g cdg (defBody s_refd) "_law_ask" q (TTref K (nameOf Names 1) (tcl.map (toldOf ⟨K, ca, nameOf Names, nameOf Names, TT⟩))) := by
  subst hK
  refine refused_gives (X := X) (i := 1) (ie := 2) (e := "e") (x := "_law_told") (tag := nameOf Names 1) rfl rfl rfl (by decide) (by decide) (by decide +kernel) rfl rfl rfl rfl fun s H => ?_
  exact (.cons (test_four ⟨by rfl, by rfl, .inl g_InvalidFour⟩ ⟨by rfl, by rfl, .inl g_InvalidNumber⟩ ⟨by rfl, by rfl, .inl g_InvalidOrder⟩ ⟨by rfl, by rfl, .inl g_InvalidLimit⟩) (fun a oe cls d pn hz hf => suite_some hz hf nd_refd rfl rfl rfl rfl rfl rfl) (.cons (test_one ⟨by rfl, by rfl, .inl g_InvalidRing⟩) (fun a oe cls d pn hz hf => suite_some hz hf nd_refd rfl rfl rfl rfl rfl rfl) (.cons (test_one ⟨by rfl, by rfl, .inl g_NotApart⟩) (fun a oe cls d pn hz hf => suite_some hz hf nd_refd rfl rfl rfl rfl rfl rfl) (.cons (test_two ⟨by rfl, by rfl, .inl g_TooFar⟩ ⟨by rfl, by rfl, .inl g_CapacityExceeded⟩) (fun a oe cls d pn hz hf => suite_some hz hf nd_refd rfl rfl rfl rfl rfl rfl) (.cons (test_three ⟨by rfl, by rfl, .inl g_InvalidName⟩ ⟨by rfl, by rfl, .inl g_DuplicateName⟩ ⟨by rfl, by rfl, .inl g_UnknownName⟩) (fun a oe cls d pn hz hf => suite_some hz hf nd_refd rfl rfl rfl rfl rfl rfl) (.cons (test_two ⟨by rfl, by rfl, .inl g_DuplicateMark⟩ ⟨by rfl, by rfl, .inl g_UnknownMark⟩) (fun a oe cls d pn hz hf => suite_some hz hf nd_refd rfl rfl rfl rfl rfl rfl) (.cons (test_one ⟨by rfl, by rfl, .inl g_InvalidCommand⟩) (fun a oe cls d pn hz hf => suite_some hz hf nd_refd rfl rfl rfl rfl rfl rfl) (.cons (test_one ⟨by rfl, by rfl, .inl g_ParseError⟩) (fun a oe cls d pn hz hf => suite_some hz hf nd_refd rfl rfl rfl rfl rfl rfl) (.cons (test_one ⟨by rfl, by rfl, .inl g_NothingLeft⟩) (fun a oe cls d pn hz hf => suite_none hz hf nd_refd rfl rfl rfl rfl rfl rfl) .nil)))))))))
abbrev con (K : PySem.W.Frag) : Con := ⟨K, caOf K, nameOf Names, nameOf Names, fun H => LamX.Tabs [(lawP "law" K, ("law.<locals>.<lambda>" : Str))] H⟩
theorem facts {P : Program} {w : World} {K : PySem.W.Frag} {h : Heap} {mg : Str → Option Value} {f : Addr} (X : K.In h) (G : h.Ns mainGlobals mg) (hfa : mg ("law" : Str) = some (.ref f)) (c : SaysY fas fns sups K) (hfile : ((P.main.file : Str) == "/claim/cut.py") = true) (htop : (P.main.scope.names.lookup ("super" : Str)).isSome = false) (ht : ∃ o fd c P, h.get? f = some o ∧ o.data = .func fd ∧ fd.code = .ref c ∧ h.IsCode c P #[] ∧ h.TableAt c P #[]) :
    ∃ fd : FuncData, (∀ (s : Shared) (v : Value), BindsTo s fd ⟨[v], []⟩ [("_law_script", v)]) ∧ (h.get? (lawP "law" K) = some { cls := .none, data := .fields #[] } ∧ K.lookup (lawP "law" K) = none ∧ PySem.W.CodeHd h (lawC "law" K) (lawP "law" K)) ∧ ∀ base : Heap, K.In base → base.Ns mainGlobals mg → LamX.TabB base mg (lawC "law" K) (lawP "law" K) → FnOk P w K mg base (L2.CX P w) 81 f fd ["_law_script"] (spOf (con K) p_law 1) := by
  have ck : ConOk (con K) := tabs_ok
  have ts : TS (con K) := tabs_ts
  have inj : ∀ i j, (con K).fn i = (con K).fn j → i = j := nameOf_inj (by decide +kernel) (by decide +kernel) (by decide +kernel)
  have hfn : (con K).fn = nameOf Names := rfl
  have hmn : (con K).mn = (con K).fn := rfl
  have k_MOST_WORDS : ∃ t, mg "MOST_WORDS" = some (.int 60 t) := He.int_ok X G (c.fact 0 (f := faB (.int "MOST_WORDS" 60)) rfl)
  have k_LETTERS : ∃ t, mg "LETTERS" = some (.str "abcdefghijklmnopqrstuvwxyz" t) := He.str_ok X G (c.fact 1 (f := faB (.str "LETTERS" "abcdefghijklmnopqrstuvwxyz")) rfl)
  have fr_all : mg "all" = none := He.free_ok X G (c.fact 2 (f := faB (.free "all")) rfl)
  have fr_int : mg "int" = none := He.free_ok X G (c.fact 3 (f := faB (.free "int")) rfl)
  have fr_len : mg "len" = none := He.free_ok X G (c.fact 4 (f := faB (.free "len")) rfl)
  have fr_list : mg "list" = none := He.free_ok X G (c.fact 5 (f := faB (.free "list")) rfl)
  have fr_range : mg "range" = none := He.free_ok X G (c.fact 6 (f := faB (.free "range")) rfl)
  have fr_super : mg "super" = none := He.free_ok X G (c.fact 7 (f := faB (.free "super")) rfl)
  have c_Reader : Cls (con K).K ((con K).ca 22) := He.cls_ok (c.fact 8 (f := faB (.cls "Reader")) rfl)
  have g_Reader : mg "Reader" = some (.ref ((con K).ca 22)) := He.glo_ok X G (c.fact 9 (f := faB (.glo "Reader")) rfl)
  have g_InvalidFour : mg "InvalidFour" = some (.ref ((con K).ca 2)) := He.glo_ok X G (c.fact 10 (f := faB (.glo "InvalidFour")) rfl)
  have g_InvalidNumber : mg "InvalidNumber" = some (.ref ((con K).ca 3)) := He.glo_ok X G (c.fact 11 (f := faB (.glo "InvalidNumber")) rfl)
  have g_InvalidOrder : mg "InvalidOrder" = some (.ref ((con K).ca 5)) := He.glo_ok X G (c.fact 12 (f := faB (.glo "InvalidOrder")) rfl)
  have g_InvalidLimit : mg "InvalidLimit" = some (.ref ((con K).ca 8)) := He.glo_ok X G (c.fact 13 (f := faB (.glo "InvalidLimit")) rfl)
  have g_InvalidRing : mg "InvalidRing" = some (.ref ((con K).ca 4)) := He.glo_ok X G (c.fact 14 (f := faB (.glo "InvalidRing")) rfl)
  have g_NotApart : mg "NotApart" = some (.ref ((con K).ca 6)) := He.glo_ok X G (c.fact 15 (f := faB (.glo "NotApart")) rfl)
  have g_TooFar : mg "TooFar" = some (.ref ((con K).ca 7)) := He.glo_ok X G (c.fact 16 (f := faB (.glo "TooFar")) rfl)
  have g_CapacityExceeded : mg "CapacityExceeded" = some (.ref ((con K).ca 12)) := He.glo_ok X G (c.fact 17 (f := faB (.glo "CapacityExceeded")) rfl)
  have g_InvalidName : mg "InvalidName" = some (.ref ((con K).ca 9)) := He.glo_ok X G (c.fact 18 (f := faB (.glo "InvalidName")) rfl)
  have g_DuplicateName : mg "DuplicateName" = some (.ref ((con K).ca 10)) := He.glo_ok X G (c.fact 19 (f := faB (.glo "DuplicateName")) rfl)
  have g_UnknownName : mg "UnknownName" = some (.ref ((con K).ca 15)) := He.glo_ok X G (c.fact 20 (f := faB (.glo "UnknownName")) rfl)
  have g_DuplicateMark : mg "DuplicateMark" = some (.ref ((con K).ca 11)) := He.glo_ok X G (c.fact 21 (f := faB (.glo "DuplicateMark")) rfl)
  have g_UnknownMark : mg "UnknownMark" = some (.ref ((con K).ca 16)) := He.glo_ok X G (c.fact 22 (f := faB (.glo "UnknownMark")) rfl)
  have g_InvalidCommand : mg "InvalidCommand" = some (.ref ((con K).ca 13)) := He.glo_ok X G (c.fact 23 (f := faB (.glo "InvalidCommand")) rfl)
  have g_ParseError : mg "ParseError" = some (.ref ((con K).ca 14)) := He.glo_ok X G (c.fact 24 (f := faB (.glo "ParseError")) rfl)
  have g_NothingLeft : mg "NothingLeft" = some (.ref ((con K).ca 17)) := He.glo_ok X G (c.fact 25 (f := faB (.glo "NothingLeft")) rfl)
  have n_Reader_words : NoAttr (con K).K ((con K).ca 22) ((con K).fn 41) := He.noat_ok (x := "Reader") (f := "words") (c.fact 26 (f := faB (.noat "Reader" "words")) rfl)
  have n_Reader_at : NoAttr (con K).K ((con K).ca 22) ((con K).fn 8) := He.noat_ok (x := "Reader") (f := "at") (c.fact 27 (f := faB (.noat "Reader" "at")) rfl)
  obtain ⟨su_ParseError, sk_ParseError⟩ := c.sup 0 (s := ⟨⟨atM "ParseError" "__init__", "__init__", "ParseError.__init__", defArgs s_E_ParseError, defBody s_E_ParseError, defScope s_E_ParseError⟩, "/claim/cut.py", fun K => He.ga K "ParseError"⟩) rfl
  obtain ⟨fd_ref, F_ref⟩ := c.def_ 15 (d := ⟨atG "_law_refused", "_law_refused", "_law_refused", defArgs s_refd, defBody s_refd, defScope s_refd⟩) rfl
  obtain ⟨fd__law_take, F__law_take⟩ := c.def_ 0 (d := ⟨atG "_law_take", "_law_take", "_law_take", defArgs s__law_take, defBody s__law_take, defScope s__law_take⟩) rfl
  have D__law_take : DefAt (con K) mg "_law_take" (defArgs s__law_take) (defBody s__law_take) (defScope s__law_take) ["_law_feed_here", "_law_many"] := ⟨_, _, F__law_take, He.glo_ok X G (c.fact 31 (f := faB (.glo "_law_take")) rfl), F__law_take.bindsN fun _ _ _ _ _ _ us hl => match us, hl with | [_, _], _ => rfl⟩
  obtain ⟨fd__law_pick, F__law_pick⟩ := c.def_ 1 (d := ⟨atG "_law_pick", "_law_pick", "_law_pick", defArgs s__law_pick, defBody s__law_pick, defScope s__law_pick⟩) rfl
  have D__law_pick : DefAt (con K) mg "_law_pick" (defArgs s__law_pick) (defBody s__law_pick) (defScope s__law_pick) ["_law_feed_here", "_law_things"] := ⟨_, _, F__law_pick, He.glo_ok X G (c.fact 32 (f := faB (.glo "_law_pick")) rfl), F__law_pick.bindsN fun _ _ _ _ _ _ us hl => match us, hl with | [_, _], _ => rfl⟩
  obtain ⟨fd__law_condition, F__law_condition⟩ := c.def_ 2 (d := ⟨atG "_law_condition", "_law_condition", "_law_condition", defArgs s__law_condition, defBody s__law_condition, defScope s__law_condition⟩) rfl
  have D__law_condition : DefAt (con K) mg "_law_condition" (defArgs s__law_condition) (defBody s__law_condition) (defScope s__law_condition) ["_law_feed_here", "_law_names", "_law_depth_it"] := ⟨_, _, F__law_condition, He.glo_ok X G (c.fact 33 (f := faB (.glo "_law_condition")) rfl), F__law_condition.bindsN fun _ _ _ _ _ _ us hl => match us, hl with | [_, _, _], _ => rfl⟩
  obtain ⟨fd__law_condition_text, F__law_condition_text⟩ := c.def_ 3 (d := ⟨atG "_law_condition_text", "_law_condition_text", "_law_condition_text", defArgs s__law_condition_text, defBody s__law_condition_text, defScope s__law_condition_text⟩) rfl
  have D__law_condition_text : DefAt (con K) mg "_law_condition_text" (defArgs s__law_condition_text) (defBody s__law_condition_text) (defScope s__law_condition_text) ["_law_condition_here", "_law_level"] := ⟨_, _, F__law_condition_text, He.glo_ok X G (c.fact 34 (f := faB (.glo "_law_condition_text")) rfl), F__law_condition_text.bindsN fun _ _ _ _ _ _ us hl => match us, hl with | [_, _], _ => rfl⟩
  obtain ⟨fd__law_feed, F__law_feed⟩ := c.def_ 4 (d := ⟨atG "_law_feed", "_law_feed", "_law_feed", defArgs s__law_feed, defBody s__law_feed, defScope s__law_feed⟩) rfl
  have D__law_feed : DefAt (con K) mg "_law_feed" (defArgs s__law_feed) (defBody s__law_feed) (defScope s__law_feed) ["_law_script"] := ⟨_, _, F__law_feed, He.glo_ok X G (c.fact 35 (f := faB (.glo "_law_feed")) rfl), F__law_feed.bindsN fun _ _ _ _ _ _ us hl => match us, hl with | [_], _ => rfl⟩
  obtain ⟨fd__law_first_fault, F__law_first_fault⟩ := c.def_ 5 (d := ⟨atG "_law_first_fault", "_law_first_fault", "_law_first_fault", defArgs s__law_first_fault, defBody s__law_first_fault, defScope s__law_first_fault⟩) rfl
  have D__law_first_fault : DefAt (con K) mg "_law_first_fault" (defArgs s__law_first_fault) (defBody s__law_first_fault) (defScope s__law_first_fault) ["_law_words"] := ⟨_, _, F__law_first_fault, He.glo_ok X G (c.fact 36 (f := faB (.glo "_law_first_fault")) rfl), F__law_first_fault.bindsN fun _ _ _ _ _ _ us hl => match us, hl with | [_], _ => rfl⟩
  obtain ⟨fd_Reader___init__, F_Reader___init__⟩ := c.def_ 6 (d := ⟨atM "Reader" "__init__", "__init__", "Reader.__init__", defArgs s_Reader___init__, defBody s_Reader___init__, defScope s_Reader___init__⟩) rfl
  have D_Reader___init__ : DefC (con K) ((atM "Reader" "__init__") K) "__init__" "Reader.__init__" (defArgs s_Reader___init__) (defBody s_Reader___init__) (defScope s_Reader___init__) ["self", "text"] := ⟨_, F_Reader___init__, F_Reader___init__.bindsN fun _ _ _ _ _ _ us hl => match us, hl with | [_, _], _ => rfl⟩
  obtain ⟨fd_Reader_word, F_Reader_word⟩ := c.def_ 7 (d := ⟨atM "Reader" "word", "word", "Reader.word", defArgs s_Reader_word, defBody s_Reader_word, defScope s_Reader_word⟩) rfl
  have D_Reader_word : DefC (con K) ((atM "Reader" "word") K) "word" "Reader.word" (defArgs s_Reader_word) (defBody s_Reader_word) (defScope s_Reader_word) ["self"] := ⟨_, F_Reader_word, F_Reader_word.bindsN fun _ _ _ _ _ _ us hl => match us, hl with | [_], _ => rfl⟩
  obtain ⟨fd_Reader_step, F_Reader_step⟩ := c.def_ 8 (d := ⟨atM "Reader" "step", "step", "Reader.step", defArgs s_Reader_step, defBody s_Reader_step, defScope s_Reader_step⟩) rfl
  have D_Reader_step : DefC (con K) ((atM "Reader" "step") K) "step" "Reader.step" (defArgs s_Reader_step) (defBody s_Reader_step) (defScope s_Reader_step) ["self"] := ⟨_, F_Reader_step, F_Reader_step.bindsN fun _ _ _ _ _ _ us hl => match us, hl with | [_], _ => rfl⟩
  obtain ⟨fd_is_name, F_is_name⟩ := c.def_ 9 (d := ⟨atG "is_name", "is_name", "is_name", defArgs s_is_name, defBody s_is_name, defScope s_is_name⟩) rfl
  have D_is_name : DefAt (con K) mg "is_name" (defArgs s_is_name) (defBody s_is_name) (defScope s_is_name) ["text"] := ⟨_, _, F_is_name, He.glo_ok X G (c.fact 37 (f := faB (.glo "is_name")) rfl), F_is_name.bindsN fun _ _ _ _ _ _ us hl => match us, hl with | [_], _ => rfl⟩
  obtain ⟨fd_Reader_singleE, F_Reader_singleE⟩ := c.def_ 10 (d := ⟨atM "Reader" "single", "single", "Reader.single", defArgs s_Reader_singleE, defBody s_Reader_singleE, defScope s_Reader_singleE⟩) rfl
  have D_Reader_singleE : DefC (con K) ((atM "Reader" "single") K) "single" "Reader.single" (defArgs s_Reader_singleE) (defBody s_Reader_singleE) (defScope s_Reader_singleE) ["self"] := ⟨_, F_Reader_singleE, F_Reader_singleE.bindsN fun _ _ _ _ _ _ us hl => match us, hl with | [_], _ => rfl⟩
  obtain ⟨fd_Reader_bothE, F_Reader_bothE⟩ := c.def_ 11 (d := ⟨atM "Reader" "both", "both", "Reader.both", defArgs s_Reader_bothE, defBody s_Reader_bothE, defScope s_Reader_bothE⟩) rfl
  have D_Reader_bothE : DefC (con K) ((atM "Reader" "both") K) "both" "Reader.both" (defArgs s_Reader_bothE) (defBody s_Reader_bothE) (defScope s_Reader_bothE) ["self"] := ⟨_, F_Reader_bothE, F_Reader_bothE.bindsN fun _ _ _ _ _ _ us hl => match us, hl with | [_], _ => rfl⟩
  obtain ⟨fd_Reader_eitherE, F_Reader_eitherE⟩ := c.def_ 12 (d := ⟨atM "Reader" "either", "either", "Reader.either", defArgs s_Reader_eitherE, defBody s_Reader_eitherE, defScope s_Reader_eitherE⟩) rfl
  have D_Reader_eitherE : DefC (con K) ((atM "Reader" "either") K) "either" "Reader.either" (defArgs s_Reader_eitherE) (defBody s_Reader_eitherE) (defScope s_Reader_eitherE) ["self"] := ⟨_, F_Reader_eitherE, F_Reader_eitherE.bindsN fun _ _ _ _ _ _ us hl => match us, hl with | [_], _ => rfl⟩
  obtain ⟨fd_read_conditionE, F_read_conditionE⟩ := c.def_ 13 (d := ⟨atG "read_condition", "read_condition", "read_condition", defArgs s_read_conditionE, defBody s_read_conditionE, defScope s_read_conditionE⟩) rfl
  have D_read_conditionE : DefAt (con K) mg "read_condition" (defArgs s_read_conditionE) (defBody s_read_conditionE) (defScope s_read_conditionE) ["text"] := ⟨_, _, F_read_conditionE, He.glo_ok X G (c.fact 38 (f := faB (.glo "read_condition")) rfl), F_read_conditionE.bindsN fun _ _ _ _ _ _ us hl => match us, hl with | [_], _ => rfl⟩
  obtain ⟨fd, F⟩ := c.def_ 14 (d := ⟨atG "law", "law", "law", defArgs s_law, defBody s_law, defScope s_law⟩) rfl
  have e := hfa.symm.trans (He.glo_ok X G (c.fact 39 (f := faB (.glo "law")) rfl))
  cases e
  obtain ⟨fc, fp⟩ := law_tab X (c.fact 40 (f := lawTabB "law") rfl) rfl F ht
  have b := FunD.bindsA (ps := ["_law_script"]) F fun _ _ _ _ _ _ us hl => match us, hl with | [_], _ => rfl
  refine ⟨fd, fun s v => b s [v] rfl, fp, fun base _ _ TB => ?_⟩
  have E_ParseError : ErrR P w (con K) mg base "ParseError" 14 8 1 "ParseError" 1 := errR_of (k := 0) (C := con K) (pn := "at") (d := ⟨atM "ParseError" "__init__", "__init__", "ParseError.__init__", defArgs s_E_ParseError, defBody s_E_ParseError, defScope s_E_ParseError⟩) (file := "/claim/cut.py") (Cf := fun K => He.ga K "ParseError") (p := supPos (defBody s_E_ParseError)) (j := supJ (defBody s_E_ParseError)) rfl su_ParseError sk_ParseError (c.fact 28 rfl) hfile htop ⟨_, rfl, rfl⟩ (NdefX.nscope_by (by decide +kernel)) (by rfl) (by rfl) fr_super (fun env => by rfl) rfl rfl (fun z => absurd (inj _ _ z) (by decide)) (fun cc cA doc pm ctv => .all fun us hl => match us, hl with | [_, _], _ => rfl) g_ParseError
  have RR_ : RefR P w (con K) mg base "_law_refused" "_law_ask" 1 tcl := refR_of (tellB_ok (ca := caOf) inj rfl (c.fact 29 rfl)) F_ref (He.glo_ok X G (c.fact 30 (f := faB (.glo "_law_refused")) rfl)) (F_ref.bindsN fun _ _ _ _ _ _ us hl => match us, hl with | [_], _ => rfl) sc_refd rfl (.inl rfl) (fun X q cdv e1 e2 e3 e4 e5 => by subst e4; exact gv_refd e3 g_InvalidFour g_InvalidNumber g_InvalidOrder g_InvalidLimit g_InvalidRing g_NotApart g_TooFar g_CapacityExceeded g_InvalidName g_DuplicateName g_UnknownName g_DuplicateMark g_UnknownMark g_InvalidCommand g_ParseError g_NothingLeft)
  have LT_ : LamT (con K) mg base (lawC "law" K) (lawP "law" K) "law.<locals>.<lambda>" := ⟨TB, _, fun _ => Iff.rfl, List.mem_singleton.mpr rfl, fun p hp _ => by rw [List.mem_singleton.mp hp]⟩
  have h__law_take := ok__law_take (P := P) (w := w) (base := base) ck D__law_take fr_int fr_len
  have h__law_pick := ok__law_pick (P := P) (w := w) (base := base) ck D__law_pick h__law_take fr_len
  have h__law_condition := ok__law_condition (P := P) (w := w) (base := base) ck D__law_condition h__law_pick h__law_take 3
  have h__law_condition_text := ok__law_condition_text (P := P) (w := w) (base := base) ck D__law_condition_text fr_int 5
  have h__law_feed := ok__law_feed (P := P) (w := w) (base := base) ck D__law_feed fr_int fr_len fr_list
  have h__law_first_fault := ok__law_first_fault (P := P) (w := w) (base := base) ck D__law_first_fault fr_all fr_len fr_range
  have f_Reader___init__ := ok_Reader___init__ (P := P) (w := w) (base := base) (mg := mg) ck D_Reader___init__ c_Reader n_Reader_words n_Reader_at inj hfn hmn
  have k_Reader : MakR P w (con K) mg base "Reader" 22 1 p_Reader___init__ := makR_of f_Reader___init__ (He.mkr_ok (x := "Reader") (c.fact 41 (f := faB (.mkr "Reader")) rfl)) g_Reader
  have f_Reader_word := ok_Reader_word (P := P) (w := w) (base := base) (mg := mg) ck D_Reader_word c_Reader n_Reader_at n_Reader_words inj hfn hmn fr_len
  have m_Reader_word : MetR P w (con K) mg base 22 (.nm 42) 1 p_Reader_word := metR_of f_Reader_word (He.meth_ok (x := "Reader") (m := "word") (c.fact 42 (f := faB (.meth "Reader" "word")) rfl)) c_Reader (c.fact 43 (f := sfB "Reader") rfl)
  have f_Reader_step := ok_Reader_step (P := P) (w := w) (base := base) (mg := mg) ck D_Reader_step m_Reader_word c_Reader n_Reader_at inj hfn hmn
  have m_Reader_step : MetR P w (con K) mg base 22 (.nm 43) 3 p_Reader_step := metR_of f_Reader_step (He.meth_ok (x := "Reader") (m := "step") (c.fact 44 (f := faB (.meth "Reader" "step")) rfl)) c_Reader (c.fact 43 (f := sfB "Reader") rfl)
  have h_is_name := ok_is_name (P := P) (w := w) (base := base) ck D_is_name k_LETTERS fr_all fr_len
  have grp_Rd := ok_Rd (P := P) (w := w) (base := base) (mg := mg) ck D_Reader_singleE (He.meth_ok (x := "Reader") (m := "single") (c.fact 45 (f := faB (.meth "Reader" "single")) rfl)) D_Reader_bothE (He.meth_ok (x := "Reader") (m := "both") (c.fact 46 (f := faB (.meth "Reader" "both")) rfl)) D_Reader_eitherE (He.meth_ok (x := "Reader") (m := "either") (c.fact 47 (f := faB (.meth "Reader" "either")) rfl)) c_Reader (c.fact 43 (f := sfB "Reader") rfl) h_is_name m_Reader_step c_Reader n_Reader_at E_ParseError inj hfn hmn m_Reader_word 70
  have m_Reader_singleE : MetR P w (con K) mg base 22 (.nm 46) 75 (p_Reader_singleE 70) := grp_Rd.1
  have m_Reader_bothE : MetR P w (con K) mg base 22 (.nm 45) 75 (p_Reader_bothE 70) := grp_Rd.2.1
  have m_Reader_eitherE : MetR P w (con K) mg base 22 (.nm 44) 75 (p_Reader_eitherE 70) := grp_Rd.2.2
  have h_read_condition := ok_read_conditionE (P := P) (w := w) (base := base) ck D_read_conditionE m_Reader_eitherE k_Reader c_Reader n_Reader_words n_Reader_at E_ParseError inj hfn hmn k_MOST_WORDS fr_len
  exact ok_law ck F fc h__law_condition h__law_condition_text h__law_feed h__law_first_fault h__law_pick h__law_take h_read_condition RR_ LT_ fr_len fr_range
end LK
open PySem PySem.W PySem.Calls PyProof.Rows G
theorem PySem.Challenge.cw_grainmeet_k44_texts_that_are_no_conditio_holds : PySem.Challenge.rw_grainmeet_k44_texts_that_are_no_conditio.Holds := by
  w_on; o_law
  refine HandSHeadRun.head_any (r := OpenLaw.row PySem.Challenge.rw_grainmeet_k44_texts_that_are_no_conditio) (q := view (OpenLaw.row PySem.Challenge.rw_grainmeet_k44_texts_that_are_no_conditio).prog [34]) (H := LK.hk) (ob := LK.ob) (M := 12000) (loose := LK.loose) (d := HandSHeadRun.topDef (OpenLaw.row PySem.Challenge.rw_grainmeet_k44_texts_that_are_no_conditio).prog 34) (kwd := []) LK.ob_eq
    (by kernel_rfl) (fun s => by kernel_rfl) LK.run (by kernel_rfl) (by kernel_rfl) (by kernel_rfl) (by rfl) (by first | assumption | decide +kernel) (by decide +kernel) ⟨rfl, rfl, rfl, rfl, rfl, by decide +kernel⟩ ?hw ?hc
  case hw => w_witness2
  case hc =>
    refine G.walk_ofL (l := PySem.Challenge.rw_grainmeet_k44_texts_that_are_no_conditio) (n := 63) (k := 81) (x := "_law_script") rfl (by decide) (by kernel_rfl) ⟨rfl, by decide, by decide⟩ (by kernel_rfl) ?F
    intro w mg fa h Y G hmg0 ht
    obtain ⟨K, KX, c⟩ := Y
    have hmg : mg ("law" : PySem.Str) = some (.ref fa) := by
      have e : (HandSHeadRun.topDef (OpenLaw.row PySem.Challenge.rw_grainmeet_k44_texts_that_are_no_conditio).prog 34).name = ("law" : PySem.Str) := by kernel_rfl
      rw [← e]
      exact hmg0
    obtain ⟨fd, hb, ⟨hp1, hp2, hp3⟩, hF⟩ := LK.facts (P := PySem.Challenge.rw_grainmeet_k44_texts_that_are_no_conditio.prog) (w := w) KX G hmg c (by kernel_rfl) (by kernel_rfl) ht
    exact ⟨K, fd, [(lawC "law" K, lawP "law" K)], spOf (LK.con K) LK.p_law 1, KX, List.forall_mem_singleton.mpr hp1, List.forall_mem_singleton.mpr hp2, List.forall_mem_singleton.mpr hp3, hb, fun H a ns hl ho hS => law_endT hS (fun p hp => by rw [List.mem_singleton.mp hp]; exact ⟨#[], ho _ (List.mem_singleton.mpr rfl), trivial, fun pos cv z => by cases z⟩) (LK.law_true ns), fun base k1 k2 k3 => hF base k1 k2 (k3 _ (List.mem_singleton.mpr rfl))⟩
