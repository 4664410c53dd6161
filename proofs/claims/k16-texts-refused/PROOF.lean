import PyProof.Rows.All
import Wide.All
import OpenK.AllK
import Wide.FinOn
import HandS.ForMost
import HandS.ForExc
import HandS.ExcCtx
import HandS.TupAny
import HandS.TupMul
import HandS.Style
import HandS.IsInst
import HandS.StrMore
import HandS.Conv
import KE.DataEq
import KE.DataCmp
import KE.SortData
import HandS.Zip
import HandS.Rev
import HandS.Exc
import HandS.ExcOwn
import HandS.SetKeys
import HandS.Ends
import HandS.Words
import HandS.WordsExc
import PyProof.ReprRoads
import HandS.RaiseMore
import PyProof.StrLawsRepr
import HandS.More
import HandS.Text
import HandS.Steps
import HandS.Iter
import HandS.Deep
import HandS.ExcInit
import HandS.ExcIs
import HandS.ExcField
import HandS.HotCalls
import PyProof.TwoTypesSub
import HandS.Set
import HandS.SetFor
import HandS.Strs
import PySem.Challenge.RW_rootshares_k16_texts_refused
set_option Elab.async false
set_option linter.all false
set_option maxRecDepth 100000
set_option maxHeartbeats 4000000
/-! FA: values as plain data over a store of what changes; the judgements by functions. -/
namespace FL
open PySem PySem.Spec PyProof.Rows L2

inductive D where
  | non | bl (b : Bool) | int (i : Int) | str (s : Str) | ty (n : String)
  | tup (xs : List D) | lst (xs : List D) | dct (kvs : List (Key × D)) | scr (ns : List Int) | ref (n : Nat) | exc (C : Str) (ls : List D)
instance : Inhabited D := ⟨.non⟩

/-- what stands in the store: it may change -/
inductive MO where
  | lst (xs : List D) | dct (kvs : List (Key × D)) | ins (C : Addr) (fs : List (Str × D)) | ldc (kvs : List (Key × D)) | dcT (kvs : List (List Key × D)) | ldT (kvs : List (List Key × D))
abbrev Store := List MO
abbrev Fenv := List (Option D)

/-- an exception: the class that the module calls C, its lot where it has one -/
structure Xc where
  C : Str
  lot : Option D

inductive R (α : Type) where
  | ok (a : α) (S : Store)
  | ex (c : Xc) (S : Store)
  | bad
inductive SR where
  | nx (e : Fenv) (S : Store)
  | rt (d : D) (S : Store)
  | bk (e : Fenv) (S : Store)
  | ct (e : Fenv) (S : Store)
  | ex (c : Xc) (e : Fenv) (S : Store)
  | bad
abbrev Ev := Fenv → Store → R D
abbrev EvB := Fenv → Store → R Bool
abbrev EvL := Fenv → Store → R (List D)
abbrev EvS := Fenv → Store → SR

def R.bind {α β : Type} (r : R α) (f : α → Store → R β) : R β := match r with
  | .ok a S => f a S
  | .ex c S => .ex c S
  | .bad => .bad
@[simp] theorem R.bind_ok {α β : Type} (a : α) (S : Store) (f : α → Store → R β) : (R.ok a S).bind f = f a S := rfl
@[simp] theorem R.bind_ex {α β : Type} (c : Xc) (S : Store) (f : α → Store → R β) : (R.ex c S : R α).bind f = .ex c S := rfl
@[simp] theorem R.bind_bad {α β : Type} (f : α → Store → R β) : (R.bad : R α).bind f = .bad := rfl
def R.bindS {α : Type} (r : R α) (e : Fenv) (f : α → Store → SR) : SR := match r with
  | .ok a S => f a S
  | .ex c S => .ex c e S
  | .bad => .bad
@[simp] theorem R.bindS_ok {α : Type} (a : α) (S : Store) (e : Fenv) (f : α → Store → SR) : (R.ok a S).bindS e f = f a S := rfl
@[simp] theorem R.bindS_ex {α : Type} (c : Xc) (S : Store) (e : Fenv) (f : α → Store → SR) : (R.ex c S : R α).bindS e f = .ex c e S := rfl
@[simp] theorem R.bindS_bad {α : Type} (e : Fenv) (f : α → Store → SR) : (R.bad : R α).bindS e f = .bad := rfl

/-! ### how values and the abstract heap bear data -/
/-- where the store's objects stand, in order; and places that are hidden for a while -/
structure Io where
  st : List Addr
  hid : List Addr
def Io.out (ι : Io) (a : Addr) : Prop := a ∉ ι.st ∧ a ∉ ι.hid
def Io.more (ι : Io) (p : Addr) : Io := ⟨ι.st ++ [p], ι.hid⟩
def Io.hide (ι : Io) (p : Addr) : Io := ⟨ι.st, p :: ι.hid⟩
def Io.show_ (ι : Io) (p : Addr) : Io := ⟨ι.st, ι.hid.filter fun b => decide (b ≠ p)⟩
section
variable (K : PySem.W.Frag) (ι : Io) (H : Hp)
/-- the class that the module calls C -/
def ClsN (C : Str) (cls : Value) : Prop := ∃ c : Addr, PySem.W.nsIn K mainGlobals C = some (some (.ref c)) ∧ cls = .ref c
/-- an exception that was caught, at a: its object's class, its dict -/
def CghtAt (a : Addr) (C : Str) (dd : Option Addr) : Prop := ∃ (oe : Obj) (u : Heap → Prop) (cls : Value), H a = some (.frz oe (.ext u)) ∧ L2N.Zn cls dd oe ∧ (∃ vs, oe.data = .fields vs) ∧ ClsN K C cls
mutual
def RepV : V → D → Prop
  | v, .non => v = .non
  | v, .bl b => v = .bl b
  | v, .int i => v = .int i
  | v, .str s => v = .str s
  | v, .ty n => v = .ty n
  | v, .tup ds => ∃ a xs, v = .ref a ∧ H a = some (.tup xs) ∧ RepVs xs ds
  | v, .lst ds => ∃ a xs, v = .ref a ∧ H a = some (.lst xs) ∧ ι.out a ∧ RepVs xs ds
  | v, .dct kvs => ∃ a kv, v = .ref a ∧ Rd H a (.dK kv) ∧ ι.out a ∧ RepKs kv kvs
  | v, .scr ns => ∃ a, v = .ref a ∧ ((∃ o, H a = some (.frz o (.lst (ns.map V.int)))) ∨ ∀ H2, SqL K H2 a (ns.map V.int))
  | v, .ref n => ∃ a, v = .ref a ∧ ι.st[n]? = some a
  | v, .exc C ls => ∃ a dd xs, v = .ref a ∧ CghtAt K H a C dd ∧ RepVs xs ls ∧ (xs = [] ∧ dd = none ∨ ∃ p x, dd = some p ∧ xs = [x] ∧ H p = some (.xd [(("lot" : Str), x)]) ∧ ι.out p)
def RepVs : List V → List D → Prop
  | xs, [] => xs = []
  | xs, d :: ds => ∃ x r, xs = x :: r ∧ RepV x d ∧ RepVs r ds
def RepKs : List (Key × V) → List (Key × D) → Prop
  | xs, [] => xs = []
  | xs, (k, d) :: ds => ∃ x r, xs = (k, x) :: r ∧ RepV x d ∧ RepKs r ds
end
def RepFs : List (Str × V) → List (Str × D) → Prop
  | xs, [] => xs = []
  | xs, (k, d) :: ds => ∃ x r, xs = (k, x) :: r ∧ RepV K ι H x d ∧ RepFs r ds
def RepTs : List (List Key × V) → List (List Key × D) → Prop
  | xs, [] => xs = []
  | xs, (k, d) :: ds => ∃ x r, xs = (k, x) :: r ∧ RepV K ι H x d ∧ RepTs r ds ∧ ∃ a, H a = some (.tup (k.map kV))
def RepO (a : Addr) : MO → Prop
  | .lst ds => ∃ xs, H a = some (.lst xs) ∧ RepVs K ι H xs ds
  | .dct kvs => ∃ kv, H a = some (.dK kv) ∧ RepKs K ι H kv kvs
  | .ldc kvs => ∃ o kv, H a = some (.frz o (.dK kv)) ∧ RepKs K ι H kv kvs
  | .ins C fs => ∃ dx kv, H a = some (.ins C dx kv) ∧ RepFs K ι H kv fs
  | .dcT kvs => ∃ kv, H a = some (.dT kv) ∧ RepTs K ι H kv kvs
  | .ldT kvs => ∃ o kv, H a = some (.frz o (.dT kv)) ∧ RepTs K ι H kv kvs
structure Sim (S : Store) : Prop where
  nd : ι.st.Nodup
  len : ι.st.length = S.length
  obj : ∀ (n : Nat) (a : Addr) (m : MO), ι.st[n]? = some a → S[n]? = some m → RepO K ι H a m
  hid : ∀ a ∈ ι.hid, H a ≠ none
  apart : ∀ a ∈ ι.st, a ∉ ι.hid
structure SimE (σ : L2.St) (e : Fenv) : Prop where
  len : e.length = σ.length
  get : ∀ (i : Nat) (d : D), e[i]? = some (some d) → ∃ v, σ[i]? = some (some v) ∧ RepV K ι H v d
def RepX (c : Xc) (cls : Value) (dd : Option Addr) : Prop := ClsN K c.C cls ∧ match c.lot with
  | none => dd = none
  | some l => ∃ p v, dd = some p ∧ H p = some (.xd [(("lot" : Str), v)]) ∧ ι.out p ∧ RepV K ι H v l
end
/-- how the heap may go on -/
structure Ext (ι : Io) (H : Hp) (ι' : Io) (H' : Hp) : Prop where
  pre : ∃ t, ι'.st = ι.st ++ t
  keep : ∀ b o, H b = some o → b ∉ ι.st → H' b = some o ∧ b ∉ ι'.st
  tups : ∀ b xs, H b = some (.tup xs) → H' b = some (.tup xs)
  frzs : ∀ b o u, H b = some (.frz o u) → H' b = some (.frz o u)
  fre : ∀ b, H' b = none → H b = none
  hidm : ∀ b ∈ ι.hid, b ∈ ι'.hid
  hidn : ∀ b ∈ ι'.hid, b ∈ ι.hid ∨ H b = none

theorem Ext.refl (ι : Io) (H : Hp) : Ext ι H ι H := ⟨⟨[], (List.append_nil ι.st).symm⟩, fun _ _ h n => ⟨h, n⟩, fun _ _ h => h, fun _ _ _ h => h, fun _ h => h, fun _ h => h, fun _ h => .inl h⟩
theorem Ext.trans {ι ι1 ι2 : Io} {H H1 H2 : Hp} (a : Ext ι H ι1 H1) (b : Ext ι1 H1 ι2 H2) : Ext ι H ι2 H2 := by
  obtain ⟨t, p1⟩ := a.pre
  obtain ⟨u, p2⟩ := b.pre
  exact ⟨⟨t ++ u, by rw [p2, p1, List.append_assoc]⟩, fun c o h n => let ⟨h1, n1⟩ := a.keep c o h n; b.keep c o h1 n1, fun c xs h => b.tups c xs (a.tups c xs h), fun c o u h => b.frzs c o u (a.frzs c o u h), fun c h => a.fre c (b.fre c h),
    fun c h => b.hidm c (a.hidm c h), fun c h => (b.hidn c h).elim (fun z => a.hidn c z) fun z => .inr (a.fre c z)⟩
theorem Ext.get {ι ι' : Io} {H H' : Hp} (x : Ext ι H ι' H') {n : Nat} {a : Addr} (h : ι.st[n]? = some a) : ι'.st[n]? = some a := by
  obtain ⟨t, p⟩ := x.pre
  rw [p, List.getElem?_append_left (List.getElem?_eq_some_iff.mp h).1]
  exact h
theorem Ext.out {ι ι' : Io} {H H' : Hp} (x : Ext ι H ι' H') {a : Addr} {o : HO} (h : H a = some o) (n : ι.out a) : H' a = some o ∧ ι'.out a :=
  ⟨(x.keep _ _ h n.1).1, (x.keep _ _ h n.1).2, fun z => (x.hidn a z).elim n.2 fun q => by rw [h] at q; cases q⟩
theorem Ext.sqT {K : PySem.W.Frag} {ι ι' : Io} {H H' : Hp} (x : Ext ι H ι' H') {a : Addr} {xs : List V} (h : SqT K H a xs) : SqT K H' a xs := by
  rcases h with (h | ⟨o, h⟩) | h
  · exact .inl (.inl (x.tups _ _ h))
  · exact .inl (.inr ⟨o, x.frzs _ _ _ h⟩)
  · exact .inr h
theorem Ext.rd {ι ι' : Io} {H H' : Hp} (x : Ext ι H ι' H') {a : Addr} {u : HO} (h : Rd H a u) (n : ι.out a) : Rd H' a u ∧ ι'.out a := by
  rcases h with h | ⟨o, h⟩
  · exact ⟨.inl (x.out h n).1, (x.out h n).2⟩
  · exact ⟨.inr ⟨o, x.frzs _ _ _ h⟩, (x.out h n).2⟩

section
variable {K : PySem.W.Frag} {ι ι' : Io} {H H' : Hp}
theorem CghtAt.ext (x : Ext ι H ι' H') {a : Addr} {C : Str} {dd : Option Addr} (h : CghtAt K H a C dd) : CghtAt K H' a C dd :=
  let ⟨oe, u, cls, h1, h2⟩ := h
  ⟨oe, u, cls, x.frzs _ _ _ h1, h2⟩
mutual
theorem RepV.ext (x : Ext ι H ι' H') : ∀ (d : D) (v : V), RepV K ι H v d → RepV K ι' H' v d
  | .non, _, h => h
  | .bl _, _, h => h
  | .int _, _, h => h
  | .str _, _, h => h
  | .ty _, _, h => h
  | .tup ds, _, h => by
    obtain ⟨a, xs, e, h1, h2⟩ := h
    exact ⟨a, xs, e, x.tups _ _ h1, RepVs.ext x ds xs h2⟩
  | .lst ds, _, h => by
    obtain ⟨a, xs, e, h1, h2, h3⟩ := h
    exact ⟨a, xs, e, (x.out h1 h2).1, (x.out h1 h2).2, RepVs.ext x ds xs h3⟩
  | .dct kvs, _, h => by
    obtain ⟨a, kv, e, h1, h2, h3⟩ := h
    exact ⟨a, kv, e, (x.rd h1 h2).1, (x.rd h1 h2).2, RepKs.ext x kvs kv h3⟩
  | .scr ns, _, h => by
    obtain ⟨a, e, h⟩ := h
    refine ⟨a, e, ?_⟩
    rcases h with ⟨o, h⟩ | h
    · exact .inl ⟨o, x.frzs _ _ _ h⟩
    · exact .inr h
  | .ref n, _, h => by
    obtain ⟨a, e, h⟩ := h
    exact ⟨a, e, x.get h⟩
  | .exc C ls, _, h => by
    obtain ⟨a, dd, xs, e, h1, h2, h3⟩ := h
    refine ⟨a, dd, xs, e, h1.ext x, RepVs.ext x ls xs h2, ?_⟩
    rcases h3 with h3 | ⟨p, y, q1, q2, q3, q4⟩
    · exact .inl h3
    · exact .inr ⟨p, y, q1, q2, (x.out q3 q4).1, (x.out q3 q4).2⟩
theorem RepVs.ext (x : Ext ι H ι' H') : ∀ (ds : List D) (vs : List V), RepVs K ι H vs ds → RepVs K ι' H' vs ds
  | [], _, h => h
  | d :: ds, _, h => by
    obtain ⟨y, r, e, h1, h2⟩ := h
    exact ⟨y, r, e, RepV.ext x d y h1, RepVs.ext x ds r h2⟩
theorem RepKs.ext (x : Ext ι H ι' H') : ∀ (ds : List (Key × D)) (vs : List (Key × V)), RepKs K ι H vs ds → RepKs K ι' H' vs ds
  | [], _, h => h
  | (k, d) :: ds, _, h => by
    obtain ⟨y, r, e, h1, h2⟩ := h
    exact ⟨y, r, e, RepV.ext x d y h1, RepKs.ext x ds r h2⟩
end
theorem RepFs.ext (x : Ext ι H ι' H') : ∀ (ds : List (Str × D)) (vs : List (Str × V)), RepFs K ι H vs ds → RepFs K ι' H' vs ds
  | [], _, h => h
  | (k, d) :: ds, _, h => by
    obtain ⟨y, r, e, h1, h2⟩ := h
    exact ⟨y, r, e, RepV.ext x d y h1, RepFs.ext x ds r h2⟩
theorem RepTs.ext (x : Ext ι H ι' H') : ∀ (ds : List (List Key × D)) (vs : List (List Key × V)), RepTs K ι H vs ds → RepTs K ι' H' vs ds
  | [], _, h => h
  | (k, d) :: ds, _, h => by
    obtain ⟨y, r, e, h1, h2, a, h3⟩ := h
    exact ⟨y, r, e, RepV.ext x d y h1, RepTs.ext x ds r h2, a, x.tups _ _ h3⟩
mutual
/-- other places for the store, the heap as it is -/
theorem RepV.io (hs : ∀ (n : Nat) a, ι.st[n]? = some a → ι'.st[n]? = some a) (ho : ∀ a, ι.out a → ι'.out a) : ∀ (d : D) (v : V), RepV K ι H v d → RepV K ι' H v d
  | .non, _, h => h
  | .bl _, _, h => h
  | .int _, _, h => h
  | .str _, _, h => h
  | .ty _, _, h => h
  | .tup ds, _, h => by
    obtain ⟨a, xs, e, h1, h2⟩ := h
    exact ⟨a, xs, e, h1, RepVs.io hs ho ds xs h2⟩
  | .lst ds, _, h => by
    obtain ⟨a, xs, e, h1, h2, h3⟩ := h
    exact ⟨a, xs, e, h1, ho a h2, RepVs.io hs ho ds xs h3⟩
  | .dct kvs, _, h => by
    obtain ⟨a, kv, e, h1, h2, h3⟩ := h
    exact ⟨a, kv, e, h1, ho a h2, RepKs.io hs ho kvs kv h3⟩
  | .scr ns, _, h => h
  | .ref n, _, h => by
    obtain ⟨a, e, h⟩ := h
    exact ⟨a, e, hs n a h⟩
  | .exc C ls, _, h => by
    obtain ⟨a, dd, xs, e, h1, h2, h3⟩ := h
    refine ⟨a, dd, xs, e, h1, RepVs.io hs ho ls xs h2, ?_⟩
    rcases h3 with h3 | ⟨p, y, q1, q2, q3, q4⟩
    · exact .inl h3
    · exact .inr ⟨p, y, q1, q2, q3, ho p q4⟩
theorem RepVs.io (hs : ∀ (n : Nat) a, ι.st[n]? = some a → ι'.st[n]? = some a) (ho : ∀ a, ι.out a → ι'.out a) : ∀ (ds : List D) (vs : List V), RepVs K ι H vs ds → RepVs K ι' H vs ds
  | [], _, h => h
  | d :: ds, _, h => by
    obtain ⟨y, r, e, h1, h2⟩ := h
    exact ⟨y, r, e, RepV.io hs ho d y h1, RepVs.io hs ho ds r h2⟩
theorem RepKs.io (hs : ∀ (n : Nat) a, ι.st[n]? = some a → ι'.st[n]? = some a) (ho : ∀ a, ι.out a → ι'.out a) : ∀ (ds : List (Key × D)) (vs : List (Key × V)), RepKs K ι H vs ds → RepKs K ι' H vs ds
  | [], _, h => h
  | (k, d) :: ds, _, h => by
    obtain ⟨y, r, e, h1, h2⟩ := h
    exact ⟨y, r, e, RepV.io hs ho d y h1, RepKs.io hs ho ds r h2⟩
end
theorem RepFs.io (hs : ∀ (n : Nat) a, ι.st[n]? = some a → ι'.st[n]? = some a) (ho : ∀ a, ι.out a → ι'.out a) : ∀ (ds : List (Str × D)) (vs : List (Str × V)), RepFs K ι H vs ds → RepFs K ι' H vs ds
  | [], _, h => h
  | (k, d) :: ds, _, h => by
    obtain ⟨y, r, e, h1, h2⟩ := h
    exact ⟨y, r, e, RepV.io hs ho d y h1, RepFs.io hs ho ds r h2⟩
theorem RepTs.io (hs : ∀ (n : Nat) a, ι.st[n]? = some a → ι'.st[n]? = some a) (ho : ∀ a, ι.out a → ι'.out a) : ∀ (ds : List (List Key × D)) (vs : List (List Key × V)), RepTs K ι H vs ds → RepTs K ι' H vs ds
  | [], _, h => h
  | (k, d) :: ds, _, h => by
    obtain ⟨y, r, e, h1, h2, h3⟩ := h
    exact ⟨y, r, e, RepV.io hs ho d y h1, RepTs.io hs ho ds r h2, h3⟩
theorem RepO.io {a : Addr} (hs : ∀ (n : Nat) a, ι.st[n]? = some a → ι'.st[n]? = some a) (ho : ∀ a, ι.out a → ι'.out a) : ∀ {m : MO}, RepO K ι H a m → RepO K ι' H a m
  | .lst ds, h => by
    obtain ⟨xs, h1, h2⟩ := h
    exact ⟨xs, h1, RepVs.io hs ho ds xs h2⟩
  | .dct ds, h => by
    obtain ⟨xs, h1, h2⟩ := h
    exact ⟨xs, h1, RepKs.io hs ho ds xs h2⟩
  | .ins C fs, h => by
    obtain ⟨dx, kv, h1, h2⟩ := h
    exact ⟨dx, kv, h1, RepFs.io hs ho fs kv h2⟩
  | .ldc ds, h => by
    obtain ⟨o, xs, h1, h2⟩ := h
    exact ⟨o, xs, h1, RepKs.io hs ho ds xs h2⟩
  | .dcT ds, h => by
    obtain ⟨xs, h1, h2⟩ := h
    exact ⟨xs, h1, RepTs.io hs ho ds xs h2⟩
  | .ldT ds, h => by
    obtain ⟨o, xs, h1, h2⟩ := h
    exact ⟨o, xs, h1, RepTs.io hs ho ds xs h2⟩
theorem SimE.ext {σ : L2.St} {e : Fenv} (x : Ext ι H ι' H') (s : SimE K ι H σ e) : SimE K ι' H' σ e :=
  ⟨s.len, fun i d h => let ⟨v, h1, h2⟩ := s.get i d h; ⟨v, h1, RepV.ext x d v h2⟩⟩
/-- an object of the store that stands at the same place -/
theorem RepO.ext (x : Ext ι H ι' H') {a : Addr} (e : H' a = H a) : ∀ {m : MO}, RepO K ι H a m → RepO K ι' H' a m
  | .lst ds, h => by
    obtain ⟨xs, h1, h2⟩ := h
    exact ⟨xs, e.trans h1, RepVs.ext x ds xs h2⟩
  | .dct ds, h => by
    obtain ⟨xs, h1, h2⟩ := h
    exact ⟨xs, e.trans h1, RepKs.ext x ds xs h2⟩
  | .ins C fs, h => by
    obtain ⟨dx, kv, h1, h2⟩ := h
    exact ⟨dx, kv, e.trans h1, RepFs.ext x fs kv h2⟩
  | .ldc ds, h => by
    obtain ⟨o, xs, h1, h2⟩ := h
    exact ⟨o, xs, e.trans h1, RepKs.ext x ds xs h2⟩
  | .dcT ds, h => by
    obtain ⟨xs, h1, h2⟩ := h
    exact ⟨xs, e.trans h1, RepTs.ext x ds xs h2⟩
  | .ldT ds, h => by
    obtain ⟨o, xs, h1, h2⟩ := h
    exact ⟨o, xs, e.trans h1, RepTs.ext x ds xs h2⟩
theorem Sim.at {S : Store} (s : Sim K ι H S) {n : Nat} {a : Addr} (h : ι.st[n]? = some a) : ∃ m, S[n]? = some m ∧ RepO K ι H a m := by
  have l : n < S.length := by rw [← s.len]; exact (List.getElem?_eq_some_iff.mp h).1
  exact ⟨S[n], List.getElem?_eq_getElem l, s.obj n a _ h (List.getElem?_eq_getElem l)⟩
/-- a dict while a loop walks it -/
def MO.shut : MO → Bool
  | .ldc _ => true
  | .ldT _ => true
  | _ => false
theorem RepO.there {a : Addr} {m : MO} (h : RepO K ι H a m) : ∃ o, H a = some o ∧ True := by
  cases m with
  | lst ds => obtain ⟨xs, h, _⟩ := h; exact ⟨_, h, trivial⟩
  | dct ds => obtain ⟨xs, h, _⟩ := h; exact ⟨_, h, trivial⟩
  | ins C fs => obtain ⟨_, xs, h, _⟩ := h; exact ⟨_, h, trivial⟩
  | ldc ds => obtain ⟨_, xs, h, _⟩ := h; exact ⟨_, h, trivial⟩
  | dcT ds => obtain ⟨xs, h, _⟩ := h; exact ⟨_, h, trivial⟩
  | ldT ds => obtain ⟨_, xs, h, _⟩ := h; exact ⟨_, h, trivial⟩
theorem RepO.soft {a : Addr} {m : MO} (h : RepO K ι H a m) (hs : m.shut = false) : ∃ o, H a = some o ∧ (∀ xs, o ≠ .tup xs) ∧ ∀ b u, o ≠ .frz b u := by
  cases m with
  | lst ds => obtain ⟨xs, h, _⟩ := h; exact ⟨_, h, fun _ => by simp, fun _ _ => by simp⟩
  | dct ds => obtain ⟨xs, h, _⟩ := h; exact ⟨_, h, fun _ => by simp, fun _ _ => by simp⟩
  | ins C fs => obtain ⟨_, xs, h, _⟩ := h; exact ⟨_, h, fun _ => by simp, fun _ _ => by simp⟩
  | ldc ds => cases hs
  | dcT ds => obtain ⟨xs, h, _⟩ := h; exact ⟨_, h, fun _ => by simp, fun _ _ => by simp⟩
  | ldT ds => cases hs
theorem Sim.notIn {S : Store} (s : Sim K ι H S) {p : Addr} (h : H p = none) : ι.out p := by
  refine ⟨fun hm => ?_, fun hm => s.hid p hm h⟩
  obtain ⟨n, hn⟩ := List.getElem?_of_mem hm
  obtain ⟨m, _, h2⟩ := s.at hn
  obtain ⟨o, h3, _⟩ := h2.there
  rw [h] at h3; cases h3
theorem upd_fre {p b : Addr} {o : HO} (h : upd H p o b = none) : H b = none := by
  unfold upd at h
  split at h
  · cases h
  · exact h
/-- something new, not in the store -/
theorem Ext.new (ι : Io) {p : Addr} {o : HO} (h : H p = none) : Ext ι H ι (upd H p o) :=
  ⟨⟨[], (List.append_nil ι.st).symm⟩, fun b u e n => ⟨by rw [upd_ne (ne_of_none e h)]; exact e, n⟩, fun b xs e => by rw [upd_ne (ne_of_none e h)]; exact e, fun b u w e => by rw [upd_ne (ne_of_none e h)]; exact e, fun b => upd_fre, fun _ h => h, fun _ h => .inl h⟩
theorem Sim.new {S : Store} (s : Sim K ι H S) {p : Addr} {o : HO} (h : H p = none) : Sim K ι (upd H p o) S :=
  ⟨s.nd, s.len, fun n a m h1 h2 => (s.obj n a m h1 h2).ext (Ext.new ι h) (by
    obtain ⟨u, h3, _⟩ := (s.obj n a m h1 h2).there
    rw [upd_ne (ne_of_none h3 h)]), fun a ha z => s.hid a ha (upd_fre z), s.apart⟩
/-- a new object of the store -/
theorem Ext.alloc (ι : Io) {p : Addr} {o : HO} (h : H p = none) : Ext ι H (ι.more p) (upd H p o) :=
  ⟨⟨[p], rfl⟩, fun b u e n => ⟨by rw [upd_ne (ne_of_none e h)]; exact e, by
    show b ∉ ι.st ++ [p]
    rw [List.mem_append, List.mem_singleton]
    rintro (q | q)
    · exact n q
    · exact ne_of_none e h q⟩, fun b xs e => by rw [upd_ne (ne_of_none e h)]; exact e, fun b u w e => by rw [upd_ne (ne_of_none e h)]; exact e, fun b => upd_fre, fun _ h => h, fun _ h => .inl h⟩
theorem Sim.push {S : Store} {p : Addr} {m : MO} (nd : ι.st.Nodup) (len : ι.st.length = S.length) (hid : ∀ a ∈ ι.hid, H a ≠ none) (hp : p ∉ ι.st) (hp2 : p ∉ ι.hid) (ap : ∀ a ∈ ι.st, a ∉ ι.hid) (obj : ∀ (n : Nat) (a : Addr) (m : MO), ι.st[n]? = some a → S[n]? = some m → RepO K (ι.more p) H a m) (r : RepO K (ι.more p) H p m) :
    Sim K (ι.more p) H (S ++ [m]) := by
  refine ⟨?_, by show (ι.st ++ [p]).length = _; simp [len], fun n a m' h1 h2 => ?_, hid, fun a ha => ?_⟩
  · show (ι.st ++ [p]).Nodup
    rw [List.nodup_append]
    refine ⟨nd, by simp, fun a ha b hb e => ?_⟩
    rw [List.mem_singleton] at hb
    rw [hb] at e
    exact hp (e ▸ ha)
  · have h1 : (ι.st ++ [p])[n]? = some a := h1
    by_cases hn : n < ι.st.length
    · rw [List.getElem?_append_left hn] at h1
      rw [List.getElem?_append_left (by rw [← len]; exact hn)] at h2
      exact obj n a m' h1 h2
    · rw [List.getElem?_append_right (by omega)] at h1
      rw [List.getElem?_append_right (by rw [← len]; omega)] at h2
      rw [← len] at h2
      cases q : n - ι.st.length with
      | zero =>
        rw [q] at h1 h2
        simp at h1 h2
        subst h1 h2
        exact r
      | succ k =>
        rw [q] at h1
        simp at h1
  · have ha : a ∈ ι.st ++ [p] := ha
    rw [List.mem_append, List.mem_singleton] at ha
    rcases ha with ha | ha
    · exact ap a ha
    · rw [ha]; exact hp2
theorem Sim.alloc {S : Store} (s : Sim K ι H S) {p : Addr} {o : HO} {m : MO} (h : H p = none) (r : RepO K (ι.more p) (upd H p o) p m) : Sim K (ι.more p) (upd H p o) (S ++ [m]) :=
  Sim.push s.nd s.len (fun a ha z => s.hid a ha (upd_fre z)) (s.notIn h).1 (s.notIn h).2 s.apart (fun n a m' h1 h2 => (s.obj n a m' h1 h2).ext (Ext.alloc ι h) (by
    obtain ⟨u, h3, _⟩ := (s.obj n a m' h1 h2).there
    rw [upd_ne (ne_of_none h3 h)])) r
/-- an object of the store is written -/
theorem Ext.write {S : Store} (s : Sim K ι H S) {n : Nat} {a : Addr} {o : HO} {m : MO} (hn : ι.st[n]? = some a) (hm : S[n]? = some m) (hs : m.shut = false) : Ext ι H ι (upd H a o) := by
  obtain ⟨u, h1, h2, h3⟩ := (s.obj n a m hn hm).soft hs
  have ne : ∀ b, b ∉ ι.st → b ≠ a := fun b h e => h (e ▸ List.mem_of_getElem? hn)
  refine ⟨⟨[], (List.append_nil ι.st).symm⟩, fun b w e q => ⟨by rw [upd_ne (ne b q)]; exact e, q⟩, fun b xs e => ?_, fun b w x e => ?_, fun b => upd_fre, fun _ h => h, fun _ h => .inl h⟩
  · by_cases hb : b = a
    · subst hb; rw [h1] at e; cases e; exact absurd rfl (h2 _)
    · rw [upd_ne hb]; exact e
  · by_cases hb : b = a
    · subst hb; rw [h1] at e; cases e; exact absurd rfl (h3 _ _)
    · rw [upd_ne hb]; exact e
theorem Sim.write {S : Store} (s : Sim K ι H S) {n : Nat} {a : Addr} {o : HO} {m m0 : MO} (hn : ι.st[n]? = some a) (hm0 : S[n]? = some m0) (hs0 : m0.shut = false) (r : RepO K ι (upd H a o) a m) : Sim K ι (upd H a o) (S.set n m) := by
  refine ⟨s.nd, by simp [s.len], fun k b m' h1 h2 => ?_, fun a ha z => s.hid a ha (upd_fre z), s.apart⟩
  by_cases hk : k = n
  · subst hk
    rw [hn] at h1
    cases h1
    have l : k < S.length := by rw [← s.len]; exact (List.getElem?_eq_some_iff.mp hn).1
    rw [List.getElem?_set_self l] at h2
    cases h2
    exact r
  · rw [List.getElem?_set_ne (Ne.symm hk)] at h2
    refine (s.obj k b m' h1 h2).ext (Ext.write s hn hm0 hs0) ?_
    rw [upd_ne]
    rintro rfl
    exact hk (nd_ix s.nd h1 hn)
/-- a place is hidden: nothing reads or writes it for a while -/
theorem Ext.hide (ι : Io) {p : Addr} {o : HO} (h : H p = none) : Ext ι H (ι.hide p) (upd H p o) :=
  ⟨⟨[], (List.append_nil ι.st).symm⟩, fun b u e n => ⟨by rw [upd_ne (ne_of_none e h)]; exact e, n⟩, fun b xs e => by rw [upd_ne (ne_of_none e h)]; exact e, fun b u w e => by rw [upd_ne (ne_of_none e h)]; exact e, fun b => upd_fre, fun _ h => List.mem_cons_of_mem _ h, fun b hb => by
    rcases List.mem_cons.mp hb with rfl | hb
    · exact .inr h
    · exact .inl hb⟩
theorem Sim.hide {S : Store} (s : Sim K ι H S) {p : Addr} {o : HO} (h : H p = none) : Sim K (ι.hide p) (upd H p o) S :=
  ⟨s.nd, s.len, fun n a m h1 h2 => (s.obj n a m h1 h2).ext (Ext.hide ι h) (by
    obtain ⟨u, h3, _⟩ := (s.obj n a m h1 h2).there
    rw [upd_ne (ne_of_none h3 h)]), fun a ha z => by
      rcases List.mem_cons.mp ha with rfl | ha
      · rw [upd_same] at z; cases z
      · exact s.hid a ha (upd_fre z), fun a ha z => by
      rcases List.mem_cons.mp z with rfl | z
      · exact (s.notIn h).1 ha
      · exact s.apart a ha z⟩
theorem out_show {p a : Addr} (h : ι.out a) : (ι.show_ p).out a := ⟨h.1, fun z => h.2 (List.mem_filter.mp z).1⟩
/-- what is hidden is written -/
theorem Ext.writeH {S : Store} (s : Sim K ι H S) {p : Addr} {o o' : HO} (hp : p ∈ ι.hid) (hs : p ∉ ι.st) (h : H p = some o') (nt : ∀ xs, o' ≠ .tup xs) (nf : ∀ b u, o' ≠ .frz b u) :
    (∀ v d, RepV K ι H v d → RepV K ι (upd H p o) v d) ∧ Sim K ι (upd H p o) S := by
  -- the frame of all but p
  have key : (∀ (d : D) (v : V), RepV K ι H v d → RepV K ι (upd H p o) v d) := by
    have sq : ∀ {a : Addr} {xs : List V}, H a = some (.tup xs) → upd H p o a = some (.tup xs) := fun {a xs} q => by
      rw [upd_ne (fun z => by rw [z, h] at q; cases q; exact nt _ rfl)]; exact q
    have ne : ∀ {a : Addr}, ι.out a → a ≠ p := fun q z => q.2 (z ▸ hp)
    intro d
    refine D.rec (motive_1 := fun d => ∀ v, RepV K ι H v d → RepV K ι (upd H p o) v d) (motive_2 := fun ds => ∀ vs, RepVs K ι H vs ds → RepVs K ι (upd H p o) vs ds) (motive_3 := fun ds => ∀ vs, RepKs K ι H vs ds → RepKs K ι (upd H p o) vs ds)
      (motive_4 := fun kd => ∀ v, RepV K ι H v kd.2 → RepV K ι (upd H p o) v kd.2) (fun _ h => h) (fun _ _ h => h) (fun _ _ h => h) (fun _ _ h => h) (fun _ _ h => h) ?_ ?_ ?_ ?_ ?_ ?_ ?_ ?_ ?_ ?_ ?_ d
    · rintro ds ih v ⟨a, xs, e, h1, h2⟩
      exact ⟨a, xs, e, sq h1, ih xs h2⟩
    · rintro ds ih v ⟨a, xs, e, h1, h2, h3⟩
      exact ⟨a, xs, e, by rw [upd_ne (ne h2)]; exact h1, h2, ih xs h3⟩
    · rintro ds ih v ⟨a, xs, e, h1, h2, h3⟩
      refine ⟨a, xs, e, ?_, h2, ih xs h3⟩
      rcases h1 with h1 | ⟨b, h1⟩
      · exact .inl (by rw [upd_ne (ne h2)]; exact h1)
      · exact .inr ⟨b, by rw [upd_ne (ne h2)]; exact h1⟩
    · rintro ns v ⟨a, e, h1⟩
      refine ⟨a, e, ?_⟩
      rcases h1 with ⟨b, h1⟩ | h1
      · exact .inl ⟨b, by rw [upd_ne (fun z => by rw [z, h] at h1; cases h1; exact nf _ _ rfl)]; exact h1⟩
      · exact .inr h1
    · exact fun n v h => h
    · rintro C ls ih v ⟨a, dd, xs, e, ⟨oe, u, cls, h1, h1'⟩, h2, h3⟩
      refine ⟨a, dd, xs, e, ⟨oe, u, cls, by rw [upd_ne (fun z => by rw [z, h] at h1; cases h1; exact nf _ _ rfl)]; exact h1, h1'⟩, ih xs h2, ?_⟩
      rcases h3 with h3 | ⟨p', y, q1, q2, q3, q4⟩
      · exact .inl h3
      · exact .inr ⟨p', y, q1, q2, by rw [upd_ne (ne q4)]; exact q3, q4⟩
    · exact fun vs h => h
    · rintro d ds ih1 ih2 vs ⟨x, r, e, h1, h2⟩
      exact ⟨x, r, e, ih1 x h1, ih2 r h2⟩
    · exact fun vs h => h
    · rintro ⟨k, d⟩ ds ih1 ih2 vs ⟨x, r, e, h1, h2⟩
      exact ⟨x, r, e, ih1 x h1, ih2 r h2⟩
    · exact fun k d ih v h => ih v h
  refine ⟨fun v d => key d v, s.nd, s.len, fun n a m h1 h2 => ?_, fun a ha z => s.hid a ha (upd_fre z), s.apart⟩
  have na : a ≠ p := fun z => hs (z ▸ List.mem_of_getElem? h1)
  have lk : ∀ (ds : List D) (vs : List V), RepVs K ι H vs ds → RepVs K ι (upd H p o) vs ds := by
    intro ds
    induction ds with
    | nil => exact fun _ h => h
    | cons d ds ih => rintro vs ⟨x, r, e, h1, h2⟩; exact ⟨x, r, e, key d x h1, ih r h2⟩
  have kk : ∀ (ds : List (Key × D)) (vs : List (Key × V)), RepKs K ι H vs ds → RepKs K ι (upd H p o) vs ds := by
    intro ds
    induction ds with
    | nil => exact fun _ h => h
    | cons d ds ih => rintro vs ⟨x, r, e, h1, h2⟩; exact ⟨x, r, e, key d.2 x h1, ih r h2⟩
  have fk : ∀ (ds : List (Str × D)) (vs : List (Str × V)), RepFs K ι H vs ds → RepFs K ι (upd H p o) vs ds := by
    intro ds
    induction ds with
    | nil => exact fun _ h => h
    | cons d ds ih => rintro vs ⟨x, r, e, h1, h2⟩; exact ⟨x, r, e, key d.2 x h1, ih r h2⟩
  have tk : ∀ (ds : List (List Key × D)) (vs : List (List Key × V)), RepTs K ι H vs ds → RepTs K ι (upd H p o) vs ds := by
    intro ds
    induction ds with
    | nil => exact fun _ h => h
    | cons d ds ih =>
      rintro vs ⟨x, r, e, h1, h2, b, h3⟩
      exact ⟨x, r, e, key d.2 x h1, ih r h2, b, by rw [upd_ne (fun z => by rw [z, h] at h3; cases h3; exact nt _ rfl)]; exact h3⟩
  cases m with
  | lst ds =>
    obtain ⟨xs, q1, q2⟩ := s.obj n a _ h1 h2
    exact ⟨xs, by rw [upd_ne na]; exact q1, lk ds xs q2⟩
  | dct ds =>
    obtain ⟨xs, q1, q2⟩ := s.obj n a _ h1 h2
    exact ⟨xs, by rw [upd_ne na]; exact q1, kk ds xs q2⟩
  | ins C fs =>
    obtain ⟨dx, kv, q1, q2⟩ := s.obj n a _ h1 h2
    exact ⟨dx, kv, by rw [upd_ne na]; exact q1, fk fs kv q2⟩
  | ldc ds =>
    obtain ⟨oo, xs, q1, q2⟩ := s.obj n a _ h1 h2
    exact ⟨oo, xs, by rw [upd_ne na]; exact q1, kk ds xs q2⟩
  | dcT ds =>
    obtain ⟨xs, q1, q2⟩ := s.obj n a _ h1 h2
    exact ⟨xs, by rw [upd_ne na]; exact q1, tk ds xs q2⟩
  | ldT ds =>
    obtain ⟨oo, xs, q1, q2⟩ := s.obj n a _ h1 h2
    exact ⟨oo, xs, by rw [upd_ne na]; exact q1, tk ds xs q2⟩
end
end FL

/-! FB: the judgements by functions: expressions, tests, argument lists, statements. -/
namespace FL
open PySem PySem.Spec PyProof.Rows L2

section
variable (K : PySem.W.Frag) (W : WX)
/-- what a result is to lead to -/
def FinE {α : Type} (ι : Io) (H : Hp) (σ : L2.St) (g : Io → Hp → α → Prop) : R α → Prop
  | .ok d S' => ∀ H' ι', Ext ι H ι' H' → Sim K ι' H' S' → g ι' H' d
  | .ex c S' => ∀ cls dd H' ι', Ext ι H ι' H' → Sim K ι' H' S' → RepX K ι' H' c cls dd → W cls dd σ H'
  | .bad => False
def tF (ev : Ev) : TE := fun σ H Q => ∃ ι e S, SimE K ι H σ e ∧ Sim K ι H S ∧ FinE K W ι H σ (fun ι' H' d => ∀ v, RepV K ι' H' v d → Q v H') (ev e S)
def tFB (ev : EvB) : TT := fun σ H Q => ∃ ι e S, SimE K ι H σ e ∧ Sim K ι H S ∧ FinE K W ι H σ (fun _ H' b => Q b H') (ev e S)
def tFL (ev : EvL) : TA := fun σ H Q => ∃ ι e S, SimE K ι H σ e ∧ Sim K ι H S ∧ FinE K W ι H σ (fun ι' H' d => ∀ v, RepVs K ι' H' v d → Q v H') (ev e S)
def FinS (ι : Io) (H : Hp) (D' : Ends) : SR → Prop
  | .nx e S => ∀ σ' H' ι', Ext ι H ι' H' → SimE K ι' H' σ' e → Sim K ι' H' S → D'.nx σ' H'
  | .rt d S => ∀ v H' ι', Ext ι H ι' H' → Sim K ι' H' S → RepV K ι' H' v d → D'.rt v H'
  | .bk e S => ∀ σ' H' ι', Ext ι H ι' H' → SimE K ι' H' σ' e → Sim K ι' H' S → D'.bk σ' H'
  | .ct e S => ∀ σ' H' ι', Ext ι H ι' H' → SimE K ι' H' σ' e → Sim K ι' H' S → D'.ct σ' H'
  | .ex c e S => ∀ cls dd σ' H' ι', Ext ι H ι' H' → SimE K ι' H' σ' e → Sim K ι' H' S → RepX K ι' H' c cls dd → W cls dd σ' H'
  | .bad => False
def tFS (ev : EvS) : TS := fun D' σ H => ∃ ι e S, SimE K ι H σ e ∧ Sim K ι H S ∧ FinS K W ι H D' (ev e S)
end
section
variable {K : PySem.W.Frag} {W : WX} {ι ι' : Io} {H H' : Hp} {σ : L2.St}
theorem FinE.ext {α : Type} {g : Io → Hp → α → Prop} (x : Ext ι H ι' H') : ∀ {r : R α}, FinE K W ι H σ g r → FinE K W ι' H' σ g r
  | .ok _ _, h => fun _ _ y s => h _ _ (x.trans y) s
  | .ex _ _, h => fun _ _ _ _ y s q => h _ _ _ _ (x.trans y) s q
  | .bad, h => h
theorem FinS.ext {D' : Ends} (x : Ext ι H ι' H') : ∀ {r : SR}, FinS K W ι H D' r → FinS K W ι' H' D' r
  | .nx _ _, h => fun _ _ _ y s z => h _ _ _ (x.trans y) s z
  | .rt _ _, h => fun _ _ _ y s z => h _ _ _ (x.trans y) s z
  | .bk _ _, h => fun _ _ _ y s z => h _ _ _ (x.trans y) s z
  | .ct _ _, h => fun _ _ _ y s z => h _ _ _ (x.trans y) s z
  | .ex _ _ _, h => fun _ _ _ _ _ y s z q => h _ _ _ _ _ (x.trans y) s z q
  | .bad, h => h
theorem FinE.mono {α : Type} {g g' : Io → Hp → α → Prop} (hg : ∀ ι' H' a, Ext ι H ι' H' → g ι' H' a → g' ι' H' a) : ∀ {r : R α}, FinE K W ι H σ g r → FinE K W ι H σ g' r
  | .ok _ _, h => fun _ _ y s => hg _ _ _ y (h _ _ y s)
  | .ex _ _, h => h
  | .bad, h => h
/-- one after another -/
theorem FinE.bind {α β : Type} {g : Io → Hp → β → Prop} {f : α → Store → R β} : ∀ {r : R α}, FinE K W ι H σ g (r.bind f) →
    FinE K W ι H σ (fun ι' H' a => ∃ S', r = .ok a S' ∧ Ext ι H ι' H' ∧ Sim K ι' H' S' ∧ FinE K W ι' H' σ g (f a S')) r
  | .ok a S', h => fun ι' H' x s => ⟨S', rfl, x, s, h.ext x⟩
  | .ex c S', h => h
  | .bad, h => h
theorem FinE.bindS {α : Type} {D' : Ends} {e : Fenv} {f : α → Store → SR} (se : SimE K ι H σ e) : ∀ {r : R α}, FinS K W ι H D' (r.bindS e f) →
    FinE K W ι H σ (fun ι' H' a => ∃ S', r = .ok a S' ∧ Ext ι H ι' H' ∧ SimE K ι' H' σ e ∧ Sim K ι' H' S' ∧ FinS K W ι' H' D' (f a S')) r
  | .ok a S', h => fun ι' H' x s => ⟨S', rfl, x, se.ext x, s, h.ext x⟩
  | .ex c S', h => fun cls dd H' ι' x s q => h cls dd σ H' ι' x (se.ext x) s q
  | .bad, h => h
end

def PEF (X : Cx) (W : WX) (e : Expr) (ev : Ev) : Prop := PE X e (tF X.K W ev)
def PTF (X : Cx) (W : WX) (e : Expr) (ev : EvB) : Prop := PT X e (tFB X.K W ev)
def PAF (X : Cx) (W : WX) (es : List Expr) (ev : EvL) : Prop := PA X es (tFL X.K W ev)
def PSF (X : Cx) (W : WX) (s : Stmt) (ev : EvS) : Prop := PS X s (tFS X.K W ev)
def PSsF (X : Cx) (W : WX) (s : List Stmt) (ev : EvS) : Prop := PSs X s (tFS X.K W ev)

theorem PE.weak {X : Cx} {e : Expr} {t t' : TE} (h : PE X e t) (w : ∀ σ H Q, t' σ H Q → t σ H Q) : PE X e t' := ⟨fun p s σ H Q I q => h.run p s σ H Q I (w σ H Q q)⟩
theorem PT.weak {X : Cx} {e : Expr} {t t' : TT} (h : PT X e t) (w : ∀ σ H Q, t' σ H Q → t σ H Q) : PT X e t' := ⟨fun p s σ H Q I q => h.run p s σ H Q I (w σ H Q q)⟩
theorem PA.weak {X : Cx} {e : List Expr} {t t' : TA} (h : PA X e t) (w : ∀ σ H Q, t' σ H Q → t σ H Q) : PA X e t' := ⟨fun o p s σ H Q I q => h.run o p s σ H Q I (w σ H Q q)⟩
theorem PS.weak {X : Cx} {e : Stmt} {t t' : TS} (h : PS X e t) (w : ∀ D σ H, t' D σ H → t D σ H) : PS X e t' := ⟨fun p s σ H D I q => h.run p s σ H D I (w D σ H q)⟩
theorem PSs.weak {X : Cx} {e : List Stmt} {t t' : TS} (h : PSs X e t) (w : ∀ D σ H, t' D σ H → t D σ H) : PSs X e t' := ⟨fun p s σ H D I q => h.run p s σ H D I (w D σ H q)⟩

/-- a reading of the parts leads to the wanted one -/
theorem tF.of {K : PySem.W.Frag} {W : WX} {ι : Io} {H : Hp} {σ : L2.St} {e : Fenv} {S : Store} {ev : Ev} {Q : VK} (se : SimE K ι H σ e) (s : Sim K ι H S)
    (h : FinE K W ι H σ (fun ι' H' d => ∀ v, RepV K ι' H' v d → Q v H') (ev e S)) : tF K W ev σ H Q := ⟨ι, e, S, se, s, h⟩

section
variable {X : Cx} {W : WX}

/-! ### names, constants -/
def evVar (i : Nat) : Ev := fun e S => match e[i]? with
  | some (some d) => .ok d S
  | _ => .bad
def evC (d : D) : Ev := fun _ S => .ok d S
theorem f_var (i : Nat) {x : Str} {pos : Pos} (hN : X.N[i]? = some x := by rfl) (hv : Vis X.env.scope x := by first | exact Or.inl rfl | exact Or.inr (Or.inl rfl) | exact Or.inr (Or.inr rfl)) (hd : (x == ("__debug__" : Str)) = false := by decide)
    (hcd : (x == ("__classdict__" : Str)) = false := by decide) : PEF X W (.Name x pos) (evVar i) := by
  refine PE.weak (pe_var (i := i) hN hv hd hcd) ?_
  rintro σ H Q ⟨ι, e, S, se, s, h⟩
  unfold evVar at h
  cases q : e[i]? with
  | none => rw [q] at h; exact h.elim
  | some o =>
    rw [q] at h
    cases o with
    | none => exact h.elim
    | some d =>
      obtain ⟨v, h1, h2⟩ := se.get i d q
      exact ⟨v, h1, h H ι (Ext.refl ι H) s v h2⟩
/-- a constant, or a name of the module that holds one -/
theorem f_const {e : Expr} {v : V} {d : D} (h : PE X e (tC v)) (r : ∀ ι H, RepV X.K ι H v d) : PEF X W e (evC d) := by
  refine PE.weak h ?_
  rintro σ H Q ⟨ι, e, S, se, s, h⟩
  exact h H ι (Ext.refl ι H) s v (r _ _)
theorem f_int {i : Int} {j pos} : PEF X W (.Constant (.int i) j pos) (evC (.int i)) := f_const pe_int fun _ _ => rfl
theorem f_bl {b : Bool} {j pos} : PEF X W (.Constant (.bool b) j pos) (evC (.bl b)) := f_const pe_bl fun _ _ => rfl
theorem f_non {j pos} : PEF X W (.Constant .none j pos) (evC .non) := f_const pe_non fun _ _ => rfl
theorem f_str {x : Str} {j pos} : PEF X W (.Constant (.str x) j pos) (evC (.str x)) := f_const pe_str fun _ _ => rfl

/-! ### two parts in a row -/
def ev1 (f : D → Store → R D) (a : Ev) : Ev := fun e S => (a e S).bind f
def ev2 (f : D → D → Store → R D) (a b : Ev) : Ev := fun e S => (a e S).bind fun x S1 => (b e S1).bind fun y S2 => f x y S2
/-- a rule by values is served by a function on data -/
def Ok1 (K : PySem.W.Frag) (r : V → Hp → VK → Prop) (f : D → Store → R D) : Prop := ∀ (W : WX) (σ : L2.St) (ι : Io) (H : Hp) (S : Store) (x : V) (d : D) (Q : VK), Sim K ι H S → RepV K ι H x d →
  FinE K W ι H σ (fun ι' H' z => ∀ v, RepV K ι' H' v z → Q v H') (f d S) → r x H Q
def Ok2 (K : PySem.W.Frag) (r : R2) (f : D → D → Store → R D) : Prop := ∀ (W : WX) (σ : L2.St) (ι : Io) (H : Hp) (S : Store) (x y : V) (d e : D) (Q : VK), Sim K ι H S → RepV K ι H x d → RepV K ι H y e →
  FinE K W ι H σ (fun ι' H' z => ∀ v, RepV K ι' H' v z → Q v H') (f d e S) → r x y H Q
def OkN (K : PySem.W.Frag) (r : List V → Hp → VK → Prop) (f : List D → Store → R D) : Prop := ∀ (W : WX) (σ : L2.St) (ι : Io) (H : Hp) (S : Store) (xs : List V) (ds : List D) (Q : VK), Sim K ι H S → RepVs K ι H xs ds →
  FinE K W ι H σ (fun ι' H' z => ∀ v, RepV K ι' H' v z → Q v H') (f ds S) → r xs H Q
def OkM (K : PySem.W.Frag) (r : V → List V → Hp → VK → Prop) (f : D → List D → Store → R D) : Prop := ∀ (W : WX) (σ : L2.St) (ι : Io) (H : Hp) (S : Store) (x : V) (d : D) (xs : List V) (ds : List D) (Q : VK), Sim K ι H S → RepV K ι H x d → RepVs K ι H xs ds →
  FinE K W ι H σ (fun ι' H' z => ∀ v, RepV K ι' H' v z → Q v H') (f d ds S) → r x xs H Q

theorem tF.bind1 {K : PySem.W.Frag} {σ : L2.St} {H : Hp} {Q : VK} {ι : Io} {e : Fenv} {S : Store} {a : Ev} {f : D → Store → R D} {G : VK} (se : SimE K ι H σ e) (s : Sim K ι H S)
    (h : FinE K W ι H σ (fun ι' H' z => ∀ v, RepV K ι' H' v z → Q v H') (ev1 f a e S))
    (k : ∀ ι1 H1 S1 x d, Ext ι H ι1 H1 → SimE K ι1 H1 σ e → Sim K ι1 H1 S1 → RepV K ι1 H1 x d → FinE K W ι1 H1 σ (fun ι' H' z => ∀ v, RepV K ι' H' v z → Q v H') (f d S1) → G x H1) : tF K W a σ H G := by
  refine ⟨ι, e, S, se, s, FinE.mono ?_ (FinE.bind h)⟩
  rintro ι1 H1 d x1 ⟨S1, _, x, s1, h1⟩ v r
  exact k ι1 H1 S1 v d x (se.ext x) s1 r h1
theorem f_un {op : UnaryOp} {r : V → Hp → VK → Prop} {f : D → Store → R D} {a : Expr} {ea : Ev} {pos : Pos} (ho : UnR X (unaryOp op) r) (hf : Ok1 X.K r f) (ha : PEF X W a ea) : PEF X W (.UnaryOp op a pos) (ev1 f ea) := by
  refine PE.weak (pe_un ho ha) ?_
  rintro σ H Q ⟨ι, e, S, se, s, h⟩
  exact tF.bind1 se s h fun ι1 H1 S1 x d _ _ s1 rx h1 => hf W σ ι1 H1 S1 x d Q s1 rx h1
theorem two_of {K : PySem.W.Frag} {σ : L2.St} {H : Hp} {Q : VK} {ι : Io} {e : Fenv} {S : Store} {a b : Ev} {f : D → D → Store → R D} {G : V → V → Hp → Prop} (se : SimE K ι H σ e) (s : Sim K ι H S)
    (h : FinE K W ι H σ (fun ι' H' z => ∀ v, RepV K ι' H' v z → Q v H') (ev2 f a b e S))
    (k : ∀ ι2 H2 S2 x y d d', Ext ι H ι2 H2 → Sim K ι2 H2 S2 → RepV K ι2 H2 x d → RepV K ι2 H2 y d' → FinE K W ι2 H2 σ (fun ι' H' z => ∀ v, RepV K ι' H' v z → Q v H') (f d d' S2) → G x y H2) :
    tF K W a σ H fun x H1 => tF K W b σ H1 fun y H2 => G x y H2 := by
  refine ⟨ι, e, S, se, s, FinE.mono ?_ (FinE.bind h)⟩
  rintro ι1 H1 d x1 ⟨S1, _, x, s1, h1⟩ v r
  refine ⟨ι1, e, S1, se.ext x, s1, FinE.mono ?_ (FinE.bind h1)⟩
  rintro ι2 H2 d' x2 ⟨S2, _, y, s2, h2⟩ v' r'
  exact k ι2 H2 S2 v v' d d' (x.trans y) s2 (RepV.ext y d v r) r' h2
theorem f_bin {op : Operator} {r : R2} {f : D → D → Store → R D} {a b : Expr} {ea eb : Ev} {pos : Pos} (ho : OpR X (binaryOp op) r) (hf : Ok2 X.K r f) (ha : PEF X W a ea) (hb : PEF X W b eb) : PEF X W (.BinOp a op b pos) (ev2 f ea eb) := by
  refine PE.weak (pe_op ho ha hb) ?_
  rintro σ H Q ⟨ι, e, S, se, s, h⟩
  exact two_of se s h fun ι2 H2 S2 x y d d' _ s2 rx ry h2 => hf W σ ι2 H2 S2 x y d d' Q s2 rx ry h2
theorem f_cmp {op : CmpOp} {r : R2} {f : D → D → Store → R D} {a b : Expr} {ea eb : Ev} {pos : Pos} (ho : OpR X (compareOp op) r) (hf : Ok2 X.K r f) (ha : PEF X W a ea) (hb : PEF X W b eb) (hm : behindInMarks op b = false) : PEF X W (.Compare a [op] [b] pos) (ev2 f ea eb) := by
  refine PE.weak (pe_cmpR ho ha hb hm) ?_
  rintro σ H Q ⟨ι, e, S, se, s, h⟩
  exact two_of se s h fun ι2 H2 S2 x y d d' _ s2 rx ry h2 => hf W σ ι2 H2 S2 x y d d' Q s2 rx ry h2
theorem f_ix {r : R2} {f : D → D → Store → R D} {a b : Expr} {ea eb : Ev} {pos : Pos} (ho : IxR X r) (hf : Ok2 X.K r f) (ha : PEF X W a ea) (hb : PEF X W b eb) (hs : PlainIx b := by exact fun _ _ => rfl) : PEF X W (.Subscript a b pos) (ev2 f ea eb) := by
  refine PE.weak (pe_ix ho ha hb hs) ?_
  rintro σ H Q ⟨ι, e, S, se, s, h⟩
  exact two_of se s h fun ι2 H2 S2 x y d d' _ s2 rx ry h2 => hf W σ ι2 H2 S2 x y d d' Q s2 rx ry h2

/-! ### lists of parts -/
def evNil : EvL := fun _ S => .ok [] S
def evCons (a : Ev) (r : EvL) : EvL := fun e S => (a e S).bind fun x S1 => (r e S1).bind fun xs S2 => .ok (x :: xs) S2
theorem fa_nil : PAF X W [] evNil := by
  refine PA.weak pa_nil ?_
  rintro σ H Q ⟨ι, e, S, se, s, h⟩
  exact h H ι (Ext.refl ι H) s [] rfl
theorem fa_cons {e : Expr} {es : List Expr} {a : Ev} {r : EvL} (ha : PEF X W e a) (hr : PAF X W es r) (hs : starEach (e :: es) X.env = (false, eval e X.env) :: starEach es X.env := by rfl) : PAF X W (e :: es) (evCons a r) := by
  refine PA.weak (pa_cons ha hr hs) ?_
  rintro σ H Q ⟨ι, e, S, se, s, h⟩
  refine ⟨ι, e, S, se, s, FinE.mono ?_ (FinE.bind h)⟩
  rintro ι1 H1 d x1 ⟨S1, _, x, s1, h1⟩ v rv
  refine ⟨ι1, e, S1, se.ext x, s1, FinE.mono ?_ (FinE.bind h1)⟩
  rintro ι2 H2 d' x2 ⟨S2, _, y, s2, h2⟩ vs rs
  exact h2 H2 ι2 (Ext.refl _ _) s2 (v :: vs) ⟨v, vs, rfl, RepV.ext y d v rv, rs⟩
def evN (f : List D → Store → R D) (a : EvL) : Ev := fun e S => (a e S).bind f
theorem many_of {K : PySem.W.Frag} {σ : L2.St} {H : Hp} {Q : VK} {ι : Io} {e : Fenv} {S : Store} {a : EvL} {f : List D → Store → R D} {G : List V → Hp → Prop} (se : SimE K ι H σ e) (s : Sim K ι H S)
    (h : FinE K W ι H σ (fun ι' H' z => ∀ v, RepV K ι' H' v z → Q v H') (evN f a e S))
    (k : ∀ ι1 H1 S1 xs ds, Ext ι H ι1 H1 → Sim K ι1 H1 S1 → RepVs K ι1 H1 xs ds → FinE K W ι1 H1 σ (fun ι' H' z => ∀ v, RepV K ι' H' v z → Q v H') (f ds S1) → G xs H1) : tFL K W a σ H G := by
  refine ⟨ι, e, S, se, s, FinE.mono ?_ (FinE.bind h)⟩
  rintro ι1 H1 d x1 ⟨S1, _, x, s1, h1⟩ v r
  exact k ι1 H1 S1 v d x s1 r h1
/-- f(a, ..), f a built-in -/
theorem f_callB {id : String} {r : List V → Hp → VK → Prop} {f : List D → Store → R D} {x : Str} {p pos : Pos} {e : Expr} {es : List Expr} {a : EvL} (hc : CallR X (.builtin id) r) (hf : OkN X.K r f) (hg : Gl X x) (hm : X.mg x = none) (hv : bootBuiltins x = some (.builtin id))
    (ha : PAF X W (e :: es) a) (hn : x ≠ "__name__" := by decide) (hdb : (x == ("__debug__" : Str)) = false := by decide)
    (he : starEach (e :: es) X.env = (false, eval e X.env) :: starEach es X.env := by rfl) (hpl : (backTo pos (starEach es X.env)).any (·.1) = false := by rfl) : PEF X W (.Call (.Name x p) (e :: es) [] pos) (evN f a) := by
  refine PE.weak (pe_callB hc hg hm hv ha hn hdb he hpl) ?_
  rintro σ H Q ⟨ι, e, S, se, s, h⟩
  exact many_of se s h fun ι1 H1 S1 xs ds _ s1 rx h1 => hf W σ ι1 H1 S1 xs ds Q s1 rx h1
theorem f_callT {T : String} {r : List V → Hp → VK → Prop} {f : List D → Store → R D} {x : Str} {p pos : Pos} {e : Expr} {es : List Expr} {a : EvL} (hc : CallR X (.type T) r) (hf : OkN X.K r f) (hg : Gl X x) (hm : X.mg x = none) (hv : bootBuiltins x = some (.type T))
    (ha : PAF X W (e :: es) a) (hn : x ≠ "__name__" := by decide) (hdb : (x == ("__debug__" : Str)) = false := by decide)
    (he : starEach (e :: es) X.env = (false, eval e X.env) :: starEach es X.env := by rfl) (hpl : (backTo pos (starEach es X.env)).any (·.1) = false := by rfl) : PEF X W (.Call (.Name x p) (e :: es) [] pos) (evN f a) := by
  refine PE.weak (pe_callTy hc hg hm hv ha hn hdb he hpl) ?_
  rintro σ H Q ⟨ι, e, S, se, s, h⟩
  exact many_of se s h fun ι1 H1 S1 xs ds _ s1 rx h1 => hf W σ ι1 H1 S1 xs ds Q s1 rx h1

/-! ### tests -/
def evT (a : Ev) : EvB := fun e S => (a e S).bind fun d S1 => match d with
  | .bl b => .ok b S1
  | _ => .bad
theorem ft_val {e : Expr} {a : Ev} (ha : PEF X W e a) (he : ∀ whole, isTrue e X.env whole = (do let v ← whole; standAt e.pos; holding [v] (truthy v)) := by intro _; rfl) : PTF X W e (evT a) := by
  refine PT.weak (pt_val ha he) ?_
  rintro σ H Q ⟨ι, e, S, se, s, h⟩
  refine ⟨ι, e, S, se, s, FinE.mono ?_ (FinE.bind h)⟩
  rintro ι1 H1 d x1 ⟨S1, _, x, s1, h1⟩ v r
  cases d with
  | bl b => exact ⟨b, r, h1 H1 ι1 (Ext.refl _ _) s1⟩
  | _ => exact h1.elim
theorem ft_cmp {op : CmpOp} {r : R2} {f : D → D → Store → R D} {a b : Expr} {ea eb : Ev} {pos : Pos} (ho : OpR X (compareOp op) r) (hf : Ok2 X.K r f) (ha : PEF X W a ea) (hb : PEF X W b eb) (hm : behindInMarks op b = false) : PTF X W (.Compare a [op] [b] pos) (evT (ev2 f ea eb)) := by
  refine PT.weak (pt_cmpR ho ha hb hm) ?_
  rintro σ H Q ⟨ι, e, S, se, s, h⟩
  show tF X.K W ea σ H fun x H1 => tF X.K W eb σ H1 fun y H2 => r x y H2 fun x H' => ∃ k, x = .bl k ∧ Q k H'
  have h' := FinE.bind h
  refine two_of (Q := fun v H' => ∃ k, v = .bl k ∧ Q k H') se s (FinE.mono ?_ h') fun ι2 H2 S2 x y d d' _ s2 rx ry h2 => hf W σ ι2 H2 S2 x y d d' _ s2 rx ry h2
  rintro ι1 H1 d x1 ⟨S1, _, x, s1, h1⟩ v r
  cases d with
  | bl b => exact ⟨b, r, h1 H1 ι1 (Ext.refl _ _) s1⟩
  | _ => exact h1.elim
def evNot (a : EvB) : EvB := fun e S => (a e S).bind fun b S1 => .ok (!b) S1
def evAnd (a b : EvB) : EvB := fun e S => (a e S).bind fun c S1 => if c = true then b e S1 else .ok false S1
def evOr (a b : EvB) : EvB := fun e S => (a e S).bind fun c S1 => if c = true then .ok true S1 else b e S1
theorem ft_not {a : Expr} {ea : EvB} {pos : Pos} (ha : PTF X W a ea) : PTF X W (.UnaryOp .Not a pos) (evNot ea) := by
  refine PT.weak (pt_not ha) ?_
  rintro σ H Q ⟨ι, e, S, se, s, h⟩
  refine ⟨ι, e, S, se, s, FinE.mono ?_ (FinE.bind h)⟩
  rintro ι1 H1 b x1 ⟨S1, _, x, s1, h1⟩
  exact h1 H1 ι1 (Ext.refl _ _) s1
def PWF (X : Cx) (W : WX) (e : Expr) (ev : EvB) : Prop := PW X e (tFB X.K W ev)
theorem PW.weak {X : Cx} {e : Expr} {t t' : TT} (h : PW X e t) (w : ∀ σ H Q, t' σ H Q → t σ H Q) : PW X e t' := ⟨fun wh p s σ H Q I q => h.run wh p s σ H Q I (w σ H Q q)⟩
theorem fw_one {op : BoolOp} {a : Expr} {ea : EvB} {pos : Pos} (ha : PTF X W a ea) : PWF X W (.BoolOp op [a] pos) ea := by
  cases op with
  | And => exact pw_and1 ha
  | Or => exact pw_or1 ha
theorem fw_and {a b : Expr} {rest : List Expr} {ea eb : EvB} {pos : Pos} (ha : PTF X W a ea) (hb : PWF X W (.BoolOp .And (b :: rest) pos) eb) : PWF X W (.BoolOp .And (a :: b :: rest) pos) (evAnd ea eb) := by
  refine PW.weak (pw_and ha hb) ?_
  rintro σ H Q ⟨ι, e, S, se, s, h⟩
  refine ⟨ι, e, S, se, s, FinE.mono ?_ (FinE.bind h)⟩
  rintro ι1 H1 b x1 ⟨S1, _, x, s1, h1⟩
  cases b with
  | true => exact ⟨ι1, e, S1, se.ext x, s1, h1⟩
  | false => exact h1 H1 ι1 (Ext.refl _ _) s1
theorem fw_or {a b : Expr} {rest : List Expr} {ea eb : EvB} {pos : Pos} (ha : PTF X W a ea) (hb : PWF X W (.BoolOp .Or (b :: rest) pos) eb) : PWF X W (.BoolOp .Or (a :: b :: rest) pos) (evOr ea eb) := by
  refine PW.weak (pw_or ha hb) ?_
  rintro σ H Q ⟨ι, e, S, se, s, h⟩
  refine ⟨ι, e, S, se, s, FinE.mono ?_ (FinE.bind h)⟩
  rintro ι1 H1 b x1 ⟨S1, _, x, s1, h1⟩
  cases b with
  | true => exact h1 H1 ι1 (Ext.refl _ _) s1
  | false => exact ⟨ι1, e, S1, se.ext x, s1, h1⟩
theorem ft_bool {e : Expr} {ev : EvB} (h : PWF X W e ev) : PTF X W e ev := PW.pt h
/-- and, or, not as values -/
def evAndV (a b : Ev) : Ev := fun e S => (a e S).bind fun d S1 => match d with
  | .bl true => b e S1
  | .bl false => .ok (.bl false) S1
  | _ => .bad
def evOrV (a b : Ev) : Ev := fun e S => (a e S).bind fun d S1 => match d with
  | .bl true => .ok (.bl true) S1
  | .bl false => b e S1
  | _ => .bad
def evNotV (a : Ev) : Ev := fun e S => (a e S).bind fun d S1 => match d with
  | .bl b => .ok (.bl (!b)) S1
  | _ => .bad
theorem f_one {op : BoolOp} {a : Expr} {ea : Ev} {pos : Pos} (ha : PEF X W a ea) : PEF X W (.BoolOp op [a] pos) ea := pe_one ha
theorem f_and {a b : Expr} {rest : List Expr} {ea eb : Ev} {pos : Pos} (ha : PEF X W a ea) (hb : PEF X W (.BoolOp .And (b :: rest) pos) eb) : PEF X W (.BoolOp .And (a :: b :: rest) pos) (evAndV ea eb) := by
  refine PE.weak (pe_and ha hb) ?_
  rintro σ H Q ⟨ι, e, S, se, s, h⟩
  refine tF.bind1 se s h fun ι1 H1 S1 x d x1 se1 s1 rx h1 => ?_
  cases d with
  | bl c =>
    refine ⟨c, rx, ?_⟩
    cases c with
    | true => exact ⟨ι1, e, S1, se1, s1, h1⟩
    | false => exact h1 H1 ι1 (Ext.refl _ _) s1 _ rfl
  | _ => exact h1.elim
theorem f_or {a b : Expr} {rest : List Expr} {ea eb : Ev} {pos : Pos} (ha : PEF X W a ea) (hb : PEF X W (.BoolOp .Or (b :: rest) pos) eb) : PEF X W (.BoolOp .Or (a :: b :: rest) pos) (evOrV ea eb) := by
  refine PE.weak (pe_or ha hb) ?_
  rintro σ H Q ⟨ι, e, S, se, s, h⟩
  refine tF.bind1 se s h fun ι1 H1 S1 x d x1 se1 s1 rx h1 => ?_
  cases d with
  | bl c =>
    refine ⟨c, rx, ?_⟩
    cases c with
    | true => exact h1 H1 ι1 (Ext.refl _ _) s1 _ rfl
    | false => exact ⟨ι1, e, S1, se1, s1, h1⟩
  | _ => exact h1.elim
theorem f_not {a : Expr} {ea : Ev} {pos : Pos} (ha : PEF X W a ea) : PEF X W (.UnaryOp .Not a pos) (evNotV ea) := by
  refine PE.weak (pe_not ha) ?_
  rintro σ H Q ⟨ι, e, S, se, s, h⟩
  refine tF.bind1 se s h fun ι1 H1 S1 x d x1 se1 s1 rx h1 => ?_
  cases d with
  | bl c => exact ⟨c, rx, h1 H1 ι1 (Ext.refl _ _) s1 _ rfl⟩
  | _ => exact h1.elim
def evIf (c : EvB) (a b : Ev) : Ev := fun e S => (c e S).bind fun t S1 => if t = true then a e S1 else b e S1
theorem f_if {c a b : Expr} {ec : EvB} {ea eb : Ev} {pos : Pos} (hc : PTF X W c ec) (ha : PEF X W a ea) (hb : PEF X W b eb) : PEF X W (.IfExp c a b pos) (evIf ec ea eb) := by
  refine PE.weak (pe_ifExp hc ha hb) ?_
  rintro σ H Q ⟨ι, e, S, se, s, h⟩
  refine ⟨ι, e, S, se, s, FinE.mono ?_ (FinE.bind h)⟩
  rintro ι1 H1 b x1 ⟨S1, _, x, s1, h1⟩
  cases b with
  | true => exact ⟨ι1, e, S1, se.ext x, s1, h1⟩
  | false => exact ⟨ι1, e, S1, se.ext x, s1, h1⟩
def evChain (f g : D → D → Store → R D) (a b c : Ev) : Ev := fun e S => (a e S).bind fun x S1 => (b e S1).bind fun y S2 => (f x y S2).bind fun z S3 => match z with
  | .bl true => (c e S3).bind fun w S4 => g y w S4
  | .bl false => .ok (.bl false) S3
  | _ => .bad
theorem chain_of {K : PySem.W.Frag} {r r' : R2} {f g : D → D → Store → R D} {a b c : Ev} (hf : Ok2 K r f) (hg : Ok2 K r' g) {σ : L2.St} {H : Hp} {Q : VK} (h : tF K W (evChain f g a b c) σ H Q) : tChain r r' (tF K W a) (tF K W b) (tF K W c) σ H Q := by
  obtain ⟨ι, e, S, se, s, h⟩ := h
  refine ⟨ι, e, S, se, s, FinE.mono ?_ (FinE.bind h)⟩
  rintro ι1 H1 d x1 ⟨S1, _, x, s1, h1⟩ v rv
  refine ⟨ι1, e, S1, se.ext x, s1, FinE.mono ?_ (FinE.bind h1)⟩
  rintro ι2 H2 d2 x2 ⟨S2, _, y, s2, h2⟩ v2 r2
  refine hf W σ ι2 H2 S2 v v2 d d2 _ s2 (RepV.ext y d v rv) r2 (FinE.mono ?_ (FinE.bind h2))
  rintro ι3 H3 d3 x3 ⟨S3, _, z, s3, h3⟩ v3 r3
  cases d3 with
  | bl k =>
    refine ⟨k, r3, ?_⟩
    cases k with
    | false => exact h3 H3 ι3 (Ext.refl _ _) s3 _ rfl
    | true =>
      refine ⟨ι3, e, S3, (se.ext (x.trans y)).ext z, s3, FinE.mono ?_ (FinE.bind h3)⟩
      rintro ι4 H4 d4 x4 ⟨S4, _, q, s4, h4⟩ v4 r4
      exact hg W σ ι4 H4 S4 v2 v4 d2 d4 _ s4 (RepV.ext (z.trans q) d2 v2 r2) r4 h4
  | _ => exact h3.elim
theorem f_chain {op op' : CmpOp} {r r' : R2} {f g : D → D → Store → R D} {a b c : Expr} {ea eb ec : Ev} {pos : Pos} (ho : OpR X (compareOp op) r) (ho' : OpR X (compareOp op') r') (hf : Ok2 X.K r f) (hg : Ok2 X.K r' g) (ha : PEF X W a ea) (hb : PEF X W b eb) (hc : PEF X W c ec)
    (hm : lastMarks [op, op'] [b, c] = false := by rfl) : PEF X W (.Compare a [op, op'] [b, c] pos) (evChain f g ea eb ec) :=
  PE.weak (pe_chain ho ho' ha hb hc hm) fun _ _ _ h => chain_of hf hg h
theorem ft_chain {op op' : CmpOp} {r r' : R2} {f g : D → D → Store → R D} {a b c : Expr} {ea eb ec : Ev} {pos : Pos} (ho : OpR X (compareOp op) r) (ho' : OpR X (compareOp op') r') (hf : Ok2 X.K r f) (hg : Ok2 X.K r' g) (ha : PEF X W a ea) (hb : PEF X W b eb) (hc : PEF X W c ec)
    (hm : lastMarks [op, op'] [b, c] = false := by rfl) : PTF X W (.Compare a [op, op'] [b, c] pos) (evT (evChain f g ea eb ec)) := by
  refine PT.weak (pt_chain ho ho' ha hb hc hm) ?_
  rintro σ H Q ⟨ι, e, S, se, s, h⟩
  show tChain r r' _ _ _ σ H fun x H' => ∃ k, x = .bl k ∧ Q k H'
  refine chain_of (W := W) hf hg ⟨ι, e, S, se, s, FinE.mono ?_ (FinE.bind h)⟩
  rintro ι1 H1 d x1 ⟨S1, _, x, s1, h1⟩ v r
  cases d with
  | bl b => exact ⟨b, r, h1 H1 ι1 (Ext.refl _ _) s1⟩
  | _ => exact h1.elim

/-! ### statements -/
def evNext : EvS := fun e S => .nx e S
def evSeq (a b : EvS) : EvS := fun e S => match a e S with
  | .nx e1 S1 => b e1 S1
  | r => r
theorem fs_nil : PSsF X W [] evNext := by
  refine PSs.weak pss_nil ?_
  rintro D' σ H ⟨ι, e, S, se, s, h⟩
  exact h σ H ι (Ext.refl _ _) se s
theorem fs_cons {st : Stmt} {rest : List Stmt} {a b : EvS} (h1 : PSF X W st a) (h2 : PSsF X W rest b) : PSsF X W (st :: rest) (evSeq a b) := by
  refine PSs.weak (pss_cons h1 h2) ?_
  rintro D' σ H ⟨ι, e, S, se, s, h⟩
  refine ⟨ι, e, S, se, s, ?_⟩
  unfold evSeq at h
  cases q : a e S with
  | nx e1 S1 =>
    rw [q] at h
    intro σ1 H1 ι1 x se1 s1
    exact ⟨ι1, e1, S1, se1, s1, h.ext x⟩
  | rt d S1 => rw [q] at h; exact h
  | bk d S1 => rw [q] at h; exact h
  | ct d S1 => rw [q] at h; exact h
  | ex c d S1 => rw [q] at h; exact h
  | bad => rw [q] at h; exact h
theorem fs_one {st : Stmt} {a : EvS} (h1 : PSF X W st a) : PSsF X W [st] a := pss_one h1
def evDrop (a : Ev) : EvS := fun e S => (a e S).bindS e fun _ S1 => .nx e S1
theorem fs_expr {e : Expr} {a : Ev} {pos : Pos} (he : PEF X W e a) (hs : swapsWith e none pos.line X.env = pure false := by rfl) : PSF X W (.Expr e pos) (evDrop a) := by
  refine PS.weak (ps_expr he hs) ?_
  rintro D' σ H ⟨ι, e, S, se, s, h⟩
  refine ⟨ι, e, S, se, s, FinE.mono ?_ (FinE.bindS se h)⟩
  rintro ι1 H1 d x1 ⟨S1, _, x, se1, s1, h1⟩ v _
  exact h1 σ H1 ι1 (Ext.refl _ _) se1 s1
theorem fs_doc {x : Str} {j pos pos'} : PSF X W (.Expr (.Constant (.str x) j pos) pos') evNext := by
  refine PS.weak ps_doc ?_
  rintro D' σ H ⟨ι, e, S, se, s, h⟩
  exact h σ H ι (Ext.refl _ _) se s
theorem fs_pass {pos : Pos} : PSF X W (.Pass pos) evNext := by
  refine PS.weak ps_pass ?_
  rintro D' σ H ⟨ι, e, S, se, s, h⟩
  exact h σ H ι (Ext.refl _ _) se s
def evBrk : EvS := fun e S => .bk e S
def evCnt : EvS := fun e S => .ct e S
theorem fs_brk {pos : Pos} : PSF X W (.Break pos) evBrk := by
  refine PS.weak ps_break ?_
  rintro D' σ H ⟨ι, e, S, se, s, h⟩
  exact h σ H ι (Ext.refl _ _) se s
theorem fs_cnt {pos : Pos} : PSF X W (.Continue pos) evCnt := by
  refine PS.weak ps_continue ?_
  rintro D' σ H ⟨ι, e, S, se, s, h⟩
  exact h σ H ι (Ext.refl _ _) se s
def evRet (a : Ev) : EvS := fun e S => (a e S).bindS e fun d S1 => .rt d S1
theorem fs_ret {e : Expr} {a : Ev} {pos : Pos} (he : PEF X W e a) : PSF X W (.Return (some e) pos) (evRet a) := by
  refine PS.weak (ps_ret he) ?_
  rintro D' σ H ⟨ι, e, S, se, s, h⟩
  refine ⟨ι, e, S, se, s, FinE.mono ?_ (FinE.bindS se h)⟩
  rintro ι1 H1 d x1 ⟨S1, _, x, se1, s1, h1⟩ v r
  exact h1 v H1 ι1 (Ext.refl _ _) s1 r
theorem fs_retN {pos : Pos} : PSF X W (.Return none pos) (evRet (evC .non)) := by
  refine PS.weak ps_retN ?_
  rintro D' σ H ⟨ι, e, S, se, s, h⟩
  exact h .non H ι (Ext.refl _ _) s rfl
def evIfS (c : EvB) (a b : EvS) : EvS := fun e S => (c e S).bindS e fun t S1 => if t = true then a e S1 else b e S1
theorem fs_if {c : Expr} {a b : List Stmt} {ec : EvB} {ea eb : EvS} {pos : Pos} (hc : PTF X W c ec) (ha : PSsF X W a ea) (hb : PSsF X W b eb) : PSF X W (.If c a b pos) (evIfS ec ea eb) := by
  refine PS.weak (ps_if hc ha hb) ?_
  rintro D' σ H ⟨ι, e, S, se, s, h⟩
  refine ⟨ι, e, S, se, s, FinE.mono ?_ (FinE.bindS se h)⟩
  rintro ι1 H1 d x1 ⟨S1, _, x, se1, s1, h1⟩
  cases d with
  | true => exact ⟨ι1, e, S1, se1, s1, h1⟩
  | false => exact ⟨ι1, e, S1, se1, s1, h1⟩
/-- a way that is never gone -/
def evNever : EvS := fun _ _ => .bad
theorem fs_never {st : Stmt} : PSF X W st evNever := by
  refine PS.weak ps_never ?_
  rintro D' σ H ⟨ι, e, S, se, s, h⟩
  exact h.elim
theorem fss_never {st : List Stmt} : PSsF X W st evNever := by
  refine PSs.weak pss_never ?_
  rintro D' σ H ⟨ι, e, S, se, s, h⟩
  exact h.elim
theorem SimE.set {K : PySem.W.Frag} {ι : Io} {H : Hp} {σ : L2.St} {e : Fenv} (s : SimE K ι H σ e) {i : Nat} {v : V} {d : D} (r : RepV K ι H v d) : SimE K ι H (σ.set i (some v)) (e.set i (some d)) := by
  refine ⟨by simp [s.len], fun j d' h => ?_⟩
  by_cases hj : i = j
  · subst hj
    by_cases hl : i < e.length
    · rw [List.getElem?_set_self hl] at h
      cases h
      exact ⟨v, List.getElem?_set_self (by rw [← s.len]; exact hl), r⟩
    · rw [List.getElem?_eq_none (by simpa using hl)] at h
      cases h
  · rw [List.getElem?_set_ne hj] at h
    rw [List.getElem?_set_ne hj]
    exact s.get j d' h
/-! ### targets -/
/-- a target as a function: the value, the names, the store -/
abbrev EvG := D → Fenv → Store → R Fenv
abbrev EvGs := List D → Fenv → Store → R Fenv
/-- vs: the slots that it stores -/
def FinG (K : PySem.W.Frag) (ι : Io) (H : Hp) (σ : L2.St) (vs : List Nat) (Q : L2.St → Hp → Prop) : R Fenv → Prop
  | .ok e S => ∀ σ' H' ι', Ext ι H ι' H' → SimE K ι' H' σ' e → Sim K ι' H' S → (∀ (j : Nat), j ∉ vs → σ'[j]? = σ[j]?) → σ'.length = σ.length → Q σ' H'
  | _ => False
theorem FinG.mono {K : PySem.W.Frag} {ι : Io} {H : Hp} {σ : L2.St} {vs : List Nat} {Q Q' : L2.St → Hp → Prop} (hq : ∀ σ' H', Q σ' H' → Q' σ' H') : ∀ {r : R Fenv}, FinG K ι H σ vs Q r → FinG K ι H σ vs Q' r
  | .ok _ _, h => fun _ _ _ y s z k l => hq _ _ (h _ _ _ y s z k l)
  | .ex _ _, h => h
  | .bad, h => h
def GOk (K : PySem.W.Frag) (g : TG) (vs : List Nat) (ev : EvG) : Prop := ∀ ι H σ e S v d Q, SimE K ι H σ e → Sim K ι H S → RepV K ι H v d → FinG K ι H σ vs Q (ev d e S) → g v σ H Q
def GsOk (K : PySem.W.Frag) (g : TGs) (vs : List Nat) (ev : EvGs) : Prop := ∀ ι H σ e S xs ds Q, SimE K ι H σ e → Sim K ι H S → RepVs K ι H xs ds → FinG K ι H σ vs Q (ev ds e S) → g xs σ H Q
def evgName (i : Nat) : EvG := fun d e S => .ok (e.set i (some d)) S
theorem g_name {K : PySem.W.Frag} {i : Nat} : GOk K (gName i) [i] (evgName i) := fun ι H σ e S v d Q se s r h =>
  h _ _ _ (Ext.refl _ _) (se.set r) s (fun j hj => List.getElem?_set_ne (fun z => hj (by simp [z]))) (by simp)
def evgNil : EvGs := fun ds e S => match ds with
  | [] => .ok e S
  | _ => .bad
def evgCons (a : EvG) (r : EvGs) : EvGs := fun ds e S => match ds with
  | d :: ds => (a d e S).bind fun e1 S1 => r ds e1 S1
  | _ => .bad
theorem gs_nil {K : PySem.W.Frag} : GsOk K gNil [] evgNil := fun ι H σ e S vs ds Q se s r h => by
  cases ds with
  | nil => exact ⟨r, h _ _ _ (Ext.refl _ _) se s (fun _ _ => rfl) rfl⟩
  | cons d ds => exact h.elim
theorem gs_cons {K : PySem.W.Frag} {g : TG} {g' : TGs} {vs ws : List Nat} {a : EvG} {r : EvGs} (k : GOk K g vs a) (k' : GsOk K g' ws r) : GsOk K (gCons g g') (vs ++ ws) (evgCons a r) := by
  intro ι H σ e S xs ds Q se s rv h
  cases ds with
  | nil => exact h.elim
  | cons d ds =>
    obtain ⟨v, vr, rfl, r1, r2⟩ := rv
    refine ⟨v, vr, rfl, k ι H σ e S v d _ se s r1 ?_⟩
    have h' : FinG K ι H σ (vs ++ ws) Q ((a d e S).bind fun e1 S1 => r ds e1 S1) := h
    cases q : a d e S with
    | ok e1 S1 =>
      rw [q] at h'
      intro σ' H' ι' x se' s' hv hl
      refine k' ι' H' σ' e1 S1 vr ds Q se' s' (RepVs.ext x ds vr r2) ?_
      have h2 : FinG K ι H σ (vs ++ ws) Q (r ds e1 S1) := h'
      cases q2 : r ds e1 S1 with
      | ok e2 S2 =>
        rw [q2] at h2
        exact fun σ2 H2 ι2 y se2 s2 hv2 hl2 => h2 σ2 H2 ι2 (x.trans y) se2 s2 (fun j hj => (hv2 j fun z => hj (List.mem_append_right _ z)).trans (hv j fun z => hj (List.mem_append_left _ z))) (hl2.trans hl)
      | ex c S1 => rw [q2] at h2; exact h2.elim
      | bad => rw [q2] at h2; exact h2.elim
    | ex c S1 => rw [q] at h'; exact h'.elim
    | bad => rw [q] at h'; exact h'.elim
def evgTup (n : Nat) (r : EvGs) : EvG := fun d e S => match d with
  | .tup ds => if ds.length = n then r ds e S else .bad
  | _ => .bad
theorem RepVs.length {K : PySem.W.Frag} {ι : Io} {H : Hp} : ∀ {vs : List V} {ds : List D}, RepVs K ι H vs ds → vs.length = ds.length
  | _, [], h => by cases h; rfl
  | _, d :: ds, h => by
    obtain ⟨v, r, rfl, _, h2⟩ := h
    simp [RepVs.length h2]
theorem g_tup {K : PySem.W.Frag} {g : TGs} {vs : List Nat} {r : EvGs} {n : Nat} (q : GsOk K g vs r) : GOk K (gTup K n g) vs (evgTup n r) := by
  intro ι H σ e S v d Q se s rv h
  cases d with
  | tup ds =>
    obtain ⟨a, xs, e1, h1, h2⟩ := rv
    have h' : FinG K ι H σ vs Q (if ds.length = n then r ds e S else .bad) := h
    by_cases hl : ds.length = n
    · rw [if_pos hl] at h'
      exact ⟨a, xs, e1, SqT.of h1, by rw [RepVs.length h2]; exact hl, q ι H σ e S xs ds Q se s h2 h'⟩
    · rw [if_neg hl] at h'
      exact h'.elim
  | _ => exact h.elim
def R.toS {α : Type} (r : R α) (f : α → Store → SR) : SR := match r with
  | .ok a S => f a S
  | _ => .bad
def evAsg (a : Ev) (g : EvG) : EvS := fun e S => (a e S).bindS e fun d S1 => (g d e S1).toS fun e1 S2 => .nx e1 S2
theorem FinG.of {K : PySem.W.Frag} {W : WX} {ι : Io} {H : Hp} {σ : L2.St} {vs : List Nat} {D' : Ends} {f : Fenv → Store → SR} : ∀ {r : R Fenv}, FinS K W ι H D' (r.toS f) →
    FinG K ι H σ vs (fun σ' H' => ∃ ι' e S, r = .ok e S ∧ Ext ι H ι' H' ∧ SimE K ι' H' σ' e ∧ Sim K ι' H' S ∧ FinS K W ι' H' D' (f e S)) r
  | .ok e S, h => fun σ' H' ι' x se s _ _ => ⟨ι', e, S, rfl, x, se, s, h.ext x⟩
  | .ex _ _, h => h
  | .bad, h => h
theorem fs_asg {tg e : Expr} {a : Ev} {tgt : TG} {vs : List Nat} {g : EvG} {pos : Pos} (he : PEF X W e a) (p : PG X tg tgt) (k : GOk X.K tgt vs g) (hs : swapsWithSole [tg] e pos.line X.env = pure false := by rfl) (hw : swappedStores [tg] e X.env = pure none := by rfl)
    (h1 : (assignEach [tg] X.env).map (·.2) = [assign tg X.env] := by rfl) : PSF X W (.Assign [tg] e pos) (evAsg a g) := by
  refine PS.weak (ps_asg he p hs hw h1) ?_
  rintro D' σ H ⟨ι, e, S, se, s, h⟩
  refine ⟨ι, e, S, se, s, FinE.mono ?_ (FinE.bindS se h)⟩
  rintro ι1 H1 d x1 ⟨S1, _, x, se1, s1, h1⟩ v r
  refine k ι1 H1 σ e S1 v d _ se1 s1 r (FinG.mono ?_ (FinG.of h1))
  rintro σ' H' ⟨ι', e', S', _, x', se', s', h'⟩
  exact h' σ' H' ι' (Ext.refl _ _) se' s'
def evSet (i : Nat) (a : Ev) : EvS := fun e S => (a e S).bindS e fun d S1 => .nx (e.set i (some d)) S1
theorem fs_set {i : Nat} {x : Str} {e : Expr} {a : Ev} {pos pos' : Pos} (hN : X.N.Nodup) (hi : X.N[i]? = some x) (hx : Loc X.env.scope x) (he : PEF X W e a) (hs : swapsWith e (some (.Name x pos')) pos.line X.env = pure false := by rfl) (hf : X.fn x = true ∨ X.env.scope.names.lookup x = some .local := by first | exact .inl rfl | exact .inr rfl | assumption) :
    PSF X W (.Assign [.Name x pos'] e pos) (evSet i a) := by
  refine PS.weak (ps_set (i := i) hN hi hx he hs hf) ?_
  rintro D' σ H ⟨ι, e, S, se, s, h⟩
  refine ⟨ι, e, S, se, s, FinE.mono ?_ (FinE.bindS se h)⟩
  rintro ι1 H1 d x1 ⟨S1, _, x, se1, s1, h1⟩ v r
  exact h1 _ H1 ι1 (Ext.refl _ _) (se1.set r) s1
end
end FL

/-! FC: operators, comparisons, calls of built-ins, by functions on data. -/
namespace FL
open PySem PySem.Spec PyProof.Rows L2

section
variable {K : PySem.W.Frag} {W : WX} {ι : Io} {H : Hp} {σ : L2.St} {S : Store}

/-- a new list: of the store, or as it stands -/
def mkL (m : Bool) (ds : List D) (S : Store) : R D := if m then .ok (.ref S.length) (S ++ [.lst ds]) else .ok (.lst ds) S
@[simp] theorem mkL_t (ds : List D) (S : Store) : mkL true ds S = .ok (.ref S.length) (S ++ [.lst ds]) := rfl
@[simp] theorem mkL_f (ds : List D) (S : Store) : mkL false ds S = .ok (.lst ds) S := rfl
abbrev Want (K : PySem.W.Frag) (Q : VK) : Io → Hp → D → Prop := fun ι' H' z => ∀ v, RepV K ι' H' v z → Q v H'
theorem Sim.top {p : Addr} (s : Sim K ι H S) : (ι.more p).st[S.length]? = some p := by
  show (ι.st ++ [p])[S.length]? = some p
  rw [List.getElem?_append_right (by rw [s.len]; exact Nat.le_refl _), s.len]
  simp
theorem mkL_ok {m : Bool} {ds : List D} {xs : List V} {Q : VK} (s : Sim K ι H S) (r : RepVs K ι H xs ds) (h : FinE K W ι H σ (Want K Q) (mkL m ds S)) {p : Addr} (hp : H p = none) : Q (.ref p) (upd H p (.lst xs)) := by
  cases m with
  | true =>
    exact h _ _ (Ext.alloc ι hp) (s.alloc hp ⟨xs, upd_same, RepVs.ext (Ext.alloc ι hp) ds xs r⟩) _ ⟨p, rfl, s.top⟩
  | false => exact h _ _ (Ext.new ι hp) (s.new hp) _ ⟨p, xs, rfl, upd_same, s.notIn hp, RepVs.ext (Ext.new ι hp) ds xs r⟩
theorem mkT_ok {ds : List D} {xs : List V} {Q : VK} (s : Sim K ι H S) (r : RepVs K ι H xs ds) (h : FinE K W ι H σ (Want K Q) (.ok (.tup ds) S)) {p : Addr} (hp : H p = none) : Q (.ref p) (upd H p (.tup xs)) :=
  h _ _ (Ext.new ι hp) (s.new hp) _ ⟨p, xs, rfl, upd_same, RepVs.ext (Ext.new ι hp) ds xs r⟩
theorem here {d : D} {v : V} {Q : VK} (s : Sim K ι H S) (h : FinE K W ι H σ (Want K Q) (.ok d S)) (r : RepV K ι H v d) : Q v H := h H ι (Ext.refl ι H) s v r

/-! ### lists and tuples read -/
def sqL (S : Store) : D → Option (List D)
  | .lst ds => some ds
  | .scr ns => some (ns.map .int)
  | .ref n => match S[n]? with
    | some (.lst ds) => some ds
    | _ => none
  | _ => none
def sqT : D → Option (List D)
  | .tup ds => some ds
  | _ => none
def sq (S : Store) (d : D) : Option (List D) := match sqT d with
  | some ds => some ds
  | none => sqL S d
theorem RepVs.ints : ∀ ns : List Int, RepVs K ι H (ns.map V.int) (ns.map D.int)
  | [] => rfl
  | n :: ns => ⟨_, _, rfl, rfl, RepVs.ints ns⟩
theorem repSqL (s : Sim K ι H S) {v : V} {d : D} {ds : List D} (r : RepV K ι H v d) (e : sqL S d = some ds) : ∃ a xs, v = .ref a ∧ SqL K H a xs ∧ RepVs K ι H xs ds := by
  cases d with
  | lst es =>
    cases e
    obtain ⟨a, xs, e, h, _, r⟩ := r
    exact ⟨a, xs, e, .inl (.inl h), r⟩
  | scr ns =>
    cases e
    obtain ⟨a, e, h⟩ := r
    refine ⟨a, ns.map V.int, e, ?_, RepVs.ints ns⟩
    rcases h with ⟨o, h⟩ | h
    · exact .inl (.inr ⟨o, h⟩)
    · exact h _
  | ref n =>
    obtain ⟨a, e1, h1⟩ := r
    obtain ⟨m, h2, h3⟩ := s.at h1
    have e' : (match S[n]? with
      | some (.lst ds) => some ds
      | _ => none) = some ds := e
    rw [h2] at e'
    cases m with
    | lst es =>
      cases e'
      obtain ⟨xs, h4, h5⟩ := h3
      exact ⟨a, xs, e1, .inl (.inl h4), h5⟩
    | dct _ => cases e'
    | ins _ _ => cases e'
    | ldc _ => cases e'
    | dcT _ => cases e'
    | ldT _ => cases e'
  | non => cases e
  | bl _ => cases e
  | int _ => cases e
  | str _ => cases e
  | ty _ => cases e
  | tup _ => cases e
  | dct _ => cases e
  | exc _ _ => cases e
theorem repSqT {v : V} {d : D} {ds : List D} (r : RepV K ι H v d) (e : sqT d = some ds) : ∃ a xs, v = .ref a ∧ SqT K H a xs ∧ RepVs K ι H xs ds := by
  cases d with
  | tup es => cases e; obtain ⟨a, xs, h1, h2, h3⟩ := r; exact ⟨a, xs, h1, SqT.of h2, h3⟩
  | _ => cases e
theorem repSqV {v : V} {d : D} {ds : List D} (r : RepV K ι H v d) (e : sqT d = some ds) : ∃ a xs, v = .ref a ∧ H a = some (.tup xs) ∧ RepVs K ι H xs ds := by
  cases d with
  | tup es => cases e; exact r
  | _ => cases e
theorem repSqU (s : Sim K ι H S) {v : V} {d : D} {ds : List D} (r : RepV K ι H v d) (e : sq S d = some ds) : ∃ a xs, v = .ref a ∧ (SqL K H a xs ∨ H a = some (.tup xs)) ∧ RepVs K ι H xs ds := by
  unfold sq at e
  cases q : sqT d with
  | some es =>
    rw [q] at e
    cases e
    obtain ⟨a, xs, h1, h2, h3⟩ := repSqV r q
    exact ⟨a, xs, h1, .inr h2, h3⟩
  | none =>
    rw [q] at e
    obtain ⟨a, xs, h1, h2, h3⟩ := repSqL s r e
    exact ⟨a, xs, h1, .inl h2, h3⟩
theorem repSq (s : Sim K ι H S) {v : V} {d : D} {ds : List D} (r : RepV K ι H v d) (e : sq S d = some ds) : ∃ a xs, v = .ref a ∧ (SqL K H a xs ∨ SqT K H a xs) ∧ RepVs K ι H xs ds := by
  obtain ⟨a, xs, h1, h2, h3⟩ := repSqU s r e
  exact ⟨a, xs, h1, h2.imp (fun z => z) SqT.of, h3⟩
theorem RepVs.get : ∀ {xs : List V} {ds : List D} {i : Nat} {d : D}, RepVs K ι H xs ds → ds[i]? = some d → ∃ x, xs[i]? = some x ∧ RepV K ι H x d
  | _, [], _, _, _, e => by simp at e
  | _, d :: ds, 0, _, ⟨x, r, e1, h1, _⟩, e => by
    subst e1
    simp at e
    subst e
    exact ⟨x, rfl, h1⟩
  | _, d :: ds, i + 1, _, ⟨x, r, e1, _, h2⟩, e => by
    subst e1
    obtain ⟨y, h3, h4⟩ := RepVs.get (i := i) h2 (by simpa using e)
    exact ⟨y, by simpa using h3, h4⟩
theorem RepVs.append : ∀ {xs ys : List V} {ds es : List D}, RepVs K ι H xs ds → RepVs K ι H ys es → RepVs K ι H (xs ++ ys) (ds ++ es)
  | _, _, [], _, h, k => by cases h; exact k
  | _, _, d :: ds, _, ⟨x, r, e1, h1, h2⟩, k => by subst e1; exact ⟨x, _, rfl, h1, RepVs.append h2 k⟩
theorem RepVs.take : ∀ {xs : List V} {ds : List D} (n : Nat), RepVs K ι H xs ds → RepVs K ι H (xs.take n) (ds.take n)
  | _, _, 0, _ => rfl
  | _, [], n + 1, h => by cases h; rfl
  | _, d :: ds, n + 1, ⟨x, r, e1, h1, h2⟩ => by subst e1; exact ⟨x, _, rfl, h1, RepVs.take n h2⟩
theorem RepVs.drop : ∀ {xs : List V} {ds : List D} (n : Nat), RepVs K ι H xs ds → RepVs K ι H (xs.drop n) (ds.drop n)
  | _, _, 0, h => h
  | _, [], n + 1, h => by cases h; rfl
  | _, d :: ds, n + 1, ⟨x, r, e1, h1, h2⟩ => by subst e1; exact RepVs.drop n h2
theorem RepVs.set : ∀ {xs : List V} {ds : List D} (n : Nat) {x : V} {d : D}, RepVs K ι H xs ds → RepV K ι H x d → RepVs K ι H (xs.set n x) (ds.set n d)
  | _, [], _, _, _, h, _ => by cases h; rfl
  | _, d :: ds, 0, _, _, ⟨x, r, e1, h1, h2⟩, k => by subst e1; exact ⟨_, _, rfl, k, h2⟩
  | _, d :: ds, n + 1, _, _, ⟨x, r, e1, h1, h2⟩, k => by subst e1; exact ⟨_, _, rfl, h1, RepVs.set n h2 k⟩
theorem RepVs.single {x : V} {d : D} (r : RepV K ι H x d) : RepVs K ι H [x] [d] := ⟨x, [], rfl, r, rfl⟩
theorem RepVs.reverse : ∀ {xs : List V} {ds : List D}, RepVs K ι H xs ds → RepVs K ι H xs.reverse ds.reverse
  | _, [], h => by cases h; rfl
  | _, d :: ds, ⟨x, r, e1, h1, h2⟩ => by
    subst e1
    rw [List.reverse_cons, List.reverse_cons]
    exact RepVs.append (RepVs.reverse h2) (RepVs.single h1)
theorem RepVs.one {xs : List V} {d : D} (r : RepVs K ι H xs [d]) : ∃ x, xs = [x] ∧ RepV K ι H x d := by
  obtain ⟨x, r, rfl, h, h2⟩ := r
  cases h2
  exact ⟨x, rfl, h⟩
theorem RepVs.two {xs : List V} {d e : D} (r : RepVs K ι H xs [d, e]) : ∃ x y, xs = [x, y] ∧ RepV K ι H x d ∧ RepV K ι H y e := by
  obtain ⟨x, r, rfl, h, y, r2, rfl, h2, h3⟩ := r
  cases h3
  exact ⟨x, y, rfl, h, h2⟩
theorem RepVs.eraseIdx : ∀ {xs : List V} {ds : List D} (n : Nat), RepVs K ι H xs ds → RepVs K ι H (xs.eraseIdx n) (ds.eraseIdx n)
  | _, [], _, h => by cases h; rfl
  | _, d :: ds, 0, ⟨x, r, e1, h1, h2⟩ => by subst e1; exact h2
  | _, d :: ds, n + 1, ⟨x, r, e1, h1, h2⟩ => by subst e1; exact ⟨_, _, rfl, h1, RepVs.eraseIdx n h2⟩

/-! ### data as a whole -/
def toP : Nat → Store → D → Option PyData
  | _, _, .non => some .none
  | _, _, .bl b => some (.bool b)
  | _, _, .int i => some (.int i)
  | _, _, .str x => some (.str x)
  | f + 1, S, .tup ds => (ds.mapM (toP f S)).map .tuple
  | f + 1, S, .lst ds => (ds.mapM (toP f S)).map .list
  | f + 1, S, .ref n => match S[n]? with
    | some (.lst ds) => (ds.mapM (toP f S)).map .list
    | _ => none
  | _ + 1, _, .scr ns => some (.list (ns.map .int))
  | _, _, _ => none
theorem DpAll.ints : ∀ ns : List Int, DpAll K H (ns.map V.int) (ns.map PyData.int)
  | [] => .nil
  | n :: ns => .cons (.int n) (DpAll.ints ns)
theorem toPs {g : D → Option PyData} (hg : ∀ v d p, RepV K ι H v d → g d = some p → Dp K H v p) : ∀ {xs : List V} {ds : List D} {ps : List PyData}, RepVs K ι H xs ds → ds.mapM g = some ps → DpAll K H xs ps
  | _, [], _, h, e => by
    cases h
    rw [List.mapM_nil] at e
    cases e
    exact .nil
  | _, d :: ds, _, ⟨x, r, e1, h1, h2⟩, e => by
    subst e1
    rw [List.mapM_cons] at e
    cases q : g d with
    | none => rw [q] at e; cases e
    | some p =>
      rw [q] at e
      cases q2 : ds.mapM g with
      | none => rw [q2] at e; cases e
      | some ps =>
        rw [q2] at e
        cases e
        exact .cons (hg x d p h1 q) (toPs hg h2 q2)
theorem toP_dp (s : Sim K ι H S) : ∀ (f : Nat) (v : V) (d : D) (p : PyData), RepV K ι H v d → toP f S d = some p → Dp K H v p
  | f, _, .non, _, r, e => by cases f <;> (cases e; cases r; exact .non)
  | f, _, .bl b, _, r, e => by cases f <;> (cases e; cases r; exact .bl b)
  | f, _, .int b, _, r, e => by cases f <;> (cases e; cases r; exact .int b)
  | f, _, .str b, _, r, e => by cases f <;> (cases e; cases r; exact .str b)
  | 0, _, .ty _, _, r, e => by cases e
  | _ + 1, _, .ty _, _, r, e => by cases e
  | 0, _, .dct _, _, r, e => by cases e
  | _ + 1, _, .dct _, _, r, e => by cases e
  | 0, _, .tup _, _, r, e => by cases e
  | 0, _, .lst _, _, r, e => by cases e
  | 0, _, .scr _, _, r, e => by cases e
  | 0, _, .ref _, _, r, e => by cases e
  | 0, _, .exc _ _, _, r, e => by cases e
  | _ + 1, _, .exc _ _, _, r, e => by cases e
  | f + 1, _, .tup ds, _, r, e => by
    obtain ⟨a, xs, rfl, h1, h2⟩ := r
    have e' : (ds.mapM (toP f S)).map PyData.tuple = some _ := e
    cases q : ds.mapM (toP f S) with
    | none => rw [q] at e'; cases e'
    | some ps =>
      rw [q] at e'
      cases e'
      exact .tup (SqT.of h1) (toPs (toP_dp s f) h2 q)
  | f + 1, _, .lst ds, _, r, e => by
    obtain ⟨a, xs, rfl, h1, _, h2⟩ := r
    have e' : (ds.mapM (toP f S)).map PyData.list = some _ := e
    cases q : ds.mapM (toP f S) with
    | none => rw [q] at e'; cases e'
    | some ps =>
      rw [q] at e'
      cases e'
      exact .lst (.inl (.inl h1)) (toPs (toP_dp s f) h2 q)
  | f + 1, _, .scr ns, _, r, e => by
    cases e
    obtain ⟨a, xs, rfl, h1, h2⟩ := repSqL s r (ds := ns.map .int) rfl
    obtain ⟨b, e1, h3⟩ := r
    cases e1
    have hs : SqL K H a (ns.map V.int) := by
      rcases h3 with ⟨o, h⟩ | h
      · exact .inl (.inr ⟨o, h⟩)
      · exact h _
    exact .lst hs (DpAll.ints ns)
  | f + 1, _, .ref n, _, r, e => by
    obtain ⟨a, rfl, h1⟩ := r
    obtain ⟨m, h2, h3⟩ := s.at h1
    have e : (match S[n]? with
      | some (.lst ds) => (ds.mapM (toP f S)).map PyData.list
      | _ => none) = some _ := e
    rw [h2] at e
    cases m with
    | dct _ => cases e
    | ins _ _ => cases e
    | ldc _ => cases e
    | dcT _ => cases e
    | ldT _ => cases e
    | lst ds =>
      obtain ⟨xs, h4, h5⟩ := h3
      have e' : (ds.mapM (toP f S)).map PyData.list = some _ := e
      cases q : ds.mapM (toP f S) with
      | none => rw [q] at e'; cases e'
      | some ps =>
        rw [q] at e'
        cases e'
        exact .lst (.inl (.inl h4)) (toPs (toP_dp s f) h5 q)
theorem mapM_all {g : D → Option PyData} {P : PyData → Prop} (hg : ∀ d p, g d = some p → P p) : ∀ {ds : List D} {ps : List PyData}, ds.mapM g = some ps → ∀ p ∈ ps, P p
  | [], _, e => by rw [List.mapM_nil] at e; cases e; intro p h; cases h
  | d :: ds, _, e => by
    rw [List.mapM_cons] at e
    cases q : g d with
    | none => rw [q] at e; cases e
    | some p =>
      rw [q] at e
      cases q2 : ds.mapM g with
      | none => rw [q2] at e; cases e
      | some ps =>
        rw [q2] at e
        cases e
        intro x hx
        rcases List.mem_cons.mp hx with rfl | hx
        · exact hg d x q
        · exact mapM_all hg q2 x hx
theorem plainAll_of : ∀ {ps : List PyData}, (∀ p ∈ ps, p.plain = true) → PyData.plainAll ps = true
  | [], _ => rfl
  | p :: ps, h => by
    show (p.plain && PyData.plainAll ps) = true
    rw [h p List.mem_cons_self, plainAll_of fun q hq => h q (List.mem_cons_of_mem _ hq)]
    rfl
theorem depthAll_of {n : Nat} : ∀ {ps : List PyData}, (∀ p ∈ ps, p.depth ≤ n) → PyData.depthAll ps ≤ n
  | [], _ => Nat.zero_le _
  | p :: ps, h => by
    show max p.depth (PyData.depthAll ps) ≤ n
    exact Nat.max_le.mpr ⟨h p List.mem_cons_self, depthAll_of fun q hq => h q (List.mem_cons_of_mem _ hq)⟩
theorem toP_plain : ∀ (f : Nat) (d : D) (p : PyData), toP f S d = some p → p.plain = true ∧ p.depth ≤ f
  | f, .non, _, e => by cases f <;> (cases e; exact ⟨rfl, Nat.zero_le _⟩)
  | f, .bl b, _, e => by cases f <;> (cases e; exact ⟨rfl, Nat.zero_le _⟩)
  | f, .int b, _, e => by cases f <;> (cases e; exact ⟨rfl, Nat.zero_le _⟩)
  | f, .str b, _, e => by cases f <;> (cases e; exact ⟨rfl, Nat.zero_le _⟩)
  | 0, .ty _, _, e => by cases e
  | _ + 1, .ty _, _, e => by cases e
  | 0, .dct _, _, e => by cases e
  | _ + 1, .dct _, _, e => by cases e
  | 0, .tup _, _, e => by cases e
  | 0, .lst _, _, e => by cases e
  | 0, .scr _, _, e => by cases e
  | 0, .ref _, _, e => by cases e
  | 0, .exc _ _, _, e => by cases e
  | _ + 1, .exc _ _, _, e => by cases e
  | f + 1, .tup ds, _, e => by
    have e' : (ds.mapM (toP f S)).map PyData.tuple = some _ := e
    cases q : ds.mapM (toP f S) with
    | none => rw [q] at e'; cases e'
    | some ps =>
      rw [q] at e'
      cases e'
      exact ⟨plainAll_of (mapM_all (fun d p h => (toP_plain f d p h).1) q), Nat.succ_le_succ (depthAll_of (mapM_all (fun d p h => (toP_plain f d p h).2) q))⟩
  | f + 1, .lst ds, _, e => by
    have e' : (ds.mapM (toP f S)).map PyData.list = some _ := e
    cases q : ds.mapM (toP f S) with
    | none => rw [q] at e'; cases e'
    | some ps =>
      rw [q] at e'
      cases e'
      exact ⟨plainAll_of (mapM_all (fun d p h => (toP_plain f d p h).1) q), Nat.succ_le_succ (depthAll_of (mapM_all (fun d p h => (toP_plain f d p h).2) q))⟩
  | f + 1, .scr ns, _, e => by
    cases e
    refine ⟨plainAll_of fun p hp => ?_, Nat.succ_le_succ (Nat.le_trans (depthAll_of (n := 0) fun p hp => ?_) (Nat.zero_le _))⟩
    · obtain ⟨n, _, rfl⟩ := List.mem_map.mp hp; rfl
    · obtain ⟨n, _, rfl⟩ := List.mem_map.mp hp; exact Nat.le_refl _
  | f + 1, .ref n, _, e => by
    cases h2 : S[n]? with
    | none =>
      have e : (match S[n]? with
        | some (.lst ds) => (ds.mapM (toP f S)).map PyData.list
        | _ => none) = some _ := e
      rw [h2] at e; cases e
    | some m =>
      have e : (match S[n]? with
        | some (.lst ds) => (ds.mapM (toP f S)).map PyData.list
        | _ => none) = some _ := e
      rw [h2] at e
      cases m with
      | dct _ => cases e
      | ins _ _ => cases e
      | ldc _ => cases e
      | dcT _ => cases e
      | ldT _ => cases e
      | lst ds =>
        have e' : (ds.mapM (toP f S)).map PyData.list = some _ := e
        cases q : ds.mapM (toP f S) with
        | none => rw [q] at e'; cases e'
        | some ps =>
          rw [q] at e'
          cases e'
          exact ⟨plainAll_of (mapM_all (fun d p h => (toP_plain f d p h).1) q), Nat.succ_le_succ (depthAll_of (mapM_all (fun d p h => (toP_plain f d p h).2) q))⟩
abbrev toD (S : Store) (d : D) : Option PyData := toP 20 S d
end

/-! ### == and != of anything -/
def dEq (S : Store) (a b : D) : R D := match toD S a, toD S b with
  | some p, some q => .ok (.bl (PyData.eqv p q)) S
  | _, _ => .bad
def dNe (S : Store) (a b : D) : R D := match toD S a, toD S b with
  | some p, some q => .ok (.bl (!PyData.eqv p q)) S
  | _, _ => .bad
def rDD (K : PySem.W.Frag) (g : PyData → PyData → Bool) : R2 := fun x y H Q => ∃ p q, Dp K H x p ∧ Dp K H y q ∧ p.plain = true ∧ q.plain = true ∧ p.depth ≤ 20 ∧ Q (.bl (g p q)) H
section
variable {X : Cx} {W : WX}
theorem oo_eq (hu : X.A.units + 64 < cLine) : OpR X (compareOp .Eq) (rDD X.K PyData.eqv) := by
  intro pins s σ H x y v u Q I rx ry ⟨p, q, hp, hq, pp, pq, dp, k⟩
  obtain ⟨as, r1⟩ := Dp.reads I p x v hp rx
  obtain ⟨bs, r2⟩ := Dp.reads I q y u hq ry
  exact PySem.SeqAt.eq_plain r1 r2 pp pq (by omega) ⟨.bl _, H, I, rfl, k⟩
theorem oo_ne (hu : X.A.units + 64 < cLine) : OpR X (compareOp .NotEq) (rDD X.K fun p q => !PyData.eqv p q) := by
  intro pins s σ H x y v u Q I rx ry ⟨p, q, hp, hq, pp, pq, dp, k⟩
  obtain ⟨as, r1⟩ := Dp.reads I p x v hp rx
  obtain ⟨bs, r2⟩ := Dp.reads I q y u hq ry
  exact PySem.SeqAt.ne_plain r1 r2 pp pq (by omega) ⟨.bl _, H, I, rfl, k⟩
end
end FL

/-! FD: the operators by functions on data. -/
namespace FL
open PySem PySem.Spec PyProof.Rows L2

section
variable {K : PySem.W.Frag} {W : WX} {ι : Io} {H : Hp} {σ : L2.St} {S : Store}

theorem ok_DD {g : PyData → PyData → Bool} {f : D → D → Store → R D} (hf : ∀ a b S, f a b S = match toD S a, toD S b with
  | some p, some q => .ok (.bl (g p q)) S
  | _, _ => .bad) : Ok2 K (rDD K g) f := by
  intro W σ ι H S x y d e Q s rx ry h
  rw [hf] at h
  cases hp : toD S d with
  | none => rw [hp] at h; exact h.elim
  | some p =>
    cases hq : toD S e with
    | none => rw [hp, hq] at h; exact h.elim
    | some q =>
      rw [hp, hq] at h
      exact ⟨p, q, toP_dp s 20 _ _ _ rx hp, toP_dp s 20 _ _ _ ry hq, (toP_plain 20 _ _ hp).1, (toP_plain 20 _ _ hq).1, (toP_plain 20 _ _ hp).2, here s h rfl⟩
def dEq' (a b : D) (S : Store) : R D := dEq S a b
def dNe' (a b : D) (S : Store) : R D := dNe S a b
theorem k_eq : Ok2 K (rDD K PyData.eqv) dEq' := ok_DD fun a b S => rfl
theorem k_ne : Ok2 K (rDD K fun p q => !PyData.eqv p q) dNe' := ok_DD fun a b S => rfl

/-! ### order -/
def nonN : PyData → Bool
  | .none => false
  | _ => true
def dOrd (g : PyData → PyData → Bool) (a b : D) (S : Store) : R D := match toD S a, toD S b with
  | some p, some q => if (PySem.W.alike p q && nonN p) = true then .ok (.bl (g p q)) S else .bad
  | _, _ => .bad
def rOrd (K : PySem.W.Frag) (g : PyData → PyData → Bool) : R2 := fun x y H Q => ∃ p q, Dp K H x p ∧ Dp K H y q ∧ PySem.W.alike p q = true ∧ p ≠ .none ∧ p.depth ≤ 20 ∧ Q (.bl (g p q)) H
theorem k_ord {g : PyData → PyData → Bool} : Ok2 K (rOrd K g) (dOrd g) := by
  intro W σ ι H S x y d e Q s rx ry h
  unfold dOrd at h
  cases hp : toD S d with
  | none => rw [hp] at h; exact h.elim
  | some p =>
    cases hq : toD S e with
    | none => rw [hp, hq] at h; exact h.elim
    | some q =>
      rw [hp, hq] at h
      by_cases c : (PySem.W.alike p q && nonN p) = true
      · have h' : FinE K W ι H σ (Want K Q) (if (PySem.W.alike p q && nonN p) = true then .ok (.bl (g p q)) S else .bad) := h
        rw [if_pos c] at h'
        rw [Bool.and_eq_true] at c
        exact ⟨p, q, toP_dp s 20 _ _ _ rx hp, toP_dp s 20 _ _ _ ry hq, c.1, fun z => by rw [z] at c; exact absurd c.2 (by decide), (toP_plain 20 _ _ hp).2, here s h' rfl⟩
      · have h' : FinE K W ι H σ (Want K Q) (if (PySem.W.alike p q && nonN p) = true then .ok (.bl (g p q)) S else .bad) := h
        rw [if_neg c] at h'
        exact h'.elim
end
section
variable {X : Cx} {W : WX}
theorem oo_lt (hu : X.A.units + 64 < cLine) : OpR X (compareOp .Lt) (rOrd X.K fun p q => PySem.W.dataLt p q) := by
  intro pins s σ H x y v u Q I rx ry ⟨p, q, hp, hq, al, nn, dp, k⟩
  obtain ⟨as, r1⟩ := Dp.reads I p x v hp rx
  obtain ⟨bs, r2⟩ := Dp.reads I q y u hq ry
  exact PySem.W.lt_data r1 r2 al nn (by omega) ⟨.bl _, H, I, rfl, k⟩
theorem oo_gt (hu : X.A.units + 64 < cLine) : OpR X (compareOp .Gt) (rOrd X.K fun p q => PySem.W.dataLt q p) := by
  intro pins s σ H x y v u Q I rx ry ⟨p, q, hp, hq, al, nn, dp, k⟩
  obtain ⟨as, r1⟩ := Dp.reads I p x v hp rx
  obtain ⟨bs, r2⟩ := Dp.reads I q y u hq ry
  exact PySem.W.gt_data r1 r2 al nn (by omega) ⟨.bl _, H, I, rfl, k⟩
theorem oo_le (hu : X.A.units + 64 < cLine) : OpR X (compareOp .LtE) (rOrd X.K fun p q => !PySem.W.dataLt q p) := by
  intro pins s σ H x y v u Q I rx ry ⟨p, q, hp, hq, al, nn, dp, k⟩
  obtain ⟨as, r1⟩ := Dp.reads I p x v hp rx
  obtain ⟨bs, r2⟩ := Dp.reads I q y u hq ry
  exact PySem.W.le_data r1 r2 al nn (by omega) ⟨.bl _, H, I, rfl, k⟩
theorem oo_ge (hu : X.A.units + 64 < cLine) : OpR X (compareOp .GtE) (rOrd X.K fun p q => !PySem.W.dataLt p q) := by
  intro pins s σ H x y v u Q I rx ry ⟨p, q, hp, hq, al, nn, dp, k⟩
  obtain ⟨as, r1⟩ := Dp.reads I p x v hp rx
  obtain ⟨bs, r2⟩ := Dp.reads I q y u hq ry
  exact PySem.W.ge_data r1 r2 al nn (by omega) ⟨.bl _, H, I, rfl, k⟩
end

/-! ### dicts -/
def valD (kvs : List (Key × D)) (k : Key) : Option D := (kvs.find? fun kv => decide (kv.1 = k)).map (·.2)
def putD (kvs : List (Key × D)) (k : Key) (v : D) : List (Key × D) :=
  if (kvs.any fun kv => decide (kv.1 = k)) = true then kvs.map (fun kv => if kv.1 = k then (kv.1, v) else kv) else kvs ++ [(k, v)]
def dropD (kvs : List (Key × D)) (k : Key) : List (Key × D) := kvs.filter fun kv => decide (kv.1 ≠ k)
def toKey : D → Option Key
  | .int i => some (.inl i)
  | .str s => some (.inr s)
  | _ => none
def sqD (S : Store) : D → Option (List (Key × D))
  | .dct kvs => some kvs
  | .ref n => match S[n]? with
    | some (.dct kvs) => some kvs
    | some (.ldc kvs) => some kvs
    | _ => none
  | _ => none
section
variable {K : PySem.W.Frag} {W : WX} {ι : Io} {H : Hp} {σ : L2.St} {S : Store}
theorem RepKs.val {k : Key} : ∀ {kv : List (Key × V)} {kvs : List (Key × D)}, RepKs K ι H kv kvs → match valD kvs k with
    | some d => ∃ v, valV kv k = some v ∧ RepV K ι H v d
    | none => valV kv k = none
  | _, [], h => by cases h; rfl
  | _, (j, d) :: kvs, ⟨x, r, e1, h1, h2⟩ => by
    subst e1
    have ih := RepKs.val (k := k) h2
    unfold valD valV
    rw [List.find?_cons, List.find?_cons]
    by_cases c : j = k
    · simp only [c, decide_true, Option.map_some]
      exact ⟨x, rfl, h1⟩
    · simp only [c, decide_false]
      exact ih
theorem RepKs.any {k : Key} : ∀ {kv : List (Key × V)} {kvs : List (Key × D)}, RepKs K ι H kv kvs → (kv.any fun p => decide (p.1 = k)) = kvs.any fun p => decide (p.1 = k)
  | _, [], h => by cases h; rfl
  | _, (j, d) :: kvs, ⟨x, r, e1, h1, h2⟩ => by
    subst e1
    simp [List.any_cons, RepKs.any h2]
theorem RepKs.length : ∀ {kv : List (Key × V)} {kvs : List (Key × D)}, RepKs K ι H kv kvs → kv.length = kvs.length
  | _, [], h => by cases h; rfl
  | _, (j, d) :: kvs, ⟨x, r, e1, h1, h2⟩ => by subst e1; simp [RepKs.length h2]
theorem RepKs.append : ∀ {kv kw : List (Key × V)} {kvs kws : List (Key × D)}, RepKs K ι H kv kvs → RepKs K ι H kw kws → RepKs K ι H (kv ++ kw) (kvs ++ kws)
  | _, _, [], _, h, g => by cases h; exact g
  | _, _, (j, d) :: kvs, _, ⟨x, r, e1, h1, h2⟩, g => by subst e1; exact ⟨x, _, rfl, h1, RepKs.append h2 g⟩
theorem RepKs.mapPut {k : Key} {v : V} {d : D} (rv : RepV K ι H v d) : ∀ {kv : List (Key × V)} {kvs : List (Key × D)}, RepKs K ι H kv kvs →
    RepKs K ι H (kv.map fun p => if p.1 = k then (p.1, v) else p) (kvs.map fun p => if p.1 = k then (p.1, d) else p)
  | _, [], h => by cases h; rfl
  | _, (j, d') :: kvs, ⟨x, r, e1, h1, h2⟩ => by
    subst e1
    rw [List.map_cons, List.map_cons]
    by_cases c : j = k
    · simp only [c, if_true]
      exact ⟨v, _, rfl, rv, RepKs.mapPut rv h2⟩
    · simp only [c, if_false]
      exact ⟨x, _, rfl, h1, RepKs.mapPut rv h2⟩
theorem RepKs.put {k : Key} {v : V} {d : D} (rv : RepV K ι H v d) {kv : List (Key × V)} {kvs : List (Key × D)} (h : RepKs K ι H kv kvs) : RepKs K ι H (putK kv k v) (putD kvs k d) := by
  unfold putK putD
  rw [RepKs.any h]
  by_cases c : (kvs.any fun p => decide (p.1 = k)) = true
  · rw [if_pos c, if_pos c]; exact RepKs.mapPut rv h
  · rw [if_neg c, if_neg c]; exact RepKs.append h ⟨v, [], rfl, rv, rfl⟩
theorem RepKs.drop {k : Key} : ∀ {kv : List (Key × V)} {kvs : List (Key × D)}, RepKs K ι H kv kvs → RepKs K ι H (dropK kv k) (dropD kvs k)
  | _, [], h => by cases h; rfl
  | _, (j, d) :: kvs, ⟨x, r, e1, h1, h2⟩ => by
    subst e1
    have ih := RepKs.drop (k := k) h2
    unfold dropK dropD
    rw [List.filter_cons, List.filter_cons]
    by_cases c : j = k
    · rw [if_neg (by simp [c]), if_neg (by simp [c])]; exact ih
    · rw [if_pos (by simp [c]), if_pos (by simp [c])]; exact ⟨x, _, rfl, h1, ih⟩
theorem toKey_rep {v : V} {d : D} {k : Key} (r : RepV K ι H v d) (e : toKey d = some k) : v = kV k := by
  cases d with
  | int i => cases e; cases r; rfl
  | str i => cases e; cases r; rfl
  | _ => cases e
theorem repSqD (s : Sim K ι H S) {v : V} {d : D} {kvs : List (Key × D)} (r : RepV K ι H v d) (e : sqD S d = some kvs) : ∃ a kv, v = .ref a ∧ Rd H a (.dK kv) ∧ RepKs K ι H kv kvs := by
  cases d with
  | dct es =>
    cases e
    obtain ⟨a, kv, e, h, _, r⟩ := r
    exact ⟨a, kv, e, h, r⟩
  | ref n =>
    obtain ⟨a, e1, h1⟩ := r
    obtain ⟨m, h2, h3⟩ := s.at h1
    have e' : (match S[n]? with
      | some (.dct ds) => some ds
      | some (.ldc ds) => some ds
      | _ => none) = some kvs := e
    rw [h2] at e'
    cases m with
    | dct es =>
      cases e'
      obtain ⟨xs, h4, h5⟩ := h3
      exact ⟨a, xs, e1, .inl h4, h5⟩
    | ldc es =>
      cases e'
      obtain ⟨o, xs, h4, h5⟩ := h3
      exact ⟨a, xs, e1, .inr ⟨o, h4⟩, h5⟩
    | lst _ => cases e'
    | ins _ _ => cases e'
    | dcT _ => cases e'
    | ldT _ => cases e'
  | _ => cases e
theorem dget_of (s : Sim K ι H S) {x y : V} {d e : D} {kvs : List (Key × D)} {k : Key} (rx : RepV K ι H x d) (ry : RepV K ι H y e) (hd : sqD S d = some kvs) (hk : toKey e = some k) :
    ∃ a o, x = .ref a ∧ DGet H a y o ∧ match valD kvs k with
      | some d => ∃ v, o = some v ∧ RepV K ι H v d
      | none => o = none := by
  obtain ⟨a, kv, rfl, h1, h2⟩ := repSqD s rx hd
  refine ⟨a, valV kv k, rfl, .inl ⟨kv, k, h1, toKey_rep ry hk, rfl⟩, RepKs.val h2⟩
end

/-! ### in -/
def dIn (neg : Bool) (x y : D) (S : Store) : R D := match y with
  | .str j => match x with
    | .str i => .ok (.bl (xor neg (if i.length = 1 then decide (i.cps.getD 0 0 ∈ j.cps.toList) else !(Builtin.Str.occurrences j i 0 j.length 1).isEmpty))) S
    | _ => .bad
  | _ => match sq S y with
    | some ds => match toD S x, ds.mapM (toD S) with
      | some p, some qs => .ok (.bl (xor neg (qs.any fun z => PyData.eqv z p))) S
      | _, _ => .bad
    | none => match sqD S y, toKey x with
      | some kvs, some k => .ok (.bl (xor neg (valD kvs k).isSome)) S
      | _, _ => .bad
def rInA (K : PySem.W.Frag) (neg : Bool) : R2 := fun x y H Q =>
  (∃ c z, x = .str ⟨#[c]⟩ ∧ y = .str z ∧ Q (.bl (xor neg (decide (c ∈ z.cps.toList)))) H) ∨ (∃ i j, x = .str i ∧ y = .str j ∧ Q (.bl (xor neg (!(Builtin.Str.occurrences j i 0 j.length 1).isEmpty))) H) ∨
  (∃ a xs p qs, y = .ref a ∧ (SqL K H a xs ∨ SqT K H a xs) ∧ DpAll K H xs qs ∧ Dp K H x p ∧ p.plain = true ∧ p.depth ≤ 20 ∧ PyData.plainAll qs = true ∧ Q (.bl (xor neg (qs.any fun z => PyData.eqv z p))) H) ∨
  (∃ a o, y = .ref a ∧ DGet H a x o ∧ Q (.bl (xor neg o.isSome)) H)
theorem str_one {i : Str} (h : i.length = 1) : i = ⟨#[i.cps.getD 0 0]⟩ := by
  obtain ⟨c⟩ := i
  have h' : c.size = 1 := h
  have e : c = #[c.getD 0 0] := by
    apply Array.ext
    · simp [h']
    · intro k h1 h2
      have : k = 0 := by omega
      subst this
      simp [Array.getD, h']
  exact congrArg Str.mk e
theorem k_in {K : PySem.W.Frag} {neg : Bool} : Ok2 K (rInA K neg) (dIn neg) := by
  intro W σ ι H S x y d e Q s rx ry h
  have seq : ∀ {ds : List D}, sq S e = some ds → FinE K W ι H σ (Want K Q) (match toD S d, ds.mapM (toD S) with
      | some p, some qs => .ok (.bl (xor neg (qs.any fun z => PyData.eqv z p))) S
      | _, _ => .bad) → rInA K neg x y H Q := by
    intro ds hs h
    cases hp : toD S d with
    | none => rw [hp] at h; exact h.elim
    | some p =>
      cases hq : ds.mapM (toD S) with
      | none => rw [hp, hq] at h; exact h.elim
      | some qs =>
        rw [hp, hq] at h
        obtain ⟨a, xs, e1, h1, h2⟩ := repSq s ry hs
        exact .inr (.inr (.inl ⟨a, xs, p, qs, e1, h1, toPs (toP_dp s 20) h2 hq, toP_dp s 20 _ _ _ rx hp, (toP_plain 20 _ _ hp).1, (toP_plain 20 _ _ hp).2, plainAll_of (mapM_all (fun d p h => (toP_plain 20 d p h).1) hq), here s h rfl⟩))
  have dct : FinE K W ι H σ (Want K Q) (match sqD S e, toKey d with
      | some kvs, some k => .ok (.bl (xor neg (valD kvs k).isSome)) S
      | _, _ => .bad) → rInA K neg x y H Q := by
    intro h
    cases hp : sqD S e with
    | none => rw [hp] at h; exact h.elim
    | some kvs =>
      cases hq : toKey d with
      | none => rw [hp, hq] at h; exact h.elim
      | some k =>
        rw [hp, hq] at h
        obtain ⟨a, o, e1, g, ho⟩ := dget_of s ry rx hp hq
        refine .inr (.inr (.inr ⟨a, o, e1, g, ?_⟩))
        have : o.isSome = (valD kvs k).isSome := by
          cases hv : valD kvs k with
          | none => rw [hv] at ho; rw [ho]; rfl
          | some z => rw [hv] at ho; obtain ⟨v, ho, _⟩ := ho; rw [ho]; rfl
        rw [this]
        exact here s h rfl
  have gen : FinE K W ι H σ (Want K Q) (match sq S e with
    | some ds => match toD S d, ds.mapM (toD S) with
      | some p, some qs => .ok (.bl (xor neg (qs.any fun z => PyData.eqv z p))) S
      | _, _ => .bad
    | none => match sqD S e, toKey d with
      | some kvs, some k => .ok (.bl (xor neg (valD kvs k).isSome)) S
      | _, _ => .bad) → rInA K neg x y H Q := by
    intro h
    cases hs : sq S e with
    | some ds => rw [hs] at h; exact seq hs h
    | none => rw [hs] at h; exact dct h
  cases e with
  | str j =>
    cases d with
    | str i =>
      have h' : FinE K W ι H σ (Want K Q) (.ok (.bl (xor neg (if i.length = 1 then decide (i.cps.getD 0 0 ∈ j.cps.toList) else !(Builtin.Str.occurrences j i 0 j.length 1).isEmpty))) S) := h
      by_cases c : i.length = 1
      · rw [if_pos c] at h'
        refine .inl ⟨i.cps.getD 0 0, j, ?_, ry, here s h' rfl⟩
        have rx' : x = .str i := rx
        rw [rx']
        exact congrArg V.str (str_one c)
      · rw [if_neg c] at h'
        exact .inr (.inl ⟨i, j, rx, ry, here s h' rfl⟩)
    | _ => exact h.elim
  | non => exact gen h
  | bl _ => exact gen h
  | int _ => exact gen h
  | ty _ => exact gen h
  | tup _ => exact gen h
  | lst _ => exact gen h
  | dct _ => exact gen h
  | scr _ => exact gen h
  | ref _ => exact gen h
  | exc _ _ => exact gen h
section
variable {X : Cx}
theorem oo_in (hu : X.A.units + 64 < cLine) : OpR X (compareOp .In) (rInA X.K false) := by
  intro pins s σ H x y v u Q I rx ry h
  rcases h with h | h | ⟨a, xs, p, qs, rfl, hs, hq, hp, pp, dp, pq, k⟩ | ⟨a, o, rfl, g, k⟩
  · obtain ⟨c, z, e1, e2, k⟩ := h
    exact op_in_sign pins s σ H x y v u Q I rx ry ⟨c, z, e1, e2, by simpa using k⟩
  · obtain ⟨c, z, e1, e2, k⟩ := h
    exact op_in_str pins s σ H x y v u Q I rx ry ⟨c, z, e1, e2, by simpa using k⟩
  · obtain ⟨as, r1⟩ := Dp.reads I p x v hp rx
    cases ry
    rcases hs with hs | hs
    · obtain ⟨bs, r2⟩ := Dp.reads I (.list qs) (.ref a) _ (.lst hs hq) rfl
      exact PySem.SeqAt.in_list_data r2 r1 pq pp (by omega) ⟨.bl _, H, I, rfl, by simpa using k⟩
    · obtain ⟨bs, r2⟩ := Dp.reads I (.tuple qs) (.ref a) _ (.tup hs hq) rfl
      exact PySem.SeqAt.in_tuple_data r2 r1 pq pp (by omega) ⟨.bl _, H, I, rfl, by simpa using k⟩
  · cases ry
    exact d_in (by omega) I g rx fun s' I' => ⟨.bl _, H, I', rfl, by simpa using k⟩
theorem oo_notIn (hu : X.A.units + 64 < cLine) : OpR X (compareOp .NotIn) (rInA X.K true) := by
  intro pins s σ H x y v u Q I rx ry h
  rcases h with h | h | ⟨a, xs, p, qs, rfl, hs, hq, hp, pp, dp, pq, k⟩ | ⟨a, o, rfl, g, k⟩
  · obtain ⟨c, z, e1, e2, k⟩ := h
    exact op_notIn_sign pins s σ H x y v u Q I rx ry ⟨c, z, e1, e2, by simpa using k⟩
  · obtain ⟨c, z, e1, e2, k⟩ := h
    exact op_notIn_str pins s σ H x y v u Q I rx ry ⟨c, z, e1, e2, by simpa using k⟩
  · obtain ⟨as, r1⟩ := Dp.reads I p x v hp rx
    cases ry
    rcases hs with hs | hs
    · obtain ⟨bs, r2⟩ := Dp.reads I (.list qs) (.ref a) _ (.lst hs hq) rfl
      exact PySem.SeqAt.notIn_list_data r2 r1 pq pp (by omega) ⟨.bl _, H, I, rfl, by simpa using k⟩
    · obtain ⟨bs, r2⟩ := Dp.reads I (.tuple qs) (.ref a) _ (.tup hs hq) rfl
      exact PySem.SeqAt.notIn_tuple_data r2 r1 pq pp (by omega) ⟨.bl _, H, I, rfl, by simpa using k⟩
  · cases ry
    exact d_notIn (by omega) I g rx fun s' I' => ⟨.bl _, H, I', rfl, by simpa using k⟩
end
end FL

/-! FE: arithmetic, items, slices, built-ins, methods by functions on data. -/
namespace FL
open PySem PySem.Spec PyProof.Rows L2
section
variable {K : PySem.W.Frag} {W : WX} {ι : Io} {H : Hp} {σ : L2.St} {S : Store}

theorem Ok2.or {r r' : R2} {f : D → D → Store → R D} (c : D → D → Store → Bool) (h : Ok2 K r fun a b S => if c a b S = true then f a b S else .bad) (h' : Ok2 K r' fun a b S => if c a b S = true then .bad else f a b S) :
    Ok2 K (fun x y H Q => r x y H Q ∨ r' x y H Q) f := by
  intro W σ ι H S x y d e Q s rx ry q
  by_cases k : c d e S = true
  · exact .inl (h W σ ι H S x y d e Q s rx ry (by show FinE _ _ _ _ _ _ (if c d e S = true then f d e S else .bad); rw [if_pos k]; exact q))
  · exact .inr (h' W σ ι H S x y d e Q s rx ry (by show FinE _ _ _ _ _ _ (if c d e S = true then .bad else f d e S); rw [if_neg k]; exact q))
/-- ints -/
def fI (C : Int → Int → Bool) (g : Int → Int → D) (a b : D) (S : Store) : R D := match a, b with
  | .int i, .int j => if C i j = true then .ok (g i j) S else .bad
  | _, _ => .bad
theorem k_int {C : Int → Int → Prop} {C' : Int → Int → Bool} {g : Int → Int → V} {g' : Int → Int → D} (hC : ∀ i j, C' i j = true → C i j) (hg : ∀ i j ι H, RepV K ι H (g i j) (g' i j)) : Ok2 K (rI C g) (fI C' g') := by
  intro W σ ι H S x y d e Q s rx ry h
  cases d with
  | int i =>
    cases e with
    | int j =>
      have h' : FinE K W ι H σ (Want K Q) (if C' i j = true then .ok (g' i j) S else .bad) := h
      by_cases c : C' i j = true
      · rw [if_pos c] at h'; exact ⟨i, j, rx, ry, hC i j c, here s h' (hg i j ι H)⟩
      · rw [if_neg c] at h'; exact h'.elim
    | _ => exact h.elim
  | _ => exact h.elim
theorem rI0_of {g : Int → Int → V} {x y : V} {H : Hp} {Q : VK} (h : rI (fun _ _ => True) g x y H Q) : rI0 g x y H Q := by
  obtain ⟨i, j, a, b, _, q⟩ := h
  exact ⟨i, j, a, b, q⟩
theorem Ok2.imp {r r' : R2} {f : D → D → Store → R D} (h : Ok2 K r f) (i : ∀ x y H Q, r x y H Q → r' x y H Q) : Ok2 K r' f := fun W σ ι H S x y d e Q s rx ry q => i _ _ _ _ (h W σ ι H S x y d e Q s rx ry q)
theorem k_int0 {g : Int → Int → V} {g' : Int → Int → D} (hg : ∀ i j ι H, RepV K ι H (g i j) (g' i j)) : Ok2 K (rI0 g) (fI (fun _ _ => true) g') :=
  Ok2.imp (k_int (C := fun _ _ => True) (fun _ _ _ => trivial) hg) fun _ _ _ _ => rI0_of
def cMul (i j : Int) : Bool := (decide (-(2 ^ 64) < i) && decide (i < 2 ^ 64)) || (decide (-(2 ^ 64) < j) && decide (j < 2 ^ 64))
def cDiv (i j : Int) : Bool := decide (0 < j) && decide (j < 1073741824)
def cMod (_ j : Int) : Bool := decide (0 < j)
def cPow (i j : Int) : Bool := decide (0 ≤ j) && decide (j ≤ 1000000) && decide (i.natAbs < 2 ^ 64)
def dSub : D → D → Store → R D := fI (fun _ _ => true) fun i j => .int (i - j)
def dDiv : D → D → Store → R D := fI cDiv fun i j => .int (i / j)
def dMod : D → D → Store → R D := fI cMod fun i j => .int (i % j)
def dPow : D → D → Store → R D := fI cPow fun i j => .int (i ^ j.toNat)
theorem k_sub : Ok2 K (rI0 fun i j => .int (i - j)) dSub := k_int0 fun _ _ _ _ => rfl
theorem k_div : Ok2 K (rI CDiv fun i j => .int (i / j)) dDiv := k_int (fun i j h => by
  unfold cDiv at h
  rw [Bool.and_eq_true, decide_eq_true_eq, decide_eq_true_eq] at h
  exact h) fun _ _ _ _ => rfl
theorem k_mod : Ok2 K (rI (fun _ j => 0 < j) fun i j => .int (i % j)) dMod := k_int (fun i j h => of_decide_eq_true h) fun _ _ _ _ => rfl
theorem k_pow : Ok2 K (rI CPow fun i j => .int (i ^ j.toNat)) dPow := k_int (fun i j h => by
  unfold cPow at h
  rw [Bool.and_eq_true, Bool.and_eq_true, decide_eq_true_eq, decide_eq_true_eq, decide_eq_true_eq] at h
  exact ⟨h.1.1, h.1.2, h.2⟩) fun _ _ _ _ => rfl
theorem k_imul : Ok2 K (rI CMul fun i j => .int (i * j)) (fI cMul fun i j => .int (i * j)) := k_int (fun i j h => by
  unfold cMul at h
  rw [Bool.or_eq_true, Bool.and_eq_true, Bool.and_eq_true, decide_eq_true_eq, decide_eq_true_eq, decide_eq_true_eq, decide_eq_true_eq] at h
  exact h) fun _ _ _ _ => rfl
def dMul : D → D → Store → R D := fI cMul fun i j => .int (i * j)
def dNeg (a : D) (S : Store) : R D := match a with
  | .int i => .ok (.int (-i)) S
  | _ => .bad
theorem k_neg : Ok1 K (rU fun i => .int (-i)) dNeg := by
  intro W σ ι H S x d Q s rx h
  cases d with
  | int i => exact ⟨i, rx, here s h rfl⟩
  | _ => exact h.elim

/-! ### + -/
def fit (n : Nat) : Bool := decide (n ≤ 16777216)
theorem fit_ok {n : Nat} (h : fit n = true) : n ≤ sizeLine := by rw [sizeLine_eq]; exact of_decide_eq_true h
def dAdd (m : Bool) (a b : D) (S : Store) : R D := match a, b with
  | .int i, .int j => .ok (.int (i + j)) S
  | .str i, .str j => if fit (i.length + j.length) = true then .ok (.str (i ++ j)) S else .bad
  | .tup i, .tup j => if fit (i.length + j.length) = true then .ok (.tup (i ++ j)) S else .bad
  | _, _ => match sqL S a, sqL S b with
    | some i, some j => if fit (i.length + j.length) = true then mkL m (i ++ j) S else .bad
    | _, _ => .bad
def isScr : D → Bool
  | .scr _ => true
  | _ => false
def rAddA (K : PySem.W.Frag) : R2 := fun x y H Q => (∃ i j, x = .int i ∧ y = .int j ∧ Q (.int (i + j)) H) ∨ (∃ i j, x = .str i ∧ y = .str j ∧ i.length + j.length ≤ sizeLine ∧ Q (.str (i ++ j)) H) ∨ rCatA K x y H Q ∨ rCat x y H Q
/-- a list that stands in the heap as one -/
def sqM (S : Store) : D → Option (List D)
  | .lst ds => some ds
  | .ref n => match S[n]? with
    | some (.lst ds) => some ds
    | _ => none
  | _ => none
theorem repSqM (s : Sim K ι H S) {v : V} {d : D} {ds : List D} (r : RepV K ι H v d) (e : sqM S d = some ds) : ∃ a xs, v = .ref a ∧ H a = some (.lst xs) ∧ RepVs K ι H xs ds := by
  cases d with
  | lst es =>
    cases e
    obtain ⟨a, xs, e, h, _, r⟩ := r
    exact ⟨a, xs, e, h, r⟩
  | ref n =>
    obtain ⟨a, e1, h1⟩ := r
    obtain ⟨m, h2, h3⟩ := s.at h1
    have e' : (match S[n]? with
      | some (.lst ds) => some ds
      | _ => none) = some ds := e
    rw [h2] at e'
    cases m with
    | lst es =>
      cases e'
      obtain ⟨xs, h4, h5⟩ := h3
      exact ⟨a, xs, e1, h4, h5⟩
    | dct _ => cases e'
    | ins _ _ => cases e'
    | ldc _ => cases e'
    | dcT _ => cases e'
    | ldT _ => cases e'
  | _ => cases e
def dAddL (m : Bool) (a b : D) (S : Store) : R D := match sqM S a, sqM S b with
  | some i, some j => if fit (i.length + j.length) = true then mkL m (i ++ j) S else .bad
  | _, _ => .bad
def dAdd' (m : Bool) (a b : D) (S : Store) : R D := match a with
  | .int i => match b with
    | .int j => .ok (.int (i + j)) S
    | _ => .bad
  | .str i => match b with
    | .str j => if fit (i.length + j.length) = true then .ok (.str (i ++ j)) S else .bad
    | _ => .bad
  | .tup i => match b with
    | .tup j => if fit (i.length + j.length) = true then .ok (.tup (i ++ j)) S else .bad
    | _ => .bad
  | _ => dAddL m a b S
theorem k_add {m : Bool} : Ok2 K (rAddA K) (dAdd' m) := by
  intro W σ ι H S x y d e Q s rx ry h
  have lst : FinE K W ι H σ (Want K Q) (dAddL m d e S) → rAddA K x y H Q := by
    intro h
    unfold dAddL at h
    cases hp : sqM S d with
    | none => rw [hp] at h; exact h.elim
    | some i =>
      cases hq : sqM S e with
      | none => rw [hp, hq] at h; exact h.elim
      | some j =>
        rw [hp, hq] at h
        have h' : FinE K W ι H σ (Want K Q) (if fit (i.length + j.length) = true then mkL m (i ++ j) S else .bad) := h
        by_cases c : fit (i.length + j.length) = true
        · rw [if_pos c] at h'
          obtain ⟨a, xs, rfl, h1, h2⟩ := repSqM s rx hp
          obtain ⟨b, ys, rfl, h3, h4⟩ := repSqM s ry hq
          refine .inr (.inr (.inr ⟨a, b, xs, ys, rfl, rfl, h1, h3, by rw [h2.length, h4.length]; exact fit_ok c, fun p hp => mkL_ok s (h2.append h4) h' hp⟩))
        · rw [if_neg c] at h'; exact h'.elim
  cases d with
  | int i =>
    cases e with
    | int j => exact .inl ⟨i, j, rx, ry, here s h rfl⟩
    | _ => exact h.elim
  | str i =>
    cases e with
    | str j =>
      have h' : FinE K W ι H σ (Want K Q) (if fit (i.length + j.length) = true then .ok (.str (i ++ j)) S else .bad) := h
      by_cases c : fit (i.length + j.length) = true
      · rw [if_pos c] at h'; exact .inr (.inl ⟨i, j, rx, ry, fit_ok c, here s h' rfl⟩)
      · rw [if_neg c] at h'; exact h'.elim
    | _ => exact h.elim
  | tup i =>
    cases e with
    | tup j =>
      have h' : FinE K W ι H σ (Want K Q) (if fit (i.length + j.length) = true then .ok (.tup (i ++ j)) S else .bad) := h
      by_cases c : fit (i.length + j.length) = true
      · rw [if_pos c] at h'
        obtain ⟨a, xs, rfl, h1, h2⟩ := id rx
        obtain ⟨b, ys, rfl, h3, h4⟩ := id ry
        refine .inr (.inr (.inl ⟨a, b, xs, ys, rfl, rfl, SqT.of h1, SqT.of h3, by rw [h2.length, h4.length]; exact fit_ok c, fun z => ?_, fun _ z => ?_, fun _ _ p hp => mkT_ok s (h2.append h4) h' hp⟩))
        · refine here s h' ?_
          have : i = [] := by have := h2.length; rw [z] at this; exact List.eq_nil_of_length_eq_zero this.symm
          rw [this]
          exact ry
        · refine here s h' ?_
          have : j = [] := by have := h4.length; rw [z] at this; exact List.eq_nil_of_length_eq_zero this.symm
          rw [this, List.append_nil]
          exact rx
      · rw [if_neg c] at h'; exact h'.elim
    | _ => exact h.elim
  | non => exact lst h
  | bl _ => exact lst h
  | ty _ => exact lst h
  | lst _ => exact lst h
  | dct _ => exact lst h
  | scr _ => exact lst h
  | ref _ => exact lst h
  | exc _ _ => exact lst h

/-! ### items -/
def dIx (a b : D) (S : Store) : R D := match a, b with
  | .str z, .int i => if fit z.length = true then match atI z.cps.toList i with
    | some c => .ok (.str ⟨#[c]⟩) S
    | none => .bad
    else .bad
  | _, .int i => match sq S a with
    | some ds => match atI ds i with
      | some d => .ok d S
      | none => .bad
    | none => .bad
  | _, _ => .bad
theorem RepVs.atI {xs : List V} {ds : List D} {i : Int} {d : D} (h : RepVs K ι H xs ds) (e : L2.atI ds i = some d) : ∃ x, L2.atI xs i = some x ∧ RepV K ι H x d := by
  unfold L2.atI at e ⊢
  rw [h.length]
  cases q : ixN ds.length i with
  | none => rw [q] at e; cases e
  | some j =>
    rw [q] at e
    obtain ⟨x, h1, h2⟩ := h.get (i := j) (d := d) e
    exact ⟨x, h1, h2⟩
theorem k_ix : Ok2 K (rIx K) dIx := by
  intro W σ ι H S x y d e Q s rx ry h
  have seq : ∀ i, e = .int i → FinE K W ι H σ (Want K Q) (match sq S d with
    | some ds => match L2.atI ds i with
      | some d => .ok d S
      | none => .bad
    | none => .bad) → rIx K x y H Q := by
    rintro i rfl h
    have e2 : y = .int i := ry
    cases hp : sq S d with
    | none => rw [hp] at h; exact h.elim
    | some ds =>
      rw [hp] at h
      have h' : FinE K W ι H σ (Want K Q) (match L2.atI ds i with
        | some d => .ok d S
        | none => .bad) := h
      cases hq : L2.atI ds i with
      | none => rw [hq] at h'; exact h'.elim
      | some z =>
        rw [hq] at h'
        obtain ⟨a, xs, e1, h1, h2⟩ := repSq s rx hp
        obtain ⟨v, h3, h4⟩ := h2.atI hq
        rcases h1 with h1 | h1
        · exact .inl ⟨a, xs, i, v, e1, e2, h1, h3, here s h' h4⟩
        · exact .inr (.inl ⟨a, xs, i, v, e1, e2, h1, h3, here s h' h4⟩)
  cases e with
  | int i =>
    cases d with
    | str z =>
      have h' : FinE K W ι H σ (Want K Q) (if fit z.length = true then match L2.atI z.cps.toList i with
        | some c => .ok (.str ⟨#[c]⟩) S
        | none => .bad
        else .bad) := h
      by_cases c : fit z.length = true
      · rw [if_pos c] at h'
        cases hq : L2.atI z.cps.toList i with
        | none => rw [hq] at h'; exact h'.elim
        | some k =>
          rw [hq] at h'
          exact .inr (.inr ⟨z, i, k, rx, ry, fit_ok c, hq, here s h' rfl⟩)
      · rw [if_neg c] at h'; exact h'.elim
    | non => exact seq i rfl h
    | bl _ => exact seq i rfl h
    | int _ => exact seq i rfl h
    | ty _ => exact seq i rfl h
    | tup _ => exact seq i rfl h
    | lst _ => exact seq i rfl h
    | dct _ => exact seq i rfl h
    | scr _ => exact seq i rfl h
    | ref _ => exact seq i rfl h
    | exc _ _ => exact seq i rfl h
  | _ => cases d <;> exact h.elim
/-! ### is -/
def dIs (neg : Bool) (a b : D) (S : Store) : R D := match b with
  | .non => match a with
    | .non => .ok (.bl (xor neg true)) S
    | .ty _ => .bad
    | _ => .ok (.bl (xor neg false)) S
  | .bl k => match a with
    | .bl j => .ok (.bl (xor neg (j == k))) S
    | _ => .bad
  | _ => .bad
def rIsA (neg : Bool) : R2 := fun x y H Q => (y = .non ∧ Q (.bl (xor neg (decide (x = .non)))) H) ∨ ∃ a b : Bool, x = .bl a ∧ y = .bl b ∧ Q (.bl (xor neg (decide (a = b)))) H
theorem k_is {neg : Bool} : Ok2 K (rIsA neg) (dIs neg) := by
  intro W σ ι H S x y d e Q s rx ry h
  cases e with
  | non =>
    refine .inl ⟨ry, ?_⟩
    have ne : ∀ {a : Addr}, x = .ref a → decide (x = .non) = false := fun e => by rw [e]; rfl
    cases d with
    | non => have : decide (x = .non) = true := decide_eq_true rx; rw [this]; exact here s h rfl
    | bl b => have : x = .bl b := rx; rw [this]; exact here s h rfl
    | int b => have : x = .int b := rx; rw [this]; exact here s h rfl
    | str b => have : x = .str b := rx; rw [this]; exact here s h rfl
    | ty b => exact h.elim
    | tup b => obtain ⟨a, _, e, _⟩ := rx; rw [ne e]; exact here s h rfl
    | lst b => obtain ⟨a, _, e, _⟩ := rx; rw [ne e]; exact here s h rfl
    | dct b => obtain ⟨a, _, e, _⟩ := rx; rw [ne e]; exact here s h rfl
    | scr b => obtain ⟨a, e, _⟩ := rx; rw [ne e]; exact here s h rfl
    | ref b => obtain ⟨a, e, _⟩ := rx; rw [ne e]; exact here s h rfl
    | exc b c => obtain ⟨a, _, _, e, _⟩ := rx; rw [ne e]; exact here s h rfl
  | bl k =>
    cases d with
    | bl j =>
      refine .inr ⟨j, k, rx, ry, ?_⟩
      have : decide (j = k) = (j == k) := by cases j <;> cases k <;> rfl
      rw [this]
      exact here s h rfl
    | _ => exact h.elim
  | _ => exact h.elim

/-! ### built-ins -/
def dLen (xs : List D) (S : Store) : R D := match xs with
  | [.str z] => if fit z.length = true then .ok (.int z.length) S else .bad
  | [d] => match sq S d with
    | some ds => .ok (.int ds.length) S
    | none => match sqD S d with
      | some kvs => .ok (.int kvs.length) S
      | none => .bad
  | _ => .bad
def rLenA (K : PySem.W.Frag) : List V → Hp → VK → Prop := fun xs H Q => (∃ x n, xs = [x] ∧ LenV K x H n ∧ Q (.int n) H) ∨ ∃ a kv, xs = [.ref a] ∧ Rd H a (.dK kv) ∧ Q (.int kv.length) H
theorem k_len : OkN K (rLenA K) dLen := by
  intro W σ ι H S xs ds Q s r h
  cases ds with
  | nil => exact h.elim
  | cons d r2 =>
    cases r2 with
    | cons _ _ => cases d <;> exact h.elim
    | nil =>
      obtain ⟨x, rfl, rx⟩ := r.one
      have gen : FinE K W ι H σ (Want K Q) (match sq S d with
        | some ds => .ok (.int ds.length) S
        | none => match sqD S d with
          | some kvs => .ok (.int kvs.length) S
          | none => .bad) → rLenA K [x] H Q := by
        intro h
        cases hp : sq S d with
        | some es =>
          rw [hp] at h
          obtain ⟨a, ys, rfl, h1, h2⟩ := repSq s rx hp
          refine .inl ⟨_, es.length, rfl, ?_, here s h rfl⟩
          rcases h1 with h1 | h1
          · exact .inl ⟨ys, h1, h2.length.symm⟩
          · exact .inr ⟨ys, h1, h2.length.symm⟩
        | none =>
          rw [hp] at h
          have h' : FinE K W ι H σ (Want K Q) (match sqD S d with
          | some kvs => .ok (.int kvs.length) S
          | none => .bad) := h
          cases hq : sqD S d with
          | none => rw [hq] at h'; exact h'.elim
          | some kvs =>
            rw [hq] at h'
            obtain ⟨a, kv, rfl, h1, h2⟩ := repSqD s rx hq
            exact .inr ⟨a, kv, rfl, h1, by rw [h2.length]; exact here s h' rfl⟩
      cases d with
      | str z =>
        have h' : FinE K W ι H σ (Want K Q) (if fit z.length = true then .ok (.int z.length) S else .bad) := h
        by_cases c : fit z.length = true
        · rw [if_pos c] at h'
          have : x = .str z := rx
          subst this
          exact .inl ⟨_, z.length, rfl, ⟨fit_ok c, rfl⟩, here s h' rfl⟩
        · rw [if_neg c] at h'; exact h'.elim
      | non => exact gen h
      | bl _ => exact gen h
      | int _ => exact gen h
      | ty _ => exact gen h
      | tup _ => exact gen h
      | lst _ => exact gen h
      | dct _ => exact gen h
      | scr _ => exact gen h
      | ref _ => exact gen h
      | exc _ _ => exact gen h
/-- the bools of a list -/
def toBs : List D → Option (List Bool)
  | [] => some []
  | .bl b :: r => (toBs r).map (b :: ·)
  | _ :: _ => none
theorem toBs_rep : ∀ {xs : List V} {ds : List D} {bs : List Bool}, RepVs K ι H xs ds → toBs ds = some bs → xs = bs.map V.bl
  | _, [], _, h, e => by cases e; exact h
  | _, d :: ds, _, ⟨x, r, e1, h1, h2⟩, e => by
    subst e1
    cases d with
    | bl b =>
      have e' : (toBs ds).map (b :: ·) = some _ := e
      cases q : toBs ds with
      | none => rw [q] at e'; cases e'
      | some cs =>
        rw [q] at e'
        cases e'
        rw [List.map_cons, toBs_rep h2 q]
        exact congrArg (· :: _) h1
    | _ => cases e
def toIs : List D → Option (List Int)
  | [] => some []
  | .int b :: r => (toIs r).map (b :: ·)
  | _ :: _ => none
theorem toIs_rep : ∀ {xs : List V} {ds : List D} {bs : List Int}, RepVs K ι H xs ds → toIs ds = some bs → xs = bs.map V.int
  | _, [], _, h, e => by cases e; exact h
  | _, d :: ds, _, ⟨x, r, e1, h1, h2⟩, e => by
    subst e1
    cases d with
    | int b =>
      have e' : (toIs ds).map (b :: ·) = some _ := e
      cases q : toIs ds with
      | none => rw [q] at e'; cases e'
      | some cs =>
        rw [q] at e'
        cases e'
        rw [List.map_cons, toIs_rep h2 q]
        exact congrArg (· :: _) h1
    | _ => cases e
def toSs : List D → Option (List Str)
  | [] => some []
  | .str b :: r => (toSs r).map (b :: ·)
  | _ :: _ => none
theorem toSs_rep : ∀ {xs : List V} {ds : List D} {bs : List Str}, RepVs K ι H xs ds → toSs ds = some bs → xs = bs.map V.str
  | _, [], _, h, e => by cases e; exact h
  | _, d :: ds, _, ⟨x, r, e1, h1, h2⟩, e => by
    subst e1
    cases d with
    | str b =>
      have e' : (toSs ds).map (b :: ·) = some _ := e
      cases q : toSs ds with
      | none => rw [q] at e'; cases e'
      | some cs =>
        rw [q] at e'
        cases e'
        rw [List.map_cons, toSs_rep h2 q]
        exact congrArg (· :: _) h1
    | _ => cases e
def onL (f : List D → Store → R D) (xs : List D) (S : Store) : R D := match xs with
  | [d] => match sqL S d with
    | some ds => f ds S
    | none => .bad
  | _ => .bad
theorem OkN.onL {r : List V → Hp → VK → Prop} {f : List D → Store → R D} (h : ∀ (W : WX) (σ : L2.St) (ι : Io) (H : Hp) (S : Store) (a : Addr) (xs : List V) (ds : List D) (Q : VK), Sim K ι H S → SqL K H a xs → RepVs K ι H xs ds → FinE K W ι H σ (Want K Q) (f ds S) → r [.ref a] H Q) : OkN K r (onL f) := by
  intro W σ ι H S xs ds Q s r q
  cases ds with
  | nil => exact q.elim
  | cons d r2 =>
    cases r2 with
    | cons _ _ => exact q.elim
    | nil =>
      obtain ⟨x, rfl, rx⟩ := r.one
      have q' : FinE K W ι H σ (Want K Q) (match sqL S d with
        | some ds => f ds S
        | none => .bad) := q
      cases hp : sqL S d with
      | none => rw [hp] at q'; exact q'.elim
      | some es =>
        rw [hp] at q'
        obtain ⟨a, ys, rfl, h1, h2⟩ := repSqL s rx hp
        exact h W σ ι H S a ys es Q s h1 h2 q'
def dAll : List D → Store → R D := onL fun ds S => match toBs ds with
  | some bs => .ok (.bl (bs.all id)) S
  | none => .bad
def dAny : List D → Store → R D := onL fun ds S => match toBs ds with
  | some bs => .ok (.bl (bs.any id)) S
  | none => .bad
theorem k_all : OkN K (rAll K) dAll := OkN.onL fun W σ ι H S a xs ds Q s hs r h => by
  cases q : toBs ds with
  | none => rw [q] at h; exact h.elim
  | some bs => rw [q] at h; rw [toBs_rep r q] at hs; exact ⟨a, bs, rfl, hs, here s h rfl⟩
theorem k_any : OkN K (rAny K) dAny := OkN.onL fun W σ ι H S a xs ds Q s hs r h => by
  cases q : toBs ds with
  | none => rw [q] at h; exact h.elim
  | some bs => rw [q] at h; rw [toBs_rep r q] at hs; exact ⟨a, bs, rfl, hs, here s h rfl⟩
def dSum : List D → Store → R D := onL fun ds S => match toIs ds with
  | some bs => .ok (.int bs.sum) S
  | none => .bad
theorem k_sum : OkN K (rSum K) dSum := OkN.onL fun W σ ι H S a xs ds Q s hs r h => by
  cases q : toIs ds with
  | none => rw [q] at h; exact h.elim
  | some bs => rw [q] at h; rw [toIs_rep r q] at hs; exact ⟨a, bs, rfl, hs, here s h rfl⟩
/-- tuple(x), list(x) -/
def dTuple (xs : List D) (S : Store) : R D := match xs with
  | [d] => match sq S d with
    | some ds => .ok (.tup ds) S
    | none => .bad
  | _ => .bad
theorem k_tuple : OkN K (fun xs H Q => ∃ p ys, xs = [.ref p] ∧ ((SqL K H p ys ∧ ∀ l, H l = none → Q (.ref l) (upd H l (.tup ys))) ∨ (SqT K H p ys ∧ Q (.ref p) H))) dTuple := by
  intro W σ ι H S xs ds Q s r h
  cases ds with
  | nil => exact h.elim
  | cons d r2 =>
    cases r2 with
    | cons _ _ => exact h.elim
    | nil =>
      obtain ⟨x, rfl, rx⟩ := r.one
      have h' : FinE K W ι H σ (Want K Q) (match sq S d with
        | some ds => .ok (.tup ds) S
        | none => .bad) := h
      cases hp : sq S d with
      | none => rw [hp] at h'; exact h'.elim
      | some es =>
        rw [hp] at h'
        obtain ⟨a, ys, rfl, h1, h2⟩ := repSqU s rx hp
        refine ⟨a, ys, rfl, ?_⟩
        rcases h1 with h1 | h1
        · exact .inl ⟨h1, fun l hl => mkT_ok s h2 h' hl⟩
        · exact .inr ⟨SqT.of h1, here s h' ⟨a, ys, rfl, h1, h2⟩⟩
def dList (m : Bool) (xs : List D) (S : Store) : R D := match xs with
  | [d] => match sq S d with
    | some ds => mkL m ds S
    | none => .bad
  | _ => .bad
theorem k_list {m : Bool} : OkN K (fun xs H Q => ∃ p ys, xs = [.ref p] ∧ (SqL K H p ys ∨ SqT K H p ys) ∧ ∀ l, H l = none → Q (.ref l) (upd H l (.lst ys))) (dList m) := by
  intro W σ ι H S xs ds Q s r h
  cases ds with
  | nil => exact h.elim
  | cons d r2 =>
    cases r2 with
    | cons _ _ => exact h.elim
    | nil =>
      obtain ⟨x, rfl, rx⟩ := r.one
      have h' : FinE K W ι H σ (Want K Q) (match sq S d with
        | some ds => mkL m ds S
        | none => .bad) := h
      cases hp : sq S d with
      | none => rw [hp] at h'; exact h'.elim
      | some es =>
        rw [hp] at h'
        obtain ⟨a, ys, rfl, h1, h2⟩ := repSq s rx hp
        exact ⟨a, ys, rfl, h1, fun l hl => mkL_ok s h2 h' hl⟩
def d2I (g : Int → Int → Int) (xs : List D) (S : Store) : R D := match xs with
  | [.int i, .int j] => .ok (.int (g i j)) S
  | _ => .bad
theorem k_2I {g : Int → Int → Int} : OkN K (fun xs H Q => ∃ i j, xs = [.int i, .int j] ∧ Q (.int (g i j)) H) (d2I g) := by
  intro W σ ι H S xs ds Q s r h
  match ds, h with
  | [.int i, .int j], h =>
    obtain ⟨x, y, rfl, rx, ry⟩ := r.two
    have e1 : x = .int i := rx
    have e2 : y = .int j := ry
    subst e1 e2
    exact ⟨i, j, rfl, here s h rfl⟩
def dMax : List D → Store → R D := d2I fun i j => if j > i then j else i
def dMin : List D → Store → R D := d2I fun i j => if j < i then j else i
def dInt (xs : List D) (S : Store) : R D := match xs with
  | [.int i] => .ok (.int i) S
  | [.bl k] => .ok (.int (if k then 1 else 0)) S
  | _ => .bad
theorem k_intc : OkN K (fun xs H Q => (∃ i, xs = [.int i] ∧ Q (.int i) H) ∨ ∃ k, xs = [.bl k] ∧ Q (.int (if k then 1 else 0)) H) dInt := by
  intro W σ ι H S xs ds Q s r h
  match ds, h with
  | [.int i], h =>
    obtain ⟨x, rfl, rx⟩ := r.one
    have e1 : x = .int i := rx
    subst e1
    exact .inl ⟨i, rfl, here s h rfl⟩
  | [.bl i], h =>
    obtain ⟨x, rfl, rx⟩ := r.one
    have e1 : x = .bl i := rx
    subst e1
    exact .inr ⟨i, rfl, here s h rfl⟩
def dAbs (xs : List D) (S : Store) : R D := match xs with
  | [.int i] => .ok (.int (if i < 0 then -i else i)) S
  | _ => .bad
theorem k_abs : OkN K (fun xs H Q => ∃ i, xs = [.int i] ∧ Q (.int (if i < 0 then -i else i)) H) dAbs := by
  intro W σ ι H S xs ds Q s r h
  match ds, h with
  | [.int i], h =>
    obtain ⟨x, rfl, rx⟩ := r.one
    have e1 : x = .int i := rx
    subst e1
    exact ⟨i, rfl, here s h rfl⟩
/-- isinstance(x, T), T one of the built-in kinds -/
def kindOf (S : Store) : D → Option String
  | .non => some "NoneType"
  | .bl _ => some "bool"
  | .int _ => some "int"
  | .str _ => some "str"
  | .tup _ => some "tuple"
  | .lst _ => some "list"
  | .dct _ => some "dict"
  | .scr _ => some "list"
  | .ref n => match S[n]? with
    | some (.lst _) => some "list"
    | some (.dct _) => some "dict"
    | _ => none
  | .ty _ => none
  | .exc _ _ => none
def isTy (T k : String) : Bool := T == k || (T == "int" && k == "bool")
def dIsi (xs : List D) (S : Store) : R D := match xs with
  | [d, .ty T] => match kindOf S d with
    | some k => .ok (.bl (isTy T k)) S
    | none => .bad
  | _ => .bad
/-- the written part answers for the built-in kinds -/
structure Kinds (K : PySem.W.Frag) : Prop where
  kit : ∀ T ∈ ["str", "tuple", "list", "int", "bool", "dict"], ∀ k ∈ ["NoneType", "bool", "int", "str", "tuple", "list", "dict"], PySem.W.kitOne K (.type k) (.type T) = some (isTy T k)
theorem kindOf_mem {d : D} {k : String} (h : kindOf S d = some k) : k ∈ ["NoneType", "bool", "int", "str", "tuple", "list", "dict"] := by
  cases d with
  | ref n =>
    have h' : (match S[n]? with
      | some (.lst _) => some "list"
      | some (.dct _) => some "dict"
      | _ => none) = some k := h
    cases q : S[n]? with
    | none => rw [q] at h'; cases h'
    | some m =>
      rw [q] at h'
      cases m with
      | lst _ => cases h'; decide
      | dct _ => cases h'; decide
      | ins _ _ => cases h'
      | ldc _ => cases h'
      | dcT _ => cases h'
      | ldT _ => cases h'
  | ty _ => cases h
  | exc _ _ => cases h
  | _ => cases h; decide
theorem kindOf_tyX (s : Sim K ι H S) {x : V} {d : D} {k : String} (r : RepV K ι H x d) (h : kindOf S d = some k) : TyX K H x (.type k) := by
  cases d with
  | ref n =>
    obtain ⟨a, rfl, h1⟩ := r
    obtain ⟨m, h2, h3⟩ := s.at h1
    have h' : (match S[n]? with
      | some (.lst _) => some "list"
      | some (.dct _) => some "dict"
      | _ => none) = some k := h
    rw [h2] at h'
    cases m with
    | lst _ => cases h'; obtain ⟨xs, e, _⟩ := h3; exact .base (.lst e)
    | dct _ => cases h'; obtain ⟨xs, e, _⟩ := h3; exact .base (.dK e)
    | ins _ _ => cases h'
    | ldc _ => cases h'
    | dcT _ => cases h'
    | ldT _ => cases h'
  | ty _ => cases h
  | exc _ _ => cases h
  | non => cases h; cases r; exact .base .non
  | bl b => cases h; cases r; exact .base (.bl b)
  | int b => cases h; cases r; exact .base (.int b)
  | str b => cases h; cases r; exact .base (.str b)
  | tup b =>
    cases h
    obtain ⟨a, xs, rfl, h1, _⟩ := r
    exact .base (.tup h1)
  | lst b => cases h; obtain ⟨a, xs, rfl, h1, _⟩ := r; exact .base (.lst h1)
  | dct b =>
    cases h
    obtain ⟨a, xs, rfl, h1, _⟩ := r
    rcases h1 with h1 | ⟨o, h1⟩
    · exact .base (.dK h1)
    · exact .fDict h1
  | scr b =>
    cases h
    obtain ⟨a, rfl, h1⟩ := r
    have h1 : SqL K H a (b.map V.int) := by
      rcases h1 with ⟨o, h⟩ | h
      · exact .inl (.inr ⟨o, h⟩)
      · exact h _
    rcases h1 with (h1 | ⟨o, h1⟩) | ⟨o, its, n, h1, h2, _⟩
    · exact .base (.lst h1)
    · exact .base (.frz h1)
    · exact .kList h1 h2
theorem k_isi (kk : Kinds K) {T : String} (hT : T ∈ ["str", "tuple", "list", "int", "bool", "dict"]) : OkN K (rIsi K) (fun xs S => match xs with
  | [d, .ty T'] => if T' = T then dIsi [d, .ty T] S else .bad
  | _ => .bad) := by
  intro W σ ι H S xs ds Q s r h
  match ds, h with
  | [d, .ty T'], h =>
    have h' : FinE K W ι H σ (Want K Q) (if T' = T then dIsi [d, .ty T] S else .bad) := h
    by_cases c : T' = T
    · rw [if_pos c] at h'
      subst c
      obtain ⟨x, y, rfl, rx, ry⟩ := r.two
      have e2 : y = .ty T' := ry
      subst e2
      have h2 : FinE K W ι H σ (Want K Q) (match kindOf S d with
        | some k => .ok (.bl (isTy T' k)) S
        | none => .bad) := h'
      cases hk : kindOf S d with
      | none => rw [hk] at h2; exact h2.elim
      | some k =>
        rw [hk] at h2
        exact ⟨x, .ty T', .type k, .type T', isTy T' k, rfl, .ty T', kindOf_tyX s rx hk, kk.kit T' hT k (kindOf_mem hk), here s h2 rfl⟩
    · rw [if_neg c] at h'; exact h'.elim
end
section
variable {X : Cx}
theorem oo_add : OpR X (binaryOp .Add) (rAddA X.K) := by
  intro pins s σ H x y v u Q I rx ry h
  rcases h with h | h | h | h
  · exact op_add pins s σ H x y v u Q I rx ry h
  · exact op_add_str pins s σ H x y v u Q I rx ry h
  · exact op_catA pins s σ H x y v u Q I rx ry h
  · exact op_cat pins s σ H x y v u Q I rx ry h
theorem oo_is : OpR X (compareOp .Is) (rIsA false) := by
  intro pins s σ H x y v u Q I rx ry h
  rcases h with ⟨e, h⟩ | ⟨a, b, e1, e2, h⟩
  · exact op_isN pins s σ H x y v u Q I rx ry ⟨e, by simpa using h⟩
  · exact op_isBl pins s σ H x y v u Q I rx ry ⟨a, b, e1, e2, by simpa using h⟩
theorem oo_isNot : OpR X (compareOp .IsNot) (rIsA true) := by
  intro pins s σ H x y v u Q I rx ry h
  rcases h with ⟨e, h⟩ | ⟨a, b, e1, e2, h⟩
  · exact op_notN pins s σ H x y v u Q I rx ry ⟨e, by simpa using h⟩
  · exact op_notBl pins s σ H x y v u Q I rx ry ⟨a, b, e1, e2, by simpa using h⟩
theorem cc_len : CallR X (.builtin "len") (rLenA X.K) := by
  intro pins s σ H xs us Q I r h
  rcases h with h | ⟨a, kv, rfl, h1, h2⟩
  · exact call_len pins s σ H xs us Q I r h
  · rw [Vals.ref1 r]
    exact d_len I h1 fun t s' I' => ⟨.int kv.length, H, I', ⟨t, rfl⟩, h2⟩
end
end FL

/-! FF: displays, slices, methods; what is walked; for, while, comprehensions. -/
namespace FL
open PySem PySem.Spec PyProof.Rows L2
section
variable {X : Cx} {W : WX}
theorem PE.or {e : Expr} {t t' : TE} (h : PE X e t) (h' : PE X e t') : PE X e (fun σ H Q => t σ H Q ∨ t' σ H Q) := ⟨fun p s σ H Q I q => q.elim (h.run p s σ H Q I) (h'.run p s σ H Q I)⟩
theorem PI.or {tg e : Expr} {t t' : TI} (h : PI X tg e t) (h' : PI X tg e t') : PI X tg e (fun σ H Q => t σ H Q ∨ t' σ H Q) := ⟨fun p s σ H Q I q => q.elim (h.run p s σ H Q I) (h'.run p s σ H Q I)⟩

/-! ### displays -/
def evTup (a : EvL) : Ev := fun e S => (a e S).bind fun ds S1 => if fit ds.length = true then .ok (.tup ds) S1 else .bad
def evLst (m : Bool) (a : EvL) : Ev := fun e S => (a e S).bind fun ds S1 => if fit ds.length = true then mkL m ds S1 else .bad
theorem f_tup {es : List Expr} {a : EvL} {x1} {pos : Pos} (ha : PAF X W es a) : PEF X W (.Tuple es x1 pos) (evTup a) := by
  refine PE.weak (pe_tup ha) ?_
  rintro σ H Q ⟨ι, e, S, se, s, h⟩
  refine ⟨ι, e, S, se, s, FinE.mono ?_ (FinE.bind h)⟩
  rintro ι1 H1 ds x1 ⟨S1, _, x, s1, h1⟩ xs r
  by_cases c : fit ds.length = true
  · rw [if_pos c] at h1
    exact ⟨by rw [r.length]; exact fit_ok c, fun p hp => mkT_ok s1 r h1 hp⟩
  · rw [if_neg c] at h1; exact h1.elim
theorem f_lst {m : Bool} {es : List Expr} {a : EvL} {pos : Pos} (ha : PAF X W es a) : PEF X W (.List es pos) (evLst m a) := by
  refine PE.weak (pe_lst ha) ?_
  rintro σ H Q ⟨ι, e, S, se, s, h⟩
  refine ⟨ι, e, S, se, s, FinE.mono ?_ (FinE.bind h)⟩
  rintro ι1 H1 ds x1 ⟨S1, _, x, s1, h1⟩ xs r
  by_cases c : fit ds.length = true
  · rw [if_pos c] at h1
    exact ⟨by rw [r.length]; exact fit_ok c, fun p hp => mkL_ok s1 r h1 hp⟩
  · rw [if_neg c] at h1; exact h1.elim
/-- {}: of the store, or as it stands -/
def mkD (m : Bool) (kvs : List (Key × D)) (S : Store) : R D := if m then .ok (.ref S.length) (S ++ [.dct kvs]) else .ok (.dct kvs) S
theorem mkD_ok {K : PySem.W.Frag} {ι : Io} {H : Hp} {σ : L2.St} {S : Store} {m : Bool} {ds : List (Key × D)} {xs : List (Key × V)} {Q : VK} (s : Sim K ι H S) (r : RepKs K ι H xs ds) (h : FinE K W ι H σ (Want K Q) (mkD m ds S)) {p : Addr} (hp : H p = none) : Q (.ref p) (upd H p (.dK xs)) := by
  cases m with
  | true => exact h _ _ (Ext.alloc ι hp) (s.alloc hp ⟨xs, upd_same, RepKs.ext (Ext.alloc ι hp) ds xs r⟩) _ ⟨p, rfl, s.top⟩
  | false => exact h _ _ (Ext.new ι hp) (s.new hp) _ ⟨p, xs, rfl, .inl upd_same, s.notIn hp, RepKs.ext (Ext.new ι hp) ds xs r⟩
def evDct (m : Bool) : Ev := fun _ S => mkD m [] S
theorem f_dct {m : Bool} {pos : Pos} : PEF X W (.Dict [] [] pos) (evDct m) := by
  refine PE.weak pe_dnewK ?_
  rintro σ H Q ⟨ι, e, S, se, s, h⟩
  exact fun d hd => mkD_ok (W := W) (m := m) (ds := []) (xs := []) s rfl h hd

/-! ### slices -/
abbrev EvO := Fenv → Store → R (Option Int)
def evNoP : EvO := fun _ S => .ok none S
def evP (a : Ev) : EvO := fun e S => (a e S).bind fun d S1 => match d with
  | .int i => .ok (some i) S1
  | _ => .bad
def tFO (K : PySem.W.Frag) (W : WX) (ev : EvO) : TO := fun σ H Q => ∃ ι e S, SimE K ι H σ e ∧ Sim K ι H S ∧ FinE K W ι H σ (fun _ H' b => Q b H') (ev e S)
def POF (X : Cx) (W : WX) (e : Option Expr) (ev : EvO) : Prop := PO X e (tFO X.K W ev)
theorem PO.weak {e : Option Expr} {t t' : TO} (h : PO X e t) (w : ∀ σ H Q, t' σ H Q → t σ H Q) : PO X e t' := ⟨fun p s σ H Q I q => h.run p s σ H Q I (w σ H Q q)⟩
theorem fo_none : POF X W none evNoP := by
  refine PO.weak po_none ?_
  rintro σ H Q ⟨ι, e, S, se, s, h⟩
  exact h H ι (Ext.refl _ _) s
theorem fo_some {e : Expr} {a : Ev} (ha : PEF X W e a) : POF X W (some e) (evP a) := by
  refine PO.weak (po_some ha) ?_
  rintro σ H Q ⟨ι, e, S, se, s, h⟩
  refine ⟨ι, e, S, se, s, FinE.mono ?_ (FinE.bind h)⟩
  rintro ι1 H1 d x1 ⟨S1, _, x, s1, h1⟩ v r
  cases d with
  | int i => exact ⟨i, r, h1 H1 ι1 (Ext.refl _ _) s1⟩
  | _ => exact h1.elim
def cutD {α : Type} (xs : List α) (lo hi : Option Int) : List α := (xs.drop (HT.sIx xs.length 0 lo)).take (HT.sIx xs.length xs.length hi - HT.sIx xs.length 0 lo)
def dSl (m : Bool) (d : D) (lo hi : Option Int) (S : Store) : R D := match d with
  | .str z => if fit z.length = true then .ok (.str (cutS z lo hi)) S else .bad
  | .tup ds => .ok (.tup (cutD ds lo hi)) S
  | _ => match sqL S d with
    | some ds => mkL m (cutD ds lo hi) S
    | none => .bad
def rSlAll (K : PySem.W.Frag) : V → Option Int → Option Int → Hp → VK → Prop := fun x lo hi H Q => rSlS x lo hi H Q ∨ rSlA K x lo hi H Q ∨ rSlL K x lo hi H Q
theorem ss_all : SlR X (rSlAll X.K) := sl_str.or (sl_tupA.or sl_list)
theorem RepVs.cut {K : PySem.W.Frag} {ι : Io} {H : Hp} {xs : List V} {ds : List D} (lo hi : Option Int) (r : RepVs K ι H xs ds) : RepVs K ι H (cutV xs lo hi) (cutD ds lo hi) := by
  unfold cutV cutD
  rw [r.length]
  exact (r.drop _).take _
theorem k_sl {K : PySem.W.Frag} {ι : Io} {H : Hp} {σ : L2.St} {S : Store} {m : Bool} {x : V} {d : D} {lo hi : Option Int} {Q : VK} (s : Sim K ι H S) (r : RepV K ι H x d) (h : FinE K W ι H σ (Want K Q) (dSl m d lo hi S)) : rSlAll K x lo hi H Q := by
  have lst : FinE K W ι H σ (Want K Q) (match sqL S d with
    | some ds => mkL m (cutD ds lo hi) S
    | none => .bad) → rSlAll K x lo hi H Q := by
    intro h
    cases hp : sqL S d with
    | none => rw [hp] at h; exact h.elim
    | some ds =>
      rw [hp] at h
      obtain ⟨a, xs, rfl, h1, h2⟩ := repSqL s r hp
      exact .inr (.inr ⟨a, xs, rfl, h1, fun p hp => mkL_ok s (h2.cut lo hi) h hp⟩)
  cases d with
  | str z =>
    have h' : FinE K W ι H σ (Want K Q) (if fit z.length = true then .ok (.str (cutS z lo hi)) S else .bad) := h
    by_cases c : fit z.length = true
    · rw [if_pos c] at h'; exact .inl ⟨z, r, fit_ok c, here s h' rfl⟩
    · rw [if_neg c] at h'; exact h'.elim
  | tup ds =>
    obtain ⟨a, xs, rfl, h1, h2⟩ := id r
    refine .inr (.inl ⟨a, xs, rfl, SqT.of h1, fun z => here s h ?_, fun _ p hp => mkT_ok s (h2.cut lo hi) h hp⟩)
    have e : cutD ds lo hi = ds := by
      unfold cutD
      rw [h2.length] at z
      rw [z.1, z.2]
      simp
    rw [e]
    exact r
  | non => exact lst h
  | bl _ => exact lst h
  | int _ => exact lst h
  | ty _ => exact lst h
  | lst _ => exact lst h
  | dct _ => exact lst h
  | scr _ => exact lst h
  | ref _ => exact lst h
  | exc _ _ => exact lst h
def evSl (m : Bool) (a : Ev) (lo hi : EvO) : Ev := fun e S => (a e S).bind fun d S1 => (lo e S1).bind fun l S2 => (hi e S2).bind fun h S3 => dSl m d l h S3
theorem f_sl {m : Bool} {e : Expr} {lo hi : Option Expr} {a : Ev} {el eh : EvO} {pos p2 : Pos} (ha : PEF X W e a) (hl : POF X W lo el) (hh : POF X W hi eh) : PEF X W (.Subscript e (.Slice lo hi none p2) pos) (evSl m a el eh) := by
  refine PE.weak (pe_slice ss_all ha hl hh) ?_
  rintro σ H Q ⟨ι, e, S, se, s, h⟩
  refine ⟨ι, e, S, se, s, FinE.mono ?_ (FinE.bind h)⟩
  rintro ι1 H1 d x1 ⟨S1, _, x, s1, h1⟩ v r
  refine ⟨ι1, e, S1, se.ext x, s1, FinE.mono ?_ (FinE.bind h1)⟩
  rintro ι2 H2 l x2 ⟨S2, _, y, s2, h2⟩
  refine ⟨ι2, e, S2, (se.ext x).ext y, s2, FinE.mono ?_ (FinE.bind h2)⟩
  rintro ι3 H3 u x3 ⟨S3, _, z, s3, h3⟩
  exact k_sl s3 (RepV.ext (y.trans z) d v r) h3
/-- x[::-1] of a list -/
def evRevL (m : Bool) (a : Ev) : Ev := fun e S => (a e S).bind fun d S1 => match sqL S1 d with
  | some ds => mkL m ds.reverse S1
  | none => .bad
theorem f_revL {m : Bool} {e : Expr} {a : Ev} {k : Nat} {p1 p2 p3 pos : Pos} (ha : PEF X W e a) : PEF X W (.Subscript e (.Slice none none (some (.UnaryOp .USub (.Constant (.int 1) k p1) p2)) p3) pos) (evRevL m a) := by
  refine PE.weak (pe_revL ha) ?_
  rintro σ H Q ⟨ι, e, S, se, s, h⟩
  refine ⟨ι, e, S, se, s, FinE.mono ?_ (FinE.bind h)⟩
  rintro ι1 H1 d x1 ⟨S1, _, x, s1, h1⟩ v r
  have h1' : FinE X.K W ι1 H1 σ (Want X.K Q) (match sqL S1 d with
    | some ds => mkL m ds.reverse S1
    | none => .bad) := h1
  cases hp : sqL S1 d with
  | none => rw [hp] at h1'; exact h1'.elim
  | some ds =>
    rw [hp] at h1'
    obtain ⟨a, xs, rfl, h2, h3⟩ := repSqL s1 r hp
    exact ⟨a, xs, rfl, h2, fun p hp => mkL_ok s1 h3.reverse h1' hp⟩

/-! ### what is walked -/
structure Src where
  ds : List D
  g : List (Nat × List D)
def Src.chk (x : Src) (S : Store) : Prop := ∀ p ∈ x.g, S[p.1]? = some (.lst p.2)
structure Walks (K : PySem.W.Frag) (J : It) (ι0 : Io) (H0 : Hp) (x : Src) : Prop where
  go : ∀ (i : Nat) ι H S d, Ext ι0 H0 ι H → Sim K ι H S → x.chk S → x.ds[i]? = some d → J.go i H ∧ ∀ v H', J.yld i H v H' → Ext ι H ι H' ∧ Sim K ι H' S ∧ RepV K ι H' v d
  stop : ∀ (i : Nat) ι H S, Ext ι0 H0 ι H → Sim K ι H S → x.chk S → x.ds.length ≤ i → J.stop i H
abbrev EvI := Fenv → Store → R Src
def tFI (K : PySem.W.Frag) (W : WX) (ev : EvI) : TI := fun σ H G => ∃ ι e S, SimE K ι H σ e ∧ Sim K ι H S ∧ FinE K W ι H σ (fun ι' H' x => ∀ J, Walks K J ι' H' x → G J H') (ev e S)
def PIF (X : Cx) (W : WX) (tg iter : Expr) (ev : EvI) : Prop := PI X tg iter (tFI X.K W ev)
theorem PI.weak {tg e : Expr} {t t' : TI} (h : PI X tg e t) (w : ∀ σ H Q, t' σ H Q → t σ H Q) : PI X tg e t' := ⟨fun p s σ H Q I q => h.run p s σ H Q I (w σ H Q q)⟩
theorem chk_nil {ds : List D} {S : Store} : (Src.mk ds []).chk S := fun p h => nomatch h
section
variable {K : PySem.W.Frag} {ι : Io} {H : Hp} {S : Store}
/-- a list that is to be read: it stands through -/
def Through (K : PySem.W.Frag) (ι : Io) (H : Hp) (g : List (Nat × List D)) (a : Addr) (xs : List V) (ds : List D) : Prop :=
  ∀ ι' H' S', Ext ι H ι' H' → Sim K ι' H' S' → (∀ p ∈ g, S'[p.1]? = some (.lst p.2)) → ∃ ys, SqL K H' a ys ∧ RepVs K ι' H' ys ds
def SqL.uniq (K : PySem.W.Frag) (H : Hp) (a : Addr) : Prop := ∀ xs ys : List V, SqL K H a xs → SqL K H a ys → xs = ys
def srcOf (S : Store) : D → Option Src
  | .tup ds => some ⟨ds, []⟩
  | .lst ds => some ⟨ds, []⟩
  | .scr ns => some ⟨ns.map .int, []⟩
  | .str x => some ⟨x.cps.toList.map fun c => .str ⟨#[c]⟩, []⟩
  | .ref n => match S[n]? with
    | some (.lst ds) => some ⟨ds, [(n, ds)]⟩
    | _ => none
  | _ => none
/-- a value that is a list, through -/
theorem listThrough (s : Sim K ι H S) {v : V} {d : D} {x : Src} (r : RepV K ι H v d) (e : srcOf S d = some x) (nt : ∀ ds, d ≠ .tup ds) (ns : ∀ z, d ≠ .str z) :
    ∃ a, v = .ref a ∧ ∀ ι' H' S', Ext ι H ι' H' → Sim K ι' H' S' → x.chk S' → ∃ ys, SqL K H' a ys ∧ RepVs K ι' H' ys x.ds := by
  cases d with
  | tup ds => exact absurd rfl (nt ds)
  | str z => exact absurd rfl (ns z)
  | lst ds =>
    cases e
    obtain ⟨a, xs, rfl, h1, h2, h3⟩ := r
    exact ⟨a, rfl, fun ι' H' S' y _ _ => ⟨xs, .inl (.inl (y.out h1 h2).1), RepVs.ext y ds xs h3⟩⟩
  | scr ns' =>
    cases e
    obtain ⟨a, rfl, h1⟩ := r
    refine ⟨a, rfl, fun ι' H' S' y _ _ => ⟨ns'.map V.int, ?_, RepVs.ints ns'⟩⟩
    rcases h1 with ⟨o, h⟩ | h
    · exact .inl (.inr ⟨o, y.frzs _ _ _ h⟩)
    · exact h _
  | ref n =>
    obtain ⟨a, rfl, h1⟩ := r
    have e' : (match S[n]? with
      | some (.lst ds) => some (Src.mk ds [(n, ds)])
      | _ => none) = some x := e
    cases q : S[n]? with
    | none => rw [q] at e'; cases e'
    | some m =>
      rw [q] at e'
      cases m with
      | dct _ => cases e'
      | ins _ _ => cases e'
      | ldc _ => cases e'
      | dcT _ => cases e'
      | ldT _ => cases e'
      | lst ds =>
        cases e'
        refine ⟨a, rfl, fun ι' H' S' y s' c => ?_⟩
        have c' := c (n, ds) (by simp)
        obtain ⟨m, h2, h3⟩ := s'.at (y.get h1)
        rw [c'] at h2
        cases h2
        obtain ⟨xs, h4, h5⟩ := h3
        exact ⟨xs, .inl (.inl h4), h5⟩
  | _ => cases e
end
def evIter (a : Ev) : EvI := fun e S => (a e S).bind fun d S1 => match srcOf S1 d with
  | some x => .ok x S1
  | none => .bad
theorem walks_list {K : PySem.W.Frag} {ι : Io} {H : Hp} {a : Addr} {x : Src} (h : ∀ ι' H' S', Ext ι H ι' H' → Sim K ι' H' S' → x.chk S' → ∃ ys, SqL K H' a ys ∧ RepVs K ι' H' ys x.ds) : Walks K (Itl K a) ι H x where
  go := fun i ι' H' S' d y s' c e => by
    obtain ⟨ys, h1, h2⟩ := h ι' H' S' y s' c
    obtain ⟨v, h3, h4⟩ := h2.get e
    refine ⟨⟨ys, v, h1, h3⟩, fun w H2 hw => ?_⟩
    obtain ⟨rfl, hw⟩ := hw
    have := hw ys h1
    rw [h3] at this
    cases this
    exact ⟨Ext.refl _ _, s', h4⟩
  stop := fun i ι' H' S' y s' c e => by
    obtain ⟨ys, h1, h2⟩ := h ι' H' S' y s' c
    exact ⟨ys, h1, by rw [h2.length]; exact e⟩
theorem walks_tup {K : PySem.W.Frag} {ι : Io} {H : Hp} {a : Addr} {xs : List V} {ds : List D} (h1 : SqT K H a xs) (h2 : RepVs K ι H xs ds) : Walks K (Itt K a) ι H ⟨ds, []⟩ where
  go := fun i ι' H' S' d y s' c e => by
    obtain ⟨v, h3, h4⟩ := (RepVs.ext y ds xs h2).get e
    refine ⟨⟨xs, v, y.sqT h1, h3⟩, fun w H2 hw => ?_⟩
    obtain ⟨rfl, hw⟩ := hw
    have := hw xs (y.sqT h1)
    rw [h3] at this
    cases this
    exact ⟨Ext.refl _ _, s', h4⟩
  stop := fun i ι' H' S' y s' c e => ⟨xs, y.sqT h1, by rw [h2.length]; exact e⟩
theorem walks_str {K : PySem.W.Frag} {ι : Io} {H : Hp} {z : Str} : Walks K (Its z) ι H ⟨z.cps.toList.map fun c => .str ⟨#[c]⟩, []⟩ where
  go := fun i ι' H' S' d y s' c e => by
    have e1 : (z.cps.toList.map fun c => D.str ⟨#[c]⟩)[i]? = some d := e
    rw [List.getElem?_map] at e1
    cases q : z.cps.toList[i]? with
    | none => rw [q] at e1; cases e1
    | some k =>
      rw [q] at e1
      cases e1
      have hi : i < z.cps.size := by simpa using (List.getElem?_eq_some_iff.mp q).1
      refine ⟨hi, fun w H2 hw => ?_⟩
      obtain ⟨rfl, k', hk, rfl⟩ := hw
      have : z.cps[i]? = some k := by simpa using q
      rw [this] at hk
      cases hk
      exact ⟨Ext.refl _ _, s', rfl⟩
  stop := fun i ι' H' S' y s' c e => by simpa [Its] using e
theorem fi_any {tg e : Expr} {a : Ev} (ha : PEF X W e a) : PIF X W tg e (evIter a) := by
  refine PI.weak (PI.or (pi_tup ha) (PI.or (pi_str ha) (pi_list ha))) ?_
  rintro σ H G ⟨ι, en, S, se, s, h⟩
  have h' : FinE X.K W ι H σ (fun ι' H' x => ∀ J, Walks X.K J ι' H' x → G J H') ((a en S).bind fun d S1 => match srcOf S1 d with
    | some x => .ok x S1
    | none => .bad) := h
  have key : ∀ {Gx : V → Hp → Prop}, (∀ ι1 H1 S1 v d x, a en S = .ok d S1 → Ext ι H ι1 H1 → Sim X.K ι1 H1 S1 → RepV X.K ι1 H1 v d → srcOf S1 d = some x → (∀ J, Walks X.K J ι1 H1 x → G J H1) → Gx v H1) → tF X.K W a σ H Gx := by
    intro Gx k
    refine ⟨ι, en, S, se, s, FinE.mono ?_ (FinE.bind h')⟩
    rintro ι1 H1 d x1 ⟨S1, ea, x, s1, h1⟩ v r
    cases q : srcOf S1 d with
    | none => rw [q] at h1; exact h1.elim
    | some y => rw [q] at h1; exact k ι1 H1 S1 v d y ea x s1 r q (h1 H1 ι1 (Ext.refl _ _) s1)
  by_cases c1 : ∃ ds S1, a en S = .ok (.tup ds) S1
  · obtain ⟨ds, S1, c1⟩ := c1
    refine .inl (key fun ι1 H1 S2 v d x ea x1 s1 r q k => ?_)
    rw [c1] at ea
    cases ea
    cases q
    obtain ⟨b, xs, rfl, h1, h2⟩ := r
    exact ⟨b, rfl, ⟨xs, SqT.of h1⟩, k _ (walks_tup (SqT.of h1) h2)⟩
  · by_cases c2 : ∃ z S1, a en S = .ok (.str z) S1
    · obtain ⟨z, S1, c2⟩ := c2
      refine .inr (.inl (key fun ι1 H1 S2 v d x ea x1 s1 r q k => ?_))
      rw [c2] at ea
      cases ea
      cases q
      exact ⟨z, r, k _ walks_str⟩
    · refine .inr (.inr (key fun ι1 H1 S2 v d x ea x1 s1 r q k => ?_))
      obtain ⟨b, rfl, hb⟩ := listThrough s1 r q (fun ds e => c1 ⟨ds, S2, by rw [ea, e]⟩) (fun ds e => c2 ⟨ds, S2, by rw [ea, e]⟩)
      have hc : x.chk S2 := by
        cases d with
        | ref n =>
          have q' : (match S2[n]? with
            | some (.lst ds) => some (Src.mk ds [(n, ds)])
            | _ => none) = some x := q
          cases q2 : S2[n]? with
          | none => rw [q2] at q'; cases q'
          | some m =>
            rw [q2] at q'
            cases m with
            | lst ds => cases q'; intro p hp; simp at hp; subst hp; exact q2
            | dct _ => cases q'
            | ins _ _ => cases q'
            | ldc _ => cases q'
            | dcT _ => cases q'
            | ldT _ => cases q'
        | tup _ => cases q; exact chk_nil
        | lst _ => cases q; exact chk_nil
        | scr _ => cases q; exact chk_nil
        | str _ => cases q; exact chk_nil
        | _ => cases q
      obtain ⟨ys, h1, h2⟩ := hb ι1 H1 S2 (Ext.refl _ _) s1 hc
      exact ⟨b, rfl, ⟨ys, h1⟩, k _ (walks_list hb)⟩
/-- within 62 bits; a closed test, so that neither the kernel nor whnf runs into the bound -/
noncomputable def lim62 (i : Int) : Bool := @decide (-(2 ^ 62) ≤ i ∧ i < 2 ^ 62) (Classical.propDecidable _)
theorem lim62_of {i : Int} (h : -(2 ^ 62) ≤ i ∧ i < 2 ^ 62) : lim62 i = true := @decide_eq_true _ (Classical.propDecidable _) h
def rangeD (lo hi : Int) : List D := (List.range (hi - lo).toNat).map fun k => .int (lo + (k : Nat))
noncomputable def evRange (a : EvL) : EvI := fun e S => (a e S).bind fun ds S1 => match ds with
  | [.int j] => if lim62 j = true then .ok ⟨rangeD 0 j, []⟩ S1 else .bad
  | [.int i, .int j] => if (lim62 i && lim62 j) = true then .ok ⟨rangeD i j, []⟩ S1 else .bad
  | _ => .bad
theorem walks_range {K : PySem.W.Frag} {ι : Io} {H : Hp} {lo hi : Int} : Walks K (Itr lo (hi - lo).toNat) ι H ⟨rangeD lo hi, []⟩ where
  go := fun i ι' H' S' d y s' c e => by
    have e1 : (rangeD lo hi)[i]? = some d := e
    unfold rangeD at e1
    rw [List.getElem?_map] at e1
    cases q : (List.range (hi - lo).toNat)[i]? with
    | none => rw [q] at e1; cases e1
    | some k =>
      rw [q] at e1
      cases e1
      obtain ⟨h1, h2⟩ := List.getElem?_eq_some_iff.mp q
      rw [List.getElem_range] at h2
      subst h2
      rw [List.length_range] at h1
      refine ⟨h1, fun w H2 hw => ?_⟩
      obtain ⟨rfl, rfl⟩ := hw
      exact ⟨Ext.refl _ _, s', rfl⟩
  stop := fun i ι' H' S' y s' c e => by
    have e : (rangeD lo hi).length ≤ i := e
    unfold rangeD at e
    rw [List.length_map, List.length_range] at e
    exact e
theorem lim62_ok {i : Int} (h : lim62 i = true) : -(2 ^ 62) ≤ i ∧ i < 2 ^ 62 := by
  exact @of_decide_eq_true _ (Classical.propDecidable _) h
theorem fi_range1 {tg a : Expr} {ea : EvL} {p pos : Pos} (hg : Gl X "range") (hm : X.mg "range" = none) (ha : PAF X W [a] ea) (h1 : ∀ e S ds S1, ea e S = .ok ds S1 → ds.length = 1) (hs : starEach [a] X.env = [(false, eval a X.env)] := by rfl) :
    PIF X W tg (.Call (.Name "range" p) [a] [] pos) (evRange ea) := by
  refine PI.weak (pi_range1 hg hm ha hs) ?_
  rintro σ H G ⟨ι, en, S, se, s, h⟩
  refine ⟨ι, en, S, se, s, FinE.mono ?_ (FinE.bind h)⟩
  rintro ι1 H1 ds x1 ⟨S1, e1, x, s1, k⟩ xs r
  have hl := h1 _ _ _ _ e1
  match ds, hl, k with
  | [d], _, k =>
    cases d with
    | int j =>
      have k' : FinE X.K W ι1 H1 σ (fun ι' H' x => ∀ J, Walks X.K J ι' H' x → G J H') (if lim62 j = true then .ok ⟨rangeD 0 j, []⟩ S1 else .bad) := k
      by_cases c : lim62 j = true
      · rw [if_pos c] at k'
        obtain ⟨y, rfl, ry⟩ := r.one
        have ey : y = .int j := ry
        subst ey
        refine ⟨j, rfl, (lim62_ok c).1, (lim62_ok c).2, k' H1 ι1 (Ext.refl _ _) s1 _ ?_⟩
        have := walks_range (K := X.K) (ι := ι1) (H := H1) (lo := 0) (hi := j)
        rwa [Int.sub_zero] at this
      · rw [if_neg c] at k'; exact k'.elim
    | _ => exact k.elim
theorem fi_range2 {tg a b : Expr} {ea : EvL} {p pos : Pos} (hg : Gl X "range") (hm : X.mg "range" = none) (ha : PAF X W [a, b] ea) (h1 : ∀ e S ds S1, ea e S = .ok ds S1 → ds.length = 2) (hs : starEach [a, b] X.env = [(false, eval a X.env), (false, eval b X.env)] := by rfl)
    (hs2 : starEach [b] X.env = [(false, eval b X.env)] := by rfl) : PIF X W tg (.Call (.Name "range" p) [a, b] [] pos) (evRange ea) := by
  refine PI.weak (pi_range2 hg hm ha hs hs2) ?_
  rintro σ H G ⟨ι, en, S, se, s, h⟩
  refine ⟨ι, en, S, se, s, FinE.mono ?_ (FinE.bind h)⟩
  rintro ι1 H1 ds x1 ⟨S1, e1, x, s1, k⟩ xs r
  have hl := h1 _ _ _ _ e1
  match ds, hl, k, r with
  | [d, d'], _, k, r =>
    cases d with
    | int i =>
      cases d' with
      | int j =>
        have k' : FinE X.K W ι1 H1 σ (fun ι' H' x => ∀ J, Walks X.K J ι' H' x → G J H') (if (lim62 i && lim62 j) = true then .ok ⟨rangeD i j, []⟩ S1 else .bad) := k
        by_cases c : (lim62 i && lim62 j) = true
        · rw [if_pos c] at k'
          rw [Bool.and_eq_true] at c
          obtain ⟨y, z, rfl, ry, rz⟩ := r.two
          have ey : y = .int i := ry
          have ez : z = .int j := rz
          subst ey ez
          exact ⟨i, j, rfl, ⟨(lim62_ok c.1).1, (lim62_ok c.1).2, (lim62_ok c.2).1, (lim62_ok c.2).2⟩, k' H1 ι1 (Ext.refl _ _) s1 _ walks_range⟩
        · rw [if_neg c] at k'; exact k'.elim
      | _ => exact k.elim
    | _ => exact k.elim
/-- enumerate of a list -/
def enumD (ds : List D) : List D := ds.zipIdx.map fun p => .tup [.int (p.2 : Nat), p.1]
def srcL (S : Store) (d : D) : Option Src := match d with
  | .tup _ => none
  | .str _ => none
  | _ => srcOf S d
def evEnum (a : EvL) : EvI := fun e S => (a e S).bind fun ds S1 => match ds with
  | [d] => match srcL S1 d with
    | some x => .ok ⟨enumD x.ds, x.g⟩ S1
    | none => .bad
  | _ => .bad
theorem srcL_through {K : PySem.W.Frag} {ι : Io} {H : Hp} {S : Store} (s : Sim K ι H S) {v : V} {d : D} {x : Src} (r : RepV K ι H v d) (e : srcL S d = some x) :
    (∃ a, v = .ref a ∧ ∀ ι' H' S', Ext ι H ι' H' → Sim K ι' H' S' → x.chk S' → ∃ ys, SqL K H' a ys ∧ RepVs K ι' H' ys x.ds) ∧ x.chk S := by
  have nt : ∀ ds, d ≠ .tup ds := fun ds z => by rw [z] at e; cases e
  have ns : ∀ ds, d ≠ .str ds := fun ds z => by rw [z] at e; cases e
  have e' : srcOf S d = some x := by cases d <;> first | exact e | cases e
  refine ⟨listThrough s r e' nt ns, ?_⟩
  cases d with
  | ref n =>
    have q' : (match S[n]? with
      | some (.lst ds) => some (Src.mk ds [(n, ds)])
      | _ => none) = some x := e'
    cases q2 : S[n]? with
    | none => rw [q2] at q'; cases q'
    | some m =>
      rw [q2] at q'
      cases m with
      | lst ds => cases q'; intro p hp; simp at hp; subst hp; exact q2
      | dct _ => cases q'
      | ins _ _ => cases q'
      | ldc _ => cases q'
      | dcT _ => cases q'
      | ldT _ => cases q'
  | tup _ => cases e
  | str _ => cases e
  | lst _ => cases e; exact chk_nil
  | scr _ => cases e; exact chk_nil
  | _ => cases e
theorem Sim.newE {K : PySem.W.Frag} {ι : Io} {H : Hp} {S : Store} (s : Sim K ι H S) {T : Addr} {xs : List V} {ds : List D} (hT : H T = none) (r : RepVs K ι H xs ds) :
    Ext ι H ι (upd H T (.tup xs)) ∧ Sim K ι (upd H T (.tup xs)) S ∧ RepV K ι (upd H T (.tup xs)) (.ref T) (.tup ds) :=
  ⟨Ext.new ι hT, s.new hT, T, xs, rfl, upd_same, RepVs.ext (Ext.new ι hT) ds xs r⟩
theorem walks_enum {K : PySem.W.Frag} {ι : Io} {H : Hp} {a : Addr} {x : Src} (h : ∀ ι' H' S', Ext ι H ι' H' → Sim K ι' H' S' → x.chk S' → ∃ ys, SqL K H' a ys ∧ RepVs K ι' H' ys x.ds) : Walks K (Ite K a) ι H ⟨enumD x.ds, x.g⟩ where
  go := fun i ι' H' S' d y s' c e => by
    obtain ⟨ys, h1, h2⟩ := h ι' H' S' y s' c
    have e1 : (x.ds.zipIdx.map fun p => D.tup [.int (p.2 : Nat), p.1])[i]? = some d := e
    rw [List.getElem?_map] at e1
    cases q : x.ds.zipIdx[i]? with
    | none => rw [q] at e1; cases e1
    | some k =>
      rw [q] at e1
      cases e1
      rw [List.getElem?_zipIdx] at q
      cases q2 : x.ds[i]? with
      | none => rw [q2] at q; cases q
      | some z =>
        rw [q2] at q
        cases q
        obtain ⟨v, h3, h4⟩ := h2.get q2
        refine ⟨⟨ys, v, h1, h3⟩, fun w H2 hw => ?_⟩
        obtain ⟨T, v', rfl, hT, rfl, hw⟩ := hw
        have := hw ys h1
        rw [h3] at this
        cases this
        exact s'.newE hT ⟨_, _, rfl, by show V.int _ = V.int _; simp, v, [], rfl, h4, rfl⟩
  stop := fun i ι' H' S' y s' c e => by
    obtain ⟨ys, h1, h2⟩ := h ι' H' S' y s' c
    have e : (enumD x.ds).length ≤ i := e
    unfold enumD at e
    rw [List.length_map, List.length_zipIdx] at e
    exact ⟨ys, h1, by rw [h2.length]; exact e⟩
theorem fi_enum {e : Expr} {ea : EvL} {p pos tpos : Pos} {elts : List Expr} {kk : Nat} (hg : Gl X "enumerate") (hm : X.mg "enumerate" = none) (ha : PAF X W [e] ea) (hs : starEach [e] X.env = [(false, eval e X.env)] := by rfl) :
    PIF X W (.Tuple elts kk tpos) (.Call (.Name "enumerate" p) [e] [] pos) (evEnum ea) := by
  refine PI.weak (pi_enum hg hm ha hs) ?_
  rintro σ H G ⟨ι, en, S, se, s, h⟩
  refine ⟨ι, en, S, se, s, FinE.mono ?_ (FinE.bind h)⟩
  rintro ι1 H1 ds x1 ⟨S1, e1, x, s1, k⟩ xs r
  match ds, k with
  | [d], k =>
    have k' : FinE X.K W ι1 H1 σ (fun ι' H' x => ∀ J, Walks X.K J ι' H' x → G J H') (match srcL S1 d with
      | some x => .ok ⟨enumD x.ds, x.g⟩ S1
      | none => .bad) := k
    cases q : srcL S1 d with
    | none => rw [q] at k'; exact k'.elim
    | some z =>
      rw [q] at k'
      obtain ⟨y, rfl, ry⟩ := r.one
      obtain ⟨⟨a, rfl, ht⟩, hc⟩ := srcL_through s1 ry q
      obtain ⟨ys, h1, _⟩ := ht ι1 H1 S1 (Ext.refl _ _) s1 hc
      exact ⟨a, ys, rfl, h1, k' H1 ι1 (Ext.refl _ _) s1 _ (walks_enum ht)⟩
/-- zip of two lists, or of two tuples -/
def zipD (xs ys : List D) : List D := (xs.zip ys).map fun p => .tup [p.1, p.2]
def evZip (a : EvL) : EvI := fun e S => (a e S).bind fun ds S1 => match ds with
  | [.tup xs, .tup ys] => .ok ⟨zipD xs ys, []⟩ S1
  | [d, d'] => match srcL S1 d, srcL S1 d' with
    | some x, some y => .ok ⟨zipD x.ds y.ds, x.g ++ y.g⟩ S1
    | _, _ => .bad
  | _ => .bad
theorem zipD_get {xs ys : List D} {i : Nat} {d : D} (e : (zipD xs ys)[i]? = some d) : ∃ x y, xs[i]? = some x ∧ ys[i]? = some y ∧ d = .tup [x, y] := by
  unfold zipD at e
  rw [List.getElem?_map] at e
  cases q : (xs.zip ys)[i]? with
  | none => rw [q] at e; cases e
  | some p =>
    rw [q] at e
    cases e
    obtain ⟨x, y⟩ := p
    rw [List.getElem?_zip_eq_some] at q
    exact ⟨x, y, q.1, q.2, rfl⟩
theorem walks_zip {K : PySem.W.Frag} {ι : Io} {H : Hp} {a b : Addr} {x y : Src} (h : ∀ ι' H' S', Ext ι H ι' H' → Sim K ι' H' S' → x.chk S' → ∃ ys, SqL K H' a ys ∧ RepVs K ι' H' ys x.ds)
    (h' : ∀ ι' H' S', Ext ι H ι' H' → Sim K ι' H' S' → y.chk S' → ∃ ys, SqL K H' b ys ∧ RepVs K ι' H' ys y.ds) : Walks K (Itz K a b) ι H ⟨zipD x.ds y.ds, x.g ++ y.g⟩ where
  go := fun i ι' H' S' d z s' c e => by
    obtain ⟨xs, h1, h2⟩ := h ι' H' S' z s' (fun p hp => c p (List.mem_append_left _ hp))
    obtain ⟨ys, k1, k2⟩ := h' ι' H' S' z s' (fun p hp => c p (List.mem_append_right _ hp))
    obtain ⟨dx, dy, e1, e2, rfl⟩ := zipD_get e
    obtain ⟨u, h3, h4⟩ := h2.get e1
    obtain ⟨v, k3, k4⟩ := k2.get e2
    refine ⟨⟨xs, ys, u, v, h1, k1, h3, k3⟩, fun w H2 hw => ?_⟩
    obtain ⟨T, u', v', rfl, hT, rfl, q1, q2⟩ := hw
    have z1 := q1 xs h1
    have z2 := q2 ys k1
    rw [h3] at z1
    rw [k3] at z2
    cases z1
    cases z2
    exact s'.newE hT ⟨_, _, rfl, h4, _, _, rfl, k4, rfl⟩
  stop := fun i ι' H' S' z s' c e => by
    obtain ⟨xs, h1, h2⟩ := h ι' H' S' z s' (fun p hp => c p (List.mem_append_left _ hp))
    obtain ⟨ys, k1, k2⟩ := h' ι' H' S' z s' (fun p hp => c p (List.mem_append_right _ hp))
    have e : (zipD x.ds y.ds).length ≤ i := e
    unfold zipD at e
    rw [List.length_map, List.length_zip] at e
    exact ⟨xs, ys, h1, k1, by rw [h2.length, k2.length]; omega⟩
theorem walks_zipT {K : PySem.W.Frag} {ι : Io} {H : Hp} {a b : Addr} {xs ys : List V} {ds es : List D} (h1 : SqT K H a xs) (h2 : RepVs K ι H xs ds) (k1 : SqT K H b ys) (k2 : RepVs K ι H ys es) : Walks K (RZ.ItzT K a b) ι H ⟨zipD ds es, []⟩ where
  go := fun i ι' H' S' d z s' c e => by
    obtain ⟨dx, dy, e1, e2, rfl⟩ := zipD_get e
    obtain ⟨u, h3, h4⟩ := (RepVs.ext z ds xs h2).get e1
    obtain ⟨v, k3, k4⟩ := (RepVs.ext z es ys k2).get e2
    refine ⟨⟨xs, ys, u, v, z.sqT h1, z.sqT k1, h3, k3⟩, fun w H2 hw => ?_⟩
    obtain ⟨T, u', v', rfl, hT, rfl, q1, q2⟩ := hw
    have z1 := q1 xs (z.sqT h1)
    have z2 := q2 ys (z.sqT k1)
    rw [h3] at z1
    rw [k3] at z2
    cases z1
    cases z2
    exact s'.newE hT ⟨_, _, rfl, h4, _, _, rfl, k4, rfl⟩
  stop := fun i ι' H' S' z s' c e => by
    have e : (zipD ds es).length ≤ i := e
    unfold zipD at e
    rw [List.length_map, List.length_zip] at e
    exact ⟨xs, ys, z.sqT h1, z.sqT k1, by rw [h2.length, k2.length]; omega⟩
theorem fi_zip {e e2 : Expr} {ea : EvL} {p pos tpos : Pos} {elts : List Expr} {kk : Nat} (hg : Gl X "zip") (hm : X.mg "zip" = none) (ha : PAF X W [e, e2] ea)
    (hs : starEach [e, e2] X.env = (false, eval e X.env) :: starEach [e2] X.env := by rfl) (hpl : (backTo pos (starEach [e2] X.env)).any (·.1) = false := by rfl) :
    PIF X W (.Tuple elts kk tpos) (.Call (.Name "zip" p) [e, e2] [] pos) (evZip ea) := by
  refine PI.weak (RZ.pi_zipA hg hm ha hs hpl) ?_
  rintro σ H G ⟨ι, en, S, se, s, h⟩
  refine ⟨ι, en, S, se, s, FinE.mono ?_ (FinE.bind h)⟩
  rintro ι1 H1 ds x1 ⟨S1, e1, x, s1, k⟩ xs r
  have gen : ∀ d d', ds = [d, d'] → FinE X.K W ι1 H1 σ (fun ι' H' x => ∀ J, Walks X.K J ι' H' x → G J H') (match srcL S1 d, srcL S1 d' with
      | some x, some y => .ok ⟨zipD x.ds y.ds, x.g ++ y.g⟩ S1
      | _, _ => .bad) → ∃ a b zs ws, xs = [.ref a, .ref b] ∧ ((SqL X.K H1 a zs ∧ SqL X.K H1 b ws ∧ G (Itz X.K a b) H1) ∨ (SqT X.K H1 a zs ∧ SqT X.K H1 b ws ∧ G (RZ.ItzT X.K a b) H1)) := by
    rintro d d' rfl k
    cases q : srcL S1 d with
    | none => rw [q] at k; exact k.elim
    | some z =>
      cases q' : srcL S1 d' with
      | none => rw [q, q'] at k; exact k.elim
      | some z' =>
        rw [q, q'] at k
        obtain ⟨y, y', rfl, ry, ry'⟩ := r.two
        obtain ⟨⟨a, rfl, ht⟩, hc⟩ := srcL_through s1 ry q
        obtain ⟨⟨b, rfl, ht'⟩, hc'⟩ := srcL_through s1 ry' q'
        obtain ⟨ys, h1, _⟩ := ht ι1 H1 S1 (Ext.refl _ _) s1 hc
        obtain ⟨zs, h2, _⟩ := ht' ι1 H1 S1 (Ext.refl _ _) s1 hc'
        exact ⟨a, b, ys, zs, rfl, .inl ⟨h1, h2, k H1 ι1 (Ext.refl _ _) s1 _ (walks_zip ht ht')⟩⟩
  cases ds with
  | nil => exact k.elim
  | cons d ds =>
  cases ds with
  | nil => cases d <;> exact k.elim
  | cons d' ds =>
  cases ds with
  | cons d3 ds => cases d <;> first | exact k.elim | (cases d' <;> exact k.elim)
  | nil =>
    cases d with
    | tup us =>
      cases d' with
      | tup ws =>
        obtain ⟨y, y', rfl, ry, ry'⟩ := r.two
        obtain ⟨a, zs, rfl, h1, h2⟩ := ry
        obtain ⟨b, zs', rfl, k1, k2⟩ := ry'
        exact ⟨a, b, zs, zs', rfl, .inr ⟨SqT.of h1, SqT.of k1, k H1 ι1 (Ext.refl _ _) s1 _ (walks_zipT (SqT.of h1) h2 (SqT.of k1) k2)⟩⟩
      | _ => exact k.elim
    | non => exact gen _ _ rfl k
    | bl _ => exact gen _ _ rfl k
    | int _ => exact gen _ _ rfl k
    | str _ => exact gen _ _ rfl k
    | ty _ => exact gen _ _ rfl k
    | lst _ => exact gen _ _ rfl k
    | dct _ => exact gen _ _ rfl k
    | scr _ => exact gen _ _ rfl k
    | ref _ => exact gen _ _ rfl k
    | exc _ _ => exact gen _ _ rfl k

/-! ### for -/
open Classical in
noncomputable def forL (x : Src) (g : EvG) (b : EvS) : List D → Fenv → Store → SR
  | [], e, S => if x.chk S then .nx e S else .bad
  | d :: ds, e, S => if x.chk S then (g d e S).toS fun e1 S1 => match b e1 S1 with
    | .nx e2 S2 => forL x g b ds e2 S2
    | .ct e2 S2 => forL x g b ds e2 S2
    | .bk e2 S2 => .nx e2 S2
    | r => r
    else .bad
noncomputable def evFor (i : EvI) (g : EvG) (b : EvS) : EvS := fun e S => (i e S).bindS e fun x S1 => forL x g b x.ds e S1
theorem fs_for {tg iter : Expr} {body : List Stmt} {i : EvI} {gt : TG} {vs : List Nat} {g : EvG} {b : EvS} {pos : Pos} (hp : PassesOwn (model X.prog X.w) X.A X.env X.xe) (hc : X.calm = true) (hi : PIF X W tg iter i) (hg : PG X tg gt) (k : GOk X.K gt vs g) (hb : PSsF X W body b)
    (hs : ∀ x, foldedSetIterable iter X.env x = pure x := by intro _; rfl) : PSF X W (.For tg iter body [] pos) (evFor i g b) := by
  refine PS.weak (ps_for hp hc hi hg hb hs) ?_
  rintro D' σ H ⟨ι, e, S, se, s, h⟩
  refine ⟨ι, e, S, se, s, FinE.mono ?_ (FinE.bindS se h)⟩
  rintro ι1 H1 x y1 ⟨S1, _, x1, se1, s1, h1⟩ J hw
  refine ⟨fun i m σ2 H2 => m = x.ds.length - i ∧ ∃ ι2 e2 S2, Ext ι1 H1 ι2 H2 ∧ SimE X.K ι2 H2 σ2 e2 ∧ Sim X.K ι2 H2 S2 ∧ FinS X.K W ι2 H2 D' (forL x g b (x.ds.drop i) e2 S2), ⟨_, rfl, ι1, e, S1, Ext.refl _ _, se1, s1, by simpa using h1⟩, ?_⟩
  rintro i m σ2 H2 ⟨rfl, ι2, e2, S2, x2, se2, s2, h2⟩
  by_cases hlt : i < x.ds.length
  · have hd : x.ds.drop i = x.ds[i] :: x.ds.drop (i + 1) := List.drop_eq_getElem_cons hlt
    rw [hd] at h2
    unfold forL at h2
    by_cases c : x.chk S2
    · rw [if_pos c] at h2
      obtain ⟨go, yl⟩ := hw.go i ι2 H2 S2 _ x2 s2 c (List.getElem?_eq_getElem hlt)
      refine .inr ⟨go, fun σ3 H3 => ∃ ι3 e3 S3, Ext ι1 H1 ι3 H3 ∧ SimE X.K ι3 H3 σ3 e3 ∧ Sim X.K ι3 H3 S3 ∧ FinS X.K W ι3 H3 D' (forL x g b (x.ds.drop (i + 1)) e3 S3), fun σ3 H3 hN => ⟨x.ds.length - (i + 1), by omega, rfl, hN⟩, fun v H3 hy => ?_⟩
      obtain ⟨x3, s3, r3⟩ := yl v H3 hy
      refine k ι2 H3 σ2 e2 S2 v _ _ (se2.ext x3) s3 r3 (FinG.mono ?_ (FinG.of (h2.ext x3)))
      rintro σ4 H4 ⟨ι4, e4, S4, _, x4, se4, s4, h4⟩
      refine ⟨ι4, e4, S4, se4, s4, ?_⟩
      cases q : b e4 S4 with
      | nx e5 S5 => rw [q] at h4; exact fun σ5 H5 ι5 x5 se5 s5 => ⟨ι5, e5, S5, ((x2.trans x3).trans x4).trans x5, se5, s5, h4.ext x5⟩
      | ct e5 S5 => rw [q] at h4; exact fun σ5 H5 ι5 x5 se5 s5 => ⟨ι5, e5, S5, ((x2.trans x3).trans x4).trans x5, se5, s5, h4.ext x5⟩
      | bk e5 S5 => rw [q] at h4; exact h4
      | rt d S5 => rw [q] at h4; exact h4
      | ex z e5 S5 => rw [q] at h4; exact h4
      | bad => rw [q] at h4; exact h4.elim
    · rw [if_neg c] at h2; exact h2.elim
  · have hd : x.ds.drop i = [] := List.drop_eq_nil_of_le (by omega)
    rw [hd] at h2
    unfold forL at h2
    by_cases c : x.chk S2
    · rw [if_pos c] at h2
      exact .inl ⟨hw.stop i ι2 H2 S2 x2 s2 c (by omega), h2 σ2 H2 ι2 (Ext.refl _ _) se2 s2⟩
    · rw [if_neg c] at h2; exact h2.elim

/-! ### while -/
def whileN (c : EvB) (b : EvS) : Nat → Fenv → Store → SR
  | 0, _, _ => .bad
  | n + 1, e, S => (c e S).bindS e fun t S1 => if t = true then match b e S1 with
    | .nx e2 S2 => whileN c b n e2 S2
    | .ct e2 S2 => whileN c b n e2 S2
    | .bk e2 S2 => .nx e2 S2
    | r => r
    else .nx e S1
theorem whileN_more {c : EvB} {b : EvS} : ∀ {n : Nat} {e : Fenv} {S : Store}, whileN c b n e S ≠ .bad → whileN c b (n + 1) e S = whileN c b n e S
  | 0, _, _, h => absurd rfl h
  | n + 1, e, S, h => by
    rw [whileN] at h ⊢
    conv => rhs; rw [whileN]
    cases q : c e S with
    | bad => rfl
    | ex z S1 => rfl
    | ok t S1 =>
      rw [q] at h
      cases t with
      | false => rfl
      | true =>
        simp only [R.bindS_ok, if_true] at h ⊢
        cases q2 : b e S1 with
        | nx e2 S2 => rw [q2] at h; exact whileN_more h
        | ct e2 S2 => rw [q2] at h; exact whileN_more h
        | _ => rfl
theorem whileN_le {c : EvB} {b : EvS} {n : Nat} {e : Fenv} {S : Store} (h : whileN c b n e S ≠ .bad) : ∀ k, whileN c b (n + k) e S = whileN c b n e S
  | 0 => rfl
  | k + 1 => by
    have ih := whileN_le h k
    rw [← Nat.add_assoc, whileN_more (by rw [ih]; exact h), ih]
open Classical in
noncomputable def evWhile (c : EvB) (b : EvS) : EvS := fun e S => if h : ∃ n, whileN c b n e S ≠ .bad then whileN c b h.choose e S else .bad
theorem evWhile_of {c : EvB} {b : EvS} {n : Nat} {e : Fenv} {S : Store} {r : SR} (h : whileN c b n e S = r) (hr : r ≠ .bad) : evWhile c b e S = r := by
  unfold evWhile
  have ex : ∃ n, whileN c b n e S ≠ .bad := ⟨n, by rw [h]; exact hr⟩
  rw [dif_pos ex]
  have h1 := whileN_le ex.choose_spec n
  have h2 := whileN_le (n := n) (by rw [h]; exact hr) ex.choose
  rw [Nat.add_comm] at h2
  rw [← h1, h2, h]
theorem evWhile_unf (c : EvB) (b : EvS) (e : Fenv) (S : Store) : evWhile c b e S = (c e S).bindS e fun t S1 => if t = true then match b e S1 with
    | .nx e2 S2 => evWhile c b e2 S2
    | .ct e2 S2 => evWhile c b e2 S2
    | .bk e2 S2 => .nx e2 S2
    | r => r
    else .nx e S1 := by
  have key : ∀ {e S}, (∀ n, whileN c b n e S = .bad) → evWhile c b e S = .bad := fun {e S} h => by
    unfold evWhile
    rw [dif_neg]
    rintro ⟨n, hn⟩
    exact hn (h n)
  cases q : c e S with
  | bad => exact key fun n => by cases n <;> simp [whileN, q]
  | ex z S1 => exact evWhile_of (n := 1) (by simp [whileN, q]) (by simp)
  | ok t S1 =>
    cases t with
    | false => exact evWhile_of (n := 1) (by simp [whileN, q]) (by simp)
    | true =>
      simp only [R.bindS_ok, if_true]
      have cont : ∀ {e2 S2}, (b e S1 = .nx e2 S2 ∨ b e S1 = .ct e2 S2) → evWhile c b e S = evWhile c b e2 S2 := fun {e2 S2} q2 => by
        have un : ∀ n, whileN c b (n + 1) e S = whileN c b n e2 S2 := fun n => by
          rw [whileN, q]
          rcases q2 with q2 | q2 <;> simp [q2]
        by_cases ex : ∃ n, whileN c b n e2 S2 ≠ .bad
        · obtain ⟨n, hn⟩ := ex
          rw [evWhile_of (n := n + 1) (un n) hn, evWhile_of (n := n) rfl hn]
        · have all : ∀ n, whileN c b n e2 S2 = .bad := fun n => Classical.byContradiction fun z => ex ⟨n, z⟩
          rw [key all, key fun n => by
            cases n with
            | zero => rfl
            | succ n => rw [un]; exact all n]
      cases q2 : b e S1 with
      | nx e2 S2 => exact cont (.inl q2)
      | ct e2 S2 => exact cont (.inr q2)
      | bk e2 S2 => exact evWhile_of (n := 1) (by simp [whileN, q, q2]) (by simp)
      | rt e2 S2 => exact evWhile_of (n := 1) (by simp [whileN, q, q2]) (by simp)
      | ex z e2 S2 => exact evWhile_of (n := 1) (by simp [whileN, q, q2]) (by simp)
      | bad => exact key fun n => by cases n <;> simp [whileN, q, q2]
theorem fs_while {c : Expr} {body : List Stmt} {ec : EvB} {b : EvS} {pos : Pos} (hp : PassesOwn (model X.prog X.w) X.A X.env X.xe) (hc : PTF X W c ec) (hb : PSsF X W body b) : PSF X W (.While c body [] pos) (evWhile ec b) := by
  refine PS.weak (ps_while hp hc hb) ?_
  rintro D' σ H ⟨ι, e, S, se, s, h⟩
  have nb : ∃ n, whileN ec b n e S ≠ .bad := Classical.byContradiction fun z => by
    unfold evWhile at h
    rw [dif_neg z] at h
    exact h.elim
  obtain ⟨n, hn⟩ := nb
  rw [evWhile_of rfl hn] at h
  refine ⟨fun m σ2 H2 => ∃ ι2 e2 S2, SimE X.K ι2 H2 σ2 e2 ∧ Sim X.K ι2 H2 S2 ∧ FinS X.K W ι2 H2 D' (whileN ec b m e2 S2), ⟨n, ι, e, S, se, s, h⟩, ?_⟩
  rintro m σ2 H2 ⟨ι2, e2, S2, se2, s2, h2⟩
  cases m with
  | zero => exact h2.elim
  | succ m =>
    rw [whileN] at h2
    refine ⟨ι2, e2, S2, se2, s2, FinE.mono ?_ (FinE.bindS se2 h2)⟩
    rintro ι3 H3 t x3 ⟨S3, _, _, se3, s3, h3⟩
    cases t with
    | false =>
      simp only [Bool.false_eq_true, if_false] at h3 ⊢
      exact h3 σ2 H3 ι3 (Ext.refl _ _) se3 s3
    | true =>
      simp only [if_true] at h3 ⊢
      refine ⟨fun σ4 H4 => ∃ ι4 e4 S4, SimE X.K ι4 H4 σ4 e4 ∧ Sim X.K ι4 H4 S4 ∧ FinS X.K W ι4 H4 D' (whileN ec b m e4 S4), fun σ4 H4 q => ⟨m, Nat.lt_succ_self m, q⟩, ι3, e2, S3, se3, s3, ?_⟩
      cases q : b e2 S3 with
      | nx e5 S5 => rw [q] at h3; exact fun σ5 H5 ι5 x5 se5 s5 => ⟨ι5, e5, S5, se5, s5, h3.ext x5⟩
      | ct e5 S5 => rw [q] at h3; exact fun σ5 H5 ι5 x5 se5 s5 => ⟨ι5, e5, S5, se5, s5, h3.ext x5⟩
      | bk e5 S5 => rw [q] at h3; exact h3
      | rt d S5 => rw [q] at h3; exact h3
      | ex z e5 S5 => rw [q] at h3; exact h3
      | bad => rw [q] at h3; exact h3.elim

/-! ### comprehensions -/
def R.noex {α : Type} : R α → R α
  | .ok a S => .ok a S
  | _ => .bad
@[simp] theorem R.noex_ok {α : Type} (a : α) (S : Store) : (R.ok a S).noex = .ok a S := rfl
abbrev W0 : WX := fun _ _ _ _ => False
theorem FinE.of_noex {α : Type} {K : PySem.W.Frag} {ι : Io} {H : Hp} {σ σ' : L2.St} {W W' : WX} {g : Io → Hp → α → Prop} : ∀ {r : R α}, FinE K W ι H σ g r.noex → FinE K W' ι H σ' g r
  | .ok _ _, h => h
  | .ex _ _, h => h.elim
  | .bad, h => h
def wipeE (e : Fenv) : List Nat → Fenv
  | [] => e
  | v :: vs => (wipeE e vs).set v none
theorem SimE.wipe {K : PySem.W.Frag} {ι : Io} {H : Hp} {σ : L2.St} {e : Fenv} (s : SimE K ι H σ e) : ∀ vs : List Nat, SimE K ι H (wipe σ vs) (wipeE e vs)
  | [] => s
  | v :: vs => by
    have ih := s.wipe vs
    refine ⟨by show ((wipeE e vs).set v none).length = ((L2.wipe σ vs).set v none).length; simp [ih.len], fun i d h => ?_⟩
    have h' : ((wipeE e vs).set v none)[i]? = some (some d) := h
    by_cases hi : v = i
    · subst hi
      by_cases hl : v < (wipeE e vs).length
      · rw [List.getElem?_set_self hl] at h'; cases h'
      · rw [List.getElem?_eq_none (by simpa using hl)] at h'; cases h'
    · rw [List.getElem?_set_ne hi] at h'
      obtain ⟨w, h1, h2⟩ := ih.get i d h'
      exact ⟨w, (List.getElem?_set_ne hi).trans h1, h2⟩
theorem wipe_get {σ : L2.St} : ∀ {vs : List Nat} {j : Nat}, (wipe σ vs)[j]? = if j ∈ vs ∧ j < σ.length then some none else σ[j]?
  | [], j => by simp [wipe]
  | v :: vs, j => by
    have ih := wipe_get (σ := σ) (vs := vs) (j := j)
    show ((wipe σ vs).set v none)[j]? = _
    have hl := wipe_length σ vs
    by_cases e : v = j
    · subst e
      by_cases hj : v < σ.length
      · rw [List.getElem?_set_self (by omega), if_pos ⟨List.mem_cons_self, hj⟩]
      · rw [List.getElem?_eq_none (by rw [List.length_set]; omega), if_neg (fun z => hj z.2), List.getElem?_eq_none (by omega)]
    · rw [List.getElem?_set_ne e, ih]
      have : j ∈ v :: vs ↔ j ∈ vs := by simp [Ne.symm e]
      simp only [this]
theorem wipe_same {σ σ' : L2.St} {vs ws : List Nat} (h : ∀ (j : Nat), j ∉ vs → σ'[j]? = σ[j]?) (hl : σ'.length = σ.length) (hs : ∀ i ∈ vs, i ∈ ws) : wipe σ' ws = wipe σ ws := by
  apply List.ext_getElem?
  intro j
  rw [wipe_get, wipe_get, hl]
  by_cases c : j ∈ ws ∧ j < σ.length
  · rw [if_pos c, if_pos c]
  · rw [if_neg c, if_neg c]
    by_cases c2 : j ∈ ws
    · have h3 : σ.length ≤ j := Nat.le_of_not_lt fun z => c ⟨c2, z⟩
      rw [List.getElem?_eq_none h3, List.getElem?_eq_none (by omega)]
    · exact h j fun z => c2 (hs j z)
theorem wipe_wipe {σ : L2.St} {vs : List Nat} : wipe (wipe σ vs) vs = wipe σ vs := by
  apply List.ext_getElem?
  intro j
  rw [wipe_get, wipe_get, wipe_length]
  by_cases c : j ∈ vs ∧ j < σ.length
  · rw [if_pos c, if_pos c]
  · rw [if_neg c]
open Classical in
noncomputable def lcL (x : Src) (g : EvG) (t : EvB) (a : Ev) (e : Fenv) : List D → Store → R (List D)
  | [], S => if x.chk S then .ok [] S else .bad
  | d :: ds, S => if x.chk S then (g d e S).noex.bind fun e1 S1 => (t e1 S1).noex.bind fun b S2 => if b = true then (a e1 S2).noex.bind fun y S3 => (lcL x g t a e ds S3).bind fun ys S4 => .ok (y :: ys) S4 else lcL x g t a e ds S2
    else .bad
noncomputable def evLc (m : Bool) (vs : List Nat) (i : EvI) (g : EvG) (t : EvB) (a : Ev) : Ev := fun e S => (i e S).bind fun x S1 => if fit x.ds.length = true then (lcL x g t a (wipeE e vs) x.ds S1).bind fun ys S2 => mkL m ys S2 else .bad
def evYes : EvB := fun _ S => .ok true S
def PTsF (X : Cx) (W : WX) (ifs : List Expr) (ev : EvB) : Prop := PTs X ifs (tFB X.K W ev)
theorem PTs.weak {X : Cx} {e : List Expr} {t t' : TT} (h : PTs X e t) (w : ∀ σ H Q, t' σ H Q → t σ H Q) : PTs X e t' := ⟨fun p s σ H Q I q => h.run p s σ H Q I (w σ H Q q)⟩
theorem fts_nil {X : Cx} {W : WX} : PTsF X W [] evYes := by
  refine PTs.weak pts_nil ?_
  rintro σ H Q ⟨ι, e, S, se, s, h⟩
  exact h H ι (Ext.refl _ _) s
theorem fts_one {X : Cx} {W : WX} {c : Expr} {ev : EvB} (h : PTF X W c ev) : PTsF X W [c] ev := pts_one h
theorem Ext.overH {ι ι' : Io} {H H' : Hp} (x : Ext ι H ι' H') {p : Addr} {o : HO} (h : H p = none) : Ext ι H ι' (upd H' p o) :=
  ⟨x.pre, fun b u e n => ⟨by rw [upd_ne (ne_of_none e h)]; exact (x.keep b u e n).1, (x.keep b u e n).2⟩, fun b xs e => by rw [upd_ne (ne_of_none e h)]; exact x.tups b xs e, fun b u w e => by rw [upd_ne (ne_of_none e h)]; exact x.frzs b u w e, fun b z => x.fre b (upd_fre z), x.hidm, x.hidn⟩
/-- what was hidden is shown: as it stands, or as an object of the store -/
theorem shown_ok {K : PySem.W.Frag} {ι ι' : Io} {H H' : Hp} {σ : L2.St} {S : Store} {m : Bool} {p : Addr} {acc : List V} {ds : List D} {Q : VK} (s0 : ∀ a ∈ ι.hid, H a ≠ none) (x : Ext ι H ι' H') (s : Sim K ι' H' S) (hp : H p = none) (ph : p ∈ ι'.hid) (ps : p ∉ ι'.st) (h : H' p = some (.lst acc)) (r : RepVs K ι' H' acc ds)
    (k : FinE K W ι H σ (Want K Q) (mkL m ds S)) : Q (.ref p) H' := by
  have hm : ∀ b ∈ ι.hid, b ∈ (ι'.show_ p).hid := fun b hb => List.mem_filter.mpr ⟨x.hidm b hb, decide_eq_true fun z => s0 b hb (z ▸ hp)⟩
  have hn : ∀ b ∈ (ι'.show_ p).hid, b ∈ ι.hid ∨ H b = none := fun b hb => x.hidn b (List.mem_filter.mp hb).1
  have np : p ∉ (ι'.show_ p).hid := fun z => by
    have := (List.mem_filter.mp z).2
    simp at this
  cases m with
  | false =>
    have io : ∀ (n : Nat) a, ι'.st[n]? = some a → (ι'.show_ p).st[n]? = some a := fun _ _ h => h
    have oo : ∀ a, ι'.out a → (ι'.show_ p).out a := fun a h => out_show h
    refine k H' (ι'.show_ p) ⟨x.pre, x.keep, x.tups, x.frzs, x.fre, hm, hn⟩ ⟨s.nd, s.len, fun n a m h1 h2 => (s.obj n a m h1 h2).io io oo, fun a ha => s.hid a (List.mem_filter.mp ha).1, fun a ha z => s.apart a ha (List.mem_filter.mp z).1⟩ _ ?_
    exact ⟨p, acc, rfl, h, ⟨ps, np⟩, RepVs.io io oo ds acc r⟩
  | true =>
    have io : ∀ (n : Nat) a, ι'.st[n]? = some a → ((ι'.show_ p).more p).st[n]? = some a := fun n a h => by
      show (ι'.st ++ [p])[n]? = some a
      rw [List.getElem?_append_left (List.getElem?_eq_some_iff.mp h).1]
      exact h
    have oo : ∀ a, ι'.out a → ((ι'.show_ p).more p).out a := fun a h => ⟨by
      show a ∉ ι'.st ++ [p]
      rw [List.mem_append, List.mem_singleton]
      rintro (q | q)
      · exact h.1 q
      · exact h.2 (q ▸ ph), (out_show h).2⟩
    obtain ⟨t, pre⟩ := x.pre
    refine k H' ((ι'.show_ p).more p) ⟨⟨t ++ [p], by show ι'.st ++ [p] = _; rw [pre, List.append_assoc]⟩, fun b o e n => ⟨(x.keep b o e n).1, ?_⟩, x.tups, x.frzs, x.fre, hm, hn⟩ ?_ _ ?_
    · show b ∉ ι'.st ++ [p]
      rw [List.mem_append, List.mem_singleton]
      rintro (q | q)
      · exact (x.keep b o e n).2 q
      · rw [q, hp] at e; cases e
    · exact Sim.push (ι := ι'.show_ p) s.nd s.len (fun a ha => s.hid a (List.mem_filter.mp ha).1) ps np (fun a ha z => s.apart a ha (List.mem_filter.mp z).1) (fun n a m h1 h2 => (s.obj n a m h1 h2).io io oo) ⟨acc, h, RepVs.io io oo ds acc r⟩
    · refine ⟨p, rfl, ?_⟩
      show (ι'.st ++ [p])[S.length]? = some p
      rw [List.getElem?_append_right (by rw [s.len]; exact Nat.le_refl _), s.len]
      simp
theorem FinE.cases {α β : Type} {K : PySem.W.Frag} {ι : Io} {H : Hp} {σ : L2.St} {W : WX} {g : Io → Hp → β → Prop} {f : α → Store → R β} {r : R α} (h : FinE K W ι H σ g (r.noex.bind f)) : ∃ a S, r = .ok a S ∧ FinE K W ι H σ g (f a S) := by
  cases r with
  | ok a S => exact ⟨a, S, rfl, h⟩
  | ex c S => exact h.elim
  | bad => exact h.elim
theorem R.bind_assoc {α β γ : Type} (r : R α) (f : α → Store → R β) (g : β → Store → R γ) : (r.bind f).bind g = r.bind fun a S => (f a S).bind g := by cases r <;> rfl
/-- a comprehension's turns, the walk over its source known -/
theorem lc_in {m : Bool} {K : PySem.W.Frag} {gt : TG} {vs ws : List Nat} {g : EvG} {t : EvB} {a : Ev} {σ : L2.St} {Q : VK} {ι1 : Io} {H1 : Hp} {S1 : Store} {e : Fenv} {x : Src} {J : It} (k : GOk K gt vs g) (hv : ∀ i ∈ vs, i ∈ ws) (se1 : SimE K ι1 H1 σ e) (s1 : Sim K ι1 H1 S1) (hw : Walks K J ι1 H1 x) (cf : fit x.ds.length = true)
    (h1 : FinE K W ι1 H1 σ (Want K Q) ((lcL x g t a (wipeE e ws) x.ds S1).bind fun ys S2 => mkL m ys S2)) : tLc (fun _ H' R => R J H') gt (tFB K W0 t) (tF K W0 a) ws σ H1 Q := by
  intro P hP
  refine ⟨fun i m2 H2 => m2 = x.ds.length - i ∧ i ≤ x.ds.length ∧ ∃ ι2 S2 acc ds, Ext ι1 H1 ι2 H2 ∧ Sim K ι2 H2 S2 ∧ P ∈ ι2.hid ∧ P ∉ ι2.st ∧ H2 P = some (.lst acc) ∧ RepVs K ι2 H2 acc ds ∧ ds.length ≤ i ∧
    FinE K W ι1 H1 σ (Want K Q) ((lcL x g t a (wipeE e ws) (x.ds.drop i) S2).bind fun ys S3 => mkL m (ds ++ ys) S3), ⟨_, rfl, Nat.zero_le _, ι1.hide P, S1, [], [], Ext.hide ι1 hP, s1.hide hP, List.mem_cons_self, (s1.notIn hP).1, upd_same, rfl, Nat.zero_le _, by simpa using h1⟩, ?_⟩
  rintro i m2 H2 ⟨rfl, hi, ι2, S2, acc, ds, x2, s2, ph, ps, hPa, r2, hl, h2⟩
  by_cases hlt : i < x.ds.length
  · have hd : x.ds.drop i = x.ds[i] :: x.ds.drop (i + 1) := List.drop_eq_getElem_cons hlt
    rw [hd] at h2
    unfold lcL at h2
    by_cases c : x.chk S2
    · rw [if_pos c] at h2
      rw [R.bind_assoc] at h2
      obtain ⟨e3, S3, q3, h3⟩ := FinE.cases h2
      obtain ⟨go, yl⟩ := hw.go i ι2 H2 S2 _ x2 s2 c (List.getElem?_eq_getElem hlt)
      refine .inr ⟨go, fun H5 => i + 1 ≤ x.ds.length ∧ ∃ ι5 S5 acc ds, Ext ι1 H1 ι5 H5 ∧ Sim K ι5 H5 S5 ∧ P ∈ ι5.hid ∧ P ∉ ι5.st ∧ H5 P = some (.lst acc) ∧ RepVs K ι5 H5 acc ds ∧ ds.length ≤ i + 1 ∧
        FinE K W ι1 H1 σ (Want K Q) ((lcL x g t a (wipeE e ws) (x.ds.drop (i + 1)) S5).bind fun ys S3 => mkL m (ds ++ ys) S3), fun H5 hN => ⟨x.ds.length - (i + 1), by omega, rfl, hN⟩, fun v H3 hy => ?_⟩
      obtain ⟨x3, s3, r3⟩ := yl v H3 hy
      refine k ι2 H3 (wipe σ ws) (wipeE e ws) S2 v _ _ ((se1.wipe ws).ext (x2.trans x3)) s3 r3 ?_
      rw [q3]
      intro σ4 H4 ι4 x4 se4 s4 hch hln
      refine ⟨by rw [← wipe_wipe (σ := σ)]; exact wipe_same hch hln hv, ?_⟩
      rw [R.bind_assoc] at h3
      obtain ⟨b, S5, q5, h5⟩ := FinE.cases h3
      refine ⟨ι4, e3, S3, se4, s4, ?_⟩
      rw [q5]
      intro H5 ι5 x5 s5
      have xx : Ext ι2 H2 ι5 H5 := (x3.trans x4).trans x5
      have ph5 := xx.hidm P ph
      have hP5 := xx.keep P _ hPa ps
      cases b with
      | false =>
        refine iteF ?_
        simp only [Bool.false_eq_true, if_false] at h5
        exact ⟨hlt, ι5, S5, acc, ds, x2.trans xx, s5, ph5, hP5.2, hP5.1, RepVs.ext xx ds acc r2, Nat.le_succ_of_le hl, h5⟩
      | true =>
        refine iteT ?_
        simp only [if_true] at h5
        rw [R.bind_assoc] at h5
        obtain ⟨y, S6, q6, h6⟩ := FinE.cases h5
        refine ⟨ι5, e3, S5, se4.ext x5, s5, ?_⟩
        rw [q6]
        intro H6 ι6 x6 s6 w rw6
        have x7 := xx.trans x6
        have ph6 := x7.hidm P ph
        have hP6 := x7.keep P _ hPa ps
        obtain ⟨f1, f2⟩ := Ext.writeH (o := .lst (acc ++ [w])) s6 ph6 hP6.2 hP6.1 (fun _ => by simp) (fun _ _ => by simp)
        have racc := RepVs.ext x7 ds acc r2
        refine ⟨acc, hP6.1, ?_, hlt, ι6, S6, acc ++ [w], ds ++ [y], (x2.trans x7).overH hP, f2, ph6, hP6.2, upd_same, ?_, by rw [List.length_append]; exact Nat.succ_le_succ hl, ?_⟩
        · rw [racc.length]
          have := fit_ok cf
          omega
        · have all : ∀ (ds : List D) (vs : List V), RepVs K ι6 H6 vs ds → RepVs K ι6 (upd H6 P (.lst (acc ++ [w]))) vs ds := by
            intro ds
            induction ds with
            | nil => exact fun _ h => h
            | cons d ds ih => rintro vs ⟨x, r, e, h1, h2⟩; exact ⟨x, r, e, f1 x d h1, ih r h2⟩
          exact all _ _ (racc.append (RepVs.single rw6))
        · rw [R.bind_assoc] at h6
          simpa using h6
    · rw [if_neg c] at h2; exact h2.elim
  · have hd : x.ds.drop i = [] := List.drop_eq_nil_of_le (by omega)
    rw [hd] at h2
    unfold lcL at h2
    by_cases c : x.chk S2
    · rw [if_pos c] at h2
      refine .inl ⟨hw.stop i ι2 H2 S2 x2 s2 c (by omega), ?_⟩
      have h2' : FinE K W ι1 H1 σ (Want K Q) (mkL m (ds ++ []) S2) := h2
      rw [List.append_nil] at h2'
      exact shown_ok s1.hid x2 s2 hP ph ps hPa r2 h2'
    · rw [if_neg c] at h2; exact h2.elim
theorem lc_go {m : Bool} {K : PySem.W.Frag} {i : EvI} {gt : TG} {vs ws : List Nat} {g : EvG} {t : EvB} {a : Ev} {σ : L2.St} {H : Hp} {Q : VK} (k : GOk K gt vs g) (hv : ∀ i ∈ vs, i ∈ ws) (h : tF K W (evLc m ws i g t a) σ H Q) : tLc (tFI K W i) gt (tFB K W0 t) (tF K W0 a) ws σ H Q := by
  obtain ⟨ι, e, S, se, s, h⟩ := h
  refine ⟨ι, e, S, se, s, FinE.mono ?_ (FinE.bind h)⟩
  rintro ι1 H1 x y1 ⟨S1, _, x1, s1, h1⟩ J hw
  by_cases cf : fit x.ds.length = true
  · rw [if_pos cf] at h1
    exact lc_in k hv (se.ext x1) s1 hw cf h1
  · rw [if_neg cf] at h1; exact h1.elim
theorem f_lc {m : Bool} {elt tg iter : Expr} {ifs : List Expr} {scope : Scope} {own : List (Str × Nat)} {pos : Pos} {i : EvI} {gt : TG} {vs : List Nat} {g : EvG} {t : EvB} {a : Ev} (hc : X.calm = true) (hN : X.N.Nodup) (hi : PIF X W tg iter i) (ok : BlkOk X.N X.env.scope scope own)
    (hg : ∀ (s : Shared) (H : Hp) (C : Addr) (cl : List (Str × Addr)) (fp : List Addr), PG (X.blk s H scope (compEnvC scope cl C X.env) fp) tg gt) (k : GOk X.K gt vs g) (ht : ∀ (s : Shared) (H : Hp) (C : Addr) (cl : List (Str × Addr)) (fp : List Addr), PTsF (X.blk s H scope (compEnvC scope cl C X.env) fp) W0 ifs t)
    (he : ∀ (s : Shared) (H : Hp) (C : Addr) (cl : List (Str × Addr)) (fp : List Addr), PEF (X.blk s H scope (compEnvC scope cl C X.env) fp) W0 elt a) (hv : ∀ i ∈ vs, i ∈ own.map (·.2) := by decide) (hs : ∀ x, foldedSetIterable iter X.env x = pure x := by intro _; rfl) :
    PEF X W (.ListComp elt [⟨tg, iter, ifs, 0⟩] scope pos) (evLc m (own.map (·.2)) i g t a) :=
  PE.weak (pe_lc (tt := tFB X.K W0 t) (te := tF X.K W0 a) hc hN hi ok hg ht he hs) fun _ _ _ h => lc_go k hv h
theorem fs_setLc {m : Bool} {j : Nat} {y : Str} {py : Pos} {elt tg iter : Expr} {ifs : List Expr} {scope : Scope} {own : List (Str × Nat)} {pos spos : Pos} {i : EvI} {gt : TG} {vs : List Nat} {g : EvG} {t : EvB} {a : Ev} (hc : X.calm = true) (hN : X.N.Nodup) (hy : X.N[j]? = some y) (hyl : X.env.scope.names.lookup y = some .local)
    (hsw : swapsWith (.ListComp elt [⟨tg, iter, ifs, 0⟩] scope pos) (some (.Name y py)) spos.line X.env = pure true) (hi : PIF X W tg iter i) (ok : BlkOk X.N X.env.scope scope own)
    (hg : ∀ (s : Shared) (H : Hp) (C : Addr) (cl : List (Str × Addr)) (fp : List Addr), PG (X.blk s H scope (compEnvC scope cl C X.env) fp) tg gt) (k : GOk X.K gt vs g) (ht : ∀ (s : Shared) (H : Hp) (C : Addr) (cl : List (Str × Addr)) (fp : List Addr), PTsF (X.blk s H scope (compEnvC scope cl C X.env) fp) W0 ifs t)
    (he : ∀ (s : Shared) (H : Hp) (C : Addr) (cl : List (Str × Addr)) (fp : List Addr), PEF (X.blk s H scope (compEnvC scope cl C X.env) fp) W0 elt a) (hv : ∀ i ∈ vs, i ∈ own.map (·.2) := by decide) (hs : ∀ x, foldedSetIterable iter X.env x = pure x := by intro _; rfl) :
    PSF X W (.Assign [.Name y py] (.ListComp elt [⟨tg, iter, ifs, 0⟩] scope pos) spos) (evSet j (evLc m (own.map (·.2)) i g t a)) := by
  refine PS.weak (ps_setLc (tt := tFB X.K W0 t) (te := tF X.K W0 a) hc hN hy hyl hsw hi ok hg ht he hs) ?_
  rintro D' σ H ⟨ι, e, S, se, s, h⟩
  show tLc _ _ _ _ _ σ H fun x H1 => gName j x σ H1 D'.nx
  refine lc_go (W := W) k hv ⟨ι, e, S, se, s, FinE.mono ?_ (FinE.bindS se h)⟩
  rintro ι1 H1 d x1 ⟨S1, _, x, se1, s1, h1⟩ v r
  exact h1 _ H1 ι1 (Ext.refl _ _) (se1.set r) s1
end
end FL

/-! FG: methods, stores into lists and dicts, the calls of defs. -/
namespace FL
open PySem PySem.Spec PyProof.Rows L2
section
variable {K : PySem.W.Frag} {W : WX} {ι : Io} {H : Hp} {σ : L2.St} {S : Store}

/-! ### methods -/
def tyD (T : String) (S : Store) (d : D) : Bool := match d with
  | .str _ => T == "str"
  | _ => T == "list" && (sqL S d).isSome
theorem tyD_ok {T : String} (s : Sim K ι H S) {x : V} {d : D} (r : RepV K ι H x d) (h : tyD T S d = true) : tyV K T x H := by
  have gen : (T == "list" && (sqL S d).isSome) = true → tyV K T x H := by
    intro h
    rw [Bool.and_eq_true, beq_iff_eq] at h
    cases q : sqL S d with
    | none => rw [q] at h; exact absurd h.2 (by simp)
    | some ds =>
      obtain ⟨a, xs, rfl, h1, _⟩ := repSqL s r q
      exact .inl ⟨h.1, xs, h1⟩
  cases d with
  | str z =>
    have e : x = .str z := r
    subst e
    exact beq_iff_eq.mp h
  | non => exact gen h
  | bl _ => exact gen h
  | int _ => exact gen h
  | ty _ => exact gen h
  | tup _ => exact gen h
  | lst _ => exact gen h
  | dct _ => exact gen h
  | scr _ => exact gen h
  | ref _ => exact gen h
  | exc _ _ => exact gen h
def evM (T : String) (f : D → List D → Store → R D) (a : Ev) (as : EvL) : Ev := fun e S => (a e S).bind fun x S1 => if tyD T S1 x = true then (as e S1).bind fun xs S2 => f x xs S2 else .bad
theorem meth_of {T : String} {r : V → List V → Hp → VK → Prop} {f : D → List D → Store → R D} {a : Ev} {as : EvL} {Q : VK} (hf : OkM K r f) (h : tF K W (evM T f a as) σ H Q) : tBM K T r (tF K W a) (tFL K W as) σ H Q := by
  obtain ⟨ι, e, S, se, s, h⟩ := h
  refine ⟨ι, e, S, se, s, FinE.mono ?_ (FinE.bind h)⟩
  rintro ι1 H1 d x1 ⟨S1, _, x, s1, h1⟩ v r1
  by_cases c : tyD T S1 d = true
  · rw [if_pos c] at h1
    refine ⟨tyD_ok s1 r1 c, ι1, e, S1, se.ext x, s1, FinE.mono ?_ (FinE.bind h1)⟩
    rintro ι2 H2 ds x2 ⟨S2, _, y, s2, h2⟩ vs r2
    exact hf W σ ι2 H2 S2 v d vs ds Q s2 (RepV.ext y d v r1) r2 h2
  · rw [if_neg c] at h1; exact h1.elim
end
section
variable {X : Cx} {W : WX}
theorem f_bm {T : String} {name : Str} {id : String} {r : V → List V → Hp → VK → Prop} {f : D → List D → Store → R D} {o e : Expr} {es : List Expr} {a : Ev} {as : EvL} {apos cpos : Pos} (pa : PlainAttrs T) (slot : Slot T name id) (hty : typeOf (.builtin id) = pure (.type "method_descriptor")) (hm : MtR X id r) (hf : OkM X.K r f) (ho : PEF X W o a) (ha : PAF X W (e :: es) as)
    (hbase : attributeBase o name X.env (eval o X.env) = eval o X.env := by rfl)
    (hfew : ((backTo cpos (starEach (e :: es) X.env)).all (fun x => !x.1) && (backToKw cpos (keywordEach [] X.env)).all (fun x => x.1.isSome)
      && decide ((e :: es).length + ([] : List Keyword).length + (if ([] : List Keyword).isEmpty then 0 else 1) < 30)) = true := by rfl)
    (hline : (apos.endLine == cpos.line) = true := by rfl) (hs : starEach (e :: es) X.env = (false, eval e X.env) :: starEach es X.env := by rfl) (hplain : (backTo cpos (starEach es X.env)).any (·.1) = false := by rfl) :
    PEF X W (.Call (.Attribute o name apos) (e :: es) [] cpos) (evM T f a as) :=
  PE.weak (pe_bm pa slot hty hm ho ha hbase hfew hline hs hplain) fun _ _ _ h => meth_of hf h
theorem f_bm0 {T : String} {name : Str} {id : String} {r : V → List V → Hp → VK → Prop} {f : D → List D → Store → R D} {o : Expr} {a : Ev} {apos cpos : Pos} (pa : PlainAttrs T) (slot : Slot T name id) (hty : typeOf (.builtin id) = pure (.type "method_descriptor")) (hm : MtR X id r) (hf : OkM X.K r f) (ho : PEF X W o a)
    (hbase : attributeBase o name X.env (eval o X.env) = eval o X.env := by rfl) (hline : (apos.endLine == cpos.line) = true := by rfl) : PEF X W (.Call (.Attribute o name apos) [] [] cpos) (evM T f a evNil) := by
  refine PE.weak (pe_bm0 pa slot hty hm ho hbase hline) ?_
  intro σ H Q h
  obtain ⟨ι, e, S, se, s, h⟩ := h
  refine ⟨ι, e, S, se, s, FinE.mono ?_ (FinE.bind h)⟩
  rintro ι1 H1 d x1 ⟨S1, _, x, s1, h1⟩ v r1
  by_cases c : tyD T S1 d = true
  · rw [if_pos c] at h1
    exact ⟨tyD_ok s1 r1 c, hf W σ ι1 H1 S1 v d [] [] Q s1 r1 rfl h1⟩
  · rw [if_neg c] at h1; exact h1.elim
end
section
variable {K : PySem.W.Frag} {W : WX} {ι : Io} {H : Hp} {σ : L2.St} {S : Store}
/-- the list of the store that a value names -/
def lstAt (S : Store) (d : D) : Option (Nat × List D) := match d with
  | .ref n => match S[n]? with
    | some (.lst ds) => some (n, ds)
    | _ => none
  | _ => none
theorem lstAt_ok (s : Sim K ι H S) {x : V} {d : D} {n : Nat} {ds : List D} (r : RepV K ι H x d) (h : lstAt S d = some (n, ds)) : ∃ a xs, x = .ref a ∧ ι.st[n]? = some a ∧ S[n]? = some (.lst ds) ∧ H a = some (.lst xs) ∧ RepVs K ι H xs ds := by
  cases d with
  | ref m =>
    obtain ⟨a, rfl, h1⟩ := r
    obtain ⟨o, h2, h3⟩ := s.at h1
    have h' : (match S[m]? with
      | some (.lst ds) => some (m, ds)
      | _ => none) = some (n, ds) := h
    rw [h2] at h'
    cases o with
    | lst es =>
      cases h'
      obtain ⟨xs, h4, h5⟩ := h3
      exact ⟨a, xs, rfl, h1, h2, h4, h5⟩
    | dct _ => cases h'
    | ins _ _ => cases h'
    | ldc _ => cases h'
    | dcT _ => cases h'
    | ldT _ => cases h'
  | _ => cases h
theorem wrL_ok (s : Sim K ι H S) {n : Nat} {a : Addr} {es : List D} {ys : List V} {z : D} {v : V} {Q : VK} {ds0 : List D} (hn : ι.st[n]? = some a) (hm : S[n]? = some (.lst ds0)) (r : RepVs K ι H ys es) (rv : RepV K ι H v z) (h : FinE K W ι H σ (Want K Q) (.ok z (S.set n (.lst es)))) : Q v (upd H a (.lst ys)) :=
  h _ _ (Ext.write s hn hm rfl) (s.write hn hm rfl ⟨ys, upd_same, RepVs.ext (Ext.write s hn hm rfl) es ys r⟩) v (RepV.ext (Ext.write s hn hm rfl) z v rv)
def mAppend (d : D) (xs : List D) (S : Store) : R D := match lstAt S d, xs with
  | some (n, ds), [y] => if fit (ds.length + 1) = true then .ok .non (S.set n (.lst (ds ++ [y]))) else .bad
  | _, _ => .bad
theorem k_append : OkM K rAppend mAppend := by
  intro W σ ι H S x d xs es Q s rx rxs h
  unfold mAppend at h
  cases q : lstAt S d with
  | none => rw [q] at h; exact h.elim
  | some p =>
    obtain ⟨n, ds⟩ := p
    rw [q] at h
    match es, h, rxs with
    | [y], h, rxs =>
      have h' : FinE K W ι H σ (Want K Q) (if fit (ds.length + 1) = true then .ok .non (S.set n (.lst (ds ++ [y]))) else .bad) := h
      by_cases c : fit (ds.length + 1) = true
      · rw [if_pos c] at h'
        obtain ⟨z, rfl, rz⟩ := rxs.one
        obtain ⟨a, zs, rfl, h1, h2, h3, h4⟩ := lstAt_ok s rx q
        exact ⟨a, zs, z, rfl, rfl, h3, by rw [h4.length]; exact fit_ok c, wrL_ok s h1 h2 (h4.append (RepVs.single rz)) (z := .non) rfl h'⟩
      · rw [if_neg c] at h'; exact h'.elim
    | [], h, _ => exact h.elim
    | _ :: _ :: _, h, _ => exact h.elim
def mExtend (d : D) (xs : List D) (S : Store) : R D := match lstAt S d, xs with
  | some (n, ds), [y] => match sqM S y with
    | some es => if fit (ds.length + es.length) = true then .ok .non (S.set n (.lst (ds ++ es))) else .bad
    | none => .bad
  | _, _ => .bad
theorem k_extend : OkM K rExtend mExtend := by
  intro W σ ι H S x d xs es Q s rx rxs h
  unfold mExtend at h
  cases q : lstAt S d with
  | none => rw [q] at h; exact h.elim
  | some p =>
    obtain ⟨n, ds⟩ := p
    rw [q] at h
    match es, h, rxs with
    | [y], h, rxs =>
      have h' : FinE K W ι H σ (Want K Q) (match sqM S y with
        | some es => if fit (ds.length + es.length) = true then .ok .non (S.set n (.lst (ds ++ es))) else .bad
        | none => .bad) := h
      cases q2 : sqM S y with
      | none => rw [q2] at h'; exact h'.elim
      | some fs =>
        rw [q2] at h'
        have h2 : FinE K W ι H σ (Want K Q) (if fit (ds.length + fs.length) = true then .ok .non (S.set n (.lst (ds ++ fs))) else .bad) := h'
        by_cases c : fit (ds.length + fs.length) = true
        · rw [if_pos c] at h2
          obtain ⟨z, rfl, rz⟩ := rxs.one
          obtain ⟨a, zs, rfl, h3, h4, h5, h6⟩ := lstAt_ok s rx q
          obtain ⟨b, ws, rfl, h7, h8⟩ := repSqM s rz q2
          exact ⟨a, b, zs, ws, rfl, rfl, h5, h7, by rw [h6.length, h8.length]; exact fit_ok c, wrL_ok s h3 h4 (h6.append h8) (z := .non) rfl h2⟩
        · rw [if_neg c] at h2; exact h2.elim
    | [], h, _ => exact h.elim
    | _ :: _ :: _, h, _ => exact h.elim
def mPop (d : D) (xs : List D) (S : Store) : R D := match lstAt S d, xs with
  | some (n, ds), [] => match ds[ds.length - 1]? with
    | some y => .ok y (S.set n (.lst ds.dropLast))
    | none => .bad
  | _, _ => .bad
theorem dropLast_eq_take' {α : Type} (l : List α) : l.dropLast = l.take (l.length - 1) := List.dropLast_eq_take
theorem k_pop : OkM K rPop mPop := by
  intro W σ ι H S x d xs es Q s rx rxs h
  unfold mPop at h
  cases q : lstAt S d with
  | none => rw [q] at h; exact h.elim
  | some p =>
    obtain ⟨n, ds⟩ := p
    rw [q] at h
    match es, h, rxs with
    | [], h, rxs =>
      have h' : FinE K W ι H σ (Want K Q) (match ds[ds.length - 1]? with
        | some y => .ok y (S.set n (.lst ds.dropLast))
        | none => .bad) := h
      obtain rfl : xs = [] := rxs
      obtain ⟨a, zs, rfl, h1, h2, h3, h4⟩ := lstAt_ok s rx q
      cases q2 : ds[ds.length - 1]? with
      | none => rw [q2] at h'; exact h'.elim
      | some y =>
        rw [q2] at h'
        obtain ⟨v, h5, h6⟩ := h4.get q2
        refine ⟨a, zs, v, rfl, rfl, h3, by rw [h4.length]; exact h5, wrL_ok s h1 h2 ?_ h6 h'⟩
        rw [dropLast_eq_take', dropLast_eq_take', h4.length]
        exact h4.take _
    | _ :: _, h, _ => exact h.elim
def mPopAt (d : D) (xs : List D) (S : Store) : R D := match lstAt S d, xs with
  | some (n, ds), [.int i] => if (decide (-(2 ^ 63) ≤ i) && decide (i < 2 ^ 63)) = true then match seqIndex? i ds.length with
      | some k => match ds[k]? with
        | some y => .ok y (S.set n (.lst (ds.eraseIdx k)))
        | none => .bad
      | none => .bad
    else .bad
  | _, _ => .bad
theorem k_popAt : OkM K rPopAt mPopAt := by
  intro W σ ι H S x d xs es Q s rx rxs h
  unfold mPopAt at h
  cases q : lstAt S d with
  | none => rw [q] at h; exact h.elim
  | some p =>
    obtain ⟨n, ds⟩ := p
    rw [q] at h
    have go : ∀ i, es = [.int i] → FinE K W ι H σ (Want K Q) (if (decide (-(2 ^ 63) ≤ i) && decide (i < 2 ^ 63)) = true then match seqIndex? i ds.length with
      | some k => match ds[k]? with
        | some y => .ok y (S.set n (.lst (ds.eraseIdx k)))
        | none => .bad
      | none => .bad
      else .bad) → rPopAt x xs H Q := by
      rintro i rfl h
      by_cases c : (decide (-(2 ^ 63) ≤ i) && decide (i < 2 ^ 63)) = true
      · rw [if_pos c] at h
        rw [Bool.and_eq_true, decide_eq_true_eq, decide_eq_true_eq] at c
        cases q1 : seqIndex? i ds.length with
        | none => rw [q1] at h; exact h.elim
        | some k =>
          rw [q1] at h
          have h' : FinE K W ι H σ (Want K Q) (match ds[k]? with
            | some y => .ok y (S.set n (.lst (ds.eraseIdx k)))
            | none => .bad) := h
          cases q2 : ds[k]? with
          | none => rw [q2] at h'; exact h'.elim
          | some y =>
            rw [q2] at h'
            obtain ⟨z, rfl, rz⟩ := rxs.one
            have ez : z = .int i := rz
            subst ez
            obtain ⟨a, zs, rfl, h1, h2, h3, h4⟩ := lstAt_ok s rx q
            obtain ⟨v, h5, h6⟩ := h4.get q2
            exact ⟨a, zs, i, k, v, rfl, rfl, h3, c.1, c.2, by rw [h4.length]; exact q1, h5, wrL_ok s h1 h2 (h4.eraseIdx k) h6 h'⟩
      · rw [if_neg c] at h; exact h.elim
    match es, h with
    | [.int i], h => exact go i rfl h
def mClear (d : D) (xs : List D) (S : Store) : R D := match lstAt S d, xs with
  | some (n, _), [] => .ok .non (S.set n (.lst []))
  | _, _ => .bad
theorem k_clear : OkM K rClear mClear := by
  intro W σ ι H S x d xs es Q s rx rxs h
  unfold mClear at h
  cases q : lstAt S d with
  | none => rw [q] at h; exact h.elim
  | some p =>
    obtain ⟨n, ds⟩ := p
    rw [q] at h
    match es, h, rxs with
    | [], h, rxs =>
      obtain rfl : xs = [] := rxs
      obtain ⟨a, zs, rfl, h1, h2, h3, h4⟩ := lstAt_ok s rx q
      exact ⟨a, zs, rfl, rfl, h3, wrL_ok s h1 h2 (es := []) (ys := []) (z := .non) rfl rfl h⟩
    | _ :: _, h, _ => exact h.elim
/-- texts -/
def mJoin (d : D) (xs : List D) (S : Store) : R D := match d, xs with
  | .str a, [y] => match sq S y with
    | some ds => match toSs ds with
      | some ys => if decide ((ys.map (·.length)).sum + ys.length * a.length ≤ 16777216) = true then .ok (.str (Txt.join a ys)) S else .bad
      | none => .bad
    | none => .bad
  | _, _ => .bad
theorem k_join : OkM K (fun x xs H Q => ∃ a p, ∃ ys : List Str, x = .str a ∧ xs = [.ref p] ∧ (SqL K H p (ys.map V.str) ∨ SqT K H p (ys.map V.str)) ∧
    (ys.map (·.length)).sum + ys.length * a.length ≤ 16777216 ∧ Q (.str (Txt.join a ys)) H) mJoin := by
  intro W σ ι H S x d xs es Q s rx rxs h
  cases d with
  | str a =>
    match es, h, rxs with
    | [y], h, rxs =>
      have h' : FinE K W ι H σ (Want K Q) (match sq S y with
        | some ds => match toSs ds with
          | some ys => if decide ((ys.map (·.length)).sum + ys.length * a.length ≤ 16777216) = true then .ok (.str (Txt.join a ys)) S else .bad
          | none => .bad
        | none => .bad) := h
      cases q1 : sq S y with
      | none => rw [q1] at h'; exact h'.elim
      | some ds =>
        rw [q1] at h'
        have h2 : FinE K W ι H σ (Want K Q) (match toSs ds with
          | some ys => if decide ((ys.map (·.length)).sum + ys.length * a.length ≤ 16777216) = true then .ok (.str (Txt.join a ys)) S else .bad
          | none => .bad) := h'
        cases q2 : toSs ds with
        | none => rw [q2] at h2; exact h2.elim
        | some ys =>
          rw [q2] at h2
          have h3 : FinE K W ι H σ (Want K Q) (if decide ((ys.map (·.length)).sum + ys.length * a.length ≤ 16777216) = true then .ok (.str (Txt.join a ys)) S else .bad) := h2
          by_cases c : decide ((ys.map (·.length)).sum + ys.length * a.length ≤ 16777216) = true
          · rw [if_pos c] at h3
            obtain ⟨z, rfl, rz⟩ := rxs.one
            obtain ⟨p, zs, rfl, h4, h5⟩ := repSq s rz q1
            rw [toSs_rep h5 q2] at h4
            exact ⟨a, p, ys, rx, rfl, h4, of_decide_eq_true c, here s h3 rfl⟩
          · rw [if_neg c] at h3; exact h3.elim
    | [], h, _ => exact h.elim
    | _ :: _ :: _, h, _ => exact h.elim
  | _ => exact h.elim
def mStrip (d : D) (xs : List D) (S : Store) : R D := match d, xs with
  | .str a, [.str b] => if fit a.length = true then .ok (.str (Txt.stripChars a b)) S else .bad
  | _, _ => .bad
theorem k_strip : OkM K (fun x xs H Q => ∃ a b, x = .str a ∧ xs = [.str b] ∧ a.length ≤ sizeLine ∧ Q (.str (Txt.stripChars a b)) H) mStrip := by
  intro W σ ι H S x d xs es Q s rx rxs h
  match d, es, h with
  | .str a, [.str b], h =>
    have h' : FinE K W ι H σ (Want K Q) (if fit a.length = true then .ok (.str (Txt.stripChars a b)) S else .bad) := h
    by_cases c : fit a.length = true
    · rw [if_pos c] at h'
      obtain ⟨z, rfl, rz⟩ := rxs.one
      have ez : z = .str b := rz
      subst ez
      exact ⟨a, b, rx, rfl, fit_ok c, here s h' rfl⟩
    · rw [if_neg c] at h'; exact h'.elim
end
section
variable {X : Cx} {W : WX}
/-! ### d[k], xs[i] read -/
def isDct (S : Store) (d : D) : Bool := (sqD S d).isSome
def dGetIx (a b : D) (S : Store) : R D := match sqD S a with
  | some kvs => match toKey b with
    | some k => match valD kvs k with
      | some d => .ok d S
      | none => .bad
    | none => .bad
  | none => dIx a b S
end
end FL

/-! FH: what a def does, as a function; its call; the law's end. -/
namespace FL
open PySem PySem.Spec PyProof.Rows L2

/-! ### what leaves a def: its own objects go, or stand still from now on -/
mutual
/-- all objects of the store that it names lie below n -/
def low (n : Nat) : D → Bool
  | .tup ds => lows n ds
  | .lst ds => lows n ds
  | .dct kvs => lowk n kvs
  | .ref k => decide (k < n)
  | .exc _ ls => lows n ls
  | _ => true
def lows (n : Nat) : List D → Bool
  | [] => true
  | d :: ds => low n d && lows n ds
def lowk (n : Nat) : List (Key × D) → Bool
  | [] => true
  | (_, d) :: ds => low n d && lowk n ds
end
/-- as it stands from now on; ban: a place of the store that is not to be met -/
def fz (ban : Option Nat) : Nat → Nat → Store → D → Option D
  | f, n, S, d => if low n d = true then some d else match f, d with
    | f + 1, .tup ds => (ds.mapM (fz ban f n S)).map .tup
    | f + 1, .lst ds => (ds.mapM (fz ban f n S)).map .lst
    | f + 1, .dct kvs => (kvs.mapM fun p => (fz ban f n S p.2).map fun d => (p.1, d)).map .dct
    | f + 1, .ref k => if ban = some k then none else match S[k]? with
      | some (.lst ds) => (ds.mapM (fz ban f n S)).map .lst
      | some (.dct kvs) => (kvs.mapM fun p => (fz ban f n S p.2).map fun d => (p.1, d)).map .dct
      | _ => none
    | _, _ => none
def fzO (ban : Option Nat) (n : Nat) (S : Store) : MO → Option MO
  | .lst ds => (ds.mapM (fz ban 12 n S)).map .lst
  | .dct kvs => (kvs.mapM fun p => (fz ban 12 n S p.2).map fun d => (p.1, d)).map .dct
  | .ins C fs => (fs.mapM fun p => (fz ban 12 n S p.2).map fun d => (p.1, d)).map (.ins C)
  | .ldc _ => none
  | .dcT kvs => (kvs.mapM fun p => (fz ban 12 n S p.2).map fun d => (p.1, d)).map .dcT
  | .ldT _ => none
open Classical in
noncomputable def oldO (ban : Option Nat) (n : Nat) (S : Store) : List MO → List MO → Option (List MO)
  | [], _ => some []
  | m :: r, m' :: r' => match (if m = m' then some m else fzO ban n S m'), oldO ban n S r r' with
    | some o, some os => some (o :: os)
    | _, _ => none
  | _ :: _, [] => none
/-- a place of its own that is handed on as an object of the store -/
def ownRef (mt : Bool) (n : Nat) (d : D) : Option Nat := match mt, d with
  | true, .ref k => if k < n then none else some k
  | _, _ => none
/-- mt: a list of its own is handed on as an object of the store -/
noncomputable def gcD (mt : Bool) (S : Store) (d : D) (S' : Store) : R D := match ownRef mt S.length d with
  | none => match oldO none S.length S' S S', fz none 12 S.length S' d with
    | some So, some d' => .ok d' So
    | _, _ => .bad
  | some k => match oldO (some k) S.length S' S S', S'[k]? with
    | some So, some m => match fzO (some k) S.length S' m with
      | some m' => .ok (.ref S.length) (So ++ [m'])
      | none => .bad
    | _, _ => .bad
noncomputable def gc (mt : Bool) (S : Store) : SR → R D
  | .rt d S' => gcD mt S d S'
  | .nx _ S' => gcD mt S .non S'
  | .ex c _ S' => match oldO none S.length S' S S' with
    | none => .bad
    | some So => match c.lot with
      | none => .ex c So
      | some l => match fz none 12 S.length S' l with
        | some l' => .ex ⟨c.C, some l'⟩ So
        | none => .bad
  | _ => .bad
def startE (n : Nat) (ds : List D) : Fenv := ds.map some ++ List.replicate (n - ds.length) none
noncomputable def runF (mt : Bool) (n : Nat) (ev : EvS) (ds : List D) (S : Store) : R D := gc mt S (ev (startE n ds) S)

section
variable {K : PySem.W.Frag} {ι : Io} {H : Hp} {S : Store}
def Io.cut (ι : Io) (n : Nat) : Io := ⟨ι.st.take n, ι.hid⟩
structure Cut (ι : Io) (n : Nat) (ban : Option Nat) (ι' : Io) : Prop where
  get : ∀ (k : Nat) a, k < n → ι.st[k]? = some a → ι'.st[k]? = some a
  out : ∀ a, ι.out a → ι'.out a
  new : ∀ (k : Nat) a, ¬ k < n → ban ≠ some k → ι.st[k]? = some a → ι'.out a
theorem Cut.plain (s : Sim K ι H S) (n : Nat) : Cut ι n none (ι.cut n) where
  get := fun k a hk h => by
    show (ι.st.take n)[k]? = some a
    rw [List.getElem?_take_of_lt hk]
    exact h
  out := fun a h => ⟨fun z => h.1 (List.mem_of_mem_take z), h.2⟩
  new := fun k a hk _ h1 => by
    refine ⟨fun z => ?_, s.apart a (List.mem_of_getElem? h1)⟩
    have z : a ∈ ι.st.take n := z
    obtain ⟨j, hj⟩ := List.getElem?_of_mem z
    have hj2 : j < n := by
      have := (List.getElem?_eq_some_iff.mp hj).1
      rw [List.length_take] at this
      omega
    rw [List.getElem?_take_of_lt hj2] at hj
    have := nd_ix s.nd hj h1
    omega
theorem Cut.own (s : Sim K ι H S) {n k : Nat} {a : Addr} (hn : n ≤ ι.st.length) (ha : ι.st[k]? = some a) (hk : ¬ k < n) : Cut ι n (some k) ((ι.cut n).more a) where
  get := fun j b hj h => by
    show (ι.st.take n ++ [a])[j]? = some b
    rw [List.getElem?_append_left (by rw [List.length_take]; omega), List.getElem?_take_of_lt hj]
    exact h
  out := fun b h => ⟨fun z => by
    have z : b ∈ ι.st.take n ++ [a] := z
    rw [List.mem_append, List.mem_singleton] at z
    rcases z with z | z
    · exact h.1 (List.mem_of_mem_take z)
    · rw [z] at h; exact h.1 (List.mem_of_getElem? ha), h.2⟩
  new := fun j b hj hb h => ⟨fun z => by
    have z : b ∈ ι.st.take n ++ [a] := z
    rw [List.mem_append, List.mem_singleton] at z
    rcases z with z | z
    · exact ((Cut.plain s n).new j b hj (by simp) h).1 z
    · rw [z] at h
      have := nd_ix s.nd h ha
      exact hb (by rw [this]), s.apart b (List.mem_of_getElem? h)⟩
variable {ι' : Io} {n : Nat} {ban : Option Nat}
mutual
theorem low_rep (c : Cut ι n ban ι') : ∀ (d : D) (v : V), RepV K ι H v d → low n d = true → RepV K ι' H v d
  | .non, _, h, _ => h
  | .bl _, _, h, _ => h
  | .int _, _, h, _ => h
  | .str _, _, h, _ => h
  | .ty _, _, h, _ => h
  | .tup ds, _, h, l => by
    obtain ⟨a, xs, e, h1, h2⟩ := h
    exact ⟨a, xs, e, h1, lows_rep c ds xs h2 l⟩
  | .lst ds, _, h, l => by
    obtain ⟨a, xs, e, h1, h2, h3⟩ := h
    exact ⟨a, xs, e, h1, c.out a h2, lows_rep c ds xs h3 l⟩
  | .dct kvs, _, h, l => by
    obtain ⟨a, kv, e, h1, h2, h3⟩ := h
    exact ⟨a, kv, e, h1, c.out a h2, lowk_rep c kvs kv h3 l⟩
  | .scr ns, _, h, _ => h
  | .ref k, _, h, l => by
    obtain ⟨a, e, h⟩ := h
    exact ⟨a, e, c.get k a (of_decide_eq_true l) h⟩
  | .exc C ls, _, h, l => by
    obtain ⟨a, dd, xs, e, h1, h2, h3⟩ := h
    refine ⟨a, dd, xs, e, h1, lows_rep c ls xs h2 l, ?_⟩
    rcases h3 with h3 | ⟨p, y, q1, q2, q3, q4⟩
    · exact .inl h3
    · exact .inr ⟨p, y, q1, q2, q3, c.out p q4⟩
theorem lows_rep (c : Cut ι n ban ι') : ∀ (ds : List D) (vs : List V), RepVs K ι H vs ds → lows n ds = true → RepVs K ι' H vs ds
  | [], _, h, _ => h
  | d :: ds, _, h, l => by
    obtain ⟨y, r, e, h1, h2⟩ := h
    have l' : (low n d && lows n ds) = true := l
    rw [Bool.and_eq_true] at l'
    exact ⟨y, r, e, low_rep c d y h1 l'.1, lows_rep c ds r h2 l'.2⟩
theorem lowk_rep (c : Cut ι n ban ι') : ∀ (ds : List (Key × D)) (vs : List (Key × V)), RepKs K ι H vs ds → lowk n ds = true → RepKs K ι' H vs ds
  | [], _, h, _ => h
  | (k, d) :: ds, _, h, l => by
    obtain ⟨y, r, e, h1, h2⟩ := h
    have l' : (low n d && lowk n ds) = true := l
    rw [Bool.and_eq_true] at l'
    exact ⟨y, r, e, low_rep c d y h1 l'.1, lowk_rep c ds r h2 l'.2⟩
end
mutual
theorem low_of : ∀ (d : D) (v : V), RepV K ι H v d → low ι.st.length d = true
  | .non, _, h => rfl
  | .bl _, _, h => rfl
  | .int _, _, h => rfl
  | .str _, _, h => rfl
  | .ty _, _, h => rfl
  | .tup ds, _, h => by
    obtain ⟨a, xs, e, h1, h2⟩ := h
    exact lows_of ds xs h2
  | .lst ds, _, h => by
    obtain ⟨a, xs, e, h1, h2, h3⟩ := h
    exact lows_of ds xs h3
  | .dct kvs, _, h => by
    obtain ⟨a, kv, e, h1, h2, h3⟩ := h
    exact lowk_of kvs kv h3
  | .scr ns, _, h => rfl
  | .ref k, _, h => by
    obtain ⟨a, e, h⟩ := h
    exact decide_eq_true (List.getElem?_eq_some_iff.mp h).1
  | .exc C ls, _, h => by
    obtain ⟨a, dd, xs, e, h1, h2, h3⟩ := h
    exact lows_of ls xs h2
theorem lows_of : ∀ (ds : List D) (vs : List V), RepVs K ι H vs ds → lows ι.st.length ds = true
  | [], _, h => rfl
  | d :: ds, _, h => by
    obtain ⟨y, r, e, h1, h2⟩ := h
    show (low _ d && lows _ ds) = true
    rw [low_of d y h1, lows_of ds r h2]
    rfl
theorem lowk_of : ∀ (ds : List (Key × D)) (vs : List (Key × V)), RepKs K ι H vs ds → lowk ι.st.length ds = true
  | [], _, h => rfl
  | (k, d) :: ds, _, h => by
    obtain ⟨y, r, e, h1, h2⟩ := h
    show (low _ d && lowk _ ds) = true
    rw [low_of d y h1, lowk_of ds r h2]
    rfl
end
theorem mapM_rep {ι' : Io} {g : D → Option D} (hg : ∀ v d d', RepV K ι H v d → g d = some d' → RepV K ι' H v d') : ∀ {xs : List V} {ds es : List D}, RepVs K ι H xs ds → ds.mapM g = some es → RepVs K ι' H xs es
  | _, [], _, h, e => by
    rw [List.mapM_nil] at e
    cases e
    exact h
  | _, d :: ds, _, ⟨x, r, e1, h1, h2⟩, e => by
    rw [List.mapM_cons] at e
    cases q : g d with
    | none => rw [q] at e; cases e
    | some p =>
      rw [q] at e
      cases q2 : ds.mapM g with
      | none => rw [q2] at e; cases e
      | some ps =>
        rw [q2] at e
        cases e
        exact ⟨x, r, e1, hg x d p h1 q, mapM_rep hg h2 q2⟩
theorem mapK_rep {ι' : Io} {g : D → Option D} (hg : ∀ v d d', RepV K ι H v d → g d = some d' → RepV K ι' H v d') : ∀ {xs : List (Key × V)} {ds es : List (Key × D)}, RepKs K ι H xs ds → (ds.mapM fun p => (g p.2).map fun d => (p.1, d)) = some es → RepKs K ι' H xs es
  | _, [], _, h, e => by
    rw [List.mapM_nil] at e
    cases e
    exact h
  | _, (k, d) :: ds, _, ⟨x, r, e1, h1, h2⟩, e => by
    rw [List.mapM_cons] at e
    cases q : g d with
    | none => simp only [q] at e; cases e
    | some p =>
      simp only [q] at e
      cases q2 : (ds.mapM fun p => (g p.2).map fun d => (p.1, d)) with
      | none => rw [q2] at e; cases e
      | some ps =>
        rw [q2] at e
        cases e
        exact ⟨x, r, e1, hg x d p h1 q, mapK_rep hg h2 q2⟩
theorem mapF_rep {ι' : Io} {g : D → Option D} (hg : ∀ v d d', RepV K ι H v d → g d = some d' → RepV K ι' H v d') : ∀ {xs : List (Str × V)} {ds es : List (Str × D)}, RepFs K ι H xs ds → (ds.mapM fun p => (g p.2).map fun d => (p.1, d)) = some es → RepFs K ι' H xs es
  | _, [], _, h, e => by
    rw [List.mapM_nil] at e
    cases e
    exact h
  | _, (k, d) :: ds, _, ⟨x, r, e1, h1, h2⟩, e => by
    rw [List.mapM_cons] at e
    cases q : g d with
    | none => simp only [q] at e; cases e
    | some p =>
      simp only [q] at e
      cases q2 : (ds.mapM fun p => (g p.2).map fun d => (p.1, d)) with
      | none => rw [q2] at e; cases e
      | some ps =>
        rw [q2] at e
        cases e
        exact ⟨x, r, e1, hg x d p h1 q, mapF_rep hg h2 q2⟩
theorem mapT_rep {ι' : Io} {g : D → Option D} (hg : ∀ v d d', RepV K ι H v d → g d = some d' → RepV K ι' H v d') : ∀ {xs : List (List Key × V)} {ds es : List (List Key × D)}, RepTs K ι H xs ds → (ds.mapM fun p => (g p.2).map fun d => (p.1, d)) = some es → RepTs K ι' H xs es
  | _, [], _, h, e => by
    rw [List.mapM_nil] at e
    cases e
    exact h
  | _, (k, d) :: ds, _, ⟨x, r, e1, h1, h2, h3⟩, e => by
    rw [List.mapM_cons] at e
    cases q : g d with
    | none => simp only [q] at e; cases e
    | some p =>
      simp only [q] at e
      cases q2 : (ds.mapM fun p => (g p.2).map fun d => (p.1, d)) with
      | none => rw [q2] at e; cases e
      | some ps =>
        rw [q2] at e
        cases e
        exact ⟨x, r, e1, hg x d p h1 q, mapT_rep hg h2 q2, h3⟩
theorem fz_rep (s : Sim K ι H S) (c : Cut ι n ban ι') : ∀ (f : Nat) (v : V) (d d' : D), RepV K ι H v d → fz ban f n S d = some d' → RepV K ι' H v d' := by
  intro f
  induction f with
  | zero =>
    intro v d d' r e
    unfold fz at e
    by_cases l : low n d = true
    · rw [if_pos l] at e; cases e; exact low_rep c d v r l
    · rw [if_neg l] at e
      cases d <;> cases e
  | succ f ih =>
    intro v d d' r e
    unfold fz at e
    by_cases l : low n d = true
    · rw [if_pos l] at e; cases e; exact low_rep c d v r l
    · rw [if_neg l] at e
      cases d with
      | tup ds =>
        have e : (ds.mapM (fz ban f n S)).map D.tup = some d' := e
        cases q : ds.mapM (fz ban f n S) with
        | none => rw [q] at e; cases e
        | some es =>
          rw [q] at e
          cases e
          obtain ⟨a, xs, rfl, h1, h2⟩ := r
          exact ⟨a, xs, rfl, h1, mapM_rep ih h2 q⟩
      | lst ds =>
        have e : (ds.mapM (fz ban f n S)).map D.lst = some d' := e
        cases q : ds.mapM (fz ban f n S) with
        | none => rw [q] at e; cases e
        | some es =>
          rw [q] at e
          cases e
          obtain ⟨a, xs, rfl, h1, h2, h3⟩ := r
          exact ⟨a, xs, rfl, h1, c.out a h2, mapM_rep ih h3 q⟩
      | dct ds =>
        have e : (ds.mapM fun p => (fz ban f n S p.2).map fun d => (p.1, d)).map D.dct = some d' := e
        cases q : (ds.mapM fun p => (fz ban f n S p.2).map fun d => (p.1, d)) with
        | none => rw [q] at e; cases e
        | some es =>
          rw [q] at e
          cases e
          obtain ⟨a, xs, rfl, h1, h2, h3⟩ := r
          exact ⟨a, xs, rfl, h1, c.out a h2, mapK_rep ih h3 q⟩
      | ref k =>
        obtain ⟨a, rfl, h1⟩ := r
        have hk : ¬ k < n := fun z => l (decide_eq_true z)
        obtain ⟨m, h2, h3⟩ := s.at h1
        have e : (if ban = some k then none else match S[k]? with
          | some (.lst ds) => (ds.mapM (fz ban f n S)).map D.lst
          | some (.dct kvs) => (kvs.mapM fun p => (fz ban f n S p.2).map fun d => (p.1, d)).map D.dct
          | _ => none) = some d' := e
        by_cases cb : ban = some k
        · rw [if_pos cb] at e; cases e
        rw [if_neg cb, h2] at e
        have ha := c.new k a hk cb h1
        cases m with
        | ins _ _ => cases e
        | ldc _ => cases e
        | dcT _ => cases e
        | ldT _ => cases e
        | lst ds =>
          have e : (ds.mapM (fz ban f n S)).map D.lst = some d' := e
          cases q : ds.mapM (fz ban f n S) with
          | none => rw [q] at e; cases e
          | some es =>
            rw [q] at e
            cases e
            obtain ⟨xs, h4, h5⟩ := h3
            exact ⟨a, xs, rfl, h4, ha, mapM_rep ih h5 q⟩
        | dct ds =>
          have e : (ds.mapM fun p => (fz ban f n S p.2).map fun d => (p.1, d)).map D.dct = some d' := e
          cases q : (ds.mapM fun p => (fz ban f n S p.2).map fun d => (p.1, d)) with
          | none => rw [q] at e; cases e
          | some es =>
            rw [q] at e
            cases e
            obtain ⟨xs, h4, h5⟩ := h3
            exact ⟨a, xs, rfl, .inl h4, ha, mapK_rep ih h5 q⟩
      | exc C ls => cases e
      | _ => exact absurd rfl l
theorem fzO_rep (s : Sim K ι H S) (c : Cut ι n ban ι') {a : Addr} {m m' : MO} (r : RepO K ι H a m) (e : fzO ban n S m = some m') : RepO K ι' H a m' := by
  cases m with
  | lst ds =>
    have e : (ds.mapM (fz ban 12 n S)).map MO.lst = some m' := e
    cases q : ds.mapM (fz ban 12 n S) with
    | none => rw [q] at e; cases e
    | some es =>
      rw [q] at e
      cases e
      obtain ⟨xs, h4, h5⟩ := r
      exact ⟨xs, h4, mapM_rep (fz_rep s c 12) h5 q⟩
  | dct ds =>
    have e : (ds.mapM fun p => (fz ban 12 n S p.2).map fun d => (p.1, d)).map MO.dct = some m' := e
    cases q : (ds.mapM fun p => (fz ban 12 n S p.2).map fun d => (p.1, d)) with
    | none => rw [q] at e; cases e
    | some es =>
      rw [q] at e
      cases e
      obtain ⟨xs, h4, h5⟩ := r
      exact ⟨xs, h4, mapK_rep (fz_rep s c 12) h5 q⟩
  | ins C fs =>
    have e : (fs.mapM fun p => (fz ban 12 n S p.2).map fun d => (p.1, d)).map (MO.ins C) = some m' := e
    cases q : (fs.mapM fun p => (fz ban 12 n S p.2).map fun d => (p.1, d)) with
    | none => rw [q] at e; cases e
    | some es =>
      rw [q] at e
      cases e
      obtain ⟨dx, xs, h4, h5⟩ := r
      exact ⟨dx, xs, h4, mapF_rep (fz_rep s c 12) h5 q⟩
  | ldc ds => cases e
  | dcT ds =>
    have e : (ds.mapM fun p => (fz ban 12 n S p.2).map fun d => (p.1, d)).map MO.dcT = some m' := e
    cases q : (ds.mapM fun p => (fz ban 12 n S p.2).map fun d => (p.1, d)) with
    | none => rw [q] at e; cases e
    | some es =>
      rw [q] at e
      cases e
      obtain ⟨xs, h4, h5⟩ := r
      exact ⟨xs, h4, mapT_rep (fz_rep s c 12) h5 q⟩
  | ldT ds => cases e
theorem RepTs.low : ∀ (ds : List (List Key × D)) (vs : List (List Key × V)), RepTs K ι H vs ds → ∀ p ∈ ds, FL.low ι.st.length p.2 = true
  | [], _, h => fun p hp => nomatch hp
  | (k, d) :: ds, _, ⟨y, r, e, h1, h2, _⟩ => fun p hp => by
    rcases List.mem_cons.mp hp with rfl | hp
    · exact low_of d y h1
    · exact RepTs.low ds r h2 p hp
theorem RepTs.cut (c : Cut ι n ban ι') : ∀ (ds : List (List Key × D)) (vs : List (List Key × V)), RepTs K ι H vs ds → (∀ p ∈ ds, FL.low n p.2 = true) → RepTs K ι' H vs ds
  | [], _, h, _ => h
  | (k, d) :: ds, _, ⟨y, r, e, h1, h2, h3⟩, l => ⟨y, r, e, low_rep c d y h1 (l _ List.mem_cons_self), RepTs.cut c ds r h2 fun p hp => l p (List.mem_cons_of_mem _ hp), h3⟩
theorem RepFs.low : ∀ (ds : List (Str × D)) (vs : List (Str × V)), RepFs K ι H vs ds → ∀ p ∈ ds, FL.low ι.st.length p.2 = true
  | [], _, h => fun p hp => nomatch hp
  | (k, d) :: ds, _, ⟨y, r, e, h1, h2⟩ => fun p hp => by
    rcases List.mem_cons.mp hp with rfl | hp
    · exact low_of d y h1
    · exact RepFs.low ds r h2 p hp
theorem RepFs.cut (c : Cut ι n ban ι') : ∀ (ds : List (Str × D)) (vs : List (Str × V)), RepFs K ι H vs ds → (∀ p ∈ ds, FL.low n p.2 = true) → RepFs K ι' H vs ds
  | [], _, h, _ => h
  | (k, d) :: ds, _, ⟨y, r, e, h1, h2⟩, l => ⟨y, r, e, low_rep c d y h1 (l _ List.mem_cons_self), RepFs.cut c ds r h2 fun p hp => l p (List.mem_cons_of_mem _ hp)⟩
/-- an object that names only what lies below n -/
theorem same_rep {ι0 : Io} {H0 : Hp} {a0 a : Addr} {m : MO} (c : Cut ι ι0.st.length ban ι') (r0 : RepO K ι0 H0 a0 m) (r : RepO K ι H a m) : RepO K ι' H a m := by
  cases m with
  | lst ds =>
    obtain ⟨xs, h1, h2⟩ := r
    obtain ⟨ys, _, h4⟩ := r0
    exact ⟨xs, h1, lows_rep c ds xs h2 (lows_of ds ys h4)⟩
  | dct ds =>
    obtain ⟨xs, h1, h2⟩ := r
    obtain ⟨ys, _, h4⟩ := r0
    exact ⟨xs, h1, lowk_rep c ds xs h2 (lowk_of ds ys h4)⟩
  | ins C ds =>
    obtain ⟨dx, xs, h1, h2⟩ := r
    obtain ⟨_, ys, _, h4⟩ := r0
    exact ⟨dx, xs, h1, RepFs.cut c ds xs h2 (RepFs.low ds ys h4)⟩
  | ldc ds =>
    obtain ⟨o, xs, h1, h2⟩ := r
    obtain ⟨_, ys, _, h4⟩ := r0
    exact ⟨o, xs, h1, lowk_rep c ds xs h2 (lowk_of ds ys h4)⟩
  | dcT ds =>
    obtain ⟨xs, h1, h2⟩ := r
    obtain ⟨ys, _, h4⟩ := r0
    exact ⟨xs, h1, RepTs.cut c ds xs h2 (RepTs.low ds ys h4)⟩
  | ldT ds =>
    obtain ⟨o, xs, h1, h2⟩ := r
    obtain ⟨_, ys, _, h4⟩ := r0
    exact ⟨o, xs, h1, RepTs.cut c ds xs h2 (RepTs.low ds ys h4)⟩
/-- the elder part of the store -/
theorem oldO_get {S' : Store} : ∀ {l l' o : List MO}, oldO ban n S' l l' = some o → o.length = l.length ∧ ∀ (i : Nat) m, o[i]? = some m → ∃ m0 m1, l[i]? = some m0 ∧ l'[i]? = some m1 ∧ ((m0 = m1 ∧ m = m0) ∨ fzO ban n S' m1 = some m)
  | [], _, _, e => by
    cases e
    exact ⟨rfl, fun i m h => by simp at h⟩
  | m :: r, [], _, e => by cases e
  | m :: r, m' :: r', _, e => by
    unfold oldO at e
    open Classical in
    cases q1 : (if m = m' then some m else fzO ban n S' m') with
    | none => simp only [q1] at e; cases e
    | some z =>
      cases q2 : oldO ban n S' r r' with
      | none => simp only [q1, q2] at e; cases e
      | some os =>
        simp only [q1, q2] at e
        cases e
        obtain ⟨h1, h2⟩ := oldO_get q2
        refine ⟨by simp [h1], fun i z' hz => ?_⟩
        cases i with
        | zero =>
          simp at hz
          subst hz
          refine ⟨m, m', rfl, rfl, ?_⟩
          by_cases c : m = m'
          · rw [if_pos c] at q1; cases q1; exact .inl ⟨c, rfl⟩
          · rw [if_neg c] at q1; exact .inr q1
        | succ i =>
          obtain ⟨m0, m1, h3, h4, h5⟩ := h2 i z' (by simpa using hz)
          exact ⟨m0, m1, by simpa using h3, by simpa using h4, h5⟩
theorem cut_st {ι0 : Io} {H0 : Hp} {S0 : Store} (s0 : Sim K ι0 H0 S0) (x : Ext ι0 H0 ι H) : (ι.cut S0.length).st = ι0.st := by
  obtain ⟨t, pre⟩ := x.pre
  show ι.st.take S0.length = ι0.st
  rw [pre, ← s0.len, List.take_left']
  rfl
/-- what is left behind a def: the elder objects, where they stood -/
theorem old_ok {ι0 : Io} {H0 : Hp} {S0 So : Store} (s0 : Sim K ι0 H0 S0) (x : Ext ι0 H0 ι H) (s : Sim K ι H S) (e : oldO none S0.length S S0 S = some So) : Ext ι0 H0 (ι.cut S0.length) H ∧ Sim K (ι.cut S0.length) H So := by
  have hst := cut_st s0 x
  obtain ⟨e1, e2⟩ := oldO_get e
  refine ⟨⟨⟨[], by rw [hst, List.append_nil]⟩, fun b o h n => ⟨(x.keep b o h n).1, by rw [hst]; exact n⟩, x.tups, x.frzs, x.fre, x.hidm, x.hidn⟩, by rw [hst]; exact s0.nd, by rw [hst, e1]; exact s0.len, fun n a m h1 h2 => ?_, s.hid, fun a ha => s.apart a (List.mem_of_mem_take ha)⟩
  rw [hst] at h1
  obtain ⟨m0, m1, h3, h4, h5⟩ := e2 n m h2
  have r1 := s.obj n a m1 (x.get h1) h4
  rcases h5 with ⟨h5, h6⟩ | h5
  · subst h5 h6
    exact same_rep (by rw [s0.len]; exact Cut.plain s S0.length) (s0.obj n a _ h1 h3) r1
  · exact fzO_rep s (Cut.plain s S0.length) r1 h5
theorem own_ok {ι0 : Io} {H0 : Hp} {S0 So : Store} {k : Nat} {a : Addr} {m m' : MO} (s0 : Sim K ι0 H0 S0) (x : Ext ι0 H0 ι H) (s : Sim K ι H S) (hk : ¬ k < S0.length) (ha : ι.st[k]? = some a) (hm : S[k]? = some m) (e : oldO (some k) S0.length S S0 S = some So) (e2 : fzO (some k) S0.length S m = some m') :
    Ext ι0 H0 ((ι.cut S0.length).more a) H ∧ Sim K ((ι.cut S0.length).more a) H (So ++ [m']) ∧ ((ι.cut S0.length).more a).st[S0.length]? = some a := by
  have hst := cut_st s0 x
  obtain ⟨e1, e3⟩ := oldO_get e
  have hn : S0.length ≤ ι.st.length := by
    obtain ⟨t, pre⟩ := x.pre
    rw [pre, List.length_append, s0.len]
    omega
  have C := Cut.own s hn ha hk
  have out := (Cut.plain s S0.length).new k a hk (by simp) ha
  have na : a ∉ ι0.st := by rw [← hst]; exact out.1
  refine ⟨⟨⟨[a], by show (ι.cut S0.length).st ++ [a] = _; rw [hst]⟩, fun b o h n => ⟨(x.keep b o h n).1, ?_⟩, x.tups, x.frzs, x.fre, x.hidm, x.hidn⟩, ?_, ?_⟩
  · show b ∉ (ι.cut S0.length).st ++ [a]
    rw [hst, List.mem_append, List.mem_singleton]
    rintro (q | q)
    · exact n q
    · exact (x.keep b o h n).2 (q ▸ List.mem_of_getElem? ha)
  · refine Sim.push (ι := ι.cut S0.length) (by rw [hst]; exact s0.nd) (by rw [hst, e1]; exact s0.len) s.hid out.1 out.2 (fun a ha => s.apart a (List.mem_of_mem_take ha)) (fun n b m h1 h2 => ?_) (fzO_rep s C (s.obj k a m ha hm) e2)
    rw [hst] at h1
    obtain ⟨m0, m1, h3, h4, h5⟩ := e3 n m h2
    have r1 := s.obj n b m1 (x.get h1) h4
    rcases h5 with ⟨h5, h6⟩ | h5
    · subst h5 h6
      exact same_rep (by rw [s0.len]; exact C) (s0.obj n b _ h1 h3) r1
    · exact fzO_rep s C r1 h5
  · show ((ι.cut S0.length).st ++ [a])[S0.length]? = some a
    rw [hst, List.getElem?_append_right (by rw [s0.len]; exact Nat.le_refl _), s0.len]
    simp
theorem gcD_ok {W : WX} {σ : L2.St} {ι0 : Io} {H0 : Hp} {S0 : Store} {mt : Bool} {v : V} {d : D} {Q : VK} (s0 : Sim K ι0 H0 S0) (x : Ext ι0 H0 ι H) (s : Sim K ι H S) (r : RepV K ι H v d) (h : FinE K W ι0 H0 σ (Want K Q) (gcD mt S0 d S)) : Q v H := by
  unfold gcD at h
  cases w : ownRef mt S0.length d with
  | none =>
    rw [w] at h
    have h : FinE K W ι0 H0 σ (Want K Q) (match oldO none S0.length S S0 S, fz none 12 S0.length S d with
      | some So, some d' => .ok d' So
      | _, _ => .bad) := h
    cases q : oldO none S0.length S S0 S with
    | none => rw [q] at h; exact h.elim
    | some So =>
      cases q2 : fz none 12 S0.length S d with
      | none => rw [q, q2] at h; exact h.elim
      | some d' =>
        rw [q, q2] at h
        obtain ⟨x1, s1⟩ := old_ok s0 x s q
        exact h H _ x1 s1 v (fz_rep s (Cut.plain s _) 12 v d d' r q2)
  | some k =>
    rw [w] at h
    have hd : d = .ref k ∧ ¬ k < S0.length := by
      cases mt with
      | false => cases w
      | true =>
        cases d with
        | ref j =>
          have w : (if j < S0.length then none else some j) = some k := w
          by_cases c : j < S0.length
          · rw [if_pos c] at w; cases w
          · rw [if_neg c] at w; cases w; exact ⟨rfl, c⟩
        | _ => cases w
    obtain ⟨rfl, hk⟩ := hd
    have h : FinE K W ι0 H0 σ (Want K Q) (match oldO (some k) S0.length S S0 S, S[k]? with
      | some So, some m => match fzO (some k) S0.length S m with
        | some m' => .ok (.ref S0.length) (So ++ [m'])
        | none => .bad
      | _, _ => .bad) := h
    obtain ⟨a, rfl, h1⟩ := r
    obtain ⟨m, h2, h3⟩ := s.at h1
    cases q : oldO (some k) S0.length S S0 S with
    | none => rw [q] at h; exact h.elim
    | some So =>
      rw [q, h2] at h
      have h : FinE K W ι0 H0 σ (Want K Q) (match fzO (some k) S0.length S m with
        | some m' => .ok (.ref S0.length) (So ++ [m'])
        | none => .bad) := h
      cases q2 : fzO (some k) S0.length S m with
      | none => rw [q2] at h; exact h.elim
      | some m' =>
        rw [q2] at h
        obtain ⟨x1, s1, g1⟩ := own_ok s0 x s hk h1 h2 q q2
        exact h H _ x1 s1 _ ⟨a, rfl, g1⟩
end
end FL

/-! FI: the promise of a def by its function, its body, its call; the law's end. -/
namespace FL
open PySem PySem.Spec PyProof.Rows L2

abbrev WofE (E : XK) : WX := fun cls dd _ H => E cls dd H
structure FnG (P : Program) (w : World) (K : PySem.W.Frag) (mg : Str → Option Value) (base : Heap) (k : Nat) (f : Addr) (fd : FuncData) (ps : List Str) (F : List D → Store → R D) : Prop where
  run : ∀ (A : Around) (outer : List Env) (s : Shared) (H : Hp) (args : Args) (us : List Value) (vs : List V) (Q : VK) (E : XK) (ι : Io) (ds : List D) (S : Store), Room k A → A.guards = some [] → Env0 P w K mg base A outer s H → BindsTo s fd args (ps.zip us) → Vals vs us →
    ds.length = ps.length → RepVs K ι H vs ds → Sim K ι H S → FinE K (WofE E) ι H [] (Want K Q) (F ds S) → codeAny (model P w) A (.call (.ref f) args) (CR (L2N.CX P w) outer P w H s Q E) s
theorem FnG.mono {P : Program} {w : World} {K : PySem.W.Frag} {mg : Str → Option Value} {base : Heap} {j k : Nat} {f : Addr} {fd : FuncData} {ps : List Str} {F : List D → Store → R D} (G : FnG P w K mg base j f fd ps F) (h : j ≤ k) : FnG P w K mg base k f fd ps F :=
  ⟨fun A outer s H args us vs Q E ι ds S hr => G.run A outer s H args us vs Q E ι ds S (hr.mono h)⟩
section
variable {P : Program} {w : World} {K : PySem.W.Frag} {mg : Str → Option Value} {base : Heap}
theorem gc_ok {W : WX} {E : XK} {Q : VK} {ι : Io} {H : Hp} {S : Store} {mt : Bool} {r : SR} {D' : Ends} (s : Sim K ι H S) (hn : D'.nx = fun _ H' => Q .non H') (hr : D'.rt = Q) (h : FinE K (WofE E) ι H [] (Want K Q) (gc mt S r)) : FinS K (WofE E) ι H D' r := by
  cases r with
  | rt d S' =>
    intro v H' ι' x s' r'
    rw [hr]
    exact gcD_ok s x s' r' h
  | nx e S' =>
    intro σ' H' ι' x _ s'
    rw [hn]
    exact gcD_ok (v := .non) (d := .non) s x s' rfl h
  | ex c e S' =>
    intro cls dd σ' H' ι' x _ s' hx
    have h : FinE K (WofE E) ι H [] (Want K Q) (match oldO none S.length S' S S' with
      | none => .bad
      | some So => match c.lot with
        | none => .ex c So
        | some l => match fz none 12 S.length S' l with
          | some l' => .ex ⟨c.C, some l'⟩ So
          | none => .bad) := h
    cases q : oldO none S.length S' S S' with
    | none => rw [q] at h; exact h.elim
    | some So =>
      rw [q] at h
      obtain ⟨x1, s1⟩ := old_ok s x s' q
      have h : FinE K (WofE E) ι H [] (Want K Q) (match c.lot with
        | none => .ex c So
        | some l => match fz none 12 S.length S' l with
          | some l' => .ex ⟨c.C, some l'⟩ So
          | none => .bad) := h
      obtain ⟨C, lot⟩ := c
      cases lot with
      | none => exact h cls dd H' _ x1 s1 ⟨hx.1, hx.2⟩
      | some l =>
        have h : FinE K (WofE E) ι H [] (Want K Q) (match fz none 12 S.length S' l with
          | some l' => .ex ⟨C, some l'⟩ So
          | none => .bad) := h
        cases q2 : fz none 12 S.length S' l with
        | none => rw [q2] at h; exact h.elim
        | some l' =>
          rw [q2] at h
          obtain ⟨h1, p, v, h2, h3, h4, h5⟩ := hx
          exact h cls dd H' _ x1 s1 ⟨h1, p, v, h2, h3, (Cut.plain s' S.length).out p h4, fz_rep s' (Cut.plain s' _) 12 v l l' h5 q2⟩
  | bk _ _ => exact h.elim
  | ct _ _ => exact h.elim
  | bad => exact h.elim
theorem start_ok {N : List Str} {ι : Io} {H : Hp} {vs : List V} {ds : List D} (r : RepVs K ι H vs ds) : SimE K ι H (L2.start N vs) (startE N.length ds) := by
  have hl := r.length
  refine ⟨?_, fun i d h => ?_⟩
  · unfold startE L2.start
    simp [hl]
  · unfold startE at h
    by_cases hi : i < ds.length
    · rw [List.getElem?_append_left (by simpa using hi), List.getElem?_map] at h
      cases q : ds[i]? with
      | none => rw [q] at h; cases h
      | some d' =>
        rw [q] at h
        cases h
        obtain ⟨v, h1, h2⟩ := r.get q
        refine ⟨v, ?_, h2⟩
        unfold L2.start
        rw [List.getElem?_append_left (by simpa [hl] using hi), List.getElem?_map, h1]
        rfl
    · rw [List.getElem?_append_right (by simpa using hi), List.getElem?_replicate] at h
      split at h <;> cases h
/-- a def by its body -/
theorem okG {x qual : Str} {st : Stmt} {f : Addr} {fd : FuncData} {N ps : List Str} {k : Nat} {mt : Bool} {ev : EvS} (F : Fun K x qual st f fd) (Sc : FnScope N ps (defScope st))
    (body : ∀ (cdv : Value) (A : Around) (outer : List Env) (s : Shared) (H : Hp) (E : XK), Room k (A.deeper (envOfC qual (defScope st) s.heap.objs.size f cdv)) → (A.deeper (envOfC qual (defScope st) s.heap.objs.size f cdv)).guards = some [] →
      PSsF (cxOf (L2N.CX P w) P w K mg base N qual (defScope st) f cdv A outer s H E) (WofE E) (defBody st) ev) : FnG P w K mg base (k + 1) f fd ps (runF mt N.length ev) := by
  obtain ⟨oc, od, kV, doc, pm, an, cdv, ct, osl, rfl, lk, hcd⟩ := F.ex
  refine ⟨fun A outer s H args us vs Q E ι ds S room gd e0 hb rv hl rd sim fin => ?_⟩
  have hlv : vs.length = ps.length := by rw [rd.length]; exact hl
  have kin : K.In s.heap := e0.mod.kin.keeps fun b o e => (e0.bs b o e).1
  have nol : s.heap.NoLimit := e0.mod.nolimit.keeps fun b o e => (e0.bs b o e).1
  have kinds : ∀ y ∈ ps.zip us, (defScope st).names.lookup y.1 = some .local ∨ ((defScope st).names.lookup y.1 = some .cell ∧ ((cellsFrom (s.heap.objs.size + 1) (defScope st).names []).lookup y.1).isSome = true) := by
    rintro ⟨n, v⟩ hy
    rcases Sc.par n (List.of_mem_zip hy).1 with q | q
    · exact .inl q
    · exact .inr ⟨q, PySem.W.cellsFrom_some _ _ _ (.inl q)⟩
  refine codeAny_call_function room.depth (kin _ _ lk) rfl Sc.co Sc.gen rfl (PySem.W.codeRec_of kin hcd) (hb _ _ _ _ ?_)
  refine wpAny_newFunctionEnv_cells Sc.kind kinds fun env henv s1 icc => ?_
  subst henv
  refine ⟨nol.keeps icc.toInCall.keep, codeAny_func ?_⟩
  have inv : Inv (cxOf (L2N.CX P w) P w K mg base N qual (defScope st) f cdv A outer s H E) [] (L2.start N vs) H s1 := inv_start Sc room.hd e0 hlv rv icc
  have b := body cdv A outer s H E (room.deeper _) gd
  refine wpAny_mono (b.run [] s1 (L2.start N vs) H { nx := fun _ H' => Q .non H', rt := Q } inv ⟨ι, startE N.length ds, S, start_ok rd, sim, gc_ok (W := WofE E) sim rfl rfl fin⟩) (fun fl s' hs => ?_) fun e s' hs => hs
  cases fl with
  | ret u =>
    obtain ⟨v, σ', H', J, r', q⟩ := hs
    exact ⟨v, H', J.os, J.bare, J.base, J.hok, r', q⟩
  | next =>
    obtain ⟨σ', H', J, q⟩ := hs
    exact ⟨V.non, H', J.os, J.bare, J.base, J.hok, rfl, q⟩
  | brk => exact hs.elim fun _ z => z.elim fun _ z => False.elim z.2
  | cont => exact hs.elim fun _ z => z.elim fun _ z => False.elim z.2
end
section
variable {X : Cx} {W : WX}
theorem callG_of {k : Nat} {f : Addr} {fd : FuncData} {ps : List Str} {F : List D → Store → R D} {pins : List (Addr × Obj)} {σ : L2.St} {H : Hp} {s : Shared} {Q : VK} {us : List Value} {vs : List V} {ι : Io} {ds : List D} {S : Store} (G : FnG X.prog X.w X.K X.mg X.base k f fd ps F) (hr : Room k X.A) (gd : X.A.guards = some []) (hb : Binds X.K fd ps []) (tk : L2N.Takes X W)
    (I : Inv X pins σ H s) (r : Vals vs us) (hl : ds.length = ps.length) (rd : RepVs X.K ι H vs ds) (sim : Sim X.K ι H S) (h : FinE X.K W ι H σ (Want X.K Q) (F ds S)) : wpAny (model X.prog X.w) X.A (call (.ref f) us) (EP X pins σ Q) X.xe s := by
  have hl2 : us.length = ps.length := by rw [← r.length, rd.length]; exact hl
  have b := hb s us I.kIn (by rw [List.append_nil]; exact hl2)
  rw [List.append_nil] at b
  have h' : FinE X.K (WofE (WE W σ)) ι H [] (Want X.K Q) (F ds S) := by
    cases q : F ds S with
    | ok d S' => rw [q] at h; exact h
    | ex c S' => rw [q] at h; exact h
    | bad => rw [q] at h; exact h
  refine wpAny_call (codeAny_mono (G.run X.A X.stack s H ⟨us, []⟩ us vs Q (WE W σ) ι ds S hr gd I.env0 b r hl rd sim h') fun r s' hq => ?_)
  cases r with
  | error e => exact L2N.passAt tk σ pins H s e s' I hq
  | ok fl =>
    cases fl with
    | ret u => exact I.after hq
    | next => exact False.elim hq
    | brk => exact False.elim hq
    | cont => exact False.elim hq
def evCall (n : Nat) (F : List D → Store → R D) (a : EvL) : Ev := fun e S => (a e S).bind fun ds S1 => if ds.length = n then F ds S1 else .bad
theorem f_call {k : Nat} {f : Addr} {fd : FuncData} {ps : List Str} {F : List D → Store → R D} {x : Str} {p pos : Pos} {e : Expr} {es : List Expr} {a : EvL} (G : FnG X.prog X.w X.K X.mg X.base k f fd ps F) (hr : Room k X.A) (gd : X.A.guards = some []) (hg : Gl X x) (hm : X.mg x = some (.ref f)) (hk : PySem.W.keepIn X.K (.ref f) = true) (hb : Binds X.K fd ps []) (tk : L2N.Takes X W)
    (ha : PAF X W (e :: es) a) (hdb : (x == ("__debug__" : Str)) = false := by decide) (he : starEach (e :: es) X.env = (false, eval e X.env) :: starEach es X.env := by rfl) (hpl : (backTo pos (starEach es X.env)).any (·.1) = false := by rfl) :
    PEF X W (.Call (.Name x p) (e :: es) [] pos) (evCall ps.length F a) := by
  refine ⟨fun pins s σ H Q I h => ?_⟩
  obtain ⟨ι, en, S, se, sim, h⟩ := h
  have arg : tFL X.K W a σ H fun vs H1 => ∃ ι1 ds S1, ds.length = ps.length ∧ RepVs X.K ι1 H1 vs ds ∧ Sim X.K ι1 H1 S1 ∧ FinE X.K W ι1 H1 σ (Want X.K Q) (F ds S1) := by
    refine ⟨ι, en, S, se, sim, FinE.mono ?_ (FinE.bind h)⟩
    rintro ι1 H1 ds x1 ⟨S1, _, _, s1, h1⟩ vs rv
    by_cases c : ds.length = ps.length
    · rw [if_pos c] at h1; exact ⟨ι1, ds, S1, c, rv, s1, h1⟩
    · rw [if_neg c] at h1; exact h1.elim
  refine wpAny_Call_Name_kw (ld_glob I hg hm ?_ hdb)
  refine PySem.W.callWith_K (h₀ := X.base) I.ok.mod.kin hk (thn (ha.run pos pins s σ H _ I arg) fun us s1 ⟨vs, H1, I1, r, ι1, ds, S1, h1, h2, h3, h4⟩ => ⟨I1.kIn, ?_⟩) he hpl
  exact callG_of G hr gd hb tk I1 r h1 h2 h3 h4
end

/-! ### the law's end -/
section
variable {P : Program} {w : World} {K : PySem.W.Frag} {mg mb : Str → Option Value}
theorem lawG_call {k : Nat} {fa a : Addr} {fd : FuncData} {x : Str} {F : List D → Store → R D} {s₁ : Shared} {vs : List Value} {ns : List Int} (KX : K.In s₁.heap) (hns : s₁.heap.Ns mainGlobals mg) (hb : s₁.heap.Ns builtinsNs mb) (hbb : ∀ x : Str, x ≠ "__name__" → mb x = bootBuiltins x) (hlim : s₁.heap.NoLimit) (hg : s₁.gens = #[])
    (ha : s₁.heap.get? a = some { cls := .type "list", data := .seq vs.toArray }) (hi : IntsAre vs ns) (hl : ns.length ≤ sizeLine) (hr : Room k callerA) (G : ∀ base : Heap, K.In base → base.Ns mainGlobals mg → FnG P w K mg base k fa fd [x] F)
    (hbind : ∀ (s : Shared) (u : Value), BindsTo s fd ⟨[u], []⟩ [(x, u)]) (hF : F [.scr ns] [] = .ok (.bl true) []) :
    codeAny (model P w) callerA (.call (.ref fa) ⟨[.ref a], []⟩) (fun r s' => r = .ok (.ret (.bool true)) ∧ OldK s₁.heap s'.heap ∧ s'.os = s₁.os ∧ AllBare s'.gens) s₁ := by
  have rv := vals_ints hi
  have lenV := hi.length
  have run : ∀ H : Hp, Only H → RepV K ⟨[], []⟩ H (.ref a) (.scr ns) → HOk P w H s₁.heap → (∀ b, H b ≠ none → b = a) → (H a ≠ none → K.lookup a = none) →
      codeAny (model P w) callerA (.call (.ref fa) ⟨[.ref a], []⟩) (fun r s' => r = .ok (.ret (.bool true)) ∧ OldK s₁.heap s'.heap ∧ s'.os = s₁.os ∧ AllBare s'.gens) s₁ := by
    intro H only rep hok hA hK
    have at_a : ∀ {b : Addr} {u : HO}, H b = some u → b = a := fun {b u} q => hA b (by rw [q]; simp)
    have dictFree : ∀ {b : Addr} {o : Obj} {es : Array DictEntry} {ep : Nat}, s₁.heap.get? b = some o → o.data = .dict es ep → H b = none := by
      intro b o es ep e d
      cases q : H b with
      | none => rfl
      | some u =>
        obtain rfl := at_a q
        rw [ha] at e
        cases e
        have d' : Data.seq vs.toArray _ = Data.dict es ep := d
        cases d'
    have nsHid : ∀ {b : Addr} {m : Str → Option Value}, s₁.heap.Ns b m → (hidT s₁.heap H).Ns b m := by
      rintro b m ⟨o, es, ep, e, d, r⟩
      exact ⟨o, es, ep, hidT_get e (dictFree e d), d, r⟩
    have kinHid : K.In (hidT s₁.heap H) := by
      intro b o e
      refine hidT_get (KX b o e) ?_
      cases q : H b with
      | none => rfl
      | some u =>
        obtain rfl := at_a q
        rw [hK (by rw [q]; simp)] at e
        cases e
    have limHid : (hidT s₁.heap H).NoLimit := let ⟨mc, h1, h2⟩ := hlim; ⟨mc, nsHid h1, h2⟩
    have e0 : Env0 P w K mg (hidT s₁.heap H) callerA [] s₁ H := by
      refine ⟨rfl, ⟨kinHid, nsHid hns, ⟨mb, nsHid hb, hbb⟩, limHid⟩, fun b o e => of_hidT e, Nat.le_of_eq (hidT_size _ _), trivial, ?_, hok, .of_eq hg⟩
      intro b hb
      exact absurd (show b ∈ ([] : List Addr) from hb) (by simp)
    have sim0 : Sim K ⟨[], []⟩ H [] := ⟨List.nodup_nil, rfl, fun n a m h => by simp at h, fun a h => by simp at h, fun a h => by simp at h⟩
    have fin : FinE K (WofE fun _ _ _ => False) ⟨[], []⟩ H [] (Want K fun v _ => v = .bl true) (F [.scr ns] []) := by
      rw [hF]
      exact fun H' ι' _ _ v hv => hv
    refine codeAny_mono ((G _ kinHid (nsHid hns)).run callerA [] s₁ H ⟨[.ref a], []⟩ [.ref a] [.ref a] (fun v _ => v = .bl true) (fun _ _ _ => False) ⟨[], []⟩ [.scr ns] [] hr rfl e0 (hbind s₁ (.ref a)) (.cons rfl .nil) rfl (RepVs.single rep) sim0 fin) fun r s' h => ?_
    cases r with
    | error e =>
      obtain ⟨_, _, _, _, _, _, _, _, _, _, _, _, z⟩ := h
      exact z.elim
    | ok fl =>
      cases fl with
      | next => exact False.elim h
      | brk => exact False.elim h
      | cont => exact False.elim h
      | ret u =>
        obtain ⟨v, H', os, bare, un, hok', r', q⟩ := h
        obtain rfl : v = .bl true := q
        obtain rfl : u = Value.bool true := r'
        refine ⟨rfl, OldK.of_keep fun b o e => ?_, os, bare⟩
        cases q : H b with
        | none => exact un.keep b o e q (fun z => absurd (show b ∈ ([] : List Addr) from z) (by simp)) (by simp)
        | some u =>
          rcases only b with z | ⟨ob, xs, z⟩
          · rw [q] at z; cases z
          · obtain ⟨e1, _⟩ := hok b _ z
            obtain ⟨e2, _⟩ := hok' b _ (un.frzs b ob _ z)
            rw [e] at e1
            cases e1
            exact e2
  cases hk : K.lookup a with
  | some o =>
    have e := KX a o hk
    rw [ha] at e
    cases e
    refine run (fun _ => none) (fun _ => .inl rfl) ⟨a, rfl, .inr fun H2 => .inr ⟨_, vs.toArray, _, hk, rfl, rfl, rfl, by rw [List.size_toArray, lenV]; exact hl, by simpa using rv⟩⟩ (fun b u z => by cases z) (fun b z => absurd rfl z) fun z => absurd rfl z
  | none =>
    refine run (fun b => if b = a then some (.frz { cls := .type "list", data := .seq vs.toArray } (.lst (ns.map V.int))) else none) (fun b => ?_) ⟨a, rfl, .inl ⟨_, if_pos rfl⟩⟩ (fun b u z => ?_) (fun b z => ?_) fun _ => hk
    · by_cases hb : b = a
      · exact .inr ⟨_, _, if_pos hb⟩
      · exact .inl (if_neg hb)
    · by_cases hb : b = a
      · have z' := (if_pos hb).symm.trans z
        cases z'
        subst hb
        exact ⟨ha, by rw [List.length_map]; exact hl, vs, _, rv, ha⟩
      · have z' := (if_neg hb).symm.trans z
        cases z'
    · by_cases hb : b = a
      · exact hb
      · exact absurd (if_neg hb) z
theorem walkG {l : PySem.W.OpenLaw} {n k : Nat} {q : Program} {loose : List Str} {XP : (Str → Option Value) → Heap → Prop} {YP : World → Heap → Prop} {d : DefRec} {K : Params → PySem.W.Frag} {x : Str} {F : World → (Str → Option Value) → List D → Store → R D} (hn : l.most = some n) (hn2 : n ≤ sizeLine) (hdf : d.params.defaults = []) (hr : Room k callerA)
    (hY : ∀ (w : World) (h : Heap), YP w h → (K w.params).In h)
    (G : ∀ (w : World) (mg : Str → Option Value) (fa : Addr) (h : Heap), (K w.params).In h → h.Ns mainGlobals mg → mg d.name = some (.ref fa) →
      ∃ fd : FuncData, (∀ (s : Shared) (u : Value), BindsTo s fd ⟨[u], []⟩ [(x, u)]) ∧ (∀ base : Heap, (K w.params).In base → base.Ns mainGlobals mg → FnG l.prog w (K w.params) mg base k fa fd [x] (F w mg)) ∧ ∀ ns : List Int, ns.length ≤ n → F w mg [.scr ns] [] = .ok (.bl true) []) :
    PySem.W.WalkO q loose XP YP l.row.toRowW d [] (fun f vs => PySem.call f vs) := by
  refine Att.attach_call hn hdf fun w s₀ s₁ mg mb fa o pm cd doc a vs ns Gr Y ho hd hcd hmg hobj hints hlen hg => ?_
  have KX := hY w _ Y
  obtain ⟨fd, hb, hF, hT⟩ := G w mg fa _ KX Gr.T.g hmg
  exact lawG_call KX Gr.T.g Gr.T.b Gr.T.builtins Gr.T.nolimit hg hobj hints (Nat.le_trans hlen hn2) hr hF hb (hT ns hlen)
end
end FL

/-! FJ: stores into places, sorted, repr. -/
namespace FL
open PySem PySem.Spec PyProof.Rows L2

section
variable {X : Cx} {W : WX}
/-! ### xs[i] = e -/
def putAt (n : Nat) (ds : List D) (id d : D) (e : Fenv) (S : Store) : R Fenv := match id with
  | .int k => match ixN ds.length k with
    | some j => .ok e (S.set n (.lst (ds.set j d)))
    | none => .bad
  | _ => .bad
def putIx (od id d : D) (e : Fenv) (S : Store) : R Fenv := match lstAt S od with
  | some (n, ds) => putAt n ds id d e S
  | none => .bad
def evgIx (o i : Ev) : EvG := fun d e S => (o e S).bind fun od S1 => (i e S1).bind fun id S2 => putIx od id d e S2
theorem put_ok {K : PySem.W.Frag} {ι : Io} {H : Hp} {σ : L2.St} {e : Fenv} {S : Store} {vo vi v : V} {od id d : D} {Q : L2.St → Hp → Prop} (se : SimE K ι H σ e) (s : Sim K ι H S) (ro : RepV K ι H vo od) (ri : RepV K ι H vi id) (r : RepV K ι H v d)
    (h : FinG K ι H σ [] Q (putIx od id d e S)) : rSetL vo vi v H fun H' => Q σ H' := by
  unfold putIx at h
  cases q3 : lstAt S od with
  | none => rw [q3] at h; exact h.elim
  | some p =>
    obtain ⟨n, ds⟩ := p
    rw [q3] at h
    have h : FinG K ι H σ [] Q (putAt n ds id d e S) := h
    cases id with
    | int k =>
      unfold putAt at h
      have h : FinG K ι H σ [] Q (match ixN ds.length k with
        | some j => .ok e (S.set n (.lst (ds.set j d)))
        | none => .bad) := h
      cases q4 : ixN ds.length k with
      | none => rw [q4] at h; exact h.elim
      | some j =>
        rw [q4] at h
        obtain ⟨a, xs, e1, h1, h2, h3, h4⟩ := lstAt_ok s ro q3
        obtain rfl : vi = .int k := ri
        have r5 : RepVs K ι H (xs.set j v) (ds.set j d) := h4.set j r
        refine ⟨a, xs, k, j, e1, rfl, h3, by rw [h4.length]; exact q4, ?_⟩
        exact h σ _ _ (Ext.write s h1 h2 rfl) (se.ext (Ext.write s h1 h2 rfl)) (s.write h1 h2 rfl ⟨_, upd_same, RepVs.ext (Ext.write s h1 h2 rfl) _ _ r5⟩) (fun _ _ => rfl) rfl
    | _ => exact h.elim
theorem FinG.ext {K : PySem.W.Frag} {ι ι' : Io} {H H' : Hp} {σ : L2.St} {vs : List Nat} {Q : L2.St → Hp → Prop} (x : Ext ι H ι' H') : ∀ {r : R Fenv}, FinG K ι H σ vs Q r → FinG K ι' H' σ vs Q r
  | .ok _ _, h => fun _ _ _ y s z k l => h _ _ _ (x.trans y) s z k l
  | .ex _ _, h => h
  | .bad, h => h
theorem g_ix {K : PySem.W.Frag} {o i : Ev} : GOk K (gSub (tF K W0 o) (tF K W0 i) rSetL) [] (evgIx o i) := by
  intro ι H σ e S v d Q se s r h
  have h : FinG K ι H σ [] Q ((o e S).bind fun od S1 => (i e S1).bind fun id S2 => putIx od id d e S2) := h
  refine ⟨ι, e, S, se, s, ?_⟩
  cases q1 : o e S with
  | ex c S1 => rw [q1] at h; exact h.elim
  | bad => rw [q1] at h; exact h.elim
  | ok od S1 =>
    rw [q1] at h
    intro H1 ι1 x1 s1 v1 r1
    refine ⟨ι1, e, S1, se.ext x1, s1, ?_⟩
    have h : FinG K ι H σ [] Q ((i e S1).bind fun id S2 => putIx od id d e S2) := h
    cases q2 : i e S1 with
    | ex c S1 => rw [q2] at h; exact h.elim
    | bad => rw [q2] at h; exact h.elim
    | ok id S2 =>
      rw [q2] at h
      intro H2 ι2 x2 s2 v2 r2
      exact put_ok (se.ext (x1.trans x2)) s2 (RepV.ext x2 _ _ r1) r2 (RepV.ext (x1.trans x2) _ _ r) (FinG.ext (x1.trans x2) h)
theorem fs_ix {o i e : Expr} {eo ei ee : Ev} {pos p : Pos} (he : PEF X W e ee) (ho : PEF X W0 o eo) (hi : PEF X W0 i ei)
    (ha : ∀ v, assign (.Subscript o i pos) X.env v = (do
      let ov ← holding [v] (eval o X.env)
      let iv ← holding [v, ov] (eval i X.env)
      standAt pos
      holding [v, ov, iv] (setItem ov iv v)
      release [v, ov, iv] []) := by intro _; rfl) (hs : swapsWithSole [.Subscript o i pos] e p.line X.env = pure false := by rfl) (hw : swappedStores [.Subscript o i pos] e X.env = pure none := by rfl)
    (h1 : (assignEach [.Subscript o i pos] X.env).map (·.2) = [assign (.Subscript o i pos) X.env] := by rfl) : PSF X W (.Assign [.Subscript o i pos] e p) (evAsg ee (evgIx eo ei)) :=
  fs_asg he (pg_sub ho hi set_list ha) g_ix hs hw h1

/-! ### sorted -/
def pairsD {α : Type} (xs : List α) (ps : List PyData) : List α := ((xs.zip ps).mergeSort (PySem.W.dataLe false Prod.snd)).map Prod.fst
def alikeB (ps : List PyData) : Bool := ps.all fun p => ps.all fun q => PySem.W.alike p q
def tupB : PyData → Bool
  | .tuple (_ :: _) => true
  | _ => false
def plainB : PyData → Bool
  | .none => false
  | .tuple _ => false
  | _ => true
def sortB (ps : List PyData) : Bool := alikeB ps && (ps.all tupB || ps.all plainB)
theorem alikeB_ok {ps : List PyData} (h : alikeB ps = true) : PySem.W.AllAlike ps := by
  intro d hd d' hd'
  exact List.all_eq_true.mp (List.all_eq_true.mp h d hd) d' hd'
theorem sortB_ok {ps : List PyData} (h : (ps.all tupB || ps.all plainB) = true) : PySem.W.Sortable ps := by
  rcases Bool.or_eq_true_iff.mp h with h | h
  · refine .inl fun d hd => ?_
    have := List.all_eq_true.mp h d hd
    cases d with
    | tuple xs =>
      cases xs with
      | nil => cases this
      | cons x r => exact ⟨x, r, rfl⟩
    | _ => cases this
  · refine .inr fun d hd => ?_
    have := List.all_eq_true.mp h d hd
    cases d with
    | none => cases this
    | tuple xs => cases this
    | _ => exact ⟨fun z => (nomatch z), fun xs z => (nomatch z)⟩
def rSortD (K : PySem.W.Frag) : List V → Hp → VK → Prop := fun vs H Q => ∃ a xs ps, vs = [V.ref a] ∧ SqL K H a xs ∧ DpAll K H xs ps ∧ PySem.W.AllAlike ps ∧ PySem.W.Sortable ps ∧ (∀ p ∈ ps, p.depth ≤ 20) ∧ ∀ p, H p = none → Q (.ref p) (upd H p (.lst (pairsD xs ps)))
theorem dpAll_length {K : PySem.W.Frag} {H : Hp} : ∀ {xs : List V} {ps : List PyData}, DpAll K H xs ps → xs.length = ps.length
  | [], [], _ => rfl
  | x :: xs, p :: ps, h => by
    cases h with
    | cons _ h2 => simp [dpAll_length h2]
theorem each_dp {pins : List (Addr × Obj)} {σ : L2.St} {H : Hp} {s : Shared} (I : Inv X pins σ H s) : ∀ {xs : List V} {us : List Value} {ps : List PyData}, Vals xs us → DpAll X.K H xs ps →
    PySem.W.EachIs (fun (v : Value) (b : V × PyData) => RelV b.1 v) us (xs.zip ps) ∧ PySem.W.EachIs (fun (v : Value) (b : V × PyData) => ∃ as, Reads s.heap v b.2 as) us (xs.zip ps)
  | [], _, [], r, _ => by cases r; exact ⟨.nil, .nil⟩
  | x :: xs, _, p :: ps, r, h => by
    cases r with
    | cons r1 r2 =>
      cases h with
      | cons h1 h2 =>
        obtain ⟨a, b⟩ := each_dp I r2 h2
        exact ⟨.cons r1 a, .cons (Dp.reads I p x _ h1 r1) b⟩
theorem vals_each : ∀ {us : List Value} {bs : List (V × PyData)}, PySem.W.EachIs (fun (v : Value) (b : V × PyData) => RelV b.1 v) us bs → Vals (bs.map Prod.fst) us
  | _, _, .nil => .nil
  | _, _, .cons h1 t => .cons h1 (vals_each t)
theorem cc_sorted (hu : X.A.units + 64 < cLine) : CallR X (.builtin "sorted") (rSortD X.K) := by
  intro pins s σ H vs us Q I r h
  obtain ⟨a, xs, ps, rfl, hs, hp, hal, hk, hd, q⟩ := h
  obtain ⟨its, rv, hl, hz⟩ := I.list hs
  rw [Vals.ref1 r]
  have hlen := dpAll_length hp
  obtain ⟨e1, e2⟩ := each_dp I rv hp
  have hm : (xs.zip ps).map Prod.snd = ps := List.map_snd_zip (by omega)
  have hL : (xs.zip ps).length ≤ sizeLine := by rw [List.length_zip, hlen, Nat.min_self, ← hlen]; exact hz
  refine PySem.W.sorted_data (enc := Prod.snd) hl.isList e1 e2 (by rw [hm]; exact hal) (by rw [hm]; exact hk) hL (fun b hb => ?_) fun out ho e3 => ?_
  · have := hd b.2 (List.of_mem_zip hb).2
    omega
  · obtain ⟨ep, he'⟩ := PyProof.Rows.sortedAll_at s.heap its out.toArray
    have hlen : (pairsD xs ps).length ≤ sizeLine := by
      unfold pairsD
      rw [List.length_map, List.length_mergeSort]; exact hL
    exact ⟨.ref _, upd H (s.heap.objs.size + 1) (.lst (pairsD xs ps)), I.laid (t' := s.toks) (fun _ _ => PyProof.Rows.sortedAll_old) (Nat.le_succ _) ⟨hlen, out, ep, vals_each e3, he'⟩, rfl, q _ (I.hok.fresh (Nat.le_succ _))⟩
/-- sorted(xs), any data that can be ordered -/
def dSorted (m : Bool) : List D → Store → R D := onL fun ds S => match ds.mapM (toD S) with
  | some ps => if sortB ps = true then mkL m (pairsD ds ps) S else .bad
  | none => .bad
theorem repZip {K : PySem.W.Frag} {ι : Io} {H : Hp} : ∀ {bs : List ((V × D) × PyData)}, (∀ b ∈ bs, RepV K ι H b.1.1 b.1.2) → RepVs K ι H (bs.map fun b => b.1.1) (bs.map fun b => b.1.2)
  | [], _ => rfl
  | b :: bs, h => ⟨_, _, rfl, h b List.mem_cons_self, repZip fun c hc => h c (List.mem_cons_of_mem _ hc)⟩
theorem repAll {K : PySem.W.Frag} {ι : Io} {H : Hp} : ∀ {xs : List V} {ds : List D}, RepVs K ι H xs ds → ∀ b ∈ xs.zip ds, RepV K ι H b.1 b.2
  | _, [], h => by cases h; intro b hb; simp at hb
  | _, d :: ds, ⟨x, r, e, h1, h2⟩ => by
    subst e
    intro b hb
    rcases List.mem_cons.mp hb with rfl | hb
    · exact h1
    · exact repAll h2 b hb
theorem zip_left {α β : Type} : ∀ (xs : List α) (ds : List β) (ps : List PyData), xs.length = ds.length → ((xs.zip ds).zip ps).map (fun b => (b.1.1, b.2)) = xs.zip ps
  | [], [], _, _ => rfl
  | x :: xs, d :: ds, [], _ => rfl
  | x :: xs, d :: ds, p :: ps, h => by
    have := zip_left xs ds ps (by simpa using h)
    simpa using this
theorem zip_right {α β : Type} : ∀ (xs : List α) (ds : List β) (ps : List PyData), xs.length = ds.length → ((xs.zip ds).zip ps).map (fun b => (b.1.2, b.2)) = ds.zip ps
  | [], [], _, _ => rfl
  | x :: xs, d :: ds, [], _ => rfl
  | x :: xs, d :: ds, p :: ps, h => by
    have := zip_right xs ds ps (by simpa using h)
    simpa using this
theorem RepVs.sort {K : PySem.W.Frag} {ι : Io} {H : Hp} {xs : List V} {ds : List D} {ps : List PyData} (r : RepVs K ι H xs ds) : RepVs K ι H (pairsD xs ps) (pairsD ds ps) := by
  have hl := r.length
  have hb := repAll r
  let B : List ((V × D) × PyData) := ((xs.zip ds).zip ps).mergeSort (PySem.W.dataLe false Prod.snd)
  have hB : ∀ b ∈ B, RepV K ι H b.1.1 b.1.2 := by
    intro b hb'
    have h1 : b ∈ (xs.zip ds).zip ps := (List.mergeSort_perm _ _).mem_iff.mp hb'
    exact hb b.1 (List.of_mem_zip h1).1
  have k := repZip hB
  have z1 : ((xs.zip ds).zip ps).map (fun b => (b.1.1, b.2)) = xs.zip ps := zip_left xs ds ps hl
  have z2 : ((xs.zip ds).zip ps).map (fun b => (b.1.2, b.2)) = ds.zip ps := zip_right xs ds ps hl
  have e1 : pairsD xs ps = B.map fun b => b.1.1 := by
    unfold pairsD
    rw [← z1, ← List.map_mergeSort (r := PySem.W.dataLe false Prod.snd) (f := fun b : (V × D) × PyData => (b.1.1, b.2)) (fun a _ b _ => rfl), List.map_map]
    rfl
  have e2 : pairsD ds ps = B.map fun b => b.1.2 := by
    unfold pairsD
    rw [← z2, ← List.map_mergeSort (r := PySem.W.dataLe false Prod.snd) (f := fun b : (V × D) × PyData => (b.1.2, b.2)) (fun a _ b _ => rfl), List.map_map]
    rfl
  rw [e1, e2]
  exact k
theorem k_sorted {K : PySem.W.Frag} {m : Bool} : OkN K (rSortD K) (dSorted m) := OkN.onL fun W σ ι H S a xs ds Q s hs r h => by
  cases q : ds.mapM (toD S) with
  | none => rw [q] at h; exact h.elim
  | some ps =>
    rw [q] at h
    have h : FinE K W ι H σ (Want K Q) (if sortB ps = true then mkL m (pairsD ds ps) S else .bad) := h
    by_cases c : sortB ps = true
    · rw [if_pos c] at h
      obtain ⟨c1, c2⟩ := Bool.and_eq_true_iff.mp c
      exact ⟨a, xs, ps, rfl, hs, toPs (fun v d p => toP_dp s 20 v d p) r q, alikeB_ok c1, sortB_ok c2, mapM_all (fun d p e => (toP_plain 20 d p e).2) q, fun p hp => mkL_ok s (RepVs.sort r) h hp⟩
    · rw [if_neg c] at h; exact h.elim
end
end FL

/-! FK: a, b = x, y; divmod; repr. -/
namespace FL
open PySem PySem.Spec PyProof.Rows L2
section
variable {X : Cx} {W : WX}
def evPar (i j : Nat) (a : EvL) : EvS := fun e S => (a e S).bindS e fun ds S1 => match ds with
  | [d, d'] => .nx ((e.set i (some d)).set j (some d')) S1
  | _ => .bad
theorem fs_par {i j : Nat} {x y : Str} {a b : Expr} {ta : EvL} {px py pt : Pos} {kt k2 pt2} {pos : Pos} (hc : X.calm = true) (hN : X.N.Nodup) (hi : X.N[i]? = some x) (hj : X.N[j]? = some y) (hij : i ≠ j)
    (hx : X.env.scope.names.lookup x = some .local) (hy : X.env.scope.names.lookup y = some .local) (ha : PAF X W [a, b] ta)
    (hw : swappedStores [.Tuple [.Name x px, .Name y py] kt pt] (.Tuple [a, b] k2 pt2) X.env = pure (some [x, y]))
    (hs : swapsWithSole [.Tuple [.Name x px, .Name y py] kt pt] (.Tuple [a, b] k2 pt2) pos.line X.env = pure false := by rfl) :
    PSF X W (.Assign [.Tuple [.Name x px, .Name y py] kt pt] (.Tuple [a, b] k2 pt2) pos) (evPar i j ta) := by
  refine PS.weak (ps_par hc hN hi hj hij hx hy ha hw hs) ?_
  rintro D' σ H ⟨ι, e, S, se, s, h⟩
  refine ⟨ι, e, S, se, s, FinE.mono ?_ (FinE.bindS se h)⟩
  rintro ι1 H1 ds x1 ⟨S1, _, x, se1, s1, h1⟩ vs r
  match ds, h1, r with
  | [d, d'], h1, r =>
    obtain ⟨v, w, rfl, r1, r2⟩ := r.two
    exact ⟨v, w, rfl, h1 _ H1 ι1 (Ext.refl _ _) ((se1.set r1).set r2) s1⟩
  | [], h1, _ => exact h1.elim
  | [_], h1, _ => exact h1.elim
  | _ :: _ :: _ :: _, h1, _ => exact h1.elim
def dDivmod (xs : List D) (S : Store) : R D := match xs with
  | [.int i, .int j] => if cDiv i j = true then .ok (.tup [.int (i / j), .int (i % j)]) S else .bad
  | _ => .bad
theorem k_divmod {K : PySem.W.Frag} : OkN K (fun xs H Q => ∃ i j, xs = [.int i, .int j] ∧ CDiv i j ∧ ∀ p, H p = none → Q (.ref p) (upd H p (.tup [.int (i / j), .int (i % j)]))) dDivmod := by
  intro W σ ι H S xs ds Q s r h
  unfold dDivmod at h
  split at h
  · obtain ⟨x, y, rfl, r1, r2⟩ := r.two
    rename_i i j
    obtain rfl : x = .int i := r1
    obtain rfl : y = .int j := r2
    by_cases c : cDiv i j = true
    · rw [if_pos c] at h
      refine ⟨i, j, rfl, ?_, fun p hp => mkT_ok (ds := [.int (i / j), .int (i % j)]) s ⟨_, _, rfl, rfl, _, _, rfl, rfl, rfl⟩ h hp⟩
      unfold cDiv at c
      obtain ⟨c1, c2⟩ := Bool.and_eq_true_iff.mp c
      exact ⟨of_decide_eq_true c1, of_decide_eq_true c2⟩
    · rw [if_neg c] at h; exact h.elim
  · exact h.elim
/-! ### repr -/
def reprS (p : PyData) : Str := p.shown
def dRepr (xs : List D) (S : Store) : R D := match xs with
  | [.dct []] => .ok (.str "{}") S
  | [d] => match toD S d with
    | some p => if (p.showable && fit p.shown.length) = true then .ok (.str p.shown) S else .bad
    | none => .bad
  | _ => .bad
def rRepr (K : PySem.W.Frag) : List V → Hp → VK → Prop := fun xs H Q => (∃ a, xs = [.ref a] ∧ Rd H a (.dK []) ∧ Q (.str "{}") H) ∨ ∃ x p, xs = [x] ∧ Dp K H x p ∧ p.plain = true ∧ p.depth ≤ 20 ∧ p.showable = true ∧ p.shown.length ≤ sizeLine ∧ Q (.str p.shown) H
mutual
theorem noDict_plain : ∀ p : PyData, p.plain = true → p.hasDict = false
  | .none, _ => rfl
  | .bool _, _ => rfl
  | .int _, _ => rfl
  | .str _, _ => rfl
  | .list xs, h => noDict_plainAll xs h
  | .tuple xs, h => noDict_plainAll xs h
  | .dict _, h => by cases h
theorem noDict_plainAll : ∀ ps : List PyData, PyData.plainAll ps = true → PyData.hasDictAll ps = false
  | [], _ => rfl
  | p :: ps, h => by
    obtain ⟨h1, h2⟩ := Bool.and_eq_true_iff.mp (show (p.plain && PyData.plainAll ps) = true from h)
    show (p.hasDict || PyData.hasDictAll ps) = false
    rw [noDict_plain p h1, noDict_plainAll ps h2]
    rfl
end
theorem dict0 : (PyData.dict []).depth ≤ 1 := by decide
theorem cc_repr (hu : X.A.units + 64 < cLine) (hg : X.A.guards = some []) : CallR X (.builtin "repr") (rRepr X.K) := by
  intro pins s σ H xs us Q I r h
  rcases h with ⟨a, rfl, hd, q⟩ | ⟨x, p, rfl, hp, pl, dp, sh, sz, q⟩
  · rw [Vals.ref1 r]
    obtain ⟨z, hs, vs, rel, dd⟩ := dk_rd I.hok hd
    have hv : vs = [] := by
      have := rel.length
      cases vs with
      | nil => rfl
      | cons _ _ => cases this
    subst hv
    obtain ⟨o, es, ep, ho, hx, hdt, _, hes, _⟩ := dd
    have he : es = #[] := by
      cases q : es.toList with
      | nil => exact Array.toList_inj.mp (by rw [q])
      | cons e l => rw [q] at hes; cases hes
    subst he
    refine PySem.repr_of_reads' (d := .dict []) (as := [a]) (Reads.dict (as := []) (bs := []) ho hx.1 hdt .nil .nil) rfl (fun _ hm => ?_) hg (by have h0 := dict0; omega) (fun _ _ e => e) (fun h' u tk k => ⟨.str _, H, I.kept k, ⟨u, rfl⟩, q⟩) (by decide)
    have := List.mem_singleton.mp hm
    rw [← this] at hs
    simp at hs
  · obtain ⟨u, rfl, ru⟩ := vals1 r
    obtain ⟨as, rd⟩ := Dp.reads I p x u hp ru
    cases rd with
    | none => exact PySem.P.repr_of_none ⟨.str _, H, I.tok _, ⟨_, rfl⟩, q⟩
    | bool b => exact PySem.P.repr_of_bool ⟨.str _, H, I.tok _, ⟨_, rfl⟩, q⟩
    | int i t => exact PySem.P.repr_of_int (of_decide_eq_true sh) ⟨.str _, H, I.tok _, ⟨_, rfl⟩, q⟩
    | str y t => exact PySem.P.repr_of_str ⟨.str _, H, I.tok _, ⟨_, rfl⟩, q⟩ sz
    | list h1 h2 h3 h4 => exact PySem.repr_of_reads' (Reads.list h1 h2 h3 h4) sh (fun e => by rw [noDict_plain _ pl] at e; cases e) hg (by omega) (fun _ _ e => e) (fun h' u tk k => ⟨.str _, H, I.kept k, ⟨u, rfl⟩, q⟩) sz
    | tuple h1 h2 h3 h4 => exact PySem.repr_of_reads' (Reads.tuple h1 h2 h3 h4) sh (fun e => by rw [noDict_plain _ pl] at e; cases e) hg (by omega) (fun _ _ e => e) (fun h' u tk k => ⟨.str _, H, I.kept k, ⟨u, rfl⟩, q⟩) sz
    | dict h1 h2 h3 h4 h5 => cases pl
theorem k_repr {K : PySem.W.Frag} : OkN K (rRepr K) dRepr := by
  intro W σ ι H S xs ds Q s r h
  match ds, h, r with
  | [], h, r => exact h.elim
  | d :: e :: l, h, r =>
    cases d with
    | dct kvs => cases kvs <;> exact (show False from h).elim
    | _ => exact (show False from h).elim
  | [d], h, r =>
    obtain ⟨x, rfl, r1⟩ := r.one
    have gen : ∀ h : FinE K W ι H σ (Want K Q) (match toD S d with
      | some p => if (p.showable && fit p.shown.length) = true then .ok (.str p.shown) S else .bad
      | none => .bad), rRepr K [x] H Q := by
      intro h
      cases q : toD S d with
      | none => rw [q] at h; exact h.elim
      | some p =>
        rw [q] at h
        have h : FinE K W ι H σ (Want K Q) (if (p.showable && fit p.shown.length) = true then .ok (.str p.shown) S else .bad) := h
        by_cases c : (p.showable && fit p.shown.length) = true
        · rw [if_pos c] at h
          obtain ⟨c1, c2⟩ := Bool.and_eq_true_iff.mp c
          have tp := toP_plain 20 d p q
          exact .inr ⟨x, p, rfl, toP_dp s 20 x d p r1 q, tp.1, tp.2, c1, fit_ok c2, here s h rfl⟩
        · rw [if_neg c] at h; exact h.elim
    cases d with
    | dct kvs =>
      cases kvs with
      | nil =>
        obtain ⟨a, kv, rfl, h1, _, h2⟩ := r1
        cases h2
        exact .inl ⟨a, rfl, h1, here s h rfl⟩
      | cons _ _ => exact gen h
    | _ => exact gen h
end
end FL

/-! FN: small words for the printed derivations. -/
namespace FL
open PySem PySem.Spec PyProof.Rows L2
theorem kinds_all {K : PySem.W.Frag} : Kinds K := ⟨fun T hT k hk => kit_ty (by
  have all : ∀ T ∈ ["str", "tuple", "list", "int", "bool", "dict"], ∀ k ∈ ["NoneType", "bool", "int", "str", "tuple", "list", "dict"], kitB k T = some (isTy T k) := by decide +kernel
  exact all T hT k hk)⟩
section
variable {X : Cx} {W : WX}
theorem take0 : L2N.Takes X W0 := fun u s' ⟨_, _, _, _, _, _, _, _, _, _, _, _, _, _, _, _, w⟩ => w.elim
theorem bo_len : bootBuiltins "len" = some (.builtin "len") := by decide +kernel
theorem bo_all : bootBuiltins "all" = some (.builtin "all") := by decide +kernel
theorem bo_any : bootBuiltins "any" = some (.builtin "any") := by decide +kernel
theorem bo_sum : bootBuiltins "sum" = some (.builtin "sum") := by decide +kernel
theorem bo_abs : bootBuiltins "abs" = some (.builtin "abs") := by decide +kernel
theorem bo_max : bootBuiltins "max" = some (.builtin "max") := by decide +kernel
theorem bo_min : bootBuiltins "min" = some (.builtin "min") := by decide +kernel
theorem bo_sorted : bootBuiltins "sorted" = some (.builtin "sorted") := by decide +kernel
theorem bo_divmod : bootBuiltins "divmod" = some (.builtin "divmod") := by decide +kernel
theorem bo_repr : bootBuiltins "repr" = some (.builtin "repr") := by decide +kernel
theorem bo_isinstance : bootBuiltins "isinstance" = some (.builtin "isinstance") := by decide +kernel
theorem bo_tuple : bootBuiltins "tuple" = some (.type "tuple") := by decide +kernel
theorem bo_list : bootBuiltins "list" = some (.type "list") := by decide +kernel
theorem bo_int : bootBuiltins "int" = some (.type "int") := by decide +kernel
theorem bo_str : bootBuiltins "str" = some (.type "str") := by decide +kernel
theorem bo_bool : bootBuiltins "bool" = some (.type "bool") := by decide +kernel
theorem bo_dict : bootBuiltins "dict" = some (.type "dict") := by decide +kernel
theorem len1 {a : Ev} : ∀ e S ds S1, evCons a evNil e S = .ok ds S1 → ds.length = 1 := by
  intro e S ds S1 h
  unfold evCons evNil at h
  cases q : a e S with
  | ok d S2 => rw [q] at h; cases h; rfl
  | ex _ _ => rw [q] at h; cases h
  | bad => rw [q] at h; cases h
theorem len2 {a b : Ev} : ∀ e S ds S1, evCons a (evCons b evNil) e S = .ok ds S1 → ds.length = 2 := by
  intro e S ds S1 h
  unfold evCons at h
  cases q : a e S with
  | ok d S2 =>
    rw [q] at h
    have h' : (((b e S2).bind fun x S1 => (evNil e S1).bind fun xs S2 => .ok (x :: xs) S2).bind fun xs S2 => R.ok (d :: xs) S2) = .ok ds S1 := h
    cases q2 : b e S2 with
    | ok _ _ => rw [q2] at h'; cases h'; rfl
    | ex _ _ => rw [q2] at h'; cases h'
    | bad => rw [q2] at h'; cases h'
  | ex _ _ => rw [q] at h; cases h
  | bad => rw [q] at h; cases h
/-- isinstance(e, T) -/
def evIsi (T : String) (a : Ev) : Ev := fun e S => (a e S).bind fun d S1 => match kindOf S1 d with
  | some k => .ok (.bl (isTy T k)) S1
  | none => .bad
theorem f_isi {T : String} {p pos : Pos} {e : Expr} {y : Str} {py : Pos} {a : Ev} (hg : Gl X "isinstance") (hm : X.mg "isinstance" = none) (ha : PEF X W e a) (hgy : Gl X y) (hmy : X.mg y = none) (hvy : bootBuiltins y = some (.type T)) (hT : T ∈ ["str", "tuple", "list", "int", "bool", "dict"])
    (hy : y ≠ "__name__" := by decide) (hdy : (y == ("__debug__" : Str)) = false := by decide)
    (he : starEach [e, .Name y py] X.env = (false, eval e X.env) :: starEach [.Name y py] X.env := by rfl) (he2 : starEach [.Name y py] X.env = (false, eval (.Name y py) X.env) :: starEach [] X.env := by rfl) (hpl : (backTo pos (starEach [.Name y py] X.env)).any (·.1) = false := by rfl) :
    PEF X W (.Call (.Name "isinstance" p) [e, .Name y py] [] pos) (evIsi T a) := by
  have h := f_callB (pos := pos) (p := p) call_isi (k_isi kinds_all hT) hg hm bo_isinstance (fa_cons (W := W) ha (fa_cons (f_const (pe_bltn (pos := py) hgy hmy hvy (v := .ty T) rfl hy hdy) (d := .ty T) fun _ _ => rfl) fa_nil he2) he) (by decide) (by decide) he hpl
  have e1 : evN (fun xs S => match xs with
      | [d, .ty T'] => if T' = T then dIsi [d, .ty T] S else .bad
      | _ => .bad) (evCons a (evCons (evC (.ty T)) evNil)) = evIsi T a := by
    funext e S
    unfold evN evCons evIsi
    cases a e S with
    | ok d S1 =>
      show (if T = T then dIsi [d, .ty T] S1 else .bad) = _
      rw [if_pos rfl]
      rfl
    | ex _ _ => rfl
    | bad => rfl
  rw [← e1]
  exact h
end
end FL

/-! FO: t[::-1], t a tuple or a list. -/
namespace FL
open PySem PySem.Spec PyProof.Rows L2
theorem adjust_rev (n : Nat) : Builtin.Slice.sliceAdjust none none (-1) (n : Int) = ((n : Int) - 1, -1) := by
  unfold Builtin.Slice.sliceAdjust
  simp
theorem places_rev (n : Nat) : Builtin.Slice.slicePlaces ((n : Int) - 1) (-1) (-1) = n := by
  unfold Builtin.Slice.slicePlaces
  have h1 : ¬ ((-1 : Int) > 0) := by omega
  simp only [h1, if_false]
  split
  · have : ((n : Int) - 1 - -1 - 1) / - -1 + 1 = (n : Int) := by
      rw [show (- -1 : Int) = 1 by omega, Int.ediv_one]; omega
    rw [this]; omega
  · omega
theorem pick_rev (xs : Array Value) : ((List.range xs.size).filterMap fun (m : Nat) => xs[((xs.size : Int) - 1 + (m : Int) * (-1)).toNat]?).toArray = xs.toList.reverse.toArray := by
  congr 1
  have e : (List.range xs.size).filterMap (fun (m : Nat) => xs[((xs.size : Int) - 1 + (m : Int) * (-1)).toNat]?) = (List.range xs.size).map fun m => xs.toList.reverse.getD m Value.none := by
    have : ∀ l : List Nat, (∀ m ∈ l, m < xs.size) → l.filterMap (fun (m : Nat) => xs[((xs.size : Int) - 1 + (m : Int) * (-1)).toNat]?) = l.map fun m => xs.toList.reverse.getD m Value.none := by
      intro l
      induction l with
      | nil => intro _; rfl
      | cons m l ih =>
        intro h
        have hm := h m List.mem_cons_self
        have e1 : ((xs.size : Int) - 1 + (m : Int) * (-1)).toNat = xs.size - 1 - m := by omega
        have e2 : xs[xs.size - 1 - m]? = some (xs.toList.reverse.getD m Value.none) := by
          rw [List.getD_eq_getElem?_getD, List.getElem?_reverse (by simpa using hm)]
          simp only [Array.length_toList, Array.getElem?_toList]
          rw [Array.getElem?_eq_getElem (by omega)]
          rfl
        rw [List.filterMap_cons, List.map_cons, e1, e2, ih fun k hk => h k (List.mem_cons_of_mem _ hk)]
    exact this _ fun m hm => List.mem_range.mp hm
  rw [e]
  refine List.ext_getElem? fun i => ?_
  rw [List.getElem?_map]
  by_cases hi : i < xs.size
  · rw [List.getElem?_range hi]
    have : i < xs.toList.reverse.length := by simpa using hi
    show some (xs.toList.reverse.getD i Value.none) = _
    rw [List.getD_eq_getElem?_getD, List.getElem?_eq_getElem this]
    rfl
  · rw [List.getElem?_eq_none (by simpa using hi), List.getElem?_eq_none (by simpa using hi)]
    rfl
section
variable {prog : Program} {w : World} {A : Around} {E : Value → Shared → Prop} {s : Shared}
theorem getItem_tuple_rev {t sl : Addr} {items : Array Value} {vl vu vs : Value} {Q : Value → Shared → Prop} (ht : IsTup s.heap t items) (hs : s.heap.IsSliceOf sl vl vu vs) (pl : IsPart vl none) (pu : IsPart vu none) (ps : IsPart vs (some (-1)))
    (h : Q (.ref s.heap.objs.size) { s with heap := s.heap.push { cls := .type "tuple", data := .seq items.toList.reverse.toArray } })
    (hsz : items.size ≤ sizeLine) : wpAny (model prog w) A (getItem (.ref t) (.ref sl)) Q E s := by
  have htake : sizeOk (.seq items.toList.reverse.toArray) := by
    show items.toList.reverse.toArray.size ≤ sizeLine
    simpa using hsz
  obtain ⟨os, hos, hcs, hds⟩ := id hs
  have hTs : s.TypeIs (.ref sl) "slice" := ⟨os, hos, hcs⟩
  unfold getItem
  try with_reducible refine wpAny_holding ?_
  first | refine wpAny_bind (wpAny_pure ?_) | skip
  refine wpAny_bind (wpAny_sequenceKey ht.typeIs (by decide) ?_)
  refine wpAny_bind (wpAny_callSpecial?_slot (name := Str.ofString "__getitem__") ht.typeIs PyProof.Rows.slot_tuple_getitem
    (wpAny_call_entry PyProof.Rows.slot_tuple_getitem ht.typeIs entry_tuple_getitem ?_ (args_tuple_getitem _ _)))
  show wpAny _ _ (Builtin.Tuple.tupleItemsOf (.ref t) >>= _) _ _ s
  refine wpAny_bind (PyProof.Rows.tupleItemsOf_ ht ?_)
  refine wpAny_bind (wpAny_typeOf hTs ?_)
  rw [if_pos (by decide)]
  refine wpAny_bind (show wpAny (model prog w) _ (Builtin.Slice.sliceApplied (.ref sl) (pure (items.size : Int))) _ _ s from ?_)
  · unfold Builtin.Slice.sliceApplied Builtin.Slice.sliceFields
    refine wpAny_bind (wpAny_bind (wpAny_field hos hds (x := vl) rfl (wpAny_bind (wpAny_field hos hds (x := vu) rfl (wpAny_bind (wpAny_field hos hds (x := vs) rfl (wpAny_pure ?_)))))))
    refine wpAny_bind (HT.slicePart_ ps ?_)
    show wpAny _ _ (if ((-1 : Int) == 0) = true then _ else _) _ _ s
    rw [if_neg (by decide)]
    refine wpAny_bind (HT.slicePart_ pl (wpAny_bind (HT.slicePart_ pu (wpAny_bind (wpAny_pure ?_)))))
    show wpAny _ _ (match Builtin.Slice.sliceAdjust none none (-1) (items.size : Int) with | (lo, hi) => pure (lo, (-1 : Int), Builtin.Slice.slicePlaces lo hi (-1))) _ _ s
    rw [adjust_rev]
    show wpAny _ _ (pure (((items.size : Int) - 1), (-1 : Int), Builtin.Slice.slicePlaces ((items.size : Int) - 1) (-1) (-1))) _ _ s
    rw [places_rev]
    refine wpAny_pure ?_
    show wpAny _ _ (if ((((items.size : Int) - 1) == 0 && (-1 : Int) == 1 && items.size == items.size) = true) then _ else _) _ _ s
    rw [if_neg (by simp), pick_rev]
    first
      | exact wpAny_bind (m := Builtin.Tuple.tupleExact _) (wpAny_newObj_type (wpAny_pure ⟨_, rfl, wpAny_pure h⟩) htake)
      | exact wpAny_bind (m := Builtin.Tuple.tupleExact _) (wpAny_newObj_type (wpAny_bind (wpAny_pure (wpAny_pure ⟨_, rfl, wpAny_pure h⟩))) htake)
      | exact wpAny_bind (wpAny_bind (m := Builtin.Tuple.tupleExact _) (wpAny_newObj_type (wpAny_pure (wpAny_pure ⟨_, rfl, wpAny_pure h⟩)) htake))
      | exact wpAny_bind (wpAny_bind (m := Builtin.Tuple.tupleExact _) (wpAny_newObj_type (wpAny_pure ⟨_, rfl, wpAny_pure h⟩) htake))
end
section
variable {X : Cx} {W : WX}
def tRevA (K : PySem.W.Frag) (te : TE) : TE := fun σ H Q => te σ H fun x H1 => (∃ a xs, x = .ref a ∧ SqL K H1 a xs ∧ ∀ p, H1 p = none → Q (.ref p) (upd H1 p (.lst xs.reverse))) ∨ (∃ a xs, x = .ref a ∧ SqT K H1 a xs ∧ ∀ p, H1 p = none → Q (.ref p) (upd H1 p (.tup xs.reverse)))
theorem pe_revA {e : Expr} {te : TE} {k : Nat} {p1 p2 p3 pos : Pos} (he : PE X e te) : PE X (.Subscript e (.Slice none none (some (.UnaryOp .USub (.Constant (.int 1) k p1) p2)) p3) pos) (tRevA X.K te) := by
  refine ⟨fun pins s σ H Q I h => ?_⟩
  refine Subscript_ (thn (he.run pins s σ H _ I h) fun v s1 ⟨x, H1, I1, r1, q1⟩ => ?_)
  have hst : PO X (some (.UnaryOp .USub (.Constant (.int 1) k p1) p2)) (tPart (tUn (rU fun i => .int (-i)) (tC (.int 1)))) := po_some (pe_un un_neg pe_int)
  refine wpAny_Slice (thn (po_none.run pins s1 σ H1 (fun o H2 => o = none ∧ H2 = H1) I1 ⟨rfl, rfl⟩) fun vl s2 ⟨l, H2, I2, pl, el, e2⟩ => ?_)
  subst el e2
  refine thn (po_none.run pins s2 σ H2 (fun o H3 => o = none ∧ H3 = H2) I2 ⟨rfl, rfl⟩) fun vu s3 ⟨u, H3, I3, pu, eu, e3⟩ => ?_
  subst eu e3
  refine thn (hst.run pins s3 σ H3 (fun o H4 => o = some (-1) ∧ H4 = H3) I3 ⟨1, rfl, -1, rfl, rfl, rfl⟩) fun vs s4 ⟨o, H4, I4, ps, eo, e4⟩ => ?_
  subst eo e4
  have I5 : Inv X pins σ H4 { s4 with heap := s4.heap.push { cls := .type "slice", data := .fields #[vl, vu, vs] } } := I4.kept (t' := s4.toks) fun b ob q => Heap.get?_push_of_some _ q
  rcases q1 with ⟨a, xs, ex, hx, q⟩ | ⟨a, xs, ex, hx, q⟩
  · subst ex
    cases r1
    obtain ⟨its, r, ht, hz⟩ := I5.list hx
    have hlen := r.length
    show wpAny (model X.prog X.w) X.A (subscriptTail e (.Slice none none (some (.UnaryOp .USub (.Constant (.int 1) k p1) p2)) p3) (.ref a) (.ref s4.heap.objs.size)) (EP X pins σ Q) X.xe { s4 with heap := s4.heap.push { cls := .type "slice", data := .fields #[vl, vu, vs] } }
    refine tail_any (ops := [.ref a, .ref s4.heap.objs.size]) ht.isList.typeIs (PySem.slot_list_getitem.lookup) ?_ (by with_unfolding_all rfl)
    refine wpAny_getItem_list_slice ht.isList (Heap.IsSliceOf.new _ vl vu vs) pl pu ps (by decide) ?_ (by rw [List.size_toArray]; omega)
    rw [PySem.W.krv_pick]
    refine ⟨.ref _, _, I5.laid (t' := s4.toks) (o := .lst xs.reverse) (fun b ob q => Heap.get?_push_of_some _ q) (Nat.le_refl _) ?_, rfl, q _ (I5.hok.fresh (Nat.le_refl _))⟩
    exact ⟨by rw [List.length_reverse]; exact hz, _, 0, r.reverse, Heap.get?_push_size _ rfl⟩
  · subst ex
    cases r1
    obtain ⟨its, r, ht, hz⟩ := I5.tuple hx
    have hlen := r.length
    show wpAny (model X.prog X.w) X.A (subscriptTail e (.Slice none none (some (.UnaryOp .USub (.Constant (.int 1) k p1) p2)) p3) (.ref a) (.ref s4.heap.objs.size)) (EP X pins σ Q) X.xe { s4 with heap := s4.heap.push { cls := .type "slice", data := .fields #[vl, vu, vs] } }
    refine tail_any (ops := [.ref a, .ref s4.heap.objs.size]) ht.typeIs (PyProof.Rows.slot_tuple_getitem.lookup) ?_ (by with_unfolding_all rfl)
    refine getItem_tuple_rev ht (Heap.IsSliceOf.new _ vl vu vs) pl pu ps ?_ (by rw [List.size_toArray]; omega)
    refine ⟨.ref _, _, I5.laid (t' := s4.toks) (o := .tup xs.reverse) (fun b ob q => Heap.get?_push_of_some _ q) (Nat.le_refl _) ?_, rfl, q _ (I5.hok.fresh (Nat.le_refl _))⟩
    exact ⟨by rw [List.length_reverse]; exact hz, _, r.reverse, IsTup.new _ _⟩
def dRev (m : Bool) (d : D) (S : Store) : R D := match d with
  | .tup ds => .ok (.tup ds.reverse) S
  | _ => match sqL S d with
    | some ds => mkL m ds.reverse S
    | none => .bad
def evRev (m : Bool) (a : Ev) : Ev := fun e S => (a e S).bind fun d S1 => dRev m d S1
theorem f_rev {m : Bool} {e : Expr} {a : Ev} {k : Nat} {p1 p2 p3 pos : Pos} (ha : PEF X W e a) : PEF X W (.Subscript e (.Slice none none (some (.UnaryOp .USub (.Constant (.int 1) k p1) p2)) p3) pos) (evRev m a) := by
  refine PE.weak (pe_revA ha) ?_
  rintro σ H Q ⟨ι, e, S, se, s, h⟩
  refine ⟨ι, e, S, se, s, FinE.mono ?_ (FinE.bind h)⟩
  rintro ι1 H1 d x1 ⟨S1, _, x, s1, h1⟩ v r
  have lst : FinE X.K W ι1 H1 σ (Want X.K Q) (match sqL S1 d with
      | some ds => mkL m ds.reverse S1
      | none => .bad) → (∃ a xs, v = .ref a ∧ SqL X.K H1 a xs ∧ ∀ p, H1 p = none → Q (.ref p) (upd H1 p (.lst xs.reverse))) := by
    intro h1'
    cases hp : sqL S1 d with
    | none => rw [hp] at h1'; exact h1'.elim
    | some ds =>
      rw [hp] at h1'
      obtain ⟨a, xs, rfl, h2, h3⟩ := repSqL s1 r hp
      exact ⟨a, xs, rfl, h2, fun p hp => mkL_ok s1 h3.reverse h1' hp⟩
  cases d with
  | tup ds =>
    obtain ⟨a, xs, rfl, h2, h3⟩ := r
    exact .inr ⟨a, xs, rfl, SqT.of h2, fun p hp => mkT_ok s1 (RepVs.reverse h3) h1 hp⟩
  | _ => exact .inl (lst h1)
end
end FL

/-! FP: plain laws of the layer's functions: no heap, no program. -/
namespace FL
open PySem PySem.Spec PyProof.Rows L2

/-! ### what leaves a def -/
theorem fz_low {ban : Option Nat} {n f : Nat} {S : Store} {d : D} (h : low n d = true) : fz ban f n S d = some d := by
  unfold fz
  rw [if_pos h]
theorem fzs_low {ban : Option Nat} {n f : Nat} {S : Store} : ∀ {ds : List D}, lows n ds = true → ds.mapM (fz ban f n S) = some ds
  | [], _ => by rw [List.mapM_nil]; rfl
  | d :: ds, h => by
    obtain ⟨h1, h2⟩ := Bool.and_eq_true_iff.mp (show (low n d && lows n ds) = true from h)
    rw [List.mapM_cons, fz_low h1, fzs_low h2]
    rfl
theorem fzk_low {ban : Option Nat} {n f : Nat} {S : Store} : ∀ {ds : List (Key × D)}, lowk n ds = true → (ds.mapM fun p => (fz ban f n S p.2).map fun d => (p.1, d)) = some ds
  | [], _ => by rw [List.mapM_nil]; rfl
  | (k, d) :: ds, h => by
    obtain ⟨h1, h2⟩ := Bool.and_eq_true_iff.mp (show (low n d && lowk n ds) = true from h)
    rw [List.mapM_cons, fz_low h1, fzk_low h2]
    rfl
theorem fzf_low {κ : Type} {ban : Option Nat} {n f : Nat} {S : Store} : ∀ {ds : List (κ × D)}, (ds.all fun p => low n p.2) = true → (ds.mapM fun p => (fz ban f n S p.2).map fun d => (p.1, d)) = some ds
  | [], _ => by rw [List.mapM_nil]; rfl
  | (k, d) :: ds, h => by
    obtain ⟨h1, h2⟩ := Bool.and_eq_true_iff.mp (show (low n d && ds.all fun p => low n p.2) = true from h)
    rw [List.mapM_cons, fz_low h1, fzf_low h2]
    rfl
theorem lows_mem {n : Nat} : ∀ {ds : List D}, (∀ d ∈ ds, low n d = true) → lows n ds = true
  | [], _ => rfl
  | d :: ds, h => by
    show (low n d && lows n ds) = true
    rw [h d List.mem_cons_self, lows_mem fun x hx => h x (List.mem_cons_of_mem _ hx)]
    rfl
def lowO (n : Nat) : MO → Bool
  | .lst ds => lows n ds
  | .dct kvs => lowk n kvs
  | .ins _ fs => fs.all fun p => low n p.2
  | .ldc _ => false
  | .dcT kvs => kvs.all fun p => low n p.2
  | .ldT _ => false
theorem fzO_low {ban : Option Nat} {n : Nat} {S : Store} {m : MO} (h : lowO n m = true) : fzO ban n S m = some m := by
  cases m with
  | lst ds => show (ds.mapM (fz ban 12 n S)).map MO.lst = _; rw [fzs_low h]; rfl
  | dct kvs => show (kvs.mapM fun p => (fz ban 12 n S p.2).map fun d => (p.1, d)).map MO.dct = _; rw [fzk_low h]; rfl
  | ins C fs => show (fs.mapM fun p => (fz ban 12 n S p.2).map fun d => (p.1, d)).map (MO.ins C) = _; rw [fzf_low h]; rfl
  | ldc kvs => cases h
  | dcT kvs => show (kvs.mapM fun p => (fz ban 12 n S p.2).map fun d => (p.1, d)).map MO.dcT = _; rw [fzf_low h]; rfl
  | ldT kvs => cases h
theorem oldO_take {ban : Option Nat} {n : Nat} {S0 : Store} : ∀ {S S' : List MO}, S.length ≤ S'.length → (∀ (i : Nat) (m m' : MO), S[i]? = some m → S'[i]? = some m' → m = m' ∨ lowO n m' = true) → oldO ban n S0 S S' = some (S'.take S.length)
  | [], _, _, _ => by simp [oldO]
  | _ :: _, [], hl, _ => by simp at hl
  | m :: r, m' :: r', hl, h => by
    have ih := oldO_take (ban := ban) (n := n) (S0 := S0) (S := r) (S' := r') (by simpa using hl) fun i a b ha hb => h (i + 1) a b (by simpa using ha) (by simpa using hb)
    have h0 := h 0 m m' rfl rfl
    unfold oldO
    rw [ih]
    by_cases e : m = m'
    · subst e
      simp
    · rw [if_neg e, fzO_low (h0.resolve_left e)]
      simp
/-- the caller's part of the store is as it was, or has changed to plain lists -/
structure KeepS (S S' : Store) : Prop where
  len : S.length ≤ S'.length
  old : ∀ (i : Nat) (m m' : MO), S[i]? = some m → S'[i]? = some m' → m = m' ∨ lowO S.length m' = true
theorem KeepS.refl (S : Store) : KeepS S S := ⟨Nat.le_refl _, fun i m m' h h' => .inl (Option.some.inj (h.symm.trans h'))⟩
theorem runF_gives {n : Nat} {ev : EvS} {ds : List D} {S S' : Store} {d d' : D} (h : ev (startE n ds) S = .rt d S') (k : KeepS S S') (hd : fz none 12 S.length S' d = some d') : runF false n ev ds S = .ok d' (S'.take S.length) := by
  show gc false S (ev (startE n ds) S) = _
  rw [h]
  show gcD false S d S' = _
  unfold gcD
  show (match oldO none S.length S' S S', fz none 12 S.length S' d with
    | some So, some d' => R.ok d' So
    | _, _ => .bad) = _
  rw [oldO_take k.len k.old, hd]
theorem runF_low {n : Nat} {ev : EvS} {ds : List D} {S S' : Store} {d : D} (h : ev (startE n ds) S = .rt d S') (k : KeepS S S') (hd : low S.length d = true) : runF false n ev ds S = .ok d (S'.take S.length) := runF_gives h k (fz_low hd)
theorem runF_pure {n : Nat} {ev : EvS} {ds : List D} {S : Store} {d : D} (h : ev (startE n ds) S = .rt d S) (hd : low S.length d = true) : runF false n ev ds S = .ok d S := by
  have := runF_low h (KeepS.refl S) hd
  rwa [List.take_length] at this
/-- falls off its end -/
theorem runF_end {n : Nat} {ev : EvS} {ds : List D} {S S' : Store} {e : Fenv} (h : ev (startE n ds) S = .nx e S') (k : KeepS S S') : runF false n ev ds S = .ok .non (S'.take S.length) := by
  show gc false S (ev (startE n ds) S) = _
  rw [h]
  show gcD false S .non S' = _
  unfold gcD
  show (match oldO none S.length S' S S', fz none 12 S.length S' .non with
    | some So, some d' => R.ok d' So
    | _, _ => .bad) = _
  rw [oldO_take k.len k.old, fz_low rfl]
theorem runF_endPure {n : Nat} {ev : EvS} {ds : List D} {S : Store} {e : Fenv} (h : ev (startE n ds) S = .nx e S) : runF false n ev ds S = .ok .non S := by
  have := runF_end h (KeepS.refl S)
  rwa [List.take_length] at this
theorem oldO_same {ban : Option Nat} {n : Nat} {S0 : Store} : ∀ {S t : List MO}, oldO ban n S0 S (S ++ t) = some S
  | [], _ => by simp [oldO]
  | m :: r, t => by
    have ih := oldO_same (ban := ban) (n := n) (S0 := S0) (S := r) (t := t)
    show oldO ban n S0 (m :: r) (m :: (r ++ t)) = _
    unfold oldO
    rw [ih]
    simp
/-- a def that hands on a fresh plain list -/
theorem runF_fresh {n : Nat} {ev : EvS} {ds : List D} {S : Store} {xs : List D} (h : ev (startE n ds) S = SR.rt (D.ref S.length) (S ++ [MO.lst xs])) (hx : ∀ x ∈ xs, ∀ (f : Nat) (ban : Option Nat), fz ban f S.length (S ++ [MO.lst xs]) x = some x) : runF true n ev ds S = R.ok (D.ref S.length) (S ++ [MO.lst xs]) := by
  show gc true S (ev (startE n ds) S) = _
  rw [h]
  show gcD true S (D.ref S.length) (S ++ [MO.lst xs]) = _
  unfold gcD
  have h1 : ownRef true S.length (D.ref S.length) = some S.length := by
    show (if S.length < S.length then none else some S.length) = _
    rw [if_neg (Nat.lt_irrefl _)]
  have h2 : ∀ ys : List D, (∀ x ∈ ys, ∀ (f : Nat) (ban : Option Nat), fz ban f S.length (S ++ [MO.lst xs]) x = some x) → ys.mapM (fz (some S.length) 12 S.length (S ++ [MO.lst xs])) = some ys := by
    intro ys
    induction ys with
    | nil => intro _; rw [List.mapM_nil]; rfl
    | cons y ys ih =>
      intro h
      rw [List.mapM_cons, h y List.mem_cons_self, ih fun x hx => h x (List.mem_cons_of_mem _ hx)]
      rfl
  rw [h1]
  show (match oldO (some S.length) S.length (S ++ [MO.lst xs]) S (S ++ [MO.lst xs]), (S ++ [MO.lst xs])[S.length]? with
    | some So, some m => match fzO (some S.length) S.length (S ++ [MO.lst xs]) m with
      | some m' => R.ok (D.ref S.length) (So ++ [m'])
      | none => .bad
    | _, _ => .bad) = _
  rw [oldO_same]
  have h3 : (S ++ [MO.lst xs])[S.length]? = some (.lst xs) := by simp
  rw [h3]
  show (match (xs.mapM (fz (some S.length) 12 S.length (S ++ [MO.lst xs]))).map MO.lst with
    | some m' => R.ok (D.ref S.length) (S ++ [m'])
    | none => .bad) = _
  rw [h2 xs hx]
  rfl
theorem fz_lowB {n f : Nat} {S : Store} {d : D} {ban : Option Nat} (h : low n d = true) : fz ban f n S d = some d := by
  unfold fz
  rw [if_pos h]
/-- a fresh list of its own, seen as it stands -/
theorem fz_own {n k f : Nat} {S : Store} {xs : List D} (hk : n ≤ k) (hS : S[k]? = some (.lst xs)) (hx : lows n xs = true) : fz none (f + 1) n S (.ref k) = some (.lst xs) := by
  unfold fz
  have h1 : ¬ low n (.ref k) = true := by
    show ¬ decide (k < n) = true
    simpa using hk
  rw [if_neg h1]
  show (if (none : Option Nat) = some k then (none : Option D) else match S[k]? with
      | some (.lst ds) => (ds.mapM (fz none f n S)).map D.lst
      | some (.dct kvs) => (kvs.mapM fun p => (fz none f n S p.2).map fun d => (p.1, d)).map D.dct
      | _ => none) = _
  rw [if_neg (by simp), hS]
  show (xs.mapM (fz none f n S)).map D.lst = _
  rw [fzs_low hx]
  rfl

/-! ### walks -/
theorem chkNil {ds : List D} {S : Store} : (Src.mk ds []).chk S := by intro p hp; simp at hp
theorem lcL_pure {x : Src} {g : EvG} {t : EvB} {a : Ev} {e : Fenv} {S : Store} {p : D → Bool} {f : D → D} (hx : x.chk S) : ∀ {ds : List D}, (∀ d ∈ ds, ∃ e1, g d e S = .ok e1 S ∧ t e1 S = .ok (p d) S ∧ (p d = true → a e1 S = .ok (f d) S)) →
    lcL x g t a e ds S = .ok ((ds.filter p).map f) S
  | [], _ => by unfold lcL; rw [if_pos hx]; rfl
  | d :: ds, h => by
    obtain ⟨e1, h1, h2, h3⟩ := h d List.mem_cons_self
    have ih := lcL_pure hx (p := p) (f := f) fun y hy => h y (List.mem_cons_of_mem _ hy)
    unfold lcL
    rw [if_pos hx, h1]
    simp only [R.noex_ok, R.bind_ok]
    rw [h2]
    simp only [R.noex_ok, R.bind_ok]
    by_cases c : p d = true
    · rw [if_pos c, h3 c]
      simp only [R.noex_ok, R.bind_ok]
      rw [ih, List.filter_cons_of_pos c]
      rfl
    · rw [if_neg c, ih, List.filter_cons_of_neg c]
theorem lcL_map {x : Src} {g : EvG} {a : Ev} {e : Fenv} {S : Store} {f : D → D} (hx : x.chk S) {ds : List D} (h : ∀ d ∈ ds, ∃ e1, g d e S = .ok e1 S ∧ a e1 S = .ok (f d) S) : lcL x g evYes a e ds S = .ok (ds.map f) S := by
  have := lcL_pure (x := x) (g := g) (t := evYes) (a := a) (e := e) (p := fun _ => true) (f := f) hx (ds := ds) fun d hd => by
    obtain ⟨e1, h1, h2⟩ := h d hd
    exact ⟨e1, h1, rfl, fun _ => h2⟩
  rwa [List.filter_eq_self.mpr (fun _ _ => rfl)] at this
/-- a comprehension whose items change the store -/
theorem lcL_st {x : Src} {g : EvG} {a : Ev} {e : Fenv} {I : Store → Prop} {Q : D → D → Prop} (hx : ∀ S, I S → x.chk S) : ∀ {ds : List D} {S : Store}, I S → (∀ d ∈ ds, ∀ S, I S → ∃ e1 S1, g d e S = .ok e1 S1 ∧ ∃ y S2, a e1 S1 = .ok y S2 ∧ I S2 ∧ Q d y) →
    ∃ ys S', lcL x g evYes a e ds S = .ok ys S' ∧ I S' ∧ ys.length = ds.length ∧ ∀ (i : Nat) (d y : D), ds[i]? = some d → ys[i]? = some y → Q d y
  | [], S, hS, _ => ⟨[], S, by unfold lcL; rw [if_pos (hx S hS)], hS, rfl, fun i d y h => by simp at h⟩
  | d :: ds, S, hS, h => by
    obtain ⟨e1, S1, h1, y, S2, h2, h3, h4⟩ := h d List.mem_cons_self S hS
    obtain ⟨ys, S', k1, k2, k3, k4⟩ := lcL_st hx (ds := ds) h3 fun z hz => h z (List.mem_cons_of_mem _ hz)
    refine ⟨y :: ys, S', ?_, k2, by simp [k3], fun i d' y' hd hy => ?_⟩
    · unfold lcL
      rw [if_pos (hx S hS), h1]
      simp only [R.noex_ok, R.bind_ok]
      show (((evYes e1 S1).noex.bind fun b S2 => if b = true then (a e1 S2).noex.bind fun y S3 => (lcL x g evYes a e ds S3).bind fun ys S4 => R.ok (y :: ys) S4 else lcL x g evYes a e ds S2)) = _
      show (if true = true then (a e1 S1).noex.bind fun y S3 => (lcL x g evYes a e ds S3).bind fun ys S4 => R.ok (y :: ys) S4 else lcL x g evYes a e ds S1) = _
      rw [if_pos rfl, h2]
      simp only [R.noex_ok, R.bind_ok]
      rw [k1]
      rfl
    · cases i with
      | zero => cases hd; cases hy; exact h4
      | succ i => exact k4 i d' y' (by simpa using hd) (by simpa using hy)
theorem forL_inv {x : Src} {g : EvG} {b : EvS} (J : List D → Fenv → Store → Prop) (hc : ∀ pre e S, J pre e S → x.chk S) : ∀ {ds : List D} {pre : List D} {e : Fenv} {S : Store}, J pre e S →
    (∀ p d q e S, pre ++ ds = p ++ d :: q → J p e S → ∃ e1 S1, g d e S = .ok e1 S1 ∧ ∃ e2 S2, b e1 S1 = .nx e2 S2 ∧ J (p ++ [d]) e2 S2) → ∃ e' S', forL x g b ds e S = .nx e' S' ∧ J (pre ++ ds) e' S'
  | [], pre, e, S, h0, _ => ⟨e, S, by unfold forL; rw [if_pos (hc _ _ _ h0)], by rwa [List.append_nil]⟩
  | d :: ds, pre, e, S, h0, h => by
    obtain ⟨e1, S1, h1, e2, S2, h2, h3⟩ := h pre d ds e S rfl h0
    obtain ⟨e', S', k1, k2⟩ := forL_inv (x := x) (g := g) (b := b) J hc (ds := ds) (pre := pre ++ [d]) h3 fun p d' q e S hp => h p d' q e S (by rw [← hp]; simp)
    refine ⟨e', S', ?_, by simpa using k2⟩
    unfold forL
    rw [if_pos (hc _ _ _ h0), h1]
    show (match b e1 S1 with
      | .nx e2 S2 => forL x g b ds e2 S2
      | .ct e2 S2 => forL x g b ds e2 S2
      | .bk e2 S2 => .nx e2 S2
      | r => r) = _
    rw [h2]
    exact k1

/-! ### data -/
theorem mapM_some {α β : Type} {g : α → Option β} {f : α → β} : ∀ {xs : List α}, (∀ x ∈ xs, g x = some (f x)) → xs.mapM g = some (xs.map f)
  | [], _ => by rw [List.mapM_nil]; rfl
  | x :: xs, h => by
    rw [List.mapM_cons, h x List.mem_cons_self, mapM_some fun y hy => h y (List.mem_cons_of_mem _ hy)]
    rfl
theorem mapM_map {α β γ : Type} {g : β → Option γ} {f : α → γ} {h : α → β} {xs : List α} (e : ∀ x ∈ xs, g (h x) = some (f x)) : (xs.map h).mapM g = some (xs.map f) := by
  induction xs with
  | nil => rw [List.map_nil, List.mapM_nil]; rfl
  | cons x xs ih =>
    rw [List.map_cons, List.mapM_cons, e x List.mem_cons_self, ih fun y hy => e y (List.mem_cons_of_mem _ hy)]
    rfl
theorem toD_strs {S : Store} (xs : List Str) : (xs.map D.str).mapM (toD S) = some (xs.map PyData.str) := mapM_map fun _ _ => rfl
theorem eqv_str (a b : Str) : PyData.eqv (.str a) (.str b) = decide (a = b) := by
  by_cases h : a = b
  · subst h; simp [PyData.eqv]
  · simp [PyData.eqv, h]
theorem any_strs (x : Str) (xs : List Str) : ((xs.map PyData.str).any fun z => PyData.eqv z (.str x)) = decide (x ∈ xs) := by
  induction xs with
  | nil => rfl
  | cons y ys ih =>
    rw [List.map_cons, List.any_cons, ih, eqv_str]
    by_cases h : y = x
    · subst h; simp
    · have h' : ¬ x = y := fun z => h z.symm
      simp [h, h']
theorem in_seq {neg : Bool} {S : Store} {x : Str} {xs : List Str} {d : D} (h : sq S d = some (xs.map D.str)) (hn : ∀ z, d ≠ .str z) : dIn neg (.str x) d S = .ok (.bl (xor neg (decide (x ∈ xs)))) S := by
  have : dIn neg (.str x) d S = match sq S d with
    | some ds => match toD S (.str x), ds.mapM (toD S) with
      | some p, some qs => R.ok (D.bl (xor neg (qs.any fun z => PyData.eqv z p))) S
      | _, _ => R.bad
    | none => match sqD S d, toKey (.str x) with
      | some kvs, some k => R.ok (D.bl (xor neg (valD kvs k).isSome)) S
      | _, _ => R.bad := by
    cases d with
    | str z => exact absurd rfl (hn z)
    | _ => rfl
  rw [this, h]
  show (match (some (PyData.str x)), (xs.map D.str).mapM (toD S) with
      | some p, some qs => R.ok (D.bl (xor neg (qs.any fun z => PyData.eqv z p))) S
      | _, _ => R.bad) = _
  rw [toD_strs]
  show R.ok (D.bl (xor neg ((xs.map PyData.str).any fun z => PyData.eqv z (.str x)))) S = _
  rw [any_strs]
theorem in_tup {neg : Bool} {S : Store} {x : Str} {xs : List Str} : dIn neg (.str x) (.tup (xs.map D.str)) S = .ok (.bl (xor neg (decide (x ∈ xs)))) S := in_seq rfl (fun z e => nomatch e)
theorem in_lst {neg : Bool} {S : Store} {x : Str} {xs : List Str} : dIn neg (.str x) (.lst (xs.map D.str)) S = .ok (.bl (xor neg (decide (x ∈ xs)))) S := in_seq rfl (fun z e => nomatch e)
/-! ### order of texts -/
def ltS (a b : Str) : Prop := a.cps.toList < b.cps.toList
def leS (a b : Str) : Bool := decide (a.cps.toList ≤ b.cps.toList)
theorem lt_str {S : Store} {a b : Str} : dOrd (fun p q => PySem.W.dataLt p q) (.str a) (.str b) S = .ok (.bl (decide (a.cps.toList < b.cps.toList))) S := by
  show (if (PySem.W.alike (.str a) (.str b) && nonN (.str a)) = true then R.ok (D.bl (PySem.W.dataLt (.str a) (.str b))) S else .bad) = _
  have h : (PySem.W.alike (.str a) (.str b) && nonN (.str a)) = true := by simp [PySem.W.alike, nonN]
  rw [if_pos h, PySem.W.dataLt_str]
theorem sort_strs {S : Store} (xs : List Str) : dSorted false [.lst (xs.map D.str)] S = .ok (.lst ((xs.mergeSort leS).map D.str)) S := by
  show (match (xs.map D.str).mapM (toD S) with
    | some ps => if sortB ps = true then mkL false (pairsD (xs.map D.str) ps) S else .bad
    | none => .bad) = _
  rw [toD_strs]
  have h : sortB (xs.map PyData.str) = true := by
    unfold sortB alikeB
    simp [List.all_map, plainB, PySem.W.alike, Function.comp_def]
  show (if sortB (xs.map PyData.str) = true then mkL false (pairsD (xs.map D.str) (xs.map PyData.str)) S else .bad) = _
  rw [if_pos h]
  show R.ok (D.lst (pairsD (xs.map D.str) (xs.map PyData.str))) S = _
  have e : pairsD (xs.map D.str) (xs.map PyData.str) = (xs.mergeSort leS).map D.str := by
    unfold pairsD
    have e1 : (xs.map D.str).zip (xs.map PyData.str) = xs.map fun x => (D.str x, PyData.str x) := by
      rw [List.zip_map']
    rw [e1]
    have e2 : (xs.mergeSort leS).map (fun x => (D.str x, PyData.str x)) = (xs.map fun x => (D.str x, PyData.str x)).mergeSort (PySem.W.dataLe false Prod.snd) := by
      refine List.map_mergeSort fun a _ b _ => ?_
      show leS a b = PySem.W.dataLe false (fun x : D × PyData => x.2) (D.str a, PyData.str a) (D.str b, PyData.str b)
      have := congrFun (congrFun (PySem.W.dataLe_str (β := Str) fun x => x) a) b
      exact this.symm
    rw [← e2, List.map_map]
    rfl
  rw [e]
theorem leS_trans (a b c : Str) (h : leS a b = true) (k : leS b c = true) : leS a c = true := by
  unfold leS at *
  exact decide_eq_true (List.le_trans (of_decide_eq_true h) (of_decide_eq_true k))
theorem leS_total (a b : Str) : (leS a b || leS b a) = true := by
  unfold leS
  rcases List.le_total a.cps.toList b.cps.toList with h | h
  · simp [h]
  · simp [h]
theorem str_cps {x y : Str} (h : x.cps.toList = y.cps.toList) : x = y := PySem.W.str_of_cps h
theorem ltS_of {a b : Str} (h : leS a b = true) (ne : a ≠ b) : ltS a b := by
  unfold leS at h
  have h := of_decide_eq_true h
  rcases List.le_iff_lt_or_eq.mp h with k | k
  · exact k
  · exact absurd (str_cps k) ne
theorem sorted_rising {xs : List Str} (h : xs.Nodup) : (xs.mergeSort leS).Pairwise ltS := by
  have h1 := List.pairwise_mergeSort leS_trans leS_total xs
  have h2 : (xs.mergeSort leS).Nodup := (List.mergeSort_perm xs leS).nodup_iff.mpr h
  exact (List.Pairwise.and h1 h2).imp fun ⟨a, b⟩ => ltS_of a b
end FL

/-! FQ: plain laws: a pot of two numbers in the store; steps of the store. -/
namespace FL
open PySem PySem.Spec PyProof.Rows L2
def PotS (S : Store) (p : Nat) : Prop := ∃ a b : Int, S[p]? = some (MO.lst [D.int a, D.int b]) ∧ 0 ≤ a ∧ 0 ≤ b ∧ b < 2 ^ 62
theorem PotS.lt {S : Store} {p : Nat} (h : PotS S p) : p < S.length := by
  obtain ⟨a, b, h, _⟩ := h
  exact (List.getElem?_eq_some_iff.mp h).1
/-- the pot may have turned, the rest stands -/
structure Step (p : Nat) (S S' : Store) : Prop where
  len : S'.length = S.length
  pot : PotS S' p
  other : ∀ q : Nat, q ≠ p → S'[q]? = S[q]?
/-- the same, with new objects behind -/
structure Grow (p : Nat) (S S' : Store) : Prop where
  len : S.length ≤ S'.length
  pot : PotS S' p
  other : ∀ q : Nat, q < S.length → q ≠ p → S'[q]? = S[q]?
theorem Step.refl {p : Nat} {S : Store} (h : PotS S p) : Step p S S := ⟨rfl, h, fun _ _ => rfl⟩
theorem Step.trans {p : Nat} {S S1 S2 : Store} (a : Step p S S1) (b : Step p S1 S2) : Step p S S2 := ⟨b.len.trans a.len, b.pot, fun q hq => (b.other q hq).trans (a.other q hq)⟩
theorem Step.grow {p : Nat} {S S' : Store} (a : Step p S S') : Grow p S S' := ⟨Nat.le_of_eq a.len.symm, a.pot, fun q _ hq => a.other q hq⟩
theorem Grow.refl {p : Nat} {S : Store} (h : PotS S p) : Grow p S S := (Step.refl h).grow
theorem Grow.trans {p : Nat} {S S1 S2 : Store} (a : Grow p S S1) (b : Grow p S1 S2) : Grow p S S2 :=
  ⟨Nat.le_trans a.len b.len, b.pot, fun q h hq => (b.other q (Nat.lt_of_lt_of_le h a.len) hq).trans (a.other q h hq)⟩
theorem Grow.step {p : Nat} {S S1 S2 : Store} (a : Grow p S S1) (b : Step p S1 S2) : Grow p S S2 := a.trans b.grow
theorem Grow.push {p : Nat} {S S1 : Store} (a : Grow p S S1) (m : MO) : Grow p S (S1 ++ [m]) := by
  refine ⟨by have := a.len; simp; omega, ?_, fun q h hq => ?_⟩
  · obtain ⟨x, y, h, r⟩ := a.pot
    exact ⟨x, y, by rw [List.getElem?_append_left (List.getElem?_eq_some_iff.mp h).1]; exact h, r⟩
  · rw [List.getElem?_append_left (Nat.lt_of_lt_of_le h a.len)]
    exact a.other q h hq
/-- one of its own objects is written -/
theorem Grow.own {p k : Nat} {S S1 : Store} (a : Grow p S S1) (hk : S.length ≤ k) (hp : p < S.length) (m : MO) : Grow p S (S1.set k m) := by
  refine ⟨by simpa using a.len, ?_, fun q h hq => ?_⟩
  · obtain ⟨x, y, h, r⟩ := a.pot
    exact ⟨x, y, by rw [List.getElem?_set_ne (by omega)]; exact h, r⟩
  · rw [List.getElem?_set_ne (by omega)]
    exact a.other q h hq
theorem Step.setPot {p : Nat} {S : Store} {a b : Int} (hp : p < S.length) (ha : 0 ≤ a) (hb : 0 ≤ b) (hc : b < 2 ^ 62) : Step p S (S.set p (.lst [.int a, .int b])) :=
  ⟨by simp, ⟨a, b, by rw [List.getElem?_set_self hp], ha, hb, hc⟩, fun q hq => List.getElem?_set_ne (Ne.symm hq)⟩
theorem Grow.keeps {p : Nat} {S S' : Store} (g : Grow p S S') : KeepS S S' := by
  refine ⟨g.len, fun i m m' h h' => ?_⟩
  by_cases hi : i = p
  · subst hi
    obtain ⟨a, b, k, _⟩ := g.pot
    rw [k] at h'
    cases h'
    exact .inr rfl
  · have := g.other i (List.getElem?_eq_some_iff.mp h).1 hi
    rw [this, h] at h'
    exact .inl (Option.some.inj h')
theorem Grow.cut {p : Nat} {S S' : Store} (g : Grow p S S') (hp : p < S.length) : Step p S (S'.take S.length) := by
  refine ⟨by rw [List.length_take]; have := g.len; omega, ?_, fun q hq => ?_⟩
  · obtain ⟨a, b, k, r⟩ := g.pot
    exact ⟨a, b, by rw [List.getElem?_take_of_lt hp]; exact k, r⟩
  · by_cases h : q < S.length
    · rw [List.getElem?_take_of_lt h]; exact g.other q h hq
    · rw [List.getElem?_eq_none (by rw [List.length_take]; omega), List.getElem?_eq_none (by omega)]
/-- a def that turns the pot -/
theorem runF_pot {n p : Nat} {ev : EvS} {ds : List D} {S S' : Store} {d d' : D} (h : ev (startE n ds) S = .rt d S') (g : Grow p S S') (hp : p < S.length) (hd : fz none 12 S.length S' d = some d') : runF false n ev ds S = .ok d' (S'.take S.length) ∧ Step p S (S'.take S.length) :=
  ⟨runF_gives h g.keeps hd, g.cut hp⟩
/-! ### reading -/
theorem ix_seq' {S : Store} {d x : D} {xs : List D} {i : Int} (h : sq S d = some xs) (hn : ∀ z, d ≠ .str z) (hx : atI xs i = some x) : dIx d (.int i) S = .ok x S := by
  have : dIx d (.int i) S = match sq S d with
    | some ds => match atI ds i with
      | some d => R.ok d S
      | none => R.bad
    | none => R.bad := by
    cases d with
    | str z => exact absurd rfl (hn z)
    | _ => rfl
  rw [this, h]
  show (match atI xs i with
      | some d => R.ok d S
      | none => R.bad) = _
  rw [hx]
theorem sq_ref {S : Store} {p : Nat} {xs : List D} (h : S[p]? = some (.lst xs)) : sq S (.ref p) = some xs := by
  show (match S[p]? with
    | some (.lst ds) => some ds
    | _ => none) = _
  rw [h]
theorem sqL_ref {S : Store} {p : Nat} {xs : List D} (h : S[p]? = some (.lst xs)) : sqL S (.ref p) = some xs := by
  show (match S[p]? with
    | some (.lst ds) => some ds
    | _ => none) = _
  rw [h]
theorem atI_nat' {α : Type} {xs : List α} {i : Int} {x : α} (h0 : 0 ≤ i) (h : xs[i.toNat]? = some x) : atI xs i = some x := by
  have hl := (List.getElem?_eq_some_iff.mp h).1
  unfold atI ixN
  rw [if_pos h0, if_pos (by omega)]
  exact h
theorem ix_ref {S : Store} {p : Nat} {xs : List D} {x : D} {i : Int} (h : S[p]? = some (.lst xs)) (h0 : 0 ≤ i) (hx : xs[i.toNat]? = some x) : dIx (.ref p) (.int i) S = .ok x S := ix_seq' (sq_ref h) (fun z e => nomatch e) (atI_nat' h0 hx)
theorem ix_tup {S : Store} {xs : List D} {x : D} {i : Int} (h0 : 0 ≤ i) (hx : xs[i.toNat]? = some x) : dIx (.tup xs) (.int i) S = .ok x S := ix_seq' rfl (fun z e => nomatch e) (atI_nat' h0 hx)
theorem ix_lst {S : Store} {xs : List D} {x : D} {i : Int} (h0 : 0 ≤ i) (hx : xs[i.toNat]? = some x) : dIx (.lst xs) (.int i) S = .ok x S := ix_seq' rfl (fun z e => nomatch e) (atI_nat' h0 hx)
theorem len_seq {S : Store} {d : D} {xs : List D} (h : sq S d = some xs) (hn : ∀ z, d ≠ .str z) : dLen [d] S = .ok (.int xs.length) S := by
  have : dLen [d] S = match sq S d with
    | some ds => R.ok (D.int ds.length) S
    | none => match sqD S d with
      | some kvs => R.ok (D.int kvs.length) S
      | none => R.bad := by
    cases d with
    | str z => exact absurd rfl (hn z)
    | _ => rfl
  rw [this, h]
theorem ltI {S : Store} {a b : Int} : dOrd (fun p q => PySem.W.dataLt p q) (.int a) (.int b) S = .ok (.bl (decide (a < b))) S := by
  show (if (PySem.W.alike (.int a) (.int b) && nonN (.int a)) = true then R.ok (D.bl (PySem.W.dataLt (.int a) (.int b))) S else .bad) = _
  have h : (PySem.W.alike (.int a) (.int b) && nonN (.int a)) = true := by simp [PySem.W.alike, nonN]
  rw [if_pos h, PySem.W.dataLt_int]
theorem gtI {S : Store} {a b : Int} : dOrd (fun p q => PySem.W.dataLt q p) (.int a) (.int b) S = .ok (.bl (decide (b < a))) S := by
  show (if (PySem.W.alike (.int a) (.int b) && nonN (.int a)) = true then R.ok (D.bl (PySem.W.dataLt (.int b) (.int a))) S else .bad) = _
  have h : (PySem.W.alike (.int a) (.int b) && nonN (.int a)) = true := by simp [PySem.W.alike, nonN]
  rw [if_pos h, PySem.W.dataLt_int]
theorem leI {S : Store} {a b : Int} : dOrd (fun p q => !PySem.W.dataLt q p) (.int a) (.int b) S = .ok (.bl (decide (a ≤ b))) S := by
  show (if (PySem.W.alike (.int a) (.int b) && nonN (.int a)) = true then R.ok (D.bl (!PySem.W.dataLt (.int b) (.int a))) S else .bad) = _
  have h : (PySem.W.alike (.int a) (.int b) && nonN (.int a)) = true := by simp [PySem.W.alike, nonN]
  rw [if_pos h, PySem.W.dataLt_int]
  have : (!decide (b < a)) = decide (a ≤ b) := by
    by_cases c : b < a
    · simp [c]
    · have : a ≤ b := by omega
      simp [c, this]
  rw [this]
theorem eqI {S : Store} {a b : Int} : dEq' (.int a) (.int b) S = .ok (.bl (decide (a = b))) S := by
  show R.ok (D.bl (PyData.eqv (.int a) (.int b))) S = _
  have : PyData.eqv (.int a) (.int b) = decide (a = b) := by
    by_cases h : a = b
    · subst h; simp [PyData.eqv]
    · simp [PyData.eqv, h]
  rw [this]
theorem neI {S : Store} {a b : Int} : dNe' (.int a) (.int b) S = .ok (.bl (!decide (a = b))) S := by
  show R.ok (D.bl (!PyData.eqv (.int a) (.int b))) S = _
  have : PyData.eqv (.int a) (.int b) = decide (a = b) := by
    by_cases h : a = b
    · subst h; simp [PyData.eqv]
    · simp [PyData.eqv, h]
  rw [this]
theorem neS {S : Store} {a b : Str} : dNe' (.str a) (.str b) S = .ok (.bl (!decide (a = b))) S := by
  show R.ok (D.bl (!PyData.eqv (.str a) (.str b))) S = _
  rw [eqv_str]
theorem eqS {S : Store} {a b : Str} : dEq' (.str a) (.str b) S = .ok (.bl (decide (a = b))) S := by
  show R.ok (D.bl (PyData.eqv (.str a) (.str b))) S = _
  rw [eqv_str]
theorem addI {m : Bool} {S : Store} {a b : Int} : dAdd' m (.int a) (.int b) S = .ok (.int (a + b)) S := rfl
theorem subI {S : Store} {a b : Int} : dSub (.int a) (.int b) S = .ok (.int (a - b)) S := rfl
theorem modI {S : Store} {a b : Int} (h : 0 < b) : dMod (.int a) (.int b) S = .ok (.int (a % b)) S := by
  show (if decide (0 < b) = true then R.ok (D.int (a % b)) S else .bad) = _
  rw [if_pos (decide_eq_true h)]
theorem divI {S : Store} {a b : Int} (h : 0 < b) (k : b < 1073741824) : dDiv (.int a) (.int b) S = .ok (.int (a / b)) S := by
  show (if (decide (0 < b) && decide (b < 1073741824)) = true then R.ok (D.int (a / b)) S else .bad) = _
  rw [if_pos (by simp [h, k])]
theorem mulI {S : Store} {a b : Int} (h : (-(2 ^ 64) < a ∧ a < 2 ^ 64) ∨ (-(2 ^ 64) < b ∧ b < 2 ^ 64)) : dMul (.int a) (.int b) S = .ok (.int (a * b)) S := by
  show (if ((decide (-(2 ^ 64) < a) && decide (a < 2 ^ 64)) || (decide (-(2 ^ 64) < b) && decide (b < 2 ^ 64))) = true then R.ok (D.int (a * b)) S else .bad) = _
  rw [if_pos]
  rcases h with ⟨h1, h2⟩ | ⟨h1, h2⟩
  · rw [decide_eq_true h1, decide_eq_true h2]; rfl
  · rw [decide_eq_true h1, decide_eq_true h2]; simp
theorem putPot0 {S : Store} {p : Nat} {x y d : D} {e : Fenv} (h : S[p]? = some (.lst [x, y])) : putIx (.ref p) (.int 0) d e S = .ok e (S.set p (.lst [d, y])) := by
  unfold putIx
  have : lstAt S (.ref p) = some (p, [x, y]) := by
    show (match S[p]? with
      | some (.lst ds) => some (p, ds)
      | _ => none) = _
    rw [h]
  rw [this]
  rfl
theorem putPot1 {S : Store} {p : Nat} {x y d : D} {e : Fenv} (h : S[p]? = some (.lst [x, y])) : putIx (.ref p) (.int 1) d e S = .ok e (S.set p (.lst [x, d])) := by
  unfold putIx
  have : lstAt S (.ref p) = some (p, [x, y]) := by
    show (match S[p]? with
      | some (.lst ds) => some (p, ds)
      | _ => none) = _
    rw [h]
  rw [this]
  rfl
end FL

/-! FR: plain laws: texts. -/
namespace FL
open PySem PySem.Spec PyProof.Rows L2
def cpl (s : Str) : List Nat := s.cps.toList
theorem cpl_append (a b : Str) : cpl (a ++ b) = cpl a ++ cpl b := by
  show (a.cps ++ b.cps).toList = _
  simp [cpl]
theorem cpl_length (a : Str) : (cpl a).length = a.length := by simp [cpl, Str.length]
theorem cpl_inj {a b : Str} (h : cpl a = cpl b) : a = b := str_cps h
theorem toSs_strs : ∀ ys : List Str, toSs (ys.map D.str) = some ys
  | [] => rfl
  | y :: ys => by
    show (toSs (ys.map D.str)).map (y :: ·) = _
    rw [toSs_strs ys]
    rfl
def abc : Str := "abcdefghijklmnopqrstuvwxyz"
theorem abc_at : ∀ k : Fin 26, (cpl abc)[k.1]? = some (97 + k.1) := by decide +kernel
theorem abc_mem (c : Nat) : c ∈ cpl abc ↔ 97 ≤ c ∧ c ≤ 122 := by
  have e : cpl abc = (List.range 26).map (97 + ·) := by decide +kernel
  rw [e, List.mem_map]
  constructor
  · rintro ⟨k, hk, rfl⟩
    have := List.mem_range.mp hk
    omega
  · rintro ⟨h1, h2⟩
    exact ⟨c - 97, List.mem_range.mpr (by omega), by omega⟩
theorem abc_ix {S : Store} {i : Int} (h0 : 0 ≤ i) (h1 : i < 26) : dIx (.str abc) (.int i) S = .ok (.str ⟨#[97 + i.toNat]⟩) S := by
  have hf : fit abc.length = true := by decide +kernel
  have h : atI abc.cps.toList i = some (97 + i.toNat) := atI_nat' h0 (abc_at ⟨i.toNat, by omega⟩)
  show (if fit abc.length = true then match atI abc.cps.toList i with
      | some c => R.ok (D.str ⟨#[c]⟩) S
      | none => .bad
      else .bad) = _
  rw [if_pos hf, h]
theorem cpl_cut (z : Str) (lo hi : Option Int) : cpl (cutS z lo hi) = ((cpl z).drop (HT.sIx z.length 0 lo)).take (HT.sIx z.length z.length hi - HT.sIx z.length 0 lo) := by
  simp [cpl, cutS]
theorem cut_sub {z : Str} {lo hi : Option Int} {c : Nat} (hc : c ∈ cpl (cutS z lo hi)) : c ∈ cpl z := by
  rw [cpl_cut] at hc
  exact List.mem_of_mem_drop (List.mem_of_mem_take hc)
theorem cpl_join (ys : List Str) : cpl (Txt.join "" ys) = (ys.map cpl).flatten := by
  rw [TL.join_eq]
  have h := TL.tl_join "" ys
  have h2 : ∀ zs : List (List Nat), TL.joinL (TL.tl "") zs = zs.flatten := by
    intro zs
    induction zs with
    | nil => rfl
    | cons p r ih =>
      cases r with
      | nil => simp [TL.joinL]
      | cons q r =>
        show p ++ (TL.tl "" ++ TL.joinL (TL.tl "") (q :: r)) = _
        rw [ih]
        have : TL.tl "" = [] := rfl
        rw [this, List.nil_append]; simp
  rw [h2] at h
  exact h
theorem join_ok {S : Store} {d : D} {ys : List Str} (hd : sq S d = some (ys.map D.str)) (h : (ys.map Str.length).sum ≤ 16777216) : mJoin (.str "") [d] S = .ok (.str (Txt.join "" ys)) S := by
  show (match sq S d with
    | some ds => match toSs ds with
      | some ys => if decide ((ys.map Str.length).sum + ys.length * ("" : Str).length ≤ 16777216) = true then R.ok (D.str (Txt.join "" ys)) S else .bad
      | none => .bad
    | none => .bad) = _
  rw [hd]
  show (match toSs (ys.map D.str) with
      | some ys => if decide ((ys.map Str.length).sum + ys.length * ("" : Str).length ≤ 16777216) = true then R.ok (D.str (Txt.join "" ys)) S else .bad
      | none => .bad) = _
  rw [toSs_strs]
  have e : ys.length * ("" : Str).length = 0 := by
    rw [show ("" : Str).length = 0 from rfl, Nat.mul_zero]
  show (if decide ((ys.map Str.length).sum + ys.length * ("" : Str).length ≤ 16777216) = true then R.ok (D.str (Txt.join "" ys)) S else .bad) = _
  rw [e, if_pos (decide_eq_true (by omega))]
def lower (s : Str) : Prop := ∀ c ∈ cpl s, 97 ≤ c ∧ c ≤ 122
theorem lower_append {a b : Str} (ha : lower a) (hb : lower b) : lower (a ++ b) := by
  intro c hc
  rw [cpl_append] at hc
  exact (List.mem_append.mp hc).elim (ha c) (hb c)
theorem lower_one {k : Nat} (h : k < 26) : lower ⟨#[97 + k]⟩ := by
  intro c hc
  have : c = 97 + k := by simpa [cpl] using hc
  omega
theorem lower_cut {z : Str} {lo hi : Option Int} (h : lower z) : lower (cutS z lo hi) := fun c hc => h c (cut_sub hc)
theorem addS {m : Bool} {S : Store} {a b : Str} (h : a.length + b.length ≤ 16777216) : dAdd' m (.str a) (.str b) S = .ok (.str (a ++ b)) S := by
  show (if decide (a.length + b.length ≤ 16777216) = true then R.ok (D.str (a ++ b)) S else .bad) = _
  rw [if_pos (decide_eq_true h)]
theorem sl_str {m : Bool} {S : Store} {z : Str} {lo hi : Option Int} (h : z.length ≤ 16777216) : dSl m (.str z) lo hi S = .ok (.str (cutS z lo hi)) S := by
  show (if decide (z.length ≤ 16777216) = true then R.ok (D.str (cutS z lo hi)) S else .bad) = _
  rw [if_pos (decide_eq_true h)]
theorem len_str {S : Store} {z : Str} (h : z.length ≤ 16777216) : dLen [.str z] S = .ok (.int z.length) S := by
  show (if decide (z.length ≤ 16777216) = true then R.ok (D.int z.length) S else .bad) = _
  rw [if_pos (decide_eq_true h)]
def nameOk (s : Str) : Prop := 1 ≤ s.length ∧ s.length ≤ 8 ∧ lower s
/-- the names of a list are texts -/
theorem append_ok {S : Store} {n : Nat} {ds : List D} {y : D} (h : S[n]? = some (.lst ds)) (hl : ds.length + 1 ≤ 16777216) : mAppend (.ref n) [y] S = .ok .non (S.set n (.lst (ds ++ [y]))) := by
  have : lstAt S (.ref n) = some (n, ds) := by
    show (match S[n]? with
      | some (.lst ds) => some (n, ds)
      | _ => none) = _
    rw [h]
  unfold mAppend
  rw [this]
  show (if decide (ds.length + 1 ≤ 16777216) = true then R.ok D.non (S.set n (.lst (ds ++ [y]))) else .bad) = _
  rw [if_pos (decide_eq_true hl)]
end FL

/-! FT: plain laws: one construct after another. -/
namespace FL
open PySem PySem.Spec PyProof.Rows L2
section
variable {e e1 e2 : Fenv} {S S1 S2 S3 : Store}
theorem seq_nx {a b : EvS} (h : a e S = .nx e1 S1) : evSeq a b e S = b e1 S1 := by
  show (match a e S with
    | .nx e1 S1 => b e1 S1
    | r => r) = _
  rw [h]
theorem seq_rt {a b : EvS} {d : D} (h : a e S = .rt d S1) : evSeq a b e S = .rt d S1 := by
  show (match a e S with
    | .nx e1 S1 => b e1 S1
    | r => r) = _
  rw [h]
theorem set_ok {i : Nat} {a : Ev} {d : D} (h : a e S = .ok d S1) : evSet i a e S = .nx (e.set i (some d)) S1 := by
  show (a e S).bindS e (fun d S1 => .nx (e.set i (some d)) S1) = _
  rw [h]
  rfl
theorem drop_ok {a : Ev} {d : D} (h : a e S = .ok d S1) : evDrop a e S = .nx e S1 := by
  show (a e S).bindS e (fun _ S1 => .nx e S1) = _
  rw [h]
  rfl
theorem ret_ok {a : Ev} {d : D} (h : a e S = .ok d S1) : evRet a e S = .rt d S1 := by
  show (a e S).bindS e (fun d S1 => .rt d S1) = _
  rw [h]
  rfl
theorem par_ok {i j : Nat} {a : EvL} {d d' : D} (h : a e S = .ok [d, d'] S1) : evPar i j a e S = .nx ((e.set i (some d)).set j (some d')) S1 := by
  show (a e S).bindS e _ = _
  rw [h]
  rfl
theorem asg_ok {a : Ev} {g : EvG} {d : D} (h : a e S = .ok d S1) (k : g d e S1 = .ok e1 S2) : evAsg a g e S = .nx e1 S2 := by
  show (a e S).bindS e (fun d S1 => (g d e S1).toS fun e1 S2 => .nx e1 S2) = _
  rw [h]
  show (g d e S1).toS (fun e1 S2 => .nx e1 S2) = _
  rw [k]
  rfl
theorem if_t {c : EvB} {a b : EvS} (h : c e S = .ok true S1) : evIfS c a b e S = a e S1 := by
  show (c e S).bindS e (fun t S1 => if t = true then a e S1 else b e S1) = _
  rw [h]
  rfl
theorem if_f {c : EvB} {a b : EvS} (h : c e S = .ok false S1) : evIfS c a b e S = b e S1 := by
  show (c e S).bindS e (fun t S1 => if t = true then a e S1 else b e S1) = _
  rw [h]
  rfl
theorem for_ok {i : EvI} {g : EvG} {b : EvS} {x : Src} {r : SR} (h : i e S = .ok x S1) (k : forL x g b x.ds e S1 = r) : evFor i g b e S = r := by
  show (i e S).bindS e (fun x S1 => forL x g b x.ds e S1) = _
  rw [h]
  exact k
theorem cons_ok {a : Ev} {r : EvL} {d : D} {ds : List D} (h : a e S = .ok d S1) (k : r e S1 = .ok ds S2) : evCons a r e S = .ok (d :: ds) S2 := by
  show (a e S).bind (fun x S1 => (r e S1).bind fun xs S2 => .ok (x :: xs) S2) = _
  rw [h]
  show (r e S1).bind (fun xs S2 => .ok (d :: xs) S2) = _
  rw [k]
  rfl
theorem nil_ok : evNil e S = .ok [] S := rfl
theorem call_ok {n : Nat} {F : List D → Store → R D} {a : EvL} {ds : List D} {r : R D} (h : a e S = .ok ds S1) (hn : ds.length = n) (k : F ds S1 = r) : evCall n F a e S = r := by
  show (a e S).bind (fun ds S1 => if ds.length = n then F ds S1 else .bad) = _
  rw [h]
  show (if ds.length = n then F ds S1 else .bad) = _
  rw [if_pos hn]
  exact k
theorem n_ok {f : List D → Store → R D} {a : EvL} {ds : List D} {r : R D} (h : a e S = .ok ds S1) (k : f ds S1 = r) : evN f a e S = r := by
  show (a e S).bind f = _
  rw [h]
  exact k
theorem one_ok {f : List D → Store → R D} {a : Ev} {d : D} {r : R D} (h : a e S = .ok d S1) (k : f [d] S1 = r) : evN f (evCons a evNil) e S = r := n_ok (cons_ok h nil_ok) k
theorem m_ok {T : String} {f : D → List D → Store → R D} {a : Ev} {as : EvL} {d : D} {ds : List D} {r : R D} (h : a e S = .ok d S1) (t : tyD T S1 d = true) (k : as e S1 = .ok ds S2) (l : f d ds S2 = r) : evM T f a as e S = r := by
  show (a e S).bind (fun x S1 => if tyD T S1 x = true then (as e S1).bind fun xs S2 => f x xs S2 else .bad) = _
  rw [h]
  show (if tyD T S1 d = true then (as e S1).bind fun xs S2 => f d xs S2 else .bad) = _
  rw [if_pos t, k]
  exact l
theorem two_ok {f : D → D → Store → R D} {a b : Ev} {x y : D} {r : R D} (h : a e S = .ok x S1) (k : b e S1 = .ok y S2) (l : f x y S2 = r) : ev2 f a b e S = r := by
  show (a e S).bind (fun x S1 => (b e S1).bind fun y S2 => f x y S2) = _
  rw [h]
  show (b e S1).bind (fun y S2 => f x y S2) = _
  rw [k]
  exact l
theorem t_ok {a : Ev} {b : Bool} (h : a e S = .ok (.bl b) S1) : evT a e S = .ok b S1 := by
  unfold evT
  rw [h]
  rfl
theorem tup_ok {a : EvL} {ds : List D} (h : a e S = .ok ds S1) (hl : ds.length ≤ 16777216) : evTup a e S = .ok (.tup ds) S1 := by
  unfold evTup
  rw [h]
  show (if decide (ds.length ≤ 16777216) = true then R.ok (D.tup ds) S1 else .bad) = _
  rw [if_pos (decide_eq_true hl)]
theorem lc_ok {vs : List Nat} {i : EvI} {g : EvG} {t : EvB} {a : Ev} {x : Src} {ys : List D} (h : i e S = .ok x S1) (hl : x.ds.length ≤ 16777216) (k : lcL x g t a (wipeE e vs) x.ds S1 = .ok ys S2) : evLc false vs i g t a e S = .ok (.lst ys) S2 := by
  unfold evLc
  rw [h]
  show (if decide (x.ds.length ≤ 16777216) = true then (lcL x g t a (wipeE e vs) x.ds S1).bind fun ys S2 => mkL false ys S2 else .bad) = _
  rw [if_pos (decide_eq_true hl), k]
  rfl
theorem var_ok {i : Nat} {d : D} (h : e[i]? = some (some d)) : evVar i e S = .ok d S := by
  unfold evVar
  rw [h]
theorem c_ok {d : D} : evC d e S = .ok d S := rfl
theorem range_ok {a : EvL} {j : Int} (h : a e S = .ok [.int j] S1) (hj : -1000000 ≤ j ∧ j ≤ 1000000) : evRange a e S = .ok ⟨rangeD 0 j, []⟩ S1 := by
  unfold evRange
  rw [h]
  show (if lim62 j = true then R.ok (Src.mk (rangeD 0 j) []) S1 else .bad) = _
  rw [if_pos (lim62_of ⟨by omega, by omega⟩)]
theorem range2_ok {a : EvL} {i j : Int} (h : a e S = .ok [.int i, .int j] S1) (hi : -1000000 ≤ i ∧ i ≤ 1000000) (hj : -1000000 ≤ j ∧ j ≤ 1000000) : evRange a e S = .ok ⟨rangeD i j, []⟩ S1 := by
  unfold evRange
  rw [h]
  show (if (lim62 i && lim62 j) = true then R.ok (Src.mk (rangeD i j) []) S1 else .bad) = _
  rw [if_pos (by rw [lim62_of ⟨by omega, by omega⟩, lim62_of ⟨by omega, by omega⟩]; rfl)]
theorem iter_ok {a : Ev} {d : D} {x : Src} (h : a e S = .ok d S1) (k : srcOf S1 d = some x) : evIter a e S = .ok x S1 := by
  unfold evIter
  rw [h]
  show (match srcOf S1 d with
    | some x => R.ok x S1
    | none => .bad) = _
  rw [k]
end
theorem rangeD_len {i j : Int} : (rangeD i j).length = (j - i).toNat := by simp [rangeD]
theorem rangeD_get {i j : Int} {k : Nat} {d : D} (h : (rangeD i j)[k]? = some d) : d = .int (i + k) ∧ (k : Int) < j - i := by
  unfold rangeD at h
  rw [List.getElem?_map] at h
  cases q : (List.range (j - i).toNat)[k]? with
  | none => rw [q] at h; cases h
  | some m =>
    rw [q] at h
    cases h
    obtain ⟨h1, h2⟩ := List.getElem?_eq_some_iff.mp q
    rw [List.getElem_range] at h2
    subst h2
    rw [List.length_range] at h1
    exact ⟨rfl, by omega⟩
theorem rangeD_mem {i j : Int} {d : D} (h : d ∈ rangeD i j) : ∃ k : Int, d = .int k ∧ i ≤ k ∧ k < j := by
  obtain ⟨k, hk, e⟩ := List.getElem_of_mem h
  obtain ⟨h1, h2⟩ := rangeD_get (i := i) (j := j) (k := k) (d := d) (by rw [← e]; exact List.getElem?_eq_getElem hk)
  exact ⟨i + k, h1, by omega, by omega⟩
theorem strs_of {P : Str → Prop} : ∀ {ys : List D}, (∀ y ∈ ys, ∃ s, y = .str s ∧ P s) → ∃ zs : List Str, ys = zs.map D.str ∧ ∀ s ∈ zs, P s
  | [], _ => ⟨[], rfl, fun s h => by simp at h⟩
  | y :: ys, h => by
    obtain ⟨s, h1, h2⟩ := h y List.mem_cons_self
    obtain ⟨zs, h3, h4⟩ := strs_of fun z hz => h z (List.mem_cons_of_mem _ hz)
    refine ⟨s :: zs, by rw [h1, h3]; rfl, fun t ht => ?_⟩
    rcases List.mem_cons.mp ht with rfl | ht
    · exact h2
    · exact h4 t ht
/-- the place in a row of ints -/
theorem pick_int {S : Store} {ns : List Int} {r : Int} (h0 : 0 ≤ r) (h1 : r < ns.length) : ∃ m, m ∈ ns ∧ dIx (.lst (ns.map D.int)) (.int r) S = .ok (.int m) S := by
  have hl : r.toNat < ns.length := by omega
  refine ⟨ns[r.toNat], List.getElem_mem hl, ix_lst h0 ?_⟩
  rw [List.getElem?_map, List.getElem?_eq_getElem hl]
  rfl
end FL
namespace FL
open PySem PySem.Spec PyProof.Rows L2
section
variable {e e1 e2 : Fenv} {S S1 S2 S3 : Store}
theorem p_ok {a : Ev} {i : Int} (h : a e S = .ok (.int i) S1) : evP a e S = .ok (some i) S1 := by
  unfold evP
  rw [h]
  rfl
theorem nop_ok : evNoP e S = .ok none S := rfl
theorem sl_ok {m : Bool} {a : Ev} {lo hi : EvO} {d : D} {l h : Option Int} {r : R D} (ha : a e S = .ok d S1) (hl : lo e S1 = .ok l S2) (hh : hi e S2 = .ok h S3) (k : dSl m d l h S3 = r) : evSl m a lo hi e S = r := by
  unfold evSl
  rw [ha]
  show (lo e S1).bind (fun l S2 => (hi e S2).bind fun h S3 => dSl m d l h S3) = _
  rw [hl]
  show (hi e S2).bind (fun h S3 => dSl m d l h S3) = _
  rw [hh]
  exact k
theorem lst_new {S : Store} {e : Fenv} : evLst true evNil e S = .ok (.ref S.length) (S ++ [.lst []]) := rfl
theorem lst_ok {a : EvL} {ds : List D} (h : a e S = .ok ds S1) (hl : ds.length ≤ 16777216) : evLst false a e S = .ok (.lst ds) S1 := by
  unfold evLst
  rw [h]
  show (if decide (ds.length ≤ 16777216) = true then mkL false ds S1 else .bad) = _
  rw [if_pos (decide_eq_true hl)]
  rfl
end
theorem tyD_ref {S : Store} {n : Nat} {ds : List D} (h : S[n]? = some (.lst ds)) : tyD "list" S (.ref n) = true := by
  show (("list" : String) == "list" && (sqL S (.ref n)).isSome) = true
  rw [sqL_ref h]
  rfl
end FL
namespace FL
theorem ex_seq {a b : EvS} {e e1 : Fenv} {S S1 : Store} {P : Fenv → Store → Prop} (h : a e S = .nx e1 S1) (k : ∃ e2 S2, b e1 S1 = .nx e2 S2 ∧ P e2 S2) : ∃ e2 S2, evSeq a b e S = .nx e2 S2 ∧ P e2 S2 := by
  rw [seq_nx h]
  exact k
theorem seq_to {a b : EvS} {e e1 : Fenv} {S S1 : Store} {r : SR} (h : a e S = .nx e1 S1) (k : b e1 S1 = r) : evSeq a b e S = r := (seq_nx h).trans k
end FL
namespace FL
open PySem PySem.Spec PyProof.Rows L2
theorem reps_of {α : Type} {f : α → D} {P : α → Prop} : ∀ {ys : List D}, (∀ y ∈ ys, ∃ s, y = f s ∧ P s) → ∃ zs : List α, ys = zs.map f ∧ ∀ s ∈ zs, P s
  | [], _ => ⟨[], rfl, fun s h => by simp at h⟩
  | y :: ys, h => by
    obtain ⟨s, h1, h2⟩ := h y List.mem_cons_self
    obtain ⟨zs, h3, h4⟩ := reps_of fun z hz => h z (List.mem_cons_of_mem _ hz)
    refine ⟨s :: zs, by rw [h1, h3]; rfl, fun t ht => ?_⟩
    rcases List.mem_cons.mp ht with rfl | ht
    · exact h2
    · exact h4 t ht
theorem all_of {Q : D → D → Prop} {P : D → Prop} {ds ys : List D} (hl : ys.length = ds.length) (h : ∀ (i : Nat) (d y : D), ds[i]? = some d → ys[i]? = some y → Q d y) (k : ∀ d y, d ∈ ds → Q d y → P y) : ∀ y ∈ ys, P y := fun y hy => by
  obtain ⟨i, hi, e⟩ := List.getElem_of_mem hy
  exact k _ y (List.getElem_mem (by rw [← hl]; exact hi)) (h i (ds[i]'(by rw [← hl]; exact hi)) y (List.getElem?_eq_getElem _) (by rw [← e]; exact List.getElem?_eq_getElem hi))
theorem extend_ok {S : Store} {n : Nat} {ds es : List D} {y : D} (h : S[n]? = some (.lst ds)) (hy : sqM S y = some es) (hl : ds.length + es.length ≤ 16777216) : mExtend (.ref n) [y] S = .ok .non (S.set n (.lst (ds ++ es))) := by
  have : lstAt S (.ref n) = some (n, ds) := by
    show (match S[n]? with
      | some (.lst ds) => some (n, ds)
      | _ => none) = _
    rw [h]
  unfold mExtend
  rw [this]
  show (match sqM S y with
    | some es => if decide (ds.length + es.length ≤ 16777216) = true then R.ok D.non (S.set n (.lst (ds ++ es))) else .bad
    | none => .bad) = _
  rw [hy]
  show (if decide (ds.length + es.length ≤ 16777216) = true then R.ok D.non (S.set n (.lst (ds ++ es))) else .bad) = _
  rw [if_pos (decide_eq_true hl)]
theorem emod_shift {a c m : Int} (h0 : 0 ≤ a) (h1 : a < m) (c0 : 0 < c) (c1 : c < m) : (a + c) % m ≠ a := by
  by_cases h : a + c < m
  · rw [Int.emod_eq_of_lt (by omega) h]; omega
  · have e : a + c = (a + c - m) + m * 1 := by omega
    rw [e, Int.add_mul_emod_self_left, Int.emod_eq_of_lt (by omega) (by omega)]; omega
end FL

/-! FU: plain laws: rows of names, sorted; slices; comprehensions over mapped rows. -/
namespace FL
open PySem PySem.Spec PyProof.Rows L2
section
variable {e e1 e2 : Fenv} {S S1 S2 S3 : Store}
theorem lcL_of {α : Type} {x : Src} {g : EvG} {t : EvB} {a : Ev} {p : α → Bool} {h f : α → D} (hx : x.chk S) : ∀ {xs : List α}, (∀ y ∈ xs, ∃ e1, g (h y) e S = .ok e1 S ∧ t e1 S = .ok (p y) S ∧ (p y = true → a e1 S = .ok (f y) S)) →
    lcL x g t a e (xs.map h) S = .ok ((xs.filter p).map f) S
  | [], _ => by
    rw [List.map_nil]
    unfold lcL
    rw [if_pos hx]
    rfl
  | y :: ys, k => by
    obtain ⟨e1, h1, h2, h3⟩ := k y List.mem_cons_self
    have ih := lcL_of hx (p := p) (h := h) (f := f) fun z hz => k z (List.mem_cons_of_mem _ hz)
    rw [List.map_cons]
    unfold lcL
    rw [if_pos hx, h1]
    simp only [R.noex_ok, R.bind_ok]
    rw [h2]
    simp only [R.noex_ok, R.bind_ok]
    by_cases c : p y = true
    · rw [if_pos c, h3 c]
      simp only [R.noex_ok, R.bind_ok]
      rw [ih, List.filter_cons_of_pos c]
      rfl
    · rw [if_neg c, ih, List.filter_cons_of_neg c]
theorem lcL_ofAll {α : Type} {x : Src} {g : EvG} {a : Ev} {h f : α → D} (hx : x.chk S) {xs : List α} (k : ∀ y ∈ xs, ∃ e1, g (h y) e S = .ok e1 S ∧ a e1 S = .ok (f y) S) : lcL x g evYes a e (xs.map h) S = .ok (xs.map f) S := by
  have := lcL_of (x := x) (g := g) (t := evYes) (a := a) (e := e) (p := fun _ => true) (h := h) (f := f) hx (xs := xs) fun y hy => by
    obtain ⟨e1, h1, h2⟩ := k y hy
    exact ⟨e1, h1, rfl, fun _ => h2⟩
  rwa [List.filter_eq_self.mpr (fun _ _ => rfl)] at this
theorem ifx_t {c : EvB} {a b : Ev} {r : R D} (h : c e S = .ok true S1) (k : a e S1 = r) : evIf c a b e S = r := by
  unfold evIf
  rw [h]
  exact k
theorem ifx_f {c : EvB} {a b : Ev} {r : R D} (h : c e S = .ok false S1) (k : b e S1 = r) : evIf c a b e S = r := by
  unfold evIf
  rw [h]
  exact k
theorem not_ok {a : EvB} {b : Bool} (h : a e S = .ok b S1) : evNot a e S = .ok (!b) S1 := by
  unfold evNot
  rw [h]
  rfl
theorem or_f {a b : EvB} {r : R Bool} (h : a e S = .ok false S1) (k : b e S1 = r) : evOr a b e S = r := by
  unfold evOr
  rw [h]
  exact k
theorem or_t {a b : EvB} (h : a e S = .ok true S1) : evOr a b e S = .ok true S1 := by
  unfold evOr
  rw [h]
  rfl
theorem and_t {a b : EvB} {r : R Bool} (h : a e S = .ok true S1) (k : b e S1 = r) : evAnd a b e S = r := by
  unfold evAnd
  rw [h]
  exact k
theorem and_f {a b : EvB} (h : a e S = .ok false S1) : evAnd a b e S = .ok false S1 := by
  unfold evAnd
  rw [h]
  rfl
theorem and_b {a b : EvB} {x y : Bool} (h : a e S = .ok x S) (k : b e S = .ok y S) : evAnd a b e S = .ok (x && y) S := by
  cases x with
  | true => exact and_t h k
  | false => exact and_f h
theorem or_b {a b : EvB} {x y : Bool} (h : a e S = .ok x S) (k : b e S = .ok y S) : evOr a b e S = .ok (x || y) S := by
  cases x with
  | true => exact or_t h
  | false => exact or_f h k
theorem andV_t {a b : Ev} {r : R D} (h : a e S = .ok (.bl true) S1) (k : b e S1 = r) : evAndV a b e S = r := by
  unfold evAndV
  rw [h]
  exact k
theorem andV_f {a b : Ev} (h : a e S = .ok (.bl false) S1) : evAndV a b e S = .ok (.bl false) S1 := by
  unfold evAndV
  rw [h]
  rfl
theorem andV_b {a b : Ev} {x y : Bool} (h : a e S = .ok (.bl x) S) (k : b e S = .ok (.bl y) S) : evAndV a b e S = .ok (.bl (x && y)) S := by
  cases x with
  | true => exact andV_t h k
  | false => exact andV_f h
theorem notV_ok {a : Ev} {b : Bool} (h : a e S = .ok (.bl b) S1) : evNotV a e S = .ok (.bl (!b)) S1 := by
  unfold evNotV
  rw [h]
  rfl
theorem isi_ok {T k : String} {a : Ev} {d : D} (h : a e S = .ok d S1) (hk : kindOf S1 d = some k) : evIsi T a e S = .ok (.bl (isTy T k)) S1 := by
  unfold evIsi
  rw [h]
  show (match kindOf S1 d with
    | some k => R.ok (D.bl (isTy T k)) S1
    | none => .bad) = _
  rw [hk]
theorem zip_ok {a b : Ev} {d d' : D} {x y : Src} (ha : a e S = .ok d S1) (hb : b e S1 = .ok d' S2) (hx : srcL S2 d = some x) (hy : srcL S2 d' = some y) : evZip (evCons a (evCons b evNil)) e S = .ok ⟨zipD x.ds y.ds, x.g ++ y.g⟩ S2 := by
  unfold evZip
  rw [cons_ok ha (cons_ok hb nil_ok)]
  cases d <;> first | (cases hx; done) | (cases d' <;> first | (cases hy; done) | (simp only [R.bind_ok]; rw [hx, hy]))
theorem zipT_ok {a b : Ev} {xs ys : List D} (ha : a e S = .ok (.tup xs) S1) (hb : b e S1 = .ok (.tup ys) S2) : evZip (evCons a (evCons b evNil)) e S = .ok ⟨zipD xs ys, []⟩ S2 := by
  unfold evZip
  rw [cons_ok ha (cons_ok hb nil_ok)]
  rfl
theorem rev_ok {m : Bool} {a : Ev} {d : D} {r : R D} (h : a e S = .ok d S1) (k : dRev m d S1 = r) : evRev m a e S = r := by
  unfold evRev
  rw [h]
  exact k
end
theorem zipD_map {α β : Type} {f : α → D} {g : β → D} (xs : List α) (ys : List β) : zipD (xs.map f) (ys.map g) = (xs.zip ys).map fun x => .tup [f x.1, g x.2] := by
  unfold zipD
  rw [List.zip_map, List.map_map]
  rfl
theorem cutD_from {α : Type} {xs : List α} {n : Nat} (h : n ≤ xs.length) : cutD xs (some (n : Int)) none = xs.drop n := by
  unfold cutD
  rw [HT.sIx_nat, HT.sIx_none, Nat.min_eq_left h]
  exact List.take_of_length_le (by rw [List.length_drop]; exact Nat.le_refl _)
theorem catL {S : Store} {xs ys : List D} (h : xs.length + ys.length ≤ 16777216) : dAdd' false (.lst xs) (.lst ys) S = .ok (.lst (xs ++ ys)) S := by
  show (if decide (xs.length + ys.length ≤ 16777216) = true then mkL false (xs ++ ys) S else .bad) = _
  rw [if_pos (decide_eq_true h)]
  rfl
theorem catT {m : Bool} {S : Store} {xs ys : List D} (h : xs.length + ys.length ≤ 16777216) : dAdd' m (.tup xs) (.tup ys) S = .ok (.tup (xs ++ ys)) S := by
  show (if decide (xs.length + ys.length ≤ 16777216) = true then R.ok (D.tup (xs ++ ys)) S else .bad) = _
  rw [if_pos (decide_eq_true h)]
theorem all_ok {S : Store} {bs : List Bool} : dAll [.lst (bs.map D.bl)] S = .ok (.bl (bs.all id)) S := by
  have h : toBs (bs.map D.bl) = some bs := by
    induction bs with
    | nil => rfl
    | cons b bs ih =>
      show (toBs (bs.map D.bl)).map (b :: ·) = _
      rw [ih]
      rfl
  show (match toBs (bs.map D.bl) with
    | some bs => R.ok (D.bl (bs.all id)) S
    | none => .bad) = _
  rw [h]
/-! ### rows -/
abbrev Row := Str × Str × Str
def rw3 (r : Row) : D := .tup [.str r.1, .str r.2.1, .str r.2.2]
def rwP (r : Row) : PyData := .tuple [.str r.1, .str r.2.1, .str r.2.2]
theorem rw_toD {S : Store} (r : Row) : toD S (rw3 r) = some (rwP r) := rfl
theorem rw_lt {a b : Row} (h : a.1 ≠ b.1) : PySem.W.dataLt (rwP a) (rwP b) = decide (a.1.cps.toList < b.1.cps.toList) := by
  have e : PySem.W.dataLt (rwP a) (rwP b) = PyProof.Rows.lexLt itemOrd (PySem.W.keyToksAll [.str a.1, .str a.2.1, .str a.2.2]) (PySem.W.keyToksAll [.str b.1, .str b.2.1, .str b.2.2]) := rfl
  rw [e, PySem.W.dataLt_cons (x := .str a.1) (y := .str b.1) (by simp [PySem.W.alike]), eqv_str, if_neg (by simpa using h), PySem.W.dataLt_str]
theorem rw_self (a : Row) : PySem.W.dataLt (rwP a) (rwP a) = false := by
  have e : PySem.W.dataLt (rwP a) (rwP a) = PyProof.Rows.lexLt itemOrd (PySem.W.keyToksAll [.str a.1, .str a.2.1, .str a.2.2]) (PySem.W.keyToksAll [.str a.1, .str a.2.1, .str a.2.2]) := rfl
  rw [e, PySem.W.dataLt_cons (by simp [PySem.W.alike]), eqv_str, if_pos (by simp), PySem.W.dataLt_cons (by simp [PySem.W.alike]), eqv_str, if_pos (by simp), PySem.W.dataLt_cons (by simp [PySem.W.alike]), eqv_str, if_pos (by simp)]
  decide +kernel
def leR (a b : Row) : Bool := leS a.1 b.1
theorem sort_rows {S : Store} {rs : List Row} (hn : (rs.map Prod.fst).Nodup) : dSorted false [.lst (rs.map rw3)] S = .ok (.lst ((rs.mergeSort leR).map rw3)) S := by
  have hm : (rs.map rw3).mapM (toD S) = some (rs.map rwP) := mapM_map fun _ _ => rfl
  show (match (rs.map rw3).mapM (toD S) with
    | some ps => if sortB ps = true then mkL false (pairsD (rs.map rw3) ps) S else .bad
    | none => .bad) = _
  rw [hm]
  have h : sortB (rs.map rwP) = true := by
    unfold sortB alikeB
    simp [List.all_map, tupB, rwP, PySem.W.alike, PySem.W.alikeAll, Function.comp_def]
  show (if sortB (rs.map rwP) = true then mkL false (pairsD (rs.map rw3) (rs.map rwP)) S else .bad) = _
  rw [if_pos h]
  show R.ok (D.lst (pairsD (rs.map rw3) (rs.map rwP))) S = _
  have inj : ∀ a ∈ rs, ∀ b ∈ rs, a.1 = b.1 → a = b := by
    intro a ha b hb e
    obtain ⟨i, hi, rfl⟩ := List.getElem_of_mem ha
    obtain ⟨j, hj, rfl⟩ := List.getElem_of_mem hb
    have hp := List.pairwise_iff_getElem.mp hn
    have : i = j := by
      rcases Nat.lt_trichotomy i j with h | h | h
      · exact absurd (by rw [List.getElem_map, List.getElem_map]; exact e) (hp i j (by simpa using hi) (by simpa using hj) h)
      · exact h
      · exact absurd (by rw [List.getElem_map, List.getElem_map]; exact e.symm) (hp j i (by simpa using hj) (by simpa using hi) h)
    subst this
    rfl
  have e : pairsD (rs.map rw3) (rs.map rwP) = (rs.mergeSort leR).map rw3 := by
    unfold pairsD
    have e1 : (rs.map rw3).zip (rs.map rwP) = rs.map fun x => (rw3 x, rwP x) := by
      rw [List.zip_map']
    rw [e1]
    have e2 : (rs.mergeSort leR).map (fun x => (rw3 x, rwP x)) = (rs.map fun x => (rw3 x, rwP x)).mergeSort (PySem.W.dataLe false Prod.snd) := by
      refine List.map_mergeSort fun a ha b hb => ?_
      show leS a.1 b.1 = PySem.W.dataLe false (fun x : D × PyData => x.2) (rw3 a, rwP a) (rw3 b, rwP b)
      rw [PySem.W.dataLe_eq]
      show leS a.1 b.1 = !PySem.W.dataLt (rwP b) (rwP a)
      by_cases c : a.1 = b.1
      · rw [inj a ha b hb c, rw_self]
        unfold leS
        exact decide_eq_true (List.le_refl _)
      · rw [rw_lt (fun z => c z.symm)]
        unfold leS
        by_cases d : b.1.cps.toList < a.1.cps.toList
        · rw [decide_eq_true d, decide_eq_false (List.not_le.mpr d)]
          rfl
        · rw [decide_eq_false d, decide_eq_true (List.not_lt.mp d)]
          rfl
    rw [← e2, List.map_map]
    rfl
  rw [e]
theorem rows_rising {rs : List Row} (hn : (rs.map Prod.fst).Nodup) : ((rs.mergeSort leR).map Prod.fst).Pairwise ltS := by
  have e : (rs.mergeSort leR).map Prod.fst = (rs.map Prod.fst).mergeSort leS := List.map_mergeSort fun a _ b _ => rfl
  rw [e]
  exact sorted_rising hn
end FL

/-! FV: dicts: d[k], d[k] = v. -/
namespace FL
open PySem PySem.Spec PyProof.Rows L2
section
variable {X : Cx} {W : WX}
def dGet (a b : D) (S : Store) : R D := match sqD S a with
  | some kvs => match toKey b with
    | some k => match valD kvs k with
      | some d => .ok d S
      | none => .bad
    | none => .bad
  | none => .bad
theorem f_dget {a b : Expr} {ea eb : Ev} {pos : Pos} (hu : X.A.units + 64 < cLine) (ha : PEF X W a ea) (hb : PEF X W b eb) (hs : NoSl b) : PEF X W (.Subscript a b pos) (ev2 dGet ea eb) := by
  refine PE.weak (pe_dget (by omega) ha hb hs) ?_
  rintro σ H Q ⟨ι, e, S, se, s, h⟩
  refine two_of (G := fun x y H2 => ∃ a v, x = .ref a ∧ DGet H2 a y (some v) ∧ Q v H2) se s h fun ι2 H2 S2 x y d d' x2 s2 rx ry h2 => ?_
  unfold dGet at h2
  cases q : sqD S2 d with
  | none => rw [q] at h2; exact h2.elim
  | some kvs =>
    rw [q] at h2
    cases q2 : toKey d' with
    | none => rw [q2] at h2; exact h2.elim
    | some k =>
      rw [q2] at h2
      have h2 : FinE X.K W ι2 H2 σ (Want X.K Q) (match valD kvs k with
        | some d => R.ok d S2
        | none => R.bad) := h2
      obtain ⟨a, o, rfl, g, hv⟩ := dget_of s2 rx ry q q2
      cases q3 : valD kvs k with
      | none => rw [q3] at h2; exact h2.elim
      | some z =>
        rw [q3] at h2 hv
        obtain ⟨v, rfl, rv⟩ := hv
        exact ⟨a, v, rfl, g, here s2 h2 rv⟩
def dctAt (S : Store) (d : D) : Option (Nat × List (Key × D)) := match d with
  | .ref n => match S[n]? with
    | some (.dct kvs) => some (n, kvs)
    | _ => none
  | _ => none
theorem dctAt_ok {K : PySem.W.Frag} {ι : Io} {H : Hp} {S : Store} (s : Sim K ι H S) {x : V} {d : D} {n : Nat} {kvs : List (Key × D)} (r : RepV K ι H x d) (h : dctAt S d = some (n, kvs)) : ∃ a kv, x = .ref a ∧ ι.st[n]? = some a ∧ H a = some (.dK kv) ∧ RepKs K ι H kv kvs := by
  cases d with
  | ref m =>
    have h : (match S[m]? with
      | some (.dct kvs) => some (m, kvs)
      | _ => none) = some (n, kvs) := h
    obtain ⟨a, rfl, h1⟩ := r
    cases q : S[m]? with
    | none => rw [q] at h; cases h
    | some o =>
      rw [q] at h
      cases o with
      | dct kvs' =>
        cases h
        obtain ⟨kv, h2, h3⟩ := s.obj n a _ h1 q
        exact ⟨a, kv, rfl, h1, h2, h3⟩
      | lst _ => cases h
      | ins _ _ => cases h
      | ldc _ => cases h
      | dcT _ => cases h
      | ldT _ => cases h
  | _ => cases h
theorem dctAt_at {S : Store} {d : D} {n : Nat} {kvs : List (Key × D)} (h : dctAt S d = some (n, kvs)) : S[n]? = some (.dct kvs) := by
  cases d with
  | ref m =>
    have h : (match S[m]? with
      | some (.dct kvs) => some (m, kvs)
      | _ => none) = some (n, kvs) := h
    cases q : S[m]? with
    | none => rw [q] at h; cases h
    | some o =>
      rw [q] at h
      cases o with
      | dct kvs' => cases h; exact q
      | _ => cases h
  | _ => cases h
def putK3 (d k v : D) (e : Fenv) (S : Store) : SR := match dctAt S d with
  | some (n, kvs) => match toKey k with
    | some j => if fit (kvs.length + 1) = true then .nx e (S.set n (.dct (putD kvs j v))) else .bad
    | none => .bad
  | none => .bad
def evDPut (d k v : Ev) : EvS := fun e S => (v e S).bindS e fun x S1 => (d e S1).bindS e fun y S2 => (k e S2).bindS e fun z S3 => putK3 y z x e S3
theorem fs_dput {o i value : Expr} {ed ek ev : Ev} {pos pos' : Pos} (hu : X.A.units + 64 < cLine) (hv : PEF X W value ev) (ho : PEF X W o ed) (hi : PEF X W i ek) (hs : swapsWith value (some (.Subscript o i pos')) pos.line X.env = pure false := by rfl) :
    PSF X W (.Assign [.Subscript o i pos'] value pos) (evDPut ed ek ev) := by
  refine PS.weak (ps_dput (by omega) ho hi hv hs) ?_
  rintro D' σ H ⟨ι, e, S, se, s, h⟩
  refine ⟨ι, e, S, se, s, FinE.mono ?_ (FinE.bindS se h)⟩
  rintro ι1 H1 dv x1 ⟨S1, _, _, se1, s1, h1⟩ v rv
  refine ⟨ι1, e, S1, se1, s1, FinE.mono ?_ (FinE.bindS se1 h1)⟩
  rintro ι2 H2 dd x2 ⟨S2, _, _, se2, s2, h2⟩ x rx
  refine ⟨ι2, e, S2, se2, s2, FinE.mono ?_ (FinE.bindS se2 h2)⟩
  rintro ι3 H3 dk x3 ⟨S3, _, _, se3, s3, h3⟩ y ry
  unfold putK3 at h3
  cases q : dctAt S3 dd with
  | none => rw [q] at h3; exact h3.elim
  | some p =>
    obtain ⟨n, kvs⟩ := p
    rw [q] at h3
    have h3 : FinS X.K W ι3 H3 D' (match toKey dk with
      | some j => if fit (kvs.length + 1) = true then .nx e (S3.set n (.dct (putD kvs j dv))) else .bad
      | none => .bad) := h3
    cases q2 : toKey dk with
    | none => rw [q2] at h3; exact h3.elim
    | some k =>
      rw [q2] at h3
      have h3 : FinS X.K W ι3 H3 D' (if fit (kvs.length + 1) = true then .nx e (S3.set n (.dct (putD kvs k dv))) else .bad) := h3
      by_cases c : fit (kvs.length + 1) = true
      · rw [if_pos c] at h3
        obtain ⟨a, kv, rfl, g1, g2, g3⟩ := dctAt_ok s3 (RepV.ext x3 _ _ rx) q
        have ey : y = kV k := toKey_rep ry q2
        have rv3 := RepV.ext (x2.trans x3) _ _ rv
        have r5 : RepKs X.K ι3 H3 (putK kv k v) (putD kvs k dv) := RepKs.put rv3 g3
        refine ⟨a, upd H3 a (.dK (putK kv k v)), rfl, by rw [ey]; exact DPut.k g2 (by have := fit_ok c; have := g3.length; omega), ?_⟩
        have g4 := dctAt_at q
        exact h3 σ _ _ (Ext.write s3 g1 g4 rfl) (se3.ext (Ext.write s3 g1 g4 rfl)) (s3.write g1 g4 rfl ⟨_, upd_same, RepKs.ext (Ext.write s3 g1 g4 rfl) _ _ r5⟩)
      · rw [if_neg c] at h3; exact h3.elim
end
/-! plain laws -/
section
variable {e e1 e2 : Fenv} {S S1 S2 S3 : Store}
theorem dput_ok {d k v : Ev} {x y z : D} {r : SR} (hv : v e S = .ok x S1) (hd : d e S1 = .ok y S2) (hk : k e S2 = .ok z S3) (h : putK3 y z x e S3 = r) : evDPut d k v e S = r := by
  unfold evDPut
  rw [hv]
  show (d e S1).bindS e (fun y S2 => (k e S2).bindS e fun z S3 => putK3 y z x e S3) = _
  rw [hd]
  show (k e S2).bindS e (fun z S3 => putK3 y z x e S3) = _
  rw [hk]
  exact h
end
end FL

/-! FW: plain laws: several objects of the store change. -/
namespace FL
open PySem PySem.Spec PyProof.Rows L2
/-- only these places change -/
structure Ch (C : List Nat) (S S' : Store) : Prop where
  len : S'.length = S.length
  other : ∀ q : Nat, q ∉ C → S'[q]? = S[q]?
structure Grw (C : List Nat) (S S' : Store) : Prop where
  len : S.length ≤ S'.length
  other : ∀ q : Nat, q < S.length → q ∉ C → S'[q]? = S[q]?
theorem Ch.refl (C : List Nat) (S : Store) : Ch C S S := ⟨rfl, fun _ _ => rfl⟩
theorem Ch.trans {C : List Nat} {S S1 S2 : Store} (a : Ch C S S1) (b : Ch C S1 S2) : Ch C S S2 := ⟨b.len.trans a.len, fun q h => (b.other q h).trans (a.other q h)⟩
theorem Ch.mono {C C' : List Nat} {S S' : Store} (a : Ch C S S') (h : ∀ q ∈ C, q ∈ C') : Ch C' S S' := ⟨a.len, fun q k => a.other q fun z => k (h q z)⟩
theorem Ch.grw {C : List Nat} {S S' : Store} (a : Ch C S S') : Grw C S S' := ⟨Nat.le_of_eq a.len.symm, fun q _ h => a.other q h⟩
theorem Grw.refl (C : List Nat) (S : Store) : Grw C S S := (Ch.refl C S).grw
theorem Grw.trans {C : List Nat} {S S1 S2 : Store} (a : Grw C S S1) (b : Grw C S1 S2) : Grw C S S2 := ⟨Nat.le_trans a.len b.len, fun q h k => (b.other q (Nat.lt_of_lt_of_le h a.len) k).trans (a.other q h k)⟩
/-- later changes may touch what is new -/
theorem Grw.then {C C' : List Nat} {S S1 S2 : Store} (a : Grw C S S1) (b : Grw C' S1 S2) (h : ∀ q ∈ C', q ∈ C ∨ S.length ≤ q) : Grw C S S2 :=
  ⟨Nat.le_trans a.len b.len, fun q hq k => (b.other q (Nat.lt_of_lt_of_le hq a.len) fun z => (h q z).elim k fun z => by omega).trans (a.other q hq k)⟩
theorem Grw.push {C : List Nat} {S S1 : Store} (a : Grw C S S1) (m : MO) : Grw C S (S1 ++ [m]) :=
  ⟨by have := a.len; simp; omega, fun q h k => by rw [List.getElem?_append_left (Nat.lt_of_lt_of_le h a.len)]; exact a.other q h k⟩
theorem Ch.set {C : List Nat} {S : Store} {n : Nat} (m : MO) (h : n ∈ C) : Ch C S (S.set n m) := ⟨by simp, fun q k => List.getElem?_set_ne (fun z => k (by rw [← z]; exact h))⟩
theorem Step.ch {p : Nat} {S S' : Store} (a : Step p S S') : Ch [p] S S' := ⟨a.len, fun q h => a.other q (by simpa using h)⟩
theorem runF_ch {C : List Nat} {n : Nat} {ev : EvS} {ds : List D} {S S' : Store} {d d' : D} (h : ev (startE n ds) S = .rt d S') (g : Grw C S S') (hC : ∀ q ∈ C, ∃ m, S'[q]? = some m ∧ lowO S.length m = true) (hd : fz none 12 S.length S' d = some d') :
    runF false n ev ds S = .ok d' (S'.take S.length) ∧ Ch C S (S'.take S.length) ∧ ∀ q : Nat, q < S.length → (S'.take S.length)[q]? = S'[q]? := by
  refine ⟨runF_gives h ⟨g.len, fun i m m' h1 h2 => ?_⟩ hd, ⟨by rw [List.length_take]; have := g.len; omega, fun q hq => ?_⟩, fun q hq => List.getElem?_take_of_lt hq⟩
  · by_cases c : i ∈ C
    · obtain ⟨m2, h3, h4⟩ := hC i c
      rw [h3] at h2
      cases h2
      exact .inr h4
    · rw [g.other i (List.getElem?_eq_some_iff.mp h1).1 c, h1] at h2
      exact .inl (Option.some.inj h2)
  · by_cases c : q < S.length
    · rw [List.getElem?_take_of_lt c]; exact g.other q c hq
    · rw [List.getElem?_eq_none (by rw [List.length_take]; omega), List.getElem?_eq_none (by omega)]
theorem runF_chEnd {C : List Nat} {n : Nat} {ev : EvS} {ds : List D} {S S' : Store} {e : Fenv} (h : ev (startE n ds) S = .nx e S') (g : Grw C S S') (hC : ∀ q ∈ C, ∃ m, S'[q]? = some m ∧ lowO S.length m = true) :
    runF false n ev ds S = .ok .non (S'.take S.length) ∧ Ch C S (S'.take S.length) ∧ ∀ q : Nat, q < S.length → (S'.take S.length)[q]? = S'[q]? := by
  have k := runF_ch (ev := fun e S => match ev e S with
    | .nx _ S' => .rt .non S'
    | r => r) (n := n) (ds := ds) (S := S) (S' := S') (d := .non) (d' := .non) (by rw [h]) g hC (fz_low rfl)
  refine ⟨?_, k.2⟩
  have k1 : gc false S (match ev (startE n ds) S with
    | .nx _ S' => .rt .non S'
    | r => r) = R.ok D.non (S'.take S.length) := k.1
  show gc false S (ev (startE n ds) S) = _
  rw [h] at k1 ⊢
  exact k1
theorem nodup_sub {xs ys : List Str} (h : xs.Nodup) (s : ∀ x ∈ xs, x ∈ ys) : xs.length ≤ ys.length := by
  induction xs generalizing ys with
  | nil => exact Nat.zero_le _
  | cons x xs ih =>
    have hx := s x List.mem_cons_self
    obtain ⟨h1, h2⟩ := List.nodup_cons.mp h
    have := ih (ys := ys.erase x) h2 fun y hy => by
      have ne : y ≠ x := fun z => h1 (z ▸ hy)
      exact (List.mem_erase_of_ne ne).mpr (s y (List.mem_cons_of_mem _ hy))
    rw [List.length_erase_of_mem hx] at this
    have : 0 < ys.length := List.length_pos_of_mem hx
    rw [List.length_cons]
    omega
theorem in_ref {neg : Bool} {S : Store} {x : Str} {t : Nat} {xs : List Str} (h : S[t]? = some (.lst (xs.map D.str))) : dIn neg (.str x) (.ref t) S = .ok (.bl (xor neg (decide (x ∈ xs)))) S := in_seq (sq_ref h) (fun z e => nomatch e)
end FL

/-! FX: sorted of a tuple. -/
namespace FL
open PySem PySem.Spec PyProof.Rows L2
section
variable {prog : Program} {w : World} {A : Around} {E : Value → Shared → Prop} {s : Shared}
theorem collect_tup {l : Addr} {vs : List Value} {Q : List Value → Shared → Prop} (hl : IsTup s.heap l vs.toArray)
    (h : Q vs { s with heap := (s.heap.push (seqObj "list" #[] 0)).update s.heap.objs.size (Obj.mapSeq (· ++ vs.toArray)) }) (hsz : vs.length ≤ sizeLine) :
    wpAny (model prog w) A (collect (.ref l)) Q E s := by
  obtain ⟨o, ho, hc, n, hd⟩ := id hl
  unfold collect
  refine wpAny_bind (wpAny_runValue (codeAny_builtin entry_proto_collect' ?_))
  show wpAny _ _ (do again (.builtin "list.__iadd__" ⟨[← newList [], .ref l], []⟩)) _ _ s
  refine wpAny_bind (wpAny_newList (wpAny_pure ⟨Code.quiet_builtin _ (by decide +kernel), codeAny_builtin entry_list_iadd' ?_⟩))
  show wpAny _ _ (Builtin.List.listExtendWith (.ref s.heap.objs.size) (.ref l) (.ref s.heap.objs.size)) _ _ { s with heap := s.heap.push (seqObj "list" #[] 0) }
  unfold Builtin.List.listExtendWith
  have ho' : (s.heap.push (seqObj "list" #[] 0)).get? l = some o := Heap.get?_push_of_some _ ho
  refine wpAny_bind (wpAny_typeOf (T := "tuple") ⟨o, ho', hc⟩ ?_)
  have ht : (Value.type "tuple" == Value.type "tuple") = true := by rfl
  rw [if_pos (by rw [ht]; simp)]
  refine wpAny_bind (listItems_at ho' hd ?_)
  refine wpAny_bind (listItems_at (xs := #[]) (n := 0) (Heap.get?_push_size _ rfl) rfl ?_)
  rw [if_neg (by simp)]
  refine wpAny_bind (listUpdate_at (xs := #[]) (n := 0) (Heap.get?_push_size _ rfl) rfl ?_ (Nat.zero_le _) (by show (#[] ++ vs.toArray).size ≤ sizeLine + 1; simp only [Array.size_append, List.size_toArray, List.length_nil]; omega))
  refine wpAny_pure ?_
  show wpAny (model prog w) A (do
      let o ← load s.heap.objs.size
      match o.data with
      | .seq xs _ => pure xs.toList
      | _ => unsupported "internal:collect") Q E { s with heap := (s.heap.push (seqObj "list" #[] 0)).update s.heap.objs.size (Obj.mapSeq (· ++ vs.toArray)) }
  refine wpAny_bind (wpAny_load (get?_update_seq (Heap.get?_push_size _ rfl) _) ?_)
  show wpAny _ _ (pure ((#[] : Array Value) ++ vs.toArray).toList) Q E _
  rw [show ((#[] : Array Value) ++ vs.toArray).toList = vs by simp]
  exact wpAny_pure h
theorem sorted_tup_data {β : Type} {vs : List Value} {bs : List β} {enc : β → PyData} {R : Value → β → Prop} {l : Addr} {Q : Value → Shared → Prop} (hl : IsTup s.heap l vs.toArray) (e : PySem.W.EachIs R vs bs) (er : PySem.W.EachIs (fun v b => ∃ as, Reads s.heap v (enc b) as) vs bs) (hal : PySem.W.AllAlike (bs.map enc)) (hk : PySem.W.Sortable (bs.map enc)) (hL : bs.length ≤ sizeLine)
    (hu : ∀ b, b ∈ bs → A.units + 2 + (enc b).depth < cLine) (h : ∀ out, out.length = bs.length → PySem.W.EachIs R out (bs.mergeSort (PySem.W.dataLe false enc)) → Q (.ref (s.heap.objs.size + 1)) { s with heap := sortedAll s.heap vs (List.toArray out) }) :
    wpAny (model prog w) A (call (.builtin "sorted") [.ref l]) Q E s := by
  have er' : PySem.W.EachIs (fun v b => ∃ as, Reads (PySem.W.sortingHeap (PySem.W.copyHeap s.heap vs) (s.heap.objs.size + 1) vs) v (enc b) as) vs bs := er.mono fun _ _ ⟨as, r⟩ => ⟨as, PyProof.Rows.Reads.keeps (fun _ _ => PySem.W.sorting_copy_old) r⟩
  have hvl : vs.length ≤ sizeLine := by rw [e.length]; exact hL
  have S := PySem.W.SortsAt.data (prog := prog) (w := w) (A := A.in1.in1) (s := { s with heap := PySem.W.sortingHeap (PySem.W.copyHeap s.heap vs) (s.heap.objs.size + 1) vs }) (PySem.W.each_map (R := fun v d => ∃ as, Reads (PySem.W.sortingHeap (PySem.W.copyHeap s.heap vs) (s.heap.objs.size + 1) vs) v d as) enc er') hal hk (PySem.W.bound_map hu)
  have fin := h _ (by rw [PySem.W.sortVals_length false rfl]; exact e.length) (PySem.W.sortVals_data false e er' hal)
  refine PyProof.Rows.call_function_entry_kw kind_sorted plain_sorted entry_sorted (args_sorted1 _) ?_
  unfold Builtin.«sorted»
  refine wpAny_bind (m := checkCount "sorted" 1 1 _) (wpAny_pure ?_)
  refine wpAny_bind (collect_tup hl ?_ hvl)
  refine wpAny_bind (wpAny_newList ?_ hvl)
  have hsz : ((s.heap.push (seqObj "list" #[] 0)).update s.heap.objs.size (Obj.mapSeq (· ++ vs.toArray))).objs.size = s.heap.objs.size + 1 := by
    rw [Heap.size_update, size_push']
  show wpAny _ _ _ _ _ { s with heap := PySem.W.copyHeap s.heap vs }
  rw [hsz]
  refine wpAny_bind (wpAny_holding (wpAny_call_entry_kw slot_list_sort ⟨_, PySem.W.copyHeap_at s.heap vs, rfl⟩ entry_list_sort ?body (args_list_sort _)))
  case body =>
    show wpAny (model prog w) A.in1.in1 (Builtin.«list.sort» ⟨[.ref (s.heap.objs.size + 1)], []⟩) _ _ _
    refine wpAny_mono (PySem.W.list_sort_vals (P := fun f s' => f = .done (.ret .none) ∧ Q (.ref (s.heap.objs.size + 1)) s') (s := { s with heap := PySem.W.copyHeap s.heap vs }) (PySem.W.copyHeap_at s.heap vs) S hvl ⟨rfl, fin⟩) (fun f s' hf => ?_) fun _ _ e => e
    obtain ⟨rfl, hq⟩ := hf
    exact ⟨_, rfl, wpAny_pure ⟨_, rfl, hq⟩⟩
end
section
variable {X : Cx}
def rSortTu (K : PySem.W.Frag) : List V → Hp → VK → Prop := fun vs H Q => ∃ a xs ps, vs = [V.ref a] ∧ SqT K H a xs ∧ DpAll K H xs ps ∧ PySem.W.AllAlike ps ∧ PySem.W.Sortable ps ∧ (∀ p ∈ ps, p.depth ≤ 20) ∧ ∀ p, H p = none → Q (.ref p) (upd H p (.lst (pairsD xs ps)))
theorem cc_sortedT (hu : X.A.units + 64 < cLine) : CallR X (.builtin "sorted") (rSortTu X.K) := by
  intro pins s σ H vs us Q I r h
  obtain ⟨a, xs, ps, rfl, hs, hp, hal, hk, hd, q⟩ := h
  obtain ⟨its, rv, hl, hz⟩ := I.tuple hs
  rw [Vals.ref1 r]
  have hlen := dpAll_length hp
  obtain ⟨e1, e2⟩ := each_dp I rv hp
  have hm : (xs.zip ps).map Prod.snd = ps := List.map_snd_zip (by omega)
  have hL : (xs.zip ps).length ≤ sizeLine := by rw [List.length_zip, hlen, Nat.min_self, ← hlen]; exact hz
  refine sorted_tup_data (enc := Prod.snd) hl e1 e2 (by rw [hm]; exact hal) (by rw [hm]; exact hk) hL (fun b hb => ?_) fun out ho e3 => ?_
  · have := hd b.2 (List.of_mem_zip hb).2
    omega
  · obtain ⟨ep, he'⟩ := PyProof.Rows.sortedAll_at s.heap its out.toArray
    have hlen : (pairsD xs ps).length ≤ sizeLine := by
      unfold pairsD
      rw [List.length_map, List.length_mergeSort]; exact hL
    exact ⟨.ref _, upd H (s.heap.objs.size + 1) (.lst (pairsD xs ps)), I.laid (t' := s.toks) (fun _ _ => PyProof.Rows.sortedAll_old) (Nat.le_succ _) ⟨hlen, out, ep, vals_each e3, he'⟩, rfl, q _ (I.hok.fresh (Nat.le_succ _))⟩
/-- sorted(t), t a tuple -/
def dSortT (m : Bool) (xs : List D) (S : Store) : R D := match xs with
  | [.tup ds] => dSorted m [.lst ds] S
  | _ => .bad
theorem k_sortT {K : PySem.W.Frag} {m : Bool} : OkN K (rSortTu K) (dSortT m) := by
  intro W σ ι H S xs ds Q s r h
  unfold dSortT at h
  split at h
  · rename_i es
    obtain ⟨x, rfl, r1⟩ := r.one
    obtain ⟨a, zs, rfl, h1, h2⟩ := r1
    have h : FinE K W ι H σ (Want K Q) (match es.mapM (toD S) with
      | some ps => if sortB ps = true then mkL m (pairsD es ps) S else .bad
      | none => .bad) := h
    cases q : es.mapM (toD S) with
    | none => rw [q] at h; exact h.elim
    | some ps =>
      rw [q] at h
      have h : FinE K W ι H σ (Want K Q) (if sortB ps = true then mkL m (pairsD es ps) S else .bad) := h
      by_cases c : sortB ps = true
      · rw [if_pos c] at h
        obtain ⟨c1, c2⟩ := Bool.and_eq_true_iff.mp c
        exact ⟨a, zs, ps, rfl, SqT.of h1, toPs (fun v d p => toP_dp s 20 v d p) h2 q, alikeB_ok c1, sortB_ok c2, mapM_all (fun d p e => (toP_plain 20 d p e).2) q, fun p hp => mkL_ok s (RepVs.sort h2) h hp⟩
      · rw [if_neg c] at h; exact h.elim
  · exact h.elim
end
end FL

/-! FS: the evaluators run by simp; what may happen (wp, wpS). -/
namespace FL
open PySem PySem.Spec PyProof.Rows L2
section
variable {e : Fenv} {S : Store} {d : D}
@[simp ↓] theorem z_var0 : evVar 0 (some d :: e) S = .ok d S := rfl
@[simp ↓] theorem z_varS {i : Nat} {x : Option D} : evVar (i + 1) (x :: e) S = evVar i e S := rfl
@[simp ↓] theorem z_C : evC d e S = .ok d S := rfl
@[simp ↓] theorem z_1 {f : D → Store → R D} {a : Ev} : ev1 f a e S = (a e S).bind f := rfl
@[simp ↓] theorem z_2 {f : D → D → Store → R D} {a b : Ev} : ev2 f a b e S = (a e S).bind fun x S1 => (b e S1).bind fun y S2 => f x y S2 := rfl
@[simp ↓] theorem z_nil : evNil e S = .ok [] S := rfl
@[simp ↓] theorem z_cons {a : Ev} {r : EvL} : evCons a r e S = (a e S).bind fun x S1 => (r e S1).bind fun xs S2 => .ok (x :: xs) S2 := rfl
@[simp ↓] theorem z_N {f : List D → Store → R D} {a : EvL} : evN f a e S = (a e S).bind f := rfl
def asB (d : D) (S : Store) : R Bool := match d with
  | .bl b => .ok b S
  | _ => .bad
@[simp] theorem asB_bl {b : Bool} : asB (.bl b) S = .ok b S := rfl
@[simp ↓] theorem z_T {a : Ev} : evT a e S = (a e S).bind asB := rfl
@[simp ↓] theorem z_not {a : EvB} : evNot a e S = (a e S).bind fun b S1 => .ok (!b) S1 := rfl
@[simp ↓] theorem z_and {a b : EvB} : evAnd a b e S = (a e S).bind fun c S1 => if c = true then b e S1 else .ok false S1 := rfl
@[simp ↓] theorem z_or {a b : EvB} : evOr a b e S = (a e S).bind fun c S1 => if c = true then .ok true S1 else b e S1 := rfl
theorem bind_assoc {α β γ : Type} (r : R α) (f : α → Store → R β) (g : β → Store → R γ) : (r.bind f).bind g = r.bind fun a S => (f a S).bind g := by cases r <;> rfl
@[simp ↓] theorem z_andV {a b : Ev} : evAndV a b e S = (a e S).bind fun d S1 => (asB d S1).bind fun c S2 => if c = true then b e S2 else .ok (.bl false) S2 := by
  unfold evAndV
  cases a e S with
  | ok d S1 => cases d with
    | bl b => cases b <;> rfl
    | _ => rfl
  | _ => rfl
@[simp ↓] theorem z_orV {a b : Ev} : evOrV a b e S = (a e S).bind fun d S1 => (asB d S1).bind fun c S2 => if c = true then .ok (.bl true) S2 else b e S2 := by
  unfold evOrV
  cases a e S with
  | ok d S1 => cases d with
    | bl b => cases b <;> rfl
    | _ => rfl
  | _ => rfl
@[simp ↓] theorem z_notV {a : Ev} : evNotV a e S = (a e S).bind fun d S1 => (asB d S1).bind fun c S2 => .ok (.bl (!c)) S2 := by
  unfold evNotV
  cases a e S with
  | ok d S1 => cases d <;> rfl
  | _ => rfl
@[simp ↓] theorem z_if {c : EvB} {a b : Ev} : evIf c a b e S = (c e S).bind fun t S1 => if t = true then a e S1 else b e S1 := rfl
@[simp ↓] theorem z_chain {f g : D → D → Store → R D} {a b c : Ev} : evChain f g a b c e S = (a e S).bind fun x S1 => (b e S1).bind fun y S2 => (f x y S2).bind fun z S3 => (asB z S3).bind fun t S4 => if t = true then (c e S4).bind fun w S5 => g y w S5 else .ok (.bl false) S4 := by
  unfold evChain
  cases a e S with
  | ok x S1 =>
    simp only [R.bind_ok]
    cases b e S1 with
    | ok y S2 =>
      simp only [R.bind_ok]
      cases f x y S2 with
      | ok z S3 => cases z with
        | bl b => cases b <;> rfl
        | _ => rfl
      | _ => rfl
    | _ => rfl
  | _ => rfl
@[simp ↓] theorem z_call {n : Nat} {F : List D → Store → R D} {a : EvL} : evCall n F a e S = (a e S).bind fun ds S1 => if ds.length = n then F ds S1 else .bad := rfl
@[simp ↓] theorem z_tup {a : EvL} : evTup a e S = (a e S).bind fun ds S1 => if fit ds.length = true then .ok (.tup ds) S1 else .bad := rfl
@[simp ↓] theorem z_lst {m : Bool} {a : EvL} : evLst m a e S = (a e S).bind fun ds S1 => if fit ds.length = true then mkL m ds S1 else .bad := rfl
@[simp ↓] theorem z_dct {m : Bool} : evDct m e S = mkD m [] S := rfl
@[simp] theorem mkD_f {ds : List (Key × D)} : mkD false ds S = .ok (.dct ds) S := rfl
@[simp] theorem mkD_t {ds : List (Key × D)} : mkD true ds S = .ok (.ref S.length) (S ++ [.dct ds]) := rfl
@[simp ↓] theorem z_isi {T : String} {a : Ev} : evIsi T a e S = (a e S).bind fun d S1 => match kindOf S1 d with
  | some k => .ok (.bl (isTy T k)) S1
  | none => .bad := rfl
@[simp ↓] theorem z_nop : evNoP e S = .ok none S := rfl
def asI (d : D) (S : Store) : R (Option Int) := match d with
  | .int i => .ok (some i) S
  | _ => .bad
@[simp] theorem asI_int {i : Int} : asI (.int i) S = .ok (some i) S := rfl
@[simp ↓] theorem z_p {a : Ev} : evP a e S = (a e S).bind asI := rfl
@[simp ↓] theorem z_sl {m : Bool} {a : Ev} {lo hi : EvO} : evSl m a lo hi e S = (a e S).bind fun d S1 => (lo e S1).bind fun l S2 => (hi e S2).bind fun h S3 => dSl m d l h S3 := rfl
@[simp ↓] theorem z_rev {m : Bool} {a : Ev} : evRev m a e S = (a e S).bind fun d S1 => dRev m d S1 := rfl
@[simp ↓] theorem z_m {T : String} {f : D → List D → Store → R D} {a : Ev} {as : EvL} : evM T f a as e S = (a e S).bind fun x S1 => if tyD T S1 x = true then (as e S1).bind fun xs S2 => f x xs S2 else .bad := rfl
@[simp ↓] theorem z_iter {a : Ev} : evIter a e S = (a e S).bind fun d S1 => match srcOf S1 d with
  | some x => .ok x S1
  | none => .bad := rfl
@[simp ↓] theorem z_yes : evYes e S = .ok true S := rfl
/-- r, if b -/
noncomputable def guardB {α : Type} (b : Bool) (r : R α) : R α := @ite _ (b = true) (Classical.propDecidable _) r .bad
noncomputable def guardS (b : Bool) (r : SR) : SR := @ite _ (b = true) (Classical.propDecidable _) r .bad
@[simp] theorem guardB_t {α : Type} {r : R α} : guardB true r = r := by unfold guardB; rw [if_pos rfl]
@[simp] theorem guardS_t {r : SR} : guardS true r = r := by unfold guardS; rw [if_pos rfl]
theorem guardB_f {α : Type} {r : R α} : guardB false r = .bad := by unfold guardB; rw [if_neg (by simp)]
theorem guardS_f {r : SR} : guardS false r = .bad := by unfold guardS; rw [if_neg (by simp)]
theorem guardB_if {α : Type} {b : Bool} {r : R α} : (if b = true then r else .bad) = guardB b r := by
  cases b
  · rw [guardB_f]; rfl
  · rw [guardB_t]; rfl
@[simp ↓] theorem guardB_bind {α β : Type} {b : Bool} {r : R α} {f : α → Store → R β} : (guardB b r).bind f = guardB b (r.bind f) := by cases b <;> simp only [guardB_t, guardB_f] <;> rfl
@[simp ↓] theorem guardB_bindS {α : Type} {b : Bool} {r : R α} {f : α → Store → SR} : (guardB b r).bindS e f = guardS b (r.bindS e f) := by cases b <;> simp only [guardB_t, guardB_f, guardS_t, guardS_f] <;> rfl
theorem guardB_lim {α : Type} {j : Int} {r : R α} (h : -(2 ^ 62) ≤ j ∧ j < 2 ^ 62) : guardB (lim62 j) r = r := by
  have : lim62 j = true := lim62_of h
  rw [this, guardB_t]
noncomputable def rangeK (ds : List D) (S1 : Store) : R Src := match ds with
  | [.int j] => guardB (lim62 j) (.ok ⟨rangeD 0 j, []⟩ S1)
  | [.int i, .int j] => guardB (lim62 i && lim62 j) (.ok ⟨rangeD i j, []⟩ S1)
  | _ => .bad
@[simp] theorem rangeK_1 {j : Int} : rangeK [.int j] S = guardB (lim62 j) (.ok ⟨rangeD 0 j, []⟩ S) := rfl
@[simp] theorem rangeK_2 {i j : Int} : rangeK [.int i, .int j] S = guardB (lim62 i && lim62 j) (.ok ⟨rangeD i j, []⟩ S) := rfl
@[simp ↓] theorem z_range {a : EvL} : evRange a e S = (a e S).bind fun ds S1 => rangeK ds S1 := by
  unfold evRange
  congr 1
  funext ds S1
  match ds with
  | [.int j] => exact guardB_if
  | [.int i, .int j] => exact guardB_if
  | [] => rfl
  | [.non] => rfl
  | [.bl _] => rfl
  | [.str _] => rfl
  | [.ty _] => rfl
  | [.tup _] => rfl
  | [.lst _] => rfl
  | [.dct _] => rfl
  | [.scr _] => rfl
  | [.ref _] => rfl
  | [.exc _ _] => rfl
  | a :: b :: c :: r => cases a <;> cases b <;> rfl
  | [a, b] => cases a with
    | int i => cases b with
      | int j => exact guardB_if
      | _ => rfl
    | _ => rfl
@[simp ↓] theorem z_enum {a : EvL} : evEnum a e S = (a e S).bind fun ds S1 => match ds with
  | [d] => match srcL S1 d with
    | some x => .ok ⟨enumD x.ds, x.g⟩ S1
    | none => .bad
  | _ => .bad := rfl
def zipK (ds : List D) (S1 : Store) : R Src := match ds with
  | [.tup xs, .tup ys] => .ok ⟨zipD xs ys, []⟩ S1
  | [d, d'] => match srcL S1 d, srcL S1 d' with
    | some x, some y => .ok ⟨zipD x.ds y.ds, x.g ++ y.g⟩ S1
    | _, _ => .bad
  | _ => .bad
@[simp ↓] theorem z_zip {a : EvL} : evZip a e S = (a e S).bind zipK := rfl
@[simp] theorem zipK_tt {xs ys : List D} : zipK [.tup xs, .tup ys] S = .ok ⟨zipD xs ys, []⟩ S := rfl
@[simp] theorem zipK_ll {xs ys : List D} : zipK [.lst xs, .lst ys] S = .ok ⟨zipD xs ys, []⟩ S := rfl
@[simp ↓] theorem z_lc {m : Bool} {vs : List Nat} {i : EvI} {g : EvG} {t : EvB} {a : Ev} : evLc m vs i g t a e S = (i e S).bind fun x S1 => if fit x.ds.length = true then (lcL x g t a (wipeE e vs) x.ds S1).bind fun ys S2 => mkL m ys S2 else .bad := rfl
@[simp] theorem z_wipe0 : wipeE e [] = e := rfl
@[simp] theorem z_wipe1 {v : Nat} {vs : List Nat} : wipeE e (v :: vs) = (wipeE e vs).set v none := rfl
/-! statements -/
def SR.thn (s : SR) (k : Fenv → Store → SR) : SR := match s with
  | .nx e S => k e S
  | r => r
@[simp] theorem thn_nx {k : Fenv → Store → SR} : (SR.nx e S).thn k = k e S := rfl
@[simp] theorem thn_rt {k : Fenv → Store → SR} : (SR.rt d S).thn k = .rt d S := rfl
@[simp] theorem thn_bk {k : Fenv → Store → SR} : (SR.bk e S).thn k = .bk e S := rfl
@[simp] theorem thn_ct {k : Fenv → Store → SR} : (SR.ct e S).thn k = .ct e S := rfl
@[simp] theorem thn_ex {c : Xc} {k : Fenv → Store → SR} : (SR.ex c e S).thn k = .ex c e S := rfl
@[simp] theorem thn_bad {k : Fenv → Store → SR} : SR.bad.thn k = .bad := rfl
@[simp] theorem thn_ite {c : Prop} [Decidable c] {a b : SR} {k : Fenv → Store → SR} : (if c then a else b).thn k = if c then a.thn k else b.thn k := by split <;> rfl
@[simp ↓] theorem thn_bindS {α : Type} {r : R α} {f : α → Store → SR} {k : Fenv → Store → SR} : (r.bindS e f).thn k = r.bindS e fun a S1 => (f a S1).thn k := by cases r <;> rfl
@[simp ↓] theorem thn_toS {α : Type} {r : R α} {f : α → Store → SR} {k : Fenv → Store → SR} : (r.toS f).thn k = r.toS fun a S1 => (f a S1).thn k := by cases r <;> rfl
@[simp ↓] theorem thn_thn {s : SR} {k l : Fenv → Store → SR} : (s.thn k).thn l = s.thn fun e S => (k e S).thn l := by cases s <;> rfl
@[simp ↓] theorem guardS_thn {b : Bool} {s : SR} {k : Fenv → Store → SR} : (guardS b s).thn k = guardS b (s.thn k) := by cases b <;> simp only [guardS_t, guardS_f] <;> rfl
@[simp] theorem toS_ok {α : Type} {a : α} {f : α → Store → SR} : (R.ok a S).toS f = f a S := rfl
@[simp] theorem toS_bad {α : Type} {f : α → Store → SR} : (R.bad : R α).toS f = .bad := rfl
@[simp ↓] theorem bind_bind {α β γ : Type} (r : R α) (f : α → Store → R β) (g : β → Store → R γ) : (r.bind f).bind g = r.bind fun a S => (f a S).bind g := bind_assoc r f g
@[simp ↓] theorem bindS_bind {α β : Type} (r : R α) (f : α → Store → R β) (g : β → Store → SR) : (r.bind f).bindS e g = r.bindS e fun a S => (f a S).bindS e g := by cases r <;> rfl
@[simp] theorem bind_ite {α β : Type} {c : Prop} [Decidable c] {a b : R α} {f : α → Store → R β} : (if c then a else b).bind f = if c then a.bind f else b.bind f := by split <;> rfl
@[simp] theorem bindS_ite {α : Type} {c : Prop} [Decidable c] {a b : R α} {f : α → Store → SR} : (if c then a else b).bindS e f = if c then a.bindS e f else b.bindS e f := by split <;> rfl
@[simp] theorem ite_ok {α : Type} {c : Prop} [Decidable c] {a b : α} : (if c then R.ok a S else R.ok b S) = R.ok (if c then a else b) S := by split <;> rfl
@[simp] theorem ite_bl {c : Prop} [Decidable c] {a b : Bool} : (if c then D.bl a else D.bl b) = D.bl (if c then a else b) := by split <;> rfl
@[simp] theorem ite_int {c : Prop} [Decidable c] {a b : Int} : (if c then D.int a else D.int b) = D.int (if c then a else b) := by split <;> rfl
@[simp ↓] theorem z_seq {a b : EvS} : evSeq a b e S = (a e S).thn b := by
  unfold evSeq SR.thn
  cases a e S <;> rfl
@[simp ↓] theorem z_next : evNext e S = .nx e S := rfl
@[simp ↓] theorem z_set {i : Nat} {a : Ev} : evSet i a e S = (a e S).bindS e fun d S1 => .nx (e.set i (some d)) S1 := rfl
def parK (i j : Nat) (e : Fenv) (ds : List D) (S1 : Store) : SR := match ds with
  | [d, d'] => .nx ((e.set i (some d)).set j (some d')) S1
  | _ => .bad
@[simp ↓] theorem z_par {i j : Nat} {a : EvL} : evPar i j a e S = (a e S).bindS e fun ds S1 => parK i j e ds S1 := rfl
@[simp] theorem parK_2 {i j : Nat} {d d' : D} : parK i j e [d, d'] S = .nx ((e.set i (some d)).set j (some d')) S := rfl
@[simp ↓] theorem z_drop {a : Ev} : evDrop a e S = (a e S).bindS e fun _ S1 => .nx e S1 := rfl
@[simp ↓] theorem z_ret {a : Ev} : evRet a e S = (a e S).bindS e fun d S1 => .rt d S1 := rfl
@[simp ↓] theorem z_ifS {c : EvB} {a b : EvS} : evIfS c a b e S = (c e S).bindS e fun t S1 => if t = true then a e S1 else b e S1 := rfl
@[simp ↓] theorem z_asg {a : Ev} {g : EvG} : evAsg a g e S = (a e S).bindS e fun d S1 => (g d e S1).toS fun e1 S2 => .nx e1 S2 := rfl
@[simp ↓] theorem z_brk : evBrk e S = .bk e S := rfl
@[simp ↓] theorem z_cnt : evCnt e S = .ct e S := rfl
@[simp ↓] theorem z_gName {i : Nat} : evgName i d e S = .ok (e.set i (some d)) S := rfl
@[simp ↓] theorem z_gNil : evgNil [] e S = .ok e S := rfl
@[simp ↓] theorem z_gCons {a : EvG} {r : EvGs} {ds : List D} : evgCons a r (d :: ds) e S = (a d e S).bind fun e1 S1 => r ds e1 S1 := rfl
@[simp ↓] theorem z_gTup {n : Nat} {r : EvGs} {ds : List D} : evgTup n r (.tup ds) e S = if ds.length = n then r ds e S else .bad := rfl
@[simp ↓] theorem z_gIx {o i : Ev} : evgIx o i d e S = (o e S).bind fun od S1 => (i e S1).bind fun id S2 => putIx od id d e S2 := rfl
@[simp ↓] theorem z_dput {dd k v : Ev} : evDPut dd k v e S = (v e S).bindS e fun x S1 => (dd e S1).bindS e fun y S2 => (k e S2).bindS e fun z S3 => putK3 y z x e S3 := rfl
@[simp ↓] theorem z_for {i : EvI} {g : EvG} {b : EvS} : evFor i g b e S = (i e S).bindS e fun x S1 => forL x g b x.ds e S1 := rfl
end
/-! comprehensions -/
section
variable {S : Store} {e : Fenv}
def lcB (g : EvG) (t : EvB) (a : Ev) (e : Fenv) (d : D) (S : Store) : R (Option D) := (g d e S).noex.bind fun e1 S1 => (t e1 S1).noex.bind fun b S2 => if b = true then (a e1 S2).noex.bind fun y S3 => .ok (some y) S3 else .ok none S2
def lcM {α : Type} (b : α → Store → R (Option D)) : List α → Store → R (List D)
  | [], S => .ok [] S
  | x :: xs, S => (b x S).bind fun o S1 => (lcM b xs S1).bind fun ys S2 => .ok (o.toList ++ ys) S2
theorem noex_ok2 {α : Type} {a : α} : (R.ok a S).noex = R.ok a S := rfl
@[simp ↓] theorem noex_bind {α β : Type} {r : R α} {f : α → Store → R β} : (r.bind f).noex = r.noex.bind fun a S => (f a S).noex := by cases r <;> rfl
@[simp ↓] theorem guardB_noex {α : Type} {b : Bool} {r : R α} : (guardB b r).noex = guardB b r.noex := by cases b <;> simp only [guardB_t, guardB_f] <;> rfl
@[simp] theorem noex_ite {α : Type} {c : Prop} [Decidable c] {a b : R α} : (if c then a else b).noex = if c then a.noex else b.noex := by split <;> rfl
@[simp ↓] theorem noex_noex {α : Type} {r : R α} : r.noex.noex = r.noex := by cases r <;> rfl
theorem chk_no {X : List D} : (Src.mk X []).chk S := fun p hp => by simp at hp
theorem z_lcL' {x : Src} (hx : ∀ S, x.chk S) {g : EvG} {t : EvB} {a : Ev} : ∀ {ds : List D} {S : Store}, lcL x g t a e ds S = lcM (lcB g t a e) ds S
  | [], S => by unfold lcL lcM; rw [if_pos (hx S)]
  | d :: ds, S => by
    have ih := @z_lcL' x hx g t a ds
    unfold lcL
    rw [lcM, if_pos (hx S), show lcB g t a e d S = ((g d e S).noex.bind fun e1 S1 => (t e1 S1).noex.bind fun b S2 => if b = true then (a e1 S2).noex.bind fun y S3 => .ok (some y) S3 else .ok none S2) from rfl]
    cases g d e S with
    | ok e1 S1 =>
      simp only [R.noex_ok, R.bind_ok]
      cases t e1 S1 with
      | ok b S2 =>
        simp only [R.noex_ok, R.bind_ok]
        cases b with
        | true =>
          simp only [if_true]
          cases a e1 S2 with
          | ok y S3 =>
            simp only [R.noex_ok, R.bind_ok]
            rw [ih]
            rfl
          | _ => rfl
        | false =>
          simp only [Bool.false_eq_true, if_false, R.bind_ok]
          rw [ih]
          cases lcM _ ds S2 <;> rfl
      | _ => rfl
    | _ => rfl
@[simp ↓] theorem z_lcL {X : List D} {g : EvG} {t : EvB} {a : Ev} {ds : List D} : lcL ⟨X, []⟩ g t a e ds S = lcM (fun d S => lcB g t a e d S) ds S := z_lcL' (fun _ => chk_no)
@[simp ↓] theorem z_lcMmap {α β : Type} {f : α → β} {b : β → Store → R (Option D)} : ∀ {xs : List α} {S : Store}, lcM b (xs.map f) S = lcM (fun x S => b (f x) S) xs S
  | [], S => rfl
  | x :: xs, S => by
    rw [List.map_cons, lcM, lcM]
    congr 1
    funext o S1
    rw [z_lcMmap]
@[simp ↓] theorem z_lcB {g : EvG} {t : EvB} {a : Ev} {d : D} : lcB g t a e d S = (g d e S).noex.bind fun e1 S1 => (t e1 S1).noex.bind fun b S2 => if b = true then (a e1 S2).noex.bind fun y S3 => .ok (some y) S3 else .ok none S2 := rfl
@[simp] theorem z_lcMpure {α : Type} {h : α → Option D} : ∀ {xs : List α} {S : Store}, lcM (fun x S => R.ok (h x) S) xs S = .ok (xs.filterMap h) S
  | [], S => rfl
  | x :: xs, S => by
    rw [lcM, R.bind_ok, z_lcMpure, R.bind_ok, List.filterMap_cons]
    cases h x <;> rfl
theorem lcM_cg {α : Type} {b b' : α → Store → R (Option D)} : ∀ {xs : List α} {S : Store}, (∀ x ∈ xs, ∀ S, b x S = b' x S) → lcM b xs S = lcM b' xs S
  | [], S, _ => rfl
  | x :: xs, S, h => by
    rw [lcM, lcM, h x List.mem_cons_self]
    congr 1
    funext o S1
    rw [lcM_cg fun y hy => h y (List.mem_cons_of_mem _ hy)]
/-- a pure comprehension, item by item -/
theorem lcM_of {α : Type} {b : α → Store → R (Option D)} (h : α → Option D) : ∀ {xs : List α} {S : Store}, (∀ x ∈ xs, b x S = .ok (h x) S) → lcM b xs S = .ok (xs.filterMap h) S
  | [], S, _ => rfl
  | x :: xs, S, k => by
    rw [lcM, k x List.mem_cons_self, R.bind_ok, lcM_of h fun y hy => k y (List.mem_cons_of_mem _ hy), R.bind_ok, List.filterMap_cons]
    cases h x <;> rfl
theorem lcM_map {α : Type} {b : α → Store → R (Option D)} (h : α → D) {xs : List α} {S : Store} (k : ∀ x ∈ xs, b x S = .ok (some (h x)) S) : lcM b xs S = .ok (xs.map h) S := by
  rw [lcM_of (fun x => some (h x)) k]
  congr 1
  simp
@[simp] theorem fm_map {α β γ : Type} {f : α → β} {h : β → Option γ} {xs : List α} : (xs.map f).filterMap h = xs.filterMap (fun x => h (f x)) := by rw [List.filterMap_map]; rfl
@[simp] theorem fm_some {α β : Type} {f : α → β} {xs : List α} : xs.filterMap (fun x => some (f x)) = xs.map f := by induction xs <;> simp_all
@[simp] theorem fm_ite {α β : Type} {P : α → Prop} [∀ x, Decidable (P x)] {f : α → β} {xs : List α} : xs.filterMap (fun x => if P x then some (f x) else none) = (xs.filter fun x => decide (P x)).map f := by
  induction xs with
  | nil => rfl
  | cons x xs ih => by_cases h : P x <;> simp [h, ih]
@[simp] theorem fm_ite2 {α β : Type} {P : α → Prop} [∀ x, Decidable (P x)] {f : α → β} {xs : List α} : xs.filterMap (fun x => if P x then none else some (f x)) = (xs.filter fun x => !decide (P x)).map f := by
  induction xs with
  | nil => rfl
  | cons x xs ih => by_cases h : P x <;> simp [h, ih]
end
section
variable {S : Store} {e : Fenv}
/-- a pure comprehension over an object that stands -/
theorem lcL_ref {α : Type} {x : Src} (hx : x.chk S) {f : α → D} {g : EvG} {t : EvB} {a : Ev} (h : α → Option D) : ∀ {xs : List α}, (∀ y ∈ xs, lcB g t a e (f y) S = .ok (h y) S) → lcL x g t a e (xs.map f) S = .ok (xs.filterMap h) S
  | [], _ => by rw [List.map_nil, lcL, if_pos hx]; rfl
  | y :: ys, k => by
    have k0 := k y List.mem_cons_self
    have ih := lcL_ref hx h (xs := ys) fun z hz => k z (List.mem_cons_of_mem _ hz)
    rw [List.map_cons, lcL, if_pos hx, List.filterMap_cons]
    unfold lcB at k0
    cases q1 : g (f y) e S with
    | ok e1 S1 =>
      rw [q1] at k0
      simp only [R.noex_ok, R.bind_ok] at k0 ⊢
      cases q2 : t e1 S1 with
      | ok b S2 =>
        rw [q2] at k0
        simp only [R.noex_ok, R.bind_ok] at k0 ⊢
        cases b with
        | true =>
          simp only [if_true] at k0 ⊢
          cases q3 : a e1 S2 with
          | ok z S3 =>
            rw [q3] at k0
            simp only [R.noex_ok, R.bind_ok] at k0 ⊢
            injection k0 with h1 h2
            subst h2
            rw [ih, ← h1]
            rfl
          | ex c S3 => rw [q3] at k0; cases k0
          | bad => rw [q3] at k0; cases k0
        | false =>
          simp only [Bool.false_eq_true, if_false] at k0 ⊢
          injection k0 with h1 h2
          subst h2
          rw [ih, ← h1]
      | ex c S2 => rw [q2] at k0; cases k0
      | bad => rw [q2] at k0; cases k0
    | ex c S1 => rw [q1] at k0; cases k0
    | bad => rw [q1] at k0; cases k0
end
/-! what may happen; what is asked stands where simp does not look ahead -/
class PQ (α : Type) where
  Q : α → Store → Prop
  X : Xc → Store → Prop
def wp {α : Type} (r : R α) [p : PQ α] : Prop := match r with
  | .ok a S => p.Q a S
  | .ex c S => p.X c S
  | .bad => False
class PS where
  nx : Fenv → Store → Prop
  rt : D → Store → Prop
  bk : Fenv → Store → Prop
  ct : Fenv → Store → Prop
  ex : Xc → Fenv → Store → Prop
def wpS (s : SR) [q : PS] : Prop := match s with
  | .nx e S => q.nx e S
  | .rt d S => q.rt d S
  | .bk e S => q.bk e S
  | .ct e S => q.ct e S
  | .ex c e S => q.ex c e S
  | .bad => False
abbrev XF : Xc → Store → Prop := fun _ _ => False
section
variable {S : Store} {e : Fenv} {nx : Fenv → Store → Prop} {rt : D → Store → Prop} {bk : Fenv → Store → Prop} {ct : Fenv → Store → Prop} {ex : Xc → Fenv → Store → Prop}
@[simp] theorem wp_ok {α : Type} {a : α} {Q : α → Store → Prop} {X : Xc → Store → Prop} : @wp α (R.ok a S) ⟨Q, X⟩ = Q a S := rfl
@[simp] theorem wp_ex {α : Type} {c : Xc} {Q : α → Store → Prop} {X : Xc → Store → Prop} : @wp α (R.ex c S) ⟨Q, X⟩ = X c S := rfl
@[simp] theorem wp_bad {α : Type} {Q : α → Store → Prop} {X : Xc → Store → Prop} : @wp α (R.bad : R α) ⟨Q, X⟩ = False := rfl
@[simp ↓] theorem wp_bind {α β : Type} {r : R α} {f : α → Store → R β} {Q : β → Store → Prop} {X : Xc → Store → Prop} : @wp β (r.bind f) ⟨Q, X⟩ = @wp α r ⟨fun a S => @wp β (f a S) ⟨Q, X⟩, X⟩ := by cases r <;> rfl
@[simp ↓] theorem wp_noex {α : Type} {r : R α} {Q : α → Store → Prop} {X : Xc → Store → Prop} : @wp α r.noex ⟨Q, X⟩ = @wp α r ⟨Q, XF⟩ := by cases r <;> rfl
@[simp] theorem wp_ite {α : Type} {c : Prop} [Decidable c] {a b : R α} {Q : α → Store → Prop} {X : Xc → Store → Prop} : @wp α (if c then a else b) ⟨Q, X⟩ = if c then @wp α a ⟨Q, X⟩ else @wp α b ⟨Q, X⟩ := by split <;> rfl
@[simp] theorem wp_guard {α : Type} {b : Bool} {r : R α} {Q : α → Store → Prop} {X : Xc → Store → Prop} : @wp α (guardB b r) ⟨Q, X⟩ = (b = true ∧ @wp α r ⟨Q, X⟩) := by cases b <;> simp [guardB_f, wp]
@[simp] theorem wpS_guard {b : Bool} {s : SR} : @wpS (guardS b s) ⟨nx, rt, bk, ct, ex⟩ = (b = true ∧ @wpS s ⟨nx, rt, bk, ct, ex⟩) := by cases b <;> simp [guardS_f, wpS]
@[simp] theorem wpS_nx : @wpS (.nx e S) ⟨nx, rt, bk, ct, ex⟩ = nx e S := rfl
@[simp] theorem wpS_rt {d : D} : @wpS (.rt d S) ⟨nx, rt, bk, ct, ex⟩ = rt d S := rfl
@[simp] theorem wpS_bk : @wpS (.bk e S) ⟨nx, rt, bk, ct, ex⟩ = bk e S := rfl
@[simp] theorem wpS_ct : @wpS (.ct e S) ⟨nx, rt, bk, ct, ex⟩ = ct e S := rfl
@[simp] theorem wpS_ex {c : Xc} : @wpS (.ex c e S) ⟨nx, rt, bk, ct, ex⟩ = ex c e S := rfl
@[simp] theorem wpS_bad : @wpS .bad ⟨nx, rt, bk, ct, ex⟩ = False := rfl
@[simp] theorem wpS_ite {c : Prop} [Decidable c] {a b : SR} : @wpS (if c then a else b) ⟨nx, rt, bk, ct, ex⟩ = if c then @wpS a ⟨nx, rt, bk, ct, ex⟩ else @wpS b ⟨nx, rt, bk, ct, ex⟩ := by split <;> rfl
@[simp ↓] theorem wpS_thn {s : SR} {k : Fenv → Store → SR} : @wpS (s.thn k) ⟨nx, rt, bk, ct, ex⟩ = @wpS s ⟨fun e S => @wpS (k e S) ⟨nx, rt, bk, ct, ex⟩, rt, bk, ct, ex⟩ := by cases s <;> rfl
@[simp ↓] theorem wpS_bindS {α : Type} {r : R α} {f : α → Store → SR} : @wpS (r.bindS e f) ⟨nx, rt, bk, ct, ex⟩ = @wp α r ⟨fun a S => @wpS (f a S) ⟨nx, rt, bk, ct, ex⟩, fun c S => ex c e S⟩ := by cases r <;> rfl
@[simp ↓] theorem wpS_toS {α : Type} {r : R α} {f : α → Store → SR} : @wpS (r.toS f) ⟨nx, rt, bk, ct, ex⟩ = @wp α r ⟨fun a S => @wpS (f a S) ⟨nx, rt, bk, ct, ex⟩, XF⟩ := by cases r <;> rfl
theorem wp.mono {α : Type} {r : R α} {Q Q' : α → Store → Prop} {X X' : Xc → Store → Prop} (h : @wp α r ⟨Q, X⟩) (k : ∀ a S, Q a S → Q' a S) (l : ∀ c S, X c S → X' c S) : @wp α r ⟨Q', X'⟩ := by
  cases r with
  | ok a S => exact k a S h
  | ex c S => exact l c S h
  | bad => exact h
theorem wp.imp {α : Type} {r : R α} {Q Q' : α → Store → Prop} {X : Xc → Store → Prop} (h : @wp α r ⟨Q, XF⟩) (k : ∀ a S, Q a S → Q' a S) : @wp α r ⟨Q', X⟩ := h.mono k fun _ _ h => h.elim
theorem wp.of_eq {α : Type} {r : R α} {a : α} {Q : α → Store → Prop} {X : Xc → Store → Prop} (h : r = .ok a S) (k : Q a S) : @wp α r ⟨Q, X⟩ := by rw [h]; exact k
theorem wp.eq {α : Type} {r : R α} {a : α} (h : @wp α r ⟨fun b S' => b = a ∧ S' = S, XF⟩) : r = .ok a S := by
  cases r with
  | ok b S' => obtain ⟨rfl, rfl⟩ := h; rfl
  | ex c S => exact h.elim
  | bad => exact h.elim
theorem wp.ex' {α : Type} {r : R α} {Q : α → Store → Prop} (h : @wp α r ⟨Q, XF⟩) : ∃ a S, r = .ok a S ∧ Q a S := by
  cases r with
  | ok b S' => exact ⟨b, S', rfl, h⟩
  | ex c S => exact h.elim
  | bad => exact h.elim
theorem wpS.mono {s : SR} {nx' : Fenv → Store → Prop} {rt' : D → Store → Prop} {bk' : Fenv → Store → Prop} {ct' : Fenv → Store → Prop} {ex' : Xc → Fenv → Store → Prop} (h : @wpS s ⟨nx, rt, bk, ct, ex⟩) (h1 : ∀ e S, nx e S → nx' e S) (h2 : ∀ d S, rt d S → rt' d S) (h3 : ∀ e S, bk e S → bk' e S) (h4 : ∀ e S, ct e S → ct' e S) (h5 : ∀ c e S, ex c e S → ex' c e S) : @wpS s ⟨nx', rt', bk', ct', ex'⟩ := by
  cases s with
  | nx e S => exact h1 _ _ h
  | rt d S => exact h2 _ _ h
  | bk e S => exact h3 _ _ h
  | ct e S => exact h4 _ _ h
  | ex c e S => exact h5 _ _ _ h
  | bad => exact h
/-- a loop over a fixed list by its invariant -/
theorem wpS_forD {X : List D} {g : EvG} {b : EvS} (J : List D → Fenv → Store → Prop) : ∀ {ds pre : List D} {e : Fenv} {S : Store}, J pre e S →
    (∀ p d q e S, pre ++ ds = p ++ d :: q → J p e S → @wpS ((g d e S).toS b) ⟨J (p ++ [d]), rt, nx, J (p ++ [d]), ex⟩) → (∀ e S, J (pre ++ ds) e S → nx e S) → @wpS (forL ⟨X, []⟩ g b ds e S) ⟨nx, rt, bk, ct, ex⟩
  | [], pre, e, S, h0, _, hE => by
    unfold forL
    rw [if_pos chk_no]
    exact hE _ _ (by rwa [List.append_nil])
  | d :: ds, pre, e, S, h0, hs, hE => by
    have h1 := hs pre d ds e S rfl h0
    have rec1 : ∀ {e S}, J (pre ++ [d]) e S → @wpS (forL ⟨X, []⟩ g b ds e S) ⟨nx, rt, bk, ct, ex⟩ := fun {e S} h => wpS_forD J h (fun p d' q e S hp => hs p d' q e S (by rw [← hp]; simp)) fun e S h => hE e S (by simpa using h)
    unfold forL
    rw [if_pos chk_no]
    cases k : g d e S with
    | ok e1 S1 =>
      rw [k] at h1
      simp only [toS_ok] at h1 ⊢
      cases k2 : b e1 S1 with
      | nx e2 S2 => rw [k2] at h1; exact rec1 h1
      | ct e2 S2 => rw [k2] at h1; exact rec1 h1
      | bk e2 S2 => rw [k2] at h1; exact h1
      | rt d2 S2 => rw [k2] at h1; exact h1
      | ex c e2 S2 => rw [k2] at h1; exact h1
      | bad => rw [k2] at h1; exact h1
    | ex c S1 => rw [k] at h1; exact h1
    | bad => rw [k] at h1; exact h1
theorem wpS_for {α : Type} {f : α → D} {X : List D} {g : EvG} {b : EvS} {xs : List α} (J : List α → Fenv → Store → Prop) (h0 : J [] e S)
    (hs : ∀ p x q e S, xs = p ++ x :: q → J p e S → @wpS ((g (f x) e S).toS b) ⟨J (p ++ [x]), rt, nx, J (p ++ [x]), ex⟩) (hE : ∀ e S, J xs e S → nx e S) : @wpS (forL ⟨X, []⟩ g b (xs.map f) e S) ⟨nx, rt, bk, ct, ex⟩ := by
  refine wpS_forD (fun ds e S => ∃ p, ds = p.map f ∧ p.length ≤ xs.length ∧ p = xs.take p.length ∧ J p e S) (pre := []) ⟨[], rfl, Nat.zero_le _, by simp, h0⟩ ?_ ?_
  · rintro p d q e S hp ⟨p', rfl, hl, hp', hJ⟩
    have hlt : p'.length < xs.length := by
      have := congrArg List.length hp
      rw [List.nil_append, List.length_map, List.length_append, List.length_map, List.length_cons] at this
      omega
    have hx : xs = p' ++ xs[p'.length] :: xs.drop (p'.length + 1) := by
      conv => lhs; rw [← List.take_append_drop p'.length xs]
      rw [← hp', List.drop_eq_getElem_cons hlt]
    have hd : d = f xs[p'.length] := by
      have h1 : (xs.map f)[p'.length]? = some d := by
        have : xs.map f = p'.map f ++ d :: q := hp
        rw [this]
        simp
      rw [List.getElem?_map, List.getElem?_eq_getElem hlt] at h1
      exact (Option.some.inj h1).symm
    subst hd
    have key : ∀ e S, J (p' ++ [xs[p'.length]]) e S → ∃ p, p'.map f ++ [f xs[p'.length]] = p.map f ∧ p.length ≤ xs.length ∧ p = xs.take p.length ∧ J p e S := fun e S h => ⟨p' ++ [xs[p'.length]], by simp, by simp; omega, by
      rw [List.length_append, List.length_singleton, List.take_add_one, ← hp', List.getElem?_eq_getElem hlt]
      rfl, h⟩
    exact (hs p' _ _ e S hx hJ).mono key (fun _ _ h => h) (fun _ _ h => h) key (fun _ _ _ h => h)
  · rintro e S ⟨p, h1, h2, h3, h4⟩
    have : p.length = xs.length := by
      have := congrArg List.length h1
      rw [List.nil_append, List.length_map, List.length_map] at this
      omega
    rw [this, List.take_length] at h3
    exact hE e S (h3 ▸ h4)
theorem wpS_while {c : EvB} {b : EvS} (J : Nat → Fenv → Store → Prop) : ∀ {n : Nat} {e : Fenv} {S : Store}, J n e S →
    (∀ n e S, J n e S → @wp Bool (c e S) ⟨fun t S1 => if t = true then @wpS (b e S1) ⟨fun e S => ∃ k, k < n ∧ J k e S, rt, nx, fun e S => ∃ k, k < n ∧ J k e S, ex⟩ else nx e S1, fun c S => ex c e S⟩) → @wpS (evWhile c b e S) ⟨nx, rt, bk, ct, ex⟩ := by
  intro n
  induction n using Nat.strongRecOn with
  | ind n ih =>
    intro e S h hs
    have h1 := hs n e S h
    rw [evWhile_unf]
    cases k : c e S with
    | ok t S1 =>
      rw [k] at h1
      simp only [wp_ok] at h1
      simp only [R.bindS_ok]
      cases t with
      | true =>
        simp only [if_true] at h1 ⊢
        cases k2 : b e S1 with
        | nx e2 S2 => rw [k2] at h1; obtain ⟨m, hm, hJ⟩ := h1; exact ih m hm hJ hs
        | ct e2 S2 => rw [k2] at h1; obtain ⟨m, hm, hJ⟩ := h1; exact ih m hm hJ hs
        | bk e2 S2 => rw [k2] at h1; exact h1
        | rt d2 S2 => rw [k2] at h1; exact h1
        | ex c e2 S2 => rw [k2] at h1; exact h1
        | bad => rw [k2] at h1; exact h1
      | false => simpa using h1
    | ex c S1 => rw [k] at h1; exact h1
    | bad => rw [k] at h1; exact h1
end
/-! comprehensions that change the store -/
section
variable {α β : Type} {b : α → Store → R (Option D)}
theorem wp_lcM {f : β → D} {I : Store → Prop} {P : α → Option β → Prop} : ∀ {xs : List α} {S : Store} {Q : List D → Store → Prop} {X : Xc → Store → Prop}, I S → (∀ x ∈ xs, ∀ S, I S → @wp _ (b x S) ⟨fun o S' => I S' ∧ ∃ c, o = c.map f ∧ P x c, X⟩) →
    (∀ (cs : List (Option β)) S', I S' → cs.length = xs.length → (∀ (i : Nat) x c, xs[i]? = some x → cs[i]? = some c → P x c) → Q ((cs.filterMap id).map f) S') → @wp _ (lcM b xs S) ⟨Q, X⟩
  | [], S, Q, X, h, _, k => k [] S h rfl fun i x c hx => by simp at hx
  | x :: xs, S, Q, X, h, hs, k => by
    rw [lcM, wp_bind]
    refine (hs x List.mem_cons_self S h).mono ?_ fun _ _ h => h
    rintro o S1 ⟨h1, c, rfl, hc⟩
    rw [wp_bind]
    refine wp_lcM (f := f) (P := P) h1 (fun y hy => hs y (List.mem_cons_of_mem _ hy)) fun cs S2 h2 hl hcs => ?_
    have := k (c :: cs) S2 h2 (by simp [hl]) fun i x' c' hx hc' => by
      cases i with
      | zero => cases hx; cases hc'; exact hc
      | succ i => exact hcs i x' c' (by simpa using hx) (by simpa using hc')
    cases c with
    | none => exact this
    | some y => exact this
theorem wp_lcMall {f : β → D} {I : Store → Prop} {P : α → β → Prop} {xs : List α} {S : Store} {Q : List D → Store → Prop} {X : Xc → Store → Prop} (h : I S) (hs : ∀ x ∈ xs, ∀ S, I S → @wp _ (b x S) ⟨fun o S' => I S' ∧ ∃ y, o = some (f y) ∧ P x y, X⟩)
    (k : ∀ (ys : List β) S', I S' → ys.length = xs.length → (∀ (i : Nat) x y, xs[i]? = some x → ys[i]? = some y → P x y) → Q (ys.map f) S') : @wp _ (lcM b xs S) ⟨Q, X⟩ := by
  refine wp_lcM (f := f) (P := fun x c => ∃ y, c = some y ∧ P x y) h (fun x hx S hS => (hs x hx S hS).mono (fun o S' h => ⟨h.1, h.2.elim fun y hy => ⟨some y, hy.1, y, rfl, hy.2⟩⟩) fun _ _ h => h) fun cs S' h' hl hcs => ?_
  have : ∃ ys : List β, cs = ys.map some := by
    have : ∀ c ∈ cs, ∃ y, c = some y := fun c hc => by
      obtain ⟨i, hi, rfl⟩ := List.getElem_of_mem hc
      obtain ⟨y, hy, _⟩ := hcs i xs[i] cs[i] (List.getElem?_eq_getElem (by omega)) (List.getElem?_eq_getElem hi)
      exact ⟨y, hy⟩
    clear hcs hl
    induction cs with
    | nil => exact ⟨[], rfl⟩
    | cons c cs ih =>
      obtain ⟨y, rfl⟩ := this c List.mem_cons_self
      obtain ⟨ys, rfl⟩ := ih fun c hc => this c (List.mem_cons_of_mem _ hc)
      exact ⟨y :: ys, rfl⟩
  obtain ⟨ys, rfl⟩ := this
  have := k ys S' h' (by simpa using hl) fun i x y hx hy => by
    obtain ⟨y', e, hy'⟩ := hcs i x (some y) hx (by rw [List.getElem?_map, hy]; rfl)
    cases e
    exact hy'
  simpa [List.filterMap_map, Function.comp_def] using this
/-- .. by an invariant over what has been walked and made -/
theorem wp_lcMJ' {f : β → D} (J : List α → List β → Store → Prop) : ∀ {xs pre : List α} {ys0 : List β} {S : Store} {Q : List D → Store → Prop} {X : Xc → Store → Prop}, J pre ys0 S → (∀ p x q ys S, pre ++ xs = p ++ x :: q → J p ys S → @wp _ (b x S) ⟨fun o S' => ∃ y, o = some (f y) ∧ J (p ++ [x]) (ys ++ [y]) S', X⟩) →
    (∀ ys S', J (pre ++ xs) (ys0 ++ ys) S' → Q (ys.map f) S') → @wp _ (lcM b xs S) ⟨Q, X⟩
  | [], pre, ys0, S, Q, X, h, _, k => k [] S (by simpa using h)
  | x :: xs, pre, ys0, S, Q, X, h, hs, k => by
    rw [lcM, wp_bind]
    refine (hs pre x xs ys0 S rfl h).mono ?_ fun _ _ h => h
    rintro o S1 ⟨y, rfl, h1⟩
    rw [wp_bind]
    refine wp_lcMJ' J h1 (fun p x' q ys S hp => hs p x' q ys S (by rw [← hp]; simp)) fun ys S2 h2 => ?_
    exact k (y :: ys) S2 (by simpa using h2)
theorem wp_lcMJ {f : β → D} (J : List α → List β → Store → Prop) {xs : List α} {S : Store} {Q : List D → Store → Prop} {X : Xc → Store → Prop} (h : J [] [] S) (hs : ∀ p x q ys S, xs = p ++ x :: q → J p ys S → @wp _ (b x S) ⟨fun o S' => ∃ y, o = some (f y) ∧ J (p ++ [x]) (ys ++ [y]) S', X⟩)
    (k : ∀ ys S', J xs ys S' → Q (ys.map f) S') : @wp _ (lcM b xs S) ⟨Q, X⟩ := wp_lcMJ' J h (fun p x q ys S hp => hs p x q ys S (by simpa using hp)) fun ys S' h => k ys S' (by simpa using h)
/-- some of a row -/
theorem wp_lcMsub {f : α → D} {I : Store → Prop} {xs : List α} {S : Store} {Q : List D → Store → Prop} {X : Xc → Store → Prop} (h : I S) (hs : ∀ x ∈ xs, ∀ S, I S → @wp _ (b x S) ⟨fun o S' => I S' ∧ (o = some (f x) ∨ o = none), X⟩)
    (k : ∀ (ys : List α) S', I S' → ys.Sublist xs → Q (ys.map f) S') : @wp _ (lcM b xs S) ⟨Q, X⟩ := by
  refine wp_lcM (f := f) (P := fun x c => c = some x ∨ c = none) h (fun x hx S hS => (hs x hx S hS).mono (fun o S' h => ⟨h.1, h.2.elim (fun e => ⟨some x, e, .inl rfl⟩) fun e => ⟨none, e, .inr rfl⟩⟩) fun _ _ h => h) fun cs S' h' hl hcs => k _ S' h' ?_
  clear k h' hs
  induction xs generalizing cs with
  | nil =>
    have : cs = [] := List.length_eq_zero_iff.mp hl
    subst this
    exact List.Sublist.refl _
  | cons x xs ih =>
    cases cs with
    | nil => simp at hl
    | cons c cs =>
      have ih := ih cs (by simpa using hl) fun i x c hx hc => hcs (i + 1) x c (by simpa using hx) (by simpa using hc)
      rcases hcs 0 x c rfl rfl with rfl | rfl
      · simpa using ih.cons_cons x
      · simpa using ih.cons x
end
/-! a def's end -/
section
variable {S S' : Store} {d : D} {n : Nat} {ev : EvS} {ds : List D}
theorem wp_gc {mt : Bool} {s : SR} {Q : D → Store → Prop} {X : Xc → Store → Prop} : @wp _ (gc mt S s) ⟨Q, X⟩ = @wpS s ⟨fun _ S' => @wp _ (gcD mt S .non S') ⟨Q, X⟩, fun d S' => @wp _ (gcD mt S d S') ⟨Q, X⟩, fun _ _ => False, fun _ _ => False, fun c e S' => @wp _ (gc mt S (.ex c e S')) ⟨Q, X⟩⟩ := by
  cases s <;> rfl
/-- what a def that only draws leaves -/
theorem wp_low {S S' : Store} {d : D} {Q : D → Store → Prop} {X : Xc → Store → Prop} (k : KeepS S S') (hd : low S.length d = true) (h : Q d (S'.take S.length)) : @wp _ (gcD false S d S') ⟨Q, X⟩ := by
  have : gcD false S d S' = .ok d (S'.take S.length) := by
    unfold gcD
    show (match oldO none S.length S' S S', fz none 12 S.length S' d with
      | some So, some d' => R.ok d' So
      | _, _ => .bad) = _
    rw [oldO_take k.len k.old, fz_low hd]
  rw [this]
  exact h
theorem gcD_low0 (k : KeepS S S') (hd : low S.length d = true) : gcD false S d S' = .ok d (S'.take S.length) := by
  unfold gcD
  show (match oldO none S.length S' S S', fz none 12 S.length S' d with
    | some So, some d' => R.ok d' So
    | _, _ => .bad) = _
  rw [oldO_take k.len k.old, fz_low hd]
theorem KeepS.app0 {S S' : Store} (h : KeepS S S') (t : Store) : KeepS S (S' ++ t) := ⟨by rw [List.length_append]; exact Nat.le_trans h.len (Nat.le_add_right _ _), fun i m m' h1 h2 => by
  have hi : i < S.length := (List.getElem?_eq_some_iff.mp h1).1
  rw [List.getElem?_append_left (Nat.lt_of_lt_of_le hi h.len)] at h2
  exact h.old i m m' h1 h2⟩
/-- a def that hands on a new object of its own -/
theorem gcD_new {k : Nat} {m : MO} (h : KeepS S S') (hk : S.length ≤ k) (hm : S'[k]? = some m) (hl : lowO S.length m = true) : gcD true S (.ref k) S' = .ok (.ref S.length) (S'.take S.length ++ [m]) := by
  unfold gcD
  have h1 : ownRef true S.length (.ref k) = some k := by
    show (if k < S.length then none else some k) = _
    rw [if_neg (by omega)]
  rw [h1]
  show (match oldO (some k) S.length S' S S', S'[k]? with
    | some So, some m => match fzO (some k) S.length S' m with
      | some m' => R.ok (D.ref S.length) (So ++ [m'])
      | none => .bad
    | _, _ => .bad) = _
  rw [oldO_take h.len h.old, hm]
  show (match fzO (some k) S.length S' m with
      | some m' => R.ok (D.ref S.length) (S'.take S.length ++ [m'])
      | none => .bad) = _
  rw [fzO_low hl]
/-- a def that hands on an own object as plain data -/
theorem gcD_own {k : Nat} {xs : List D} (h : KeepS S S') (hk : S.length ≤ k) (hm : S'[k]? = some (.lst xs)) (hl : lows S.length xs = true) : gcD false S (.ref k) S' = .ok (.lst xs) (S'.take S.length) := by
  unfold gcD
  show (match oldO none S.length S' S S', fz none 12 S.length S' (.ref k) with
    | some So, some d' => R.ok d' So
    | _, _ => .bad) = _
  rw [oldO_take h.len h.old, fz_own hk hm hl]
theorem fz_ownK {n k f : Nat} {S : Store} {kvs : List (Key × D)} (hk : n ≤ k) (hS : S[k]? = some (.dct kvs)) (hx : lowk n kvs = true) : fz none (f + 1) n S (.ref k) = some (.dct kvs) := by
  unfold fz
  have h1 : ¬ low n (.ref k) = true := by
    show ¬ decide (k < n) = true
    simpa using hk
  rw [if_neg h1]
  show (if (none : Option Nat) = some k then (none : Option D) else match S[k]? with
      | some (.lst ds) => (ds.mapM (fz none f n S)).map D.lst
      | some (.dct kvs) => (kvs.mapM fun p => (fz none f n S p.2).map fun d => (p.1, d)).map D.dct
      | _ => none) = _
  rw [if_neg (by simp), hS]
  show (kvs.mapM fun p => (fz none f n S p.2).map fun d => (p.1, d)).map D.dct = _
  rw [fzk_low hx]
  rfl
theorem gcD_ownD {k : Nat} {kvs : List (Key × D)} (h : KeepS S S') (hk : S.length ≤ k) (hm : S'[k]? = some (.dct kvs)) (hl : lowk S.length kvs = true) : gcD false S (.ref k) S' = .ok (.dct kvs) (S'.take S.length) := by
  unfold gcD
  show (match oldO none S.length S' S S', fz none 12 S.length S' (.ref k) with
    | some So, some d' => R.ok d' So
    | _, _ => .bad) = _
  rw [oldO_take h.len h.old, fz_ownK hk hm hl]
/-- the simplest: objects of its own alone -/
@[simp] theorem gcD_app {t : Store} {d : D} (hd : low S.length d = true) : gcD false S d (S ++ t) = .ok d S := by
  have := gcD_low0 ((KeepS.refl S).app0 t) hd
  rwa [List.take_left] at this
theorem gcD_low (k : KeepS S S') (hd : low S.length d = true) : gcD false S d S' = .ok d (S'.take S.length) := by
  unfold gcD
  show (match oldO none S.length S' S S', fz none 12 S.length S' d with
    | some So, some d' => R.ok d' So
    | _, _ => .bad) = _
  rw [oldO_take k.len k.old, fz_low hd]
@[simp] theorem gcD_pure (hd : low S.length d = true) : gcD false S d S = .ok d S := by
  have := gcD_low (KeepS.refl S) hd
  rwa [List.take_length] at this
@[simp] theorem gc_rt {mt : Bool} : gc mt S (.rt d S') = gcD mt S d S' := rfl
@[simp] theorem gc_nx {mt : Bool} {e : Fenv} : gc mt S (.nx e S') = gcD mt S .non S' := rfl
@[simp] theorem gc_guard {mt : Bool} {b : Bool} {s : SR} : gc mt S (guardS b s) = guardB b (gc mt S s) := by cases b <;> simp only [guardB_t, guardB_f, guardS_t, guardS_f] <;> rfl
@[simp] theorem gc_ite {mt : Bool} {c : Prop} [Decidable c] {a b : SR} : gc mt S (if c then a else b) = if c then gc mt S a else gc mt S b := by split <;> rfl
theorem run_eq {mt : Bool} : runF mt n ev ds S = gc mt S (ev (startE n ds) S) := rfl
theorem KeepS.app (h : KeepS S S') (t : Store) : KeepS S (S' ++ t) := ⟨by rw [List.length_append]; exact Nat.le_trans h.len (Nat.le_add_right _ _), fun i m m' h1 h2 => by
  have hi : i < S.length := (List.getElem?_eq_some_iff.mp h1).1
  rw [List.getElem?_append_left (Nat.lt_of_lt_of_le hi h.len)] at h2
  exact h.old i m m' h1 h2⟩
theorem KeepS.set (h : KeepS S S') (p : Nat) {m : MO} (hm : lowO S.length m = true) : KeepS S (S'.set p m) := ⟨by rw [List.length_set]; exact h.len, fun i a b h1 h2 => by
  rw [List.getElem?_set] at h2
  split at h2
  · split at h2
    · cases h2; exact .inr hm
    · cases h2
  · exact h.old i a b h1 h2⟩
end
/-! data -/
section
variable {S : Store}
@[simp] theorem fit_le {n : Nat} : (fit n = true) = (n ≤ 16777216) := by simp [fit]
@[simp] theorem o_ltI {a b : Int} : dOrd (fun p q => PySem.W.dataLt p q) (.int a) (.int b) S = .ok (.bl (decide (a < b))) S := ltI
@[simp] theorem o_gtI {a b : Int} : dOrd (fun p q => PySem.W.dataLt q p) (.int a) (.int b) S = .ok (.bl (decide (b < a))) S := gtI
@[simp] theorem o_leI {a b : Int} : dOrd (fun p q => !PySem.W.dataLt q p) (.int a) (.int b) S = .ok (.bl (decide (a ≤ b))) S := leI
@[simp] theorem o_geI {a b : Int} : dOrd (fun p q => !PySem.W.dataLt p q) (.int a) (.int b) S = .ok (.bl (decide (b ≤ a))) S := by
  show (if (PySem.W.alike (.int a) (.int b) && nonN (.int a)) = true then R.ok (D.bl (!PySem.W.dataLt (.int a) (.int b))) S else .bad) = _
  have h : (PySem.W.alike (.int a) (.int b) && nonN (.int a)) = true := by simp [PySem.W.alike, nonN]
  rw [if_pos h, PySem.W.dataLt_int]
  congr 2
  by_cases k : a < b
  · rw [decide_eq_true k, decide_eq_false (by omega)]; rfl
  · rw [decide_eq_false k, decide_eq_true (by omega)]; rfl
def ltB (a b : Str) : Bool := decide (a.cps.toList < b.cps.toList)
@[simp] theorem o_ltS {a b : Str} : dOrd (fun p q => PySem.W.dataLt p q) (.str a) (.str b) S = .ok (.bl (ltB a b)) S := lt_str
@[simp] theorem o_eqI {a b : Int} : dEq' (.int a) (.int b) S = .ok (.bl (decide (a = b))) S := eqI
@[simp] theorem o_neI {a b : Int} : dNe' (.int a) (.int b) S = .ok (.bl (!decide (a = b))) S := neI
@[simp] theorem o_eqS {a b : Str} : dEq' (.str a) (.str b) S = .ok (.bl (decide (a = b))) S := eqS
@[simp] theorem o_neS {a b : Str} : dNe' (.str a) (.str b) S = .ok (.bl (!decide (a = b))) S := neS
@[simp] theorem o_addI {m : Bool} {a b : Int} : dAdd' m (.int a) (.int b) S = .ok (.int (a + b)) S := rfl
@[simp] theorem o_subI {a b : Int} : dSub (.int a) (.int b) S = .ok (.int (a - b)) S := rfl
@[simp] theorem o_negI {a : Int} : dNeg (.int a) S = .ok (.int (-a)) S := rfl
theorem o_modI {a b : Int} (h : 0 < b) : dMod (.int a) (.int b) S = .ok (.int (a % b)) S := modI h
theorem o_divI {a b : Int} (h : 0 < b) (k : b < 1073741824) : dDiv (.int a) (.int b) S = .ok (.int (a / b)) S := divI h k
@[simp] theorem o_lenT {ds : List D} : dLen [.tup ds] S = .ok (.int ds.length) S := rfl
@[simp] theorem o_lenL {ds : List D} : dLen [.lst ds] S = .ok (.int ds.length) S := rfl
@[simp] theorem o_lenS {s : Str} : dLen [.str s] S = if s.length ≤ 16777216 then .ok (.int s.length) S else .bad := by
  show (if fit s.length = true then R.ok (D.int s.length) S else .bad) = _
  simp only [fit_le]
@[simp] theorem kd_non : kindOf S .non = some "NoneType" := rfl
@[simp] theorem kd_bl {b : Bool} : kindOf S (.bl b) = some "bool" := rfl
@[simp] theorem kd_int {i : Int} : kindOf S (.int i) = some "int" := rfl
@[simp] theorem kd_str {s : Str} : kindOf S (.str s) = some "str" := rfl
@[simp] theorem kd_tup {ds : List D} : kindOf S (.tup ds) = some "tuple" := rfl
@[simp] theorem kd_lst {ds : List D} : kindOf S (.lst ds) = some "list" := rfl
@[simp] theorem kd_dct {ds : List (Key × D)} : kindOf S (.dct ds) = some "dict" := rfl
@[simp] theorem kd_scr {ns : List Int} : kindOf S (.scr ns) = some "list" := rfl
@[simp] theorem so_tup {ds : List D} : srcOf S (.tup ds) = some ⟨ds, []⟩ := rfl
@[simp] theorem so_lst {ds : List D} : srcOf S (.lst ds) = some ⟨ds, []⟩ := rfl
@[simp] theorem so_str {x : Str} : srcOf S (.str x) = some ⟨(cpl x).map fun c => .str ⟨#[c]⟩, []⟩ := rfl
@[simp] theorem o_all {bs : List Bool} : dAll [.lst (bs.map D.bl)] S = .ok (.bl (bs.all id)) S := all_ok
@[simp] theorem o_all' {α : Type} {f : α → Bool} {xs : List α} : dAll [.lst (xs.map fun x => D.bl (f x))] S = .ok (.bl (xs.all f)) S := by
  have : (xs.map fun x => D.bl (f x)) = (xs.map f).map D.bl := by rw [List.map_map]; rfl
  rw [this, all_ok, List.all_map]
  rfl
theorem any_ok {bs : List Bool} : dAny [.lst (bs.map D.bl)] S = .ok (.bl (bs.any id)) S := by
  have h : ∀ bs : List Bool, toBs (bs.map D.bl) = some bs := by
    intro bs
    induction bs with
    | nil => rfl
    | cons b bs ih => show (toBs (bs.map D.bl)).map (b :: ·) = _; rw [ih]; rfl
  show (match toBs (bs.map D.bl) with
    | some bs => R.ok (D.bl (bs.any id)) S
    | none => .bad) = _
  rw [h]
@[simp] theorem o_any' {α : Type} {f : α → Bool} {xs : List α} : dAny [.lst (xs.map fun x => D.bl (f x))] S = .ok (.bl (xs.any f)) S := by
  have : (xs.map fun x => D.bl (f x)) = (xs.map f).map D.bl := by rw [List.map_map]; rfl
  rw [this, any_ok, List.any_map]
  rfl
@[simp] theorem o_tupL {ds : List D} : dTuple [.lst ds] S = .ok (.tup ds) S := rfl
@[simp] theorem o_tupT {ds : List D} : dTuple [.tup ds] S = .ok (.tup ds) S := rfl
@[simp] theorem o_ix0 {d : D} {ds : List D} : dIx (.tup (d :: ds)) (.int 0) S = .ok d S := ix_tup (by decide) rfl
@[simp] theorem o_ix1 {d d1 : D} {ds : List D} : dIx (.tup (d :: d1 :: ds)) (.int 1) S = .ok d1 S := ix_tup (by decide) rfl
@[simp] theorem o_ix2 {d d1 d2 : D} {ds : List D} : dIx (.tup (d :: d1 :: d2 :: ds)) (.int 2) S = .ok d2 S := ix_tup (by decide) rfl
@[simp] theorem o_ix3 {d d1 d2 d3 : D} {ds : List D} : dIx (.tup (d :: d1 :: d2 :: d3 :: ds)) (.int 3) S = .ok d3 S := ix_tup (by decide) rfl
@[simp] theorem o_in {neg : Bool} {x : Str} {xs : List Str} : dIn neg (.str x) (.tup (xs.map D.str)) S = .ok (.bl (xor neg (decide (x ∈ xs)))) S := in_tup
@[simp] theorem o_inL {neg : Bool} {x : Str} {xs : List Str} : dIn neg (.str x) (.lst (xs.map D.str)) S = .ok (.bl (xor neg (decide (x ∈ xs)))) S := in_lst
@[simp] theorem zipD_mm {α β : Type} {f : α → D} {g : β → D} {xs : List α} {ys : List β} : zipD (xs.map f) (ys.map g) = (xs.zip ys).map fun x => .tup [f x.1, g x.2] := zipD_map xs ys
@[simp] theorem low_non {n : Nat} : low n .non = true := (rfl)
@[simp] theorem low_bl {n : Nat} {b : Bool} : low n (.bl b) = true := (rfl)
@[simp] theorem low_int {n : Nat} {b : Int} : low n (.int b) = true := (rfl)
@[simp] theorem low_str {n : Nat} {b : Str} : low n (.str b) = true := (rfl)
@[simp] theorem low_tup {n : Nat} {b : List D} : low n (.tup b) = lows n b := (rfl)
@[simp] theorem low_lst {n : Nat} {b : List D} : low n (.lst b) = lows n b := (rfl)
@[simp] theorem lows_nil {n : Nat} : lows n [] = true := (rfl)
@[simp] theorem lows_cons {n : Nat} {d : D} {ds : List D} : lows n (d :: ds) = (low n d && lows n ds) := (rfl)
@[simp] theorem lows_map {α : Type} {n : Nat} {f : α → D} {xs : List α} : lows n (xs.map f) = xs.all fun x => low n (f x) := by induction xs <;> simp_all
def tlL {α : Type} (xs : List α) : List α := xs.drop 1
@[simp] theorem tlL_len {α : Type} {xs : List α} : (tlL xs).length = xs.length - 1 := by simp [tlL]
@[simp] theorem tlL_cons {α : Type} {x : α} {xs : List α} : tlL (x :: xs) = xs := rfl
@[simp] theorem tlL_nil {α : Type} : tlL ([] : List α) = [] := rfl
theorem cutD_1 {α : Type} {xs : List α} : cutD xs (some 1) none = tlL xs := by
  cases xs with
  | nil => rfl
  | cons x xs => exact cutD_from (n := 1) (by simp)
@[simp] theorem cut1 {α : Type} {f : α → D} {xs : List α} : cutD (xs.map f) (some 1) none = (tlL xs).map f := by
  rw [cutD_1, tlL, tlL, List.map_drop]
@[simp] theorem dSl_tup {m : Bool} {ds : List D} {lo hi : Option Int} : dSl m (.tup ds) lo hi S = .ok (.tup (cutD ds lo hi)) S := rfl
@[simp] theorem dSl_lst {m : Bool} {ds : List D} {lo hi : Option Int} : dSl m (.lst ds) lo hi S = mkL m (cutD ds lo hi) S := rfl
@[simp] theorem o_all0 : dAll [.lst []] S = .ok (.bl true) S := rfl
@[simp] theorem o_all1 {a : Bool} : dAll [.lst [.bl a]] S = .ok (.bl a) S := by
  have := o_all (S := S) (bs := [a]); simpa using this
@[simp] theorem o_all2 {a b : Bool} : dAll [.lst [.bl a, .bl b]] S = .ok (.bl (a && b)) S := by
  have := o_all (S := S) (bs := [a, b]); simpa using this
@[simp] theorem o_all3 {a b c : Bool} : dAll [.lst [.bl a, .bl b, .bl c]] S = .ok (.bl (a && (b && c))) S := by
  have := o_all (S := S) (bs := [a, b, c]); simpa using this
@[simp] theorem all_tt {α : Type} {xs : List α} : (xs.all fun _ => true) = true := by simp
theorem cutD_m1 {α : Type} {xs : List α} : cutD xs (some (-1)) none = xs.drop (xs.length - 1) := by
  unfold cutD
  rw [HT.sIx_none]
  have h : HT.sIx xs.length 0 (some (-1)) = xs.length - 1 := by
    show (if (-1 : Int) < 0 then ((-1 : Int) + (xs.length : Int)).toNat else min (-1 : Int).toNat xs.length) = _
    rw [if_pos (by decide)]
    omega
  rw [h, List.take_of_length_le (by simp)]
@[simp] theorem cutM1 {α : Type} {f : α → D} {xs : List α} : cutD (xs.map f) (some (-1)) none = (xs.drop (xs.length - 1)).map f := by
  rw [cutD_m1, List.map_drop, List.length_map]
@[simp] theorem lim_ok {i : Int} : (lim62 i = true) = (-(2 ^ 62) ≤ i ∧ i < 2 ^ 62) := propext ⟨lim62_ok, lim62_of⟩
def rangeI (i j : Int) : List Int := (List.range (j - i).toNat).map fun k => i + (k : Nat)
@[simp] theorem rangeI_len {i j : Int} : (rangeI i j).length = (j - i).toNat := by simp [rangeI]
@[simp] theorem rangeI_mem {i j k : Int} : k ∈ rangeI i j ↔ i ≤ k ∧ k < j := by
  simp only [rangeI, List.mem_map, List.mem_range]
  constructor
  · rintro ⟨a, h, rfl⟩
    omega
  · rintro ⟨h1, h2⟩
    exact ⟨(k - i).toNat, by omega, by omega⟩
@[simp] theorem rangeD_I {i j : Int} : rangeD i j = (rangeI i j).map D.int := by
  simp only [rangeD, rangeI, List.map_map]
  rfl
@[simp] theorem dRev_l {α : Type} {m : Bool} {f : α → D} {xs : List α} : dRev m (.lst (xs.map f)) S = mkL m (xs.reverse.map f) S := by
  rw [List.map_reverse]
  rfl
@[simp] theorem dRev_t {α : Type} {m : Bool} {f : α → D} {xs : List α} : dRev m (.tup (xs.map f)) S = .ok (.tup (xs.reverse.map f)) S := by
  rw [List.map_reverse]
  rfl
/-! objects of the store -/
theorem st_at {t : Store} {k : Nat} : (S ++ t)[S.length + k]? = t[k]? := by
  rw [List.getElem?_append_right (by omega)]
  congr 1
  omega
@[simp] theorem st_at0 {a : MO} {t : Store} : (S ++ a :: t)[S.length]? = some a := st_at (k := 0)
@[simp] theorem st_at1 {a b : MO} {t : Store} : (S ++ a :: b :: t)[S.length + 1]? = some b := st_at (k := 1)
@[simp] theorem st_at2 {a b c : MO} {t : Store} : (S ++ a :: b :: c :: t)[S.length + 2]? = some c := st_at (k := 2)
@[simp] theorem st_at3 {a b c d : MO} {t : Store} : (S ++ a :: b :: c :: d :: t)[S.length + 3]? = some d := st_at (k := 3)
theorem st_set {t : Store} {k : Nat} {x : MO} : (S ++ t).set (S.length + k) x = S ++ t.set k x := by
  rw [List.set_append_right _ _ (by omega)]
  congr 2
  omega
@[simp] theorem st_set0 {a x : MO} {t : Store} : (S ++ a :: t).set S.length x = S ++ x :: t := st_set (k := 0)
@[simp] theorem st_set1 {a b x : MO} {t : Store} : (S ++ a :: b :: t).set (S.length + 1) x = S ++ a :: x :: t := st_set (k := 1)
@[simp] theorem st_set2 {a b c x : MO} {t : Store} : (S ++ a :: b :: c :: t).set (S.length + 2) x = S ++ a :: b :: x :: t := st_set (k := 2)
@[simp] theorem st_set3 {a b c d x : MO} {t : Store} : (S ++ a :: b :: c :: d :: t).set (S.length + 3) x = S ++ a :: b :: c :: x :: t := st_set (k := 3)
theorem st_old {t : Store} {q : Nat} (h : q < S.length) : (S ++ t)[q]? = S[q]? := List.getElem?_append_left h
theorem st_setold {t : Store} {q : Nat} {x : MO} (h : q < S.length) : (S ++ t).set q x = S.set q x ++ t := List.set_append_left _ _ h
@[simp] theorem st_take {t : Store} : (S ++ t).take S.length = S := List.take_left
@[simp] theorem isTy_def {T k : String} : isTy T k = (T == k || (T == "int" && k == "bool")) := rfl
def kindO : Option MO → Option String
  | some (.lst _) => some "list"
  | some (.dct _) => some "dict"
  | _ => none
@[simp] theorem kindO_l {ds : List D} : kindO (some (.lst ds)) = some "list" := rfl
@[simp] theorem kindO_d {ds : List (Key × D)} : kindO (some (.dct ds)) = some "dict" := rfl
@[simp] theorem kd_ref {n : Nat} : kindOf S (.ref n) = kindO S[n]? := by
  show (match S[n]? with | some (.lst _) => some "list" | some (.dct _) => some "dict" | _ => none) = _
  cases S[n]? with
  | none => rfl
  | some m => cases m <;> rfl
/-- what an object is, if it is a list -/
def onLst {α : Type} (o : Option MO) (k : List D → R α) : R α := match o with
  | some (.lst ds) => k ds
  | _ => .bad
@[simp] theorem onLst_l {α : Type} {ds : List D} {k : List D → R α} : onLst (some (.lst ds)) k = k ds := rfl
/-- what an object is: a list or a dict -/
def onObj {α : Type} (o : Option MO) (k : List D → R α) (l : List (Key × D) → R α) : R α := match o with
  | some (.lst ds) => k ds
  | some (.dct kvs) => l kvs
  | some (.ldc kvs) => l kvs
  | _ => .bad
@[simp] theorem onObj_l {α : Type} {ds : List D} {k : List D → R α} {l : List (Key × D) → R α} : onObj (some (.lst ds)) k l = k ds := rfl
@[simp] theorem onObj_dl {α : Type} {ds : List (Key × D)} {k : List D → R α} {l : List (Key × D) → R α} : onObj (some (.ldc ds)) k l = l ds := rfl
@[simp] theorem onObj_d {α : Type} {ds : List (Key × D)} {k : List D → R α} {l : List (Key × D) → R α} : onObj (some (.dct ds)) k l = l ds := rfl
theorem toD_ref {n : Nat} : toD S (.ref n) = match S[n]? with
    | some (.lst ds) => toD S (.lst ds)
    | _ => none := by
  show toP 20 S (.ref n) = _
  show (match S[n]? with
    | some (.lst ds) => (ds.mapM (toP 19 S)).map PyData.list
    | _ => none) = _
  cases S[n]? with
  | none => rfl
  | some m => cases m <;> rfl
@[simp] theorem r_eq1 {n : Nat} {d : D} : dEq' (.ref n) d S = onLst S[n]? fun ds => dEq' (.lst ds) d S := by
  show (match toD S (.ref n), toD S d with
  | some p, some q => R.ok (D.bl (PyData.eqv p q)) S
  | _, _ => .bad) = _
  rw [toD_ref]
  cases S[n]? with
  | none => rfl
  | some m => cases m <;> rfl
@[simp] theorem r_ne1 {n : Nat} {d : D} : dNe' (.ref n) d S = onLst S[n]? fun ds => dNe' (.lst ds) d S := by
  show (match toD S (.ref n), toD S d with
  | some p, some q => R.ok (D.bl (!PyData.eqv p q)) S
  | _, _ => .bad) = _
  rw [toD_ref]
  cases S[n]? with
  | none => rfl
  | some m => cases m <;> rfl
theorem r_eq2' {n : Nat} {d : D} : dEq' d (.ref n) S = onLst S[n]? fun ds => dEq' d (.lst ds) S := by
  show (match toD S d, toD S (.ref n) with
  | some p, some q => R.ok (D.bl (PyData.eqv p q)) S
  | _, _ => .bad) = _
  rw [toD_ref]
  cases S[n]? with
  | none => cases toD S d <;> rfl
  | some m => cases m with
    | lst ds => rfl
    | _ => cases toD S d <;> rfl
theorem r_ne2' {n : Nat} {d : D} : dNe' d (.ref n) S = onLst S[n]? fun ds => dNe' d (.lst ds) S := by
  show (match toD S d, toD S (.ref n) with
  | some p, some q => R.ok (D.bl (!PyData.eqv p q)) S
  | _, _ => .bad) = _
  rw [toD_ref]
  cases S[n]? with
  | none => cases toD S d <;> rfl
  | some m => cases m with
    | lst ds => rfl
    | _ => cases toD S d <;> rfl
@[simp] theorem r_eq2 {n : Nat} {ds : List D} : dEq' (.lst ds) (.ref n) S = onLst S[n]? fun es => dEq' (.lst ds) (.lst es) S := r_eq2'
@[simp] theorem r_ne2 {n : Nat} {ds : List D} : dNe' (.lst ds) (.ref n) S = onLst S[n]? fun es => dNe' (.lst ds) (.lst es) S := r_ne2'
theorem sq_r {n : Nat} : sq S (.ref n) = match S[n]? with
    | some (.lst ds) => some ds
    | _ => none := rfl
@[simp] theorem r_len {n : Nat} : dLen [.ref n] S = onObj S[n]? (fun ds => .ok (.int ds.length) S) fun kvs => .ok (.int kvs.length) S := by
  show (match sq S (.ref n) with
    | some ds => R.ok (D.int ds.length) S
    | none => match sqD S (.ref n) with
      | some kvs => .ok (.int kvs.length) S
      | none => .bad) = _
  rw [sq_r]
  show _ = onObj S[n]? _ _
  have : sqD S (.ref n) = match S[n]? with
    | some (.dct kvs) => some kvs
    | some (.ldc kvs) => some kvs
    | _ => none := rfl
  rw [this]
  cases S[n]? with
  | none => rfl
  | some m => cases m <;> rfl
@[simp] theorem r_in {neg : Bool} {x : Str} {n : Nat} : dIn neg (.str x) (.ref n) S = onObj S[n]? (fun ds => dIn neg (.str x) (.lst ds) S) fun kvs => dIn neg (.str x) (.dct kvs) S := by
  have h : dIn neg (.str x) (.ref n) S = (match sq S (.ref n) with
    | some ds => match toD S (.str x), ds.mapM (toD S) with
      | some p, some qs => R.ok (D.bl (xor neg (qs.any fun z => PyData.eqv z p))) S
      | _, _ => .bad
    | none => match sqD S (.ref n), toKey (.str x) with
      | some kvs, some k => .ok (.bl (xor neg (valD kvs k).isSome)) S
      | _, _ => .bad) := rfl
  rw [h, sq_r]
  have : sqD S (.ref n) = match S[n]? with
    | some (.dct kvs) => some kvs
    | some (.ldc kvs) => some kvs
    | _ => none := rfl
  rw [this]
  cases S[n]? with
  | none => rfl
  | some m => cases m <;> rfl
@[simp] theorem o_inD {neg : Bool} {x : Str} {kvs : List (Key × D)} : dIn neg (.str x) (.dct kvs) S = .ok (.bl (xor neg (valD kvs (.inr x)).isSome)) S := rfl
@[simp] theorem r_ix {n : Nat} {i : Int} : dIx (.ref n) (.int i) S = onLst S[n]? fun ds => dIx (.lst ds) (.int i) S := by
  show (match sq S (.ref n) with
    | some ds => match atI ds i with
      | some d => R.ok d S
      | none => .bad
    | none => .bad) = _
  rw [sq_r]
  cases S[n]? with
  | none => rfl
  | some m => cases m <;> rfl
@[simp] theorem r_tup {n : Nat} : dTuple [.ref n] S = onLst S[n]? fun ds => .ok (.tup ds) S := by
  show (match sq S (.ref n) with
    | some ds => R.ok (D.tup ds) S
    | none => .bad) = _
  rw [sq_r]
  cases S[n]? with
  | none => rfl
  | some m => cases m <;> rfl
@[simp] theorem r_list {m : Bool} {n : Nat} : dList m [.ref n] S = onLst S[n]? fun ds => mkL m ds S := by
  show (match sq S (.ref n) with
    | some ds => mkL m ds S
    | none => .bad) = _
  rw [sq_r]
  cases S[n]? with
  | none => rfl
  | some m => cases m <;> rfl
@[simp] theorem o_listT {m : Bool} {ds : List D} : dList m [.tup ds] S = mkL m ds S := rfl
@[simp] theorem o_listL {m : Bool} {ds : List D} : dList m [.lst ds] S = mkL m ds S := rfl
theorem sqL_r {n : Nat} : sqL S (.ref n) = match S[n]? with
    | some (.lst ds) => some ds
    | _ => none := rfl
@[simp] theorem r_sorted {m : Bool} {n : Nat} : dSorted m [.ref n] S = onLst S[n]? fun ds => dSorted m [.lst ds] S := by
  show (match sqL S (.ref n) with
    | some ds => (match ds.mapM (toD S) with
      | some ps => if sortB ps = true then mkL m (pairsD ds ps) S else .bad
      | none => .bad)
    | none => .bad) = _
  rw [sqL_r]
  cases S[n]? with
  | none => rfl
  | some m => cases m <;> rfl
def isL : Option MO → Bool
  | some (.lst _) => true
  | _ => false
@[simp] theorem isL_l {ds : List D} : isL (some (.lst ds)) = true := rfl
@[simp] theorem r_ty {n : Nat} : tyD "list" S (.ref n) = isL S[n]? := by
  show (("list" == "list") && (sqL S (.ref n)).isSome) = _
  rw [sqL_r]
  cases S[n]? with
  | none => rfl
  | some m => cases m <;> rfl
@[simp] theorem r_tyS {s : Str} : tyD "str" S (.str s) = true := rfl
theorem lstAt_r {n : Nat} : lstAt S (.ref n) = match S[n]? with
    | some (.lst ds) => some (n, ds)
    | _ => none := rfl
@[simp] theorem r_append {n : Nat} {y : D} : mAppend (.ref n) [y] S = onLst S[n]? fun ds => if ds.length + 1 ≤ 16777216 then .ok .non (S.set n (.lst (ds ++ [y]))) else .bad := by
  unfold mAppend
  rw [lstAt_r]
  simp only [fit_le]
  cases S[n]? with
  | none => rfl
  | some m => cases m <;> rfl
@[simp] theorem r_extendL {n : Nat} {es : List D} : mExtend (.ref n) [.lst es] S = onLst S[n]? fun ds => if ds.length + es.length ≤ 16777216 then .ok .non (S.set n (.lst (ds ++ es))) else .bad := by
  unfold mExtend
  rw [lstAt_r]
  simp only [fit_le]
  cases S[n]? with
  | none => rfl
  | some m => cases m <;> rfl
def popK (ds : List D) (n : Nat) (S : Store) : R D := match ds[ds.length - 1]? with
  | some y => .ok y (S.set n (.lst ds.dropLast))
  | none => .bad
@[simp] theorem popK_app {ds : List D} {y : D} {n : Nat} : popK (ds ++ [y]) n S = .ok y (S.set n (.lst ds)) := by simp [popK]
@[simp] theorem r_pop {n : Nat} : mPop (.ref n) [] S = onLst S[n]? fun ds => popK ds n S := by
  unfold mPop
  rw [lstAt_r]
  cases S[n]? with
  | none => rfl
  | some m => cases m <;> rfl
def popAtK (ds : List D) (i : Int) (n : Nat) (S : Store) : R D := if (decide (-(2 ^ 63) ≤ i) && decide (i < 2 ^ 63)) = true then match seqIndex? i ds.length with
      | some k => match ds[k]? with
        | some y => .ok y (S.set n (.lst (ds.eraseIdx k)))
        | none => .bad
      | none => .bad
    else .bad
@[simp] theorem r_popAt {n : Nat} {i : Int} : mPopAt (.ref n) [.int i] S = onLst S[n]? fun ds => popAtK ds i n S := by
  unfold mPopAt
  rw [lstAt_r]
  cases S[n]? with
  | none => rfl
  | some m => cases m <;> rfl
@[simp] theorem r_clear {n : Nat} : mClear (.ref n) [] S = onLst S[n]? fun _ => .ok .non (S.set n (.lst [])) := by
  unfold mClear
  rw [lstAt_r]
  cases S[n]? with
  | none => rfl
  | some m => cases m <;> rfl
@[simp] theorem r_putIx {n : Nat} {i d : D} {e : Fenv} : putIx (.ref n) i d e S = onLst S[n]? fun ds => putAt n ds i d e S := by
  unfold putIx
  rw [lstAt_r]
  cases S[n]? with
  | none => rfl
  | some m => cases m <;> rfl
/-! dicts -/
def onDct {α : Type} (o : Option MO) (k : List (Key × D) → α) (z : α) : α := match o with
  | some (.dct kvs) => k kvs
  | some (.ldc kvs) => k kvs
  | _ => z
/-- a dict that may be written -/
def onDctW {α : Type} (o : Option MO) (k : List (Key × D) → α) (z : α) : α := match o with
  | some (.dct kvs) => k kvs
  | _ => z
@[simp] theorem onDctW_d {α : Type} {kvs : List (Key × D)} {k : List (Key × D) → α} {z : α} : onDctW (some (.dct kvs)) k z = k kvs := rfl
@[simp] theorem onDct_l {α : Type} {kvs : List (Key × D)} {k : List (Key × D) → α} {z : α} : onDct (some (.ldc kvs)) k z = k kvs := rfl
@[simp] theorem onDct_d {α : Type} {kvs : List (Key × D)} {k : List (Key × D) → α} {z : α} : onDct (some (.dct kvs)) k z = k kvs := rfl
def getK (kvs : List (Key × D)) (k : Key) (S : Store) : R D := match valD kvs k with
  | some d => .ok d S
  | none => .bad
@[simp] theorem o_getS {kvs : List (Key × D)} {x : Str} : dGet (.dct kvs) (.str x) S = getK kvs (.inr x) S := rfl
@[simp] theorem o_getI {kvs : List (Key × D)} {x : Int} : dGet (.dct kvs) (.int x) S = getK kvs (.inl x) S := rfl
@[simp] theorem r_get {n : Nat} {d : D} : dGet (.ref n) d S = onDct S[n]? (fun kvs => dGet (.dct kvs) d S) .bad := by
  unfold dGet
  have : sqD S (.ref n) = match S[n]? with
    | some (.dct kvs) => some kvs
    | some (.ldc kvs) => some kvs
    | _ => none := rfl
  rw [this]
  cases S[n]? with
  | none => rfl
  | some m => cases m <;> rfl
@[simp] theorem r_putS {n : Nat} {x : Str} {v : D} {e : Fenv} : putK3 (.ref n) (.str x) v e S = onDctW S[n]? (fun kvs => if kvs.length + 1 ≤ 16777216 then .nx e (S.set n (.dct (putD kvs (.inr x) v))) else .bad) .bad := by
  show (match dctAt S (.ref n) with
  | some (n, kvs) => if fit (kvs.length + 1) = true then SR.nx e (S.set n (.dct (putD kvs (.inr x) v))) else .bad
  | none => .bad) = _
  have : dctAt S (.ref n) = match S[n]? with
    | some (.dct kvs) => some (n, kvs)
    | _ => none := rfl
  rw [this]
  simp only [fit_le]
  cases S[n]? with
  | none => rfl
  | some m => cases m <;> rfl
@[simp] theorem o_lenScr {ns : List Int} : dLen [.scr ns] S = .ok (.int ns.length) S := by
  rw [len_seq rfl (by intro z e; cases e), List.length_map]
@[simp] theorem so_scr {ns : List Int} : srcOf S (.scr ns) = some ⟨ns.map .int, []⟩ := rfl
theorem ixScr {ns : List Int} {i : Int} (h0 : 0 ≤ i) (h : i.toNat < ns.length) : dIx (.scr ns) (.int i) S = .ok (.int ns[i.toNat]) S := by
  refine ix_seq' rfl (by intro z e; cases e) (atI_nat' h0 ?_)
  rw [List.getElem?_map, List.getElem?_eq_getElem h]
  rfl
@[simp] theorem o_max {i j : Int} : dMax [.int i, .int j] S = .ok (.int (max i j)) S := by
  show R.ok (D.int (if j > i then j else i)) S = _
  congr 2
  split <;> omega
@[simp] theorem o_min {i j : Int} : dMin [.int i, .int j] S = .ok (.int (min i j)) S := by
  show R.ok (D.int (if j < i then j else i)) S = _
  congr 2
  split <;> omega
theorem o_pow {a b : Int} (h : 0 ≤ b ∧ b ≤ 1000000 ∧ a.natAbs < 2 ^ 64) : dPow (.int a) (.int b) S = .ok (.int (a ^ b.toNat)) S := by
  show (if cPow a b = true then R.ok (D.int (a ^ b.toNat)) S else .bad) = _
  rw [if_pos]
  simp [cPow, h]
@[simp] theorem o_pow18 : dPow (.int 10) (.int 18) S = .ok (.int 1000000000000000000) S := o_pow (by decide)
theorem o_mul {a b : Int} (h : (-(2 ^ 64) < a ∧ a < 2 ^ 64) ∨ (-(2 ^ 64) < b ∧ b < 2 ^ 64)) : dMul (.int a) (.int b) S = .ok (.int (a * b)) S := mulI h
@[simp] theorem o_int1 {i : Int} : dInt [.int i] S = .ok (.int i) S := rfl
@[simp] theorem o_intB {b : Bool} : dInt [.bl b] S = .ok (.int (if b = true then 1 else 0)) S := by cases b <;> rfl
@[simp] theorem o_ixL0 {d : D} {ds : List D} : dIx (.lst (d :: ds)) (.int 0) S = .ok d S := ix_lst (by decide) rfl
@[simp] theorem o_ixL1 {d d1 : D} {ds : List D} : dIx (.lst (d :: d1 :: ds)) (.int 1) S = .ok d1 S := ix_lst (by decide) rfl
@[simp] theorem o_ixL2 {d d1 d2 : D} {ds : List D} : dIx (.lst (d :: d1 :: d2 :: ds)) (.int 2) S = .ok d2 S := ix_lst (by decide) rfl
@[simp] theorem o_put0 {n : Nat} {x y d : D} {e : Fenv} : putAt n [x, y] (.int 0) d e S = .ok e (S.set n (.lst [d, y])) := rfl
@[simp] theorem o_put1 {n : Nat} {x y d : D} {e : Fenv} : putAt n [x, y] (.int 1) d e S = .ok e (S.set n (.lst [x, d])) := rfl
@[simp] theorem o_absI {i : Int} : dAbs [.int i] S = .ok (.int (if i < 0 then -i else i)) S := rfl
theorem PotS.here {p : Nat} {a b : Int} (hp : p < S.length) (ha : 0 ≤ a) (hb : 0 ≤ b) (hc : b < 2 ^ 62) : PotS (S.set p (.lst [.int a, .int b])) p := ⟨a, b, by rw [List.getElem?_set_self hp], ha, hb, hc⟩
theorem wp_step {p : Nat} {S S' : Store} {d : D} {Q : D → Store → Prop} {X : Xc → Store → Prop} (s : Step p S S') (hd : low S.length d = true) (h : Q d S') : @wp _ (gcD false S d S') ⟨Q, X⟩ := by
  refine wp_low s.grow.keeps hd ?_
  have : S'.take S.length = S' := by rw [← s.len, List.take_length]
  rw [this]
  exact h
theorem wp_cut {p : Nat} {S S' : Store} {d : D} {Q : D → Store → Prop} {X : Xc → Store → Prop} (g : Grow p S S') (hp : p < S.length) (hd : low S.length d = true) (h : ∀ S'', Step p S S'' → Q d S'') : @wp _ (gcD false S d S') ⟨Q, X⟩ := wp_low g.keeps hd (h _ (g.cut hp))
theorem sa0 {n : Nat} {a : MO} {t : Store} (h : n = S.length) : (S ++ a :: t)[n]? = some a := by subst h; exact st_at0
theorem sa1 {n : Nat} {a b : MO} {t : Store} (h : n = S.length + 1) : (S ++ a :: b :: t)[n]? = some b := by subst h; exact st_at1
theorem sa2 {n : Nat} {a b c : MO} {t : Store} (h : n = S.length + 2) : (S ++ a :: b :: c :: t)[n]? = some c := by subst h; exact st_at2
theorem sa3 {n : Nat} {a b c d : MO} {t : Store} (h : n = S.length + 3) : (S ++ a :: b :: c :: d :: t)[n]? = some d := by subst h; exact st_at3
theorem ss0 {n : Nat} {a x : MO} {t : Store} (h : n = S.length) : (S ++ a :: t).set n x = S ++ x :: t := by subst h; exact st_set0
theorem ss1 {n : Nat} {a b x : MO} {t : Store} (h : n = S.length + 1) : (S ++ a :: b :: t).set n x = S ++ a :: x :: t := by subst h; exact st_set1
theorem ss2 {n : Nat} {a b c x : MO} {t : Store} (h : n = S.length + 2) : (S ++ a :: b :: c :: t).set n x = S ++ a :: b :: x :: t := by subst h; exact st_set2
theorem ss3 {n : Nat} {a b c d x : MO} {t : Store} (h : n = S.length + 3) : (S ++ a :: b :: c :: d :: t).set n x = S ++ a :: b :: c :: x :: t := by subst h; exact st_set3
theorem stake {n : Nat} {t : Store} (h : n = S.length) : (S ++ t).take n = S := by subst h; exact st_take
/-- the store with the pot changed -/
def potAt (S : Store) (p : Nat) (a b : Int) : Store := S.set p (.lst [.int a, .int b])
@[simp] theorem potAt_len {p : Nat} {a b : Int} : (potAt S p a b).length = S.length := by simp [potAt]
theorem potAt_step {p : Nat} {a b : Int} (hp : p < S.length) (ha : 0 ≤ a) (hb : 0 ≤ b) (hc : b < 2 ^ 62) : Step p S (potAt S p a b) := Step.setPot hp ha hb hc
theorem Step.isPot {p : Nat} {S' : Store} (s : Step p S S') : ∃ a b, 0 ≤ a ∧ 0 ≤ b ∧ b < 2 ^ 62 ∧ S' = potAt S p a b := by
  have pl := s.pot.lt
  obtain ⟨a, b, h, h1, h2, h3⟩ := s.pot
  refine ⟨a, b, h1, h2, h3, List.ext_getElem? fun q => ?_⟩
  unfold potAt
  have hl := s.len
  by_cases hq : q = p
  · subst hq
    rw [h, List.getElem?_set_self (by omega)]
  · rw [s.other q hq, List.getElem?_set_ne (fun e => hq e.symm)]
theorem potAt_app {p : Nat} {a b : Int} {t : Store} (hp : p < S.length) : potAt (S ++ t) p a b = potAt S p a b ++ t := by
  unfold potAt
  rw [List.set_append_left _ _ hp]
@[simp] theorem potAt_potAt {p : Nat} {a b a' b' : Int} : potAt (potAt S p a b) p a' b' = potAt S p a' b' := by simp [potAt]
theorem potAt_pot {p : Nat} {a b : Int} {t : Store} (hp : p < S.length) (ha : 0 ≤ a) (hb : 0 ≤ b) (hc : b < 2 ^ 62) : PotS (potAt S p a b ++ t) p := ⟨a, b, by rw [List.getElem?_append_left (by simpa using hp)]; unfold potAt; rw [List.getElem?_set_self hp], ha, hb, hc⟩
theorem potAt_pot0 {p : Nat} {a b : Int} (hp : p < S.length) (ha : 0 ≤ a) (hb : 0 ≤ b) (hc : b < 2 ^ 62) : PotS (potAt S p a b) p := by
  have := potAt_pot (t := []) hp ha hb hc
  rwa [List.append_nil] at this
theorem potAt_keeps {p : Nat} {a b : Int} {t : Store} : KeepS S (potAt S p a b ++ t) := ((KeepS.refl S).set p (by rfl)).app t
theorem Step.isPotApp {p : Nat} {a b : Int} {t S' : Store} (hp : p < S.length) (s : Step p (potAt S p a b ++ t) S') : ∃ a b, 0 ≤ a ∧ 0 ≤ b ∧ b < 2 ^ 62 ∧ S' = potAt S p a b ++ t := by
  obtain ⟨a', b', h1, h2, h3, rfl⟩ := s.isPot
  exact ⟨a', b', h1, h2, h3, by rw [potAt_app (by simpa using hp), potAt_potAt]⟩
theorem PotS.isPotAt {p : Nat} (h : PotS S p) : ∃ a b, 0 ≤ a ∧ 0 ≤ b ∧ b < 2 ^ 62 ∧ S = potAt S p a b := (Step.refl h).isPot
theorem ixStr {z : Str} {i : Int} {c : Nat} (h0 : 0 ≤ i) (h : (cpl z)[i.toNat]? = some c) (hf : z.length ≤ 16777216) : dIx (.str z) (.int i) S = .ok (.str ⟨#[c]⟩) S := by
  show (if fit z.length = true then match atI z.cps.toList i with
    | some c => R.ok (D.str ⟨#[c]⟩) S
    | none => .bad
    else .bad) = _
  rw [if_pos (by simpa using hf), show atI z.cps.toList i = some c from atI_nat' h0 h]
@[simp] theorem o_addRL {m : Bool} {n : Nat} {ys : List D} : dAdd' m (.ref n) (.lst ys) S = onLst S[n]? fun xs => if xs.length + ys.length ≤ 16777216 then mkL m (xs ++ ys) S else .bad := by
  show (match sqM S (.ref n), sqM S (.lst ys) with
    | some i, some j => if fit (i.length + j.length) = true then mkL m (i ++ j) S else .bad
    | _, _ => .bad) = _
  have h : sqM S (.ref n) = match S[n]? with
    | some (.lst ds) => some ds
    | _ => none := rfl
  rw [h]
  simp only [fit_le]
  cases S[n]? with
  | none => rfl
  | some m => cases m <;> rfl
@[simp] theorem o_addLL {m : Bool} {xs ys : List D} : dAdd' m (.lst xs) (.lst ys) S = if xs.length + ys.length ≤ 16777216 then mkL m (xs ++ ys) S else .bad := by
  show (if fit (xs.length + ys.length) = true then mkL m (xs ++ ys) S else .bad) = _
  simp only [fit_le]
@[simp] theorem r_sl {m : Bool} {n : Nat} {lo hi : Option Int} : dSl m (.ref n) lo hi S = onLst S[n]? fun ds => mkL m (cutD ds lo hi) S := by
  show (match sqL S (.ref n) with
    | some ds => mkL m (cutD ds lo hi) S
    | none => .bad) = _
  rw [sqL_r]
  cases S[n]? with
  | none => rfl
  | some m => cases m <;> rfl
theorem cutD_to {α : Type} {xs : List α} {n : Nat} : cutD xs none (some (n : Int)) = xs.take n := by
  unfold cutD
  rw [HT.sIx_none, HT.sIx_nat, Nat.sub_zero, List.drop_zero, List.take_eq_take_iff]
  omega
theorem cutTo {α : Type} {f : α → D} {xs : List α} {n : Nat} : cutD (xs.map f) none (some (n : Int)) = (xs.take n).map f := by rw [cutD_to, List.map_take]
@[simp] theorem srcL_l {ds : List D} : srcL S (.lst ds) = some ⟨ds, []⟩ := rfl
@[simp] theorem srcL_r {n : Nat} : srcL S (.ref n) = srcOf S (.ref n) := rfl
@[simp] theorem enum_map {α : Type} {f : α → D} {xs : List α} : enumD (xs.map f) = xs.zipIdx.map fun p => .tup [.int (p.2 : Nat), f p.1] := by
  unfold enumD
  rw [List.zipIdx_map, List.map_map]
  rfl
def pr2 (p : Str × Str) : D := .tup [.str p.1, .str p.2]
@[simp] theorem pr2_0 {p : Str × Str} : dIx (pr2 p) (.int 0) S = .ok (.str p.1) S := ix_tup (by decide) rfl
@[simp] theorem pr2_1 {p : Str × Str} : dIx (pr2 p) (.int 1) S = .ok (.str p.2) S := ix_tup (by decide) rfl
@[simp] theorem pr2_low {n : Nat} {p : Str × Str} : low n (pr2 p) = true := (rfl)
@[simp ↓] theorem pr2_g {e : Fenv} {g : EvGs} {p : Str × Str} : evgTup 2 g (pr2 p) e S = g [.str p.1, .str p.2] e S := rfl
theorem popAt_ok' {n : Nat} {ds : List D} {y : D} {i : Int} (h0 : 0 ≤ i) (h1 : i < 2 ^ 63) (hy : ds[i.toNat]? = some y) : popAtK ds i n S = .ok y (S.set n (.lst (ds.eraseIdx i.toNat))) := by
  have hl : i.toNat < ds.length := (List.getElem?_eq_some_iff.mp hy).1
  unfold popAtK
  rw [if_pos (by rw [Bool.and_eq_true, decide_eq_true_eq, decide_eq_true_eq]; exact ⟨by omega, h1⟩)]
  have : seqIndex? i ds.length = some i.toNat := by
    unfold seqIndex?
    simp
    omega
  rw [this]
  simp only [hy]
theorem asgPar {e : Fenv} {i j : Nat} {d d' : D} : evgTup 2 (evgCons (evgName i) (evgCons (evgName j) evgNil)) (.tup [d, d']) e S = .ok ((e.set i (some d)).set j (some d')) S := rfl
theorem nodup_at {α : Type} {xs : List α} (h : xs.Nodup) {i j : Nat} (hi : i < xs.length) (hj : j < xs.length) (e : xs[i] = xs[j]) : i = j := by
  rcases Nat.lt_trichotomy i j with c | c | c
  · exact absurd e (List.pairwise_iff_getElem.mp h i j hi hj c)
  · exact c
  · exact absurd e.symm (List.pairwise_iff_getElem.mp h j i hj hi c)
def soO (n : Nat) : Option MO → Option Src
  | some (.lst ds) => some ⟨ds, [(n, ds)]⟩
  | _ => none
@[simp] theorem soO_l {n : Nat} {ds : List D} : soO n (some (.lst ds)) = some ⟨ds, [(n, ds)]⟩ := rfl
@[simp] theorem so_ref {n : Nat} : srcOf S (.ref n) = soO n S[n]? := by
  show (match S[n]? with | some (.lst ds) => some (Src.mk ds [(n, ds)]) | _ => none) = _
  cases S[n]? with
  | none => rfl
  | some m => cases m <;> rfl
theorem chk_ref {n : Nat} {ds : List D} (h : S[n]? = some (.lst ds)) : (Src.mk ds [(n, ds)]).chk S := fun p hp => by
  simp at hp
  subst hp
  exact h
@[simp] theorem o_join {a : Str} {ys : List Str} : mJoin (.str a) [.lst (ys.map .str)] S = if (ys.map Str.length).sum + ys.length * a.length ≤ 16777216 then .ok (.str (Txt.join a ys)) S else .bad := by
  show (match toSs (ys.map D.str) with
    | some ys => if decide ((ys.map Str.length).sum + ys.length * a.length ≤ 16777216) = true then R.ok (D.str (Txt.join a ys)) S else .bad
    | none => .bad) = _
  rw [toSs_strs]
  simp only [decide_eq_true_eq]
@[simp] theorem o_addS {m : Bool} {a b : Str} : dAdd' m (.str a) (.str b) S = if a.length + b.length ≤ 16777216 then .ok (.str (a ++ b)) S else .bad := by
  show (if fit (a.length + b.length) = true then R.ok (D.str (a ++ b)) S else .bad) = _
  simp only [fit_le]
@[simp] theorem o_last {α : Type} {f : α → D} {xs : List α} {x : α} : dIx (.lst ((xs ++ [x]).map f)) (.int (-1)) S = .ok (f x) S := by
  refine ix_seq' rfl (fun z e => nomatch e) ?_
  rw [List.map_append]
  unfold atI ixN
  have hl : (xs.map f ++ [x].map f).length = xs.length + 1 := by simp
  rw [hl, if_neg (by decide), if_pos (by omega)]
  show (xs.map f ++ [x].map f)[((-1 : Int) + ((xs.length + 1 : Nat) : Int)).toNat]? = _
  have : ((-1 : Int) + ((xs.length + 1 : Nat) : Int)).toNat = (xs.map f).length := by rw [List.length_map]; omega
  rw [this]
  simp
@[simp] theorem o_last2 {α : Type} {f : α → D} {xs ys : List α} {x : α} : dIx (.lst ((xs ++ (ys ++ [x])).map f)) (.int (-1)) S = .ok (f x) S := by rw [← List.append_assoc]; exact o_last
end
end FL

/-! FY: data of a Lean type: ==, != -/
namespace FL
open PySem PySem.Spec PyProof.Rows L2
/-- things of a type as data -/
class Rep {α : Type} (f : α → D) where
  g : α → PyData
  dep : Nat
  to : ∀ (S : Store) (x : α) (m : Nat), dep ≤ m → toP m S (f x) = some (g x)
  eqv : ∀ x y, PyData.eqv (g x) (g y) = true ↔ x = y
open Rep
theorem all_beq {α : Type} {f : α → D} [Rep f] : ∀ xs ys : List α, PyData.eqvAll (xs.map (g f)) (ys.map (g f)) = true ↔ xs = ys
  | [], [] => by simp [PyData.eqvAll]
  | [], _ :: _ => by simp [PyData.eqvAll]
  | _ :: _, [] => by simp [PyData.eqvAll]
  | x :: xs, y :: ys => by simp [PyData.eqvAll, all_beq xs ys, Rep.eqv]
instance : Rep D.str := ⟨.str, 0, fun S x m _ => by cases m <;> rfl, fun x y => by simp [PyData.eqv]⟩
instance : Rep D.int := ⟨.int, 0, fun S x m _ => by cases m <;> rfl, fun x y => by simp [PyData.eqv]⟩
instance : Rep D.bl := ⟨.bool, 0, fun S x m _ => by cases m <;> rfl, fun x y => by simp [PyData.eqv]⟩
theorem mapM_repr {α : Type} {f : α → D} [Rep f] {S : Store} {m : Nat} (h : dep f ≤ m) (xs : List α) : (xs.map f).mapM (toP m S) = some (xs.map (g f)) := mapM_map fun x _ => Rep.to S x m h
instance tupR {α : Type} {f : α → D} [Rep f] : Rep fun xs : List α => D.tup (xs.map f) := ⟨fun xs => .tuple (xs.map (g f)), dep f + 1, fun S xs m h => by
  match m, h with
  | m + 1, h => show ((xs.map f).mapM (toP m S)).map PyData.tuple = _; rw [mapM_repr (by omega)]; rfl, fun xs ys => by simp only [PyData.eqv]; exact all_beq xs ys⟩
instance lstR {α : Type} {f : α → D} [Rep f] : Rep fun xs : List α => D.lst (xs.map f) := ⟨fun xs => .list (xs.map (g f)), dep f + 1, fun S xs m h => by
  match m, h with
  | m + 1, h => show ((xs.map f).mapM (toP m S)).map PyData.list = _; rw [mapM_repr (by omega)]; rfl, fun xs ys => by simp only [PyData.eqv]; exact all_beq xs ys⟩
instance pairR {α β : Type} {f : α → D} {h : β → D} [Rep f] [Rep h] : Rep fun p : α × β => D.tup [f p.1, h p.2] := ⟨fun p => .tuple [g f p.1, g h p.2], max (dep f) (dep h) + 1, fun S p m k => by
  match m, k with
  | m + 1, k =>
    show ([f p.1, h p.2].mapM (toP m S)).map PyData.tuple = _
    simp [List.mapM_cons, Rep.to S p.1 m (by omega : dep f ≤ m), Rep.to S p.2 m (by omega : dep h ≤ m)], fun p q => by
      simp only [PyData.eqv, PyData.eqvAll, Bool.and_true, Bool.and_eq_true, Rep.eqv]
      exact ⟨fun h => Prod.ext h.1 h.2, fun h => by rw [h]; exact ⟨rfl, rfl⟩⟩⟩
instance rowR : Rep rw3 := ⟨rwP, 1, fun S r m h => by
  match m, h with
  | m + 1, h => cases m <;> rfl, fun a b => by
    simp only [rwP, PyData.eqv, PyData.eqvAll, Bool.and_true, Bool.and_eq_true, beq_iff_eq]
    exact ⟨fun h => Prod.ext h.1 (Prod.ext h.2.1 h.2.2), fun h => by rw [h]; exact ⟨rfl, rfl, rfl⟩⟩⟩
section
variable {S : Store} {α : Type}
theorem eqRep (f : α → D) [Rep f] [DecidableEq α] (h : dep f ≤ 20) (x y : α) : dEq' (f x) (f y) S = .ok (.bl (decide (x = y))) S := by
  show (match toD S (f x), toD S (f y) with
    | some p, some q => R.ok (D.bl (PyData.eqv p q)) S
    | _, _ => .bad) = _
  rw [show toD S (f x) = _ from Rep.to S x 20 h, show toD S (f y) = _ from Rep.to S y 20 h]
  show R.ok (D.bl (PyData.eqv (g f x) (g f y))) S = _
  congr 2
  rw [Bool.eq_iff_iff, Rep.eqv, decide_eq_true_eq]
theorem neRep (f : α → D) [Rep f] [DecidableEq α] (h : dep f ≤ 20) (x y : α) : dNe' (f x) (f y) S = .ok (.bl (!decide (x = y))) S := by
  show (match toD S (f x), toD S (f y) with
    | some p, some q => R.ok (D.bl (!PyData.eqv p q)) S
    | _, _ => .bad) = _
  rw [show toD S (f x) = _ from Rep.to S x 20 h, show toD S (f y) = _ from Rep.to S y 20 h]
  show R.ok (D.bl (!PyData.eqv (g f x) (g f y))) S = _
  congr 3
  rw [Bool.eq_iff_iff, Rep.eqv, decide_eq_true_eq]
theorem eqRepNil (f : α → D) [Rep f] (h : dep f ≤ 19) (xs : List α) : dEq' (.tup (xs.map f)) (.tup []) S = .ok (.bl xs.isEmpty) S := by
  show (match toD S (.tup (xs.map f)), toD S (.tup []) with
    | some p, some q => R.ok (D.bl (PyData.eqv p q)) S
    | _, _ => .bad) = _
  rw [show toD S (.tup (xs.map f)) = some (g (fun xs : List α => D.tup (xs.map f)) xs) from Rep.to (f := fun xs : List α => D.tup (xs.map f)) S xs 20 (by show dep f + 1 ≤ 20; omega)]
  cases xs <;> rfl
theorem neRepNil (f : α → D) [Rep f] (h : dep f ≤ 19) (xs : List α) : dNe' (.tup (xs.map f)) (.tup []) S = .ok (.bl (!xs.isEmpty)) S := by
  show (match toD S (.tup (xs.map f)), toD S (.tup []) with
    | some p, some q => R.ok (D.bl (!PyData.eqv p q)) S
    | _, _ => .bad) = _
  rw [show toD S (.tup (xs.map f)) = some (g (fun xs : List α => D.tup (xs.map f)) xs) from Rep.to (f := fun xs : List α => D.tup (xs.map f)) S xs 20 (by show dep f + 1 ≤ 20; omega)]
  cases xs <;> rfl
theorem eqRepNilL (f : α → D) [Rep f] (h : dep f ≤ 19) (xs : List α) : dEq' (.lst (xs.map f)) (.lst []) S = .ok (.bl xs.isEmpty) S := by
  show (match toD S (.lst (xs.map f)), toD S (.lst []) with
    | some p, some q => R.ok (D.bl (PyData.eqv p q)) S
    | _, _ => .bad) = _
  rw [show toD S (.lst (xs.map f)) = some (g (fun xs : List α => D.lst (xs.map f)) xs) from Rep.to (f := fun xs : List α => D.lst (xs.map f)) S xs 20 (by show dep f + 1 ≤ 20; omega)]
  cases xs <;> rfl
theorem neRepNilL (f : α → D) [Rep f] (h : dep f ≤ 19) (xs : List α) : dNe' (.lst (xs.map f)) (.lst []) S = .ok (.bl (!xs.isEmpty)) S := by
  show (match toD S (.lst (xs.map f)), toD S (.lst []) with
    | some p, some q => R.ok (D.bl (!PyData.eqv p q)) S
    | _, _ => .bad) = _
  rw [show toD S (.lst (xs.map f)) = some (g (fun xs : List α => D.lst (xs.map f)) xs) from Rep.to (f := fun xs : List α => D.lst (xs.map f)) S xs 20 (by show dep f + 1 ≤ 20; omega)]
  cases xs <;> rfl
def lr (rs : List Row) : D := .tup (rs.map rw3)
/-- a web as data -/
def web (ns : List Str) (rs : List Row) : D := .tup [.tup (ns.map .str), .tup (rs.map rw3)]
@[simp] theorem eq_ss {xs ys : List Str} : dEq' (.tup (xs.map D.str)) (.tup (ys.map D.str)) S = .ok (.bl (decide (xs = ys))) S := eqRep (fun xs : List Str => D.tup (xs.map D.str)) (by decide) xs ys
@[simp] theorem ne_ss {xs ys : List Str} : dNe' (.tup (xs.map D.str)) (.tup (ys.map D.str)) S = .ok (.bl (!decide (xs = ys))) S := neRep (fun xs : List Str => D.tup (xs.map D.str)) (by decide) xs ys
@[simp] theorem eq_sl {xs ys : List Str} : dEq' (.lst (xs.map D.str)) (.lst (ys.map D.str)) S = .ok (.bl (decide (xs = ys))) S := eqRep (fun xs : List Str => D.lst (xs.map D.str)) (by decide) xs ys
@[simp] theorem ne_sl {xs ys : List Str} : dNe' (.lst (xs.map D.str)) (.lst (ys.map D.str)) S = .ok (.bl (!decide (xs = ys))) S := neRep (fun xs : List Str => D.lst (xs.map D.str)) (by decide) xs ys
@[simp] theorem eq_s0 {xs : List Str} : dEq' (.tup (xs.map D.str)) (.tup []) S = .ok (.bl xs.isEmpty) S := eqRepNil D.str (by decide) xs
@[simp] theorem ne_s0 {xs : List Str} : dNe' (.tup (xs.map D.str)) (.tup []) S = .ok (.bl (!xs.isEmpty)) S := neRepNil D.str (by decide) xs
@[simp] theorem eq_l0 {xs : List Str} : dEq' (.lst (xs.map D.str)) (.lst []) S = .ok (.bl xs.isEmpty) S := eqRepNilL D.str (by decide) xs
@[simp] theorem ne_l0 {xs : List Str} : dNe' (.lst (xs.map D.str)) (.lst []) S = .ok (.bl (!xs.isEmpty)) S := neRepNilL D.str (by decide) xs
@[simp] theorem rw_0 {r : Row} : dIx (rw3 r) (.int 0) S = .ok (.str r.1) S := ix_tup (by decide) rfl
@[simp] theorem rw_1 {r : Row} : dIx (rw3 r) (.int 1) S = .ok (.str r.2.1) S := ix_tup (by decide) rfl
@[simp] theorem rw_2 {r : Row} : dIx (rw3 r) (.int 2) S = .ok (.str r.2.2) S := ix_tup (by decide) rfl
@[simp ↓] theorem rw_g {e : Fenv} {g : EvGs} {r : Row} : evgTup 3 g (rw3 r) e S = g [.str r.1, .str r.2.1, .str r.2.2] e S := rfl
@[simp] theorem rw_low {n : Nat} {r : Row} : low n (rw3 r) = true := (rfl)
@[simp] theorem web_0 {ns : List Str} {rs : List Row} : dIx (web ns rs) (.int 0) S = .ok (.tup (ns.map .str)) S := ix_tup (by decide) rfl
@[simp] theorem web_1 {ns : List Str} {rs : List Row} : dIx (web ns rs) (.int 1) S = .ok (.tup (rs.map rw3)) S := ix_tup (by decide) rfl
@[simp] theorem web_low {n : Nat} {ns : List Str} {rs : List Row} : low n (web ns rs) = true := by simp [web]
theorem row_fold {t a b : Str} : D.tup [.str t, .str a, .str b] = rw3 (t, a, b) := rfl
theorem web_fold {ns : List Str} {rs : List Row} : D.tup [.tup (ns.map .str), .tup (rs.map rw3)] = web ns rs := rfl
instance webR : Rep fun p : List Str × List Row => web p.1 p.2 := pairR (f := fun xs : List Str => D.tup (xs.map D.str)) (h := fun xs : List Row => D.tup (xs.map rw3))
@[simp] theorem eq_ww {ns ns' : List Str} {rs rs' : List Row} : dEq' (web ns rs) (web ns' rs') S = .ok (.bl (decide (ns = ns' ∧ rs = rs'))) S := by
  have := eqRep (S := S) (fun p : List Str × List Row => web p.1 p.2) (by decide) (ns, rs) (ns', rs')
  simpa using this
@[simp] theorem ne_ww {ns ns' : List Str} {rs rs' : List Row} : dNe' (web ns rs) (web ns' rs') S = .ok (.bl (!decide (ns = ns' ∧ rs = rs'))) S := by
  have := neRep (S := S) (fun p : List Str × List Row => web p.1 p.2) (by decide) (ns, rs) (ns', rs')
  simpa using this
@[simp] theorem eq_rr {rs rs' : List Row} : dEq' (.tup (rs.map rw3)) (.tup (rs'.map rw3)) S = .ok (.bl (decide (rs = rs'))) S := eqRep (fun xs : List Row => D.tup (xs.map rw3)) (by decide) rs rs'
@[simp] theorem ne_rr {rs rs' : List Row} : dNe' (.tup (rs.map rw3)) (.tup (rs'.map rw3)) S = .ok (.bl (!decide (rs = rs'))) S := neRep (fun xs : List Row => D.tup (xs.map rw3)) (by decide) rs rs'
@[simp] theorem eq_pp {a b a' b' : Str} : dEq' (.tup [.str a, .str b]) (.tup [.str a', .str b']) S = .ok (.bl (decide (a = a' ∧ b = b'))) S := by
  have := eqRep (S := S) (fun p : Str × Str => D.tup [.str p.1, .str p.2]) (by decide) (a, b) (a', b')
  simpa using this
@[simp] theorem ne_pp {a b a' b' : Str} : dNe' (.tup [.str a, .str b]) (.tup [.str a', .str b']) S = .ok (.bl (!decide (a = a' ∧ b = b'))) S := by
  have := neRep (S := S) (fun p : Str × Str => D.tup [.str p.1, .str p.2]) (by decide) (a, b) (a', b')
  simpa using this
theorem sortT_rows {m : Bool} {rs : List Row} (hn : (rs.map Prod.fst).Nodup) : dSortT m [.tup (rs.map rw3)] S = mkL m ((rs.mergeSort leR).map rw3) S := by
  have h := sort_rows (S := S) hn
  have h2 : dSorted m [.lst (rs.map rw3)] S = mkL m ((rs.mergeSort leR).map rw3) S := by
    have e : ∀ m, dSorted m [.lst (rs.map rw3)] S = (match (rs.map rw3).mapM (toD S) with
      | some ps => if sortB ps = true then mkL m (pairsD (rs.map rw3) ps) S else .bad
      | none => .bad) := fun _ => rfl
    rw [e] at h ⊢
    revert h
    cases (rs.map rw3).mapM (toD S) with
    | none => intro h; cases h
    | some ps =>
      by_cases c : sortB ps = true
      · simp only [c, if_true]
        intro h
        cases m
        · exact h
        · rw [mkL_f] at h
          injection h with h1
          injection h1 with h2
          rw [h2]
      · simp only [c, if_false]
        intro h
        cases h
  exact h2
@[simp] theorem catTT {m : Bool} {α : Type} {f : α → D} {xs ys : List α} : dAdd' m (.tup (xs.map f)) (.tup (ys.map f)) S = if xs.length + ys.length ≤ 16777216 then .ok (.tup ((xs ++ ys).map f)) S else .bad := by
  show (if fit ((xs.map f).length + (ys.map f).length) = true then R.ok (D.tup (xs.map f ++ ys.map f)) S else .bad) = _
  simp only [fit_le, List.length_map, List.map_append]
@[simp] theorem fst_map {α : Type} {rs : List (Str × α)} : rs.map (fun r => D.str r.1) = (rs.map Prod.fst).map D.str := by rw [List.map_map]; rfl
@[simp] theorem catRow {m : Bool} {rs : List Row} {t a b : Str} : dAdd' m (.tup (rs.map rw3)) (.tup [.tup [.str t, .str a, .str b]]) S = if rs.length + 1 ≤ 16777216 then .ok (.tup ((rs ++ [(t, a, b)]).map rw3)) S else .bad := catTT (ys := [(t, a, b)]) (f := rw3)
@[simp] theorem catOne {m : Bool} {xs : List Str} {y : Str} : dAdd' m (.tup (xs.map .str)) (.tup [.str y]) S = if xs.length + 1 ≤ 16777216 then .ok (.tup ((xs ++ [y]).map .str)) S else .bad := catTT (ys := [y]) (f := D.str)
@[simp] theorem str_app {xs : List Str} {y : Str} : xs.map D.str ++ [D.str y] = (xs ++ [y]).map D.str := by rw [List.map_append]; rfl
@[simp] theorem str_app2 {xs ys : List Str} : xs.map D.str ++ ys.map D.str = (xs ++ ys).map D.str := by rw [List.map_append]
@[simp] theorem sortL_strs {m : Bool} {xs : List Str} : dSorted m [.lst (xs.map .str)] S = mkL m ((xs.mergeSort leS).map .str) S := by
  have h := sort_strs (S := S) xs
  have e : ∀ m, dSorted m [.lst (xs.map .str)] S = (match (xs.map D.str).mapM (toD S) with
    | some ps => if sortB ps = true then mkL m (pairsD (xs.map .str) ps) S else .bad
    | none => .bad) := fun _ => rfl
  rw [e] at h ⊢
  revert h
  cases (xs.map D.str).mapM (toD S) with
  | none => intro h; cases h
  | some ps =>
    by_cases c : sortB ps = true
    · simp only [c, if_true]
      intro h
      cases m
      · exact h
      · rw [mkL_f] at h
        injection h with h1
        injection h1 with h2
        rw [h2]
    · simp only [c, if_false]
      intro h
      cases h
@[simp] theorem sortT_strs {m : Bool} {xs : List Str} : dSortT m [.tup (xs.map .str)] S = mkL m ((xs.mergeSort leS).map .str) S := sortL_strs
theorem sortL_rows {m : Bool} {rs : List Row} (hn : (rs.map Prod.fst).Nodup) : dSorted m [.lst (rs.map rw3)] S = mkL m ((rs.mergeSort leR).map rw3) S := sortT_rows hn
end
end FL

/-! FZ: repr of data: how long it may be -/
namespace FL
open PySem PySem.Spec PyProof.Rows L2
mutual
def cap : PyData → Nat
  | .none => 4
  | .bool _ => 5
  | .int i => ((toString i : String) : Str).length
  | .str x => 10 * x.length + 2
  | .list xs => 3 + capAll xs
  | .tuple xs => 3 + capAll xs
  | .dict _ => 0
def capAll : List PyData → Nat
  | [] => 0
  | x :: xs => (cap x + 2) + capAll xs
end
mutual
def okSh : PyData → Prop
  | .none => True
  | .bool _ => True
  | .int i => i.natAbs.log2 < 1920
  | .str x => ∀ c ∈ x.cps.toList, c < 16 ^ 8
  | .list xs => okShAll xs
  | .tuple xs => okShAll xs
  | .dict _ => False
def okShAll : List PyData → Prop
  | [] => True
  | x :: xs => okSh x ∧ okShAll xs
end
theorem join_le : ∀ ts : List Str, (Str.join ", " ts).length ≤ piled ts
  | [] => by
    show (Str.join ", " []).length ≤ 0
    decide
  | t :: ts => by
    have := join_length_add (t :: ts) (by simp)
    omega
theorem textFrom_le : ∀ (ts : List Str) (k : Nat) (acc : Str), (textFrom k acc ts).length ≤ acc.length + piled ts
  | [], k, acc => by show acc.length ≤ _; omega
  | t :: ts, k, acc => by
    show (textFrom (k + 1) (acc ++ (if k > 0 then ", " else "" : String) ++ t) ts).length ≤ _
    have h := textFrom_le ts (k + 1) (acc ++ (if k > 0 then ", " else "" : String) ++ t)
    rw [strLen_append, strLen_append] at h
    have h2 : (((if k > 0 then ", " else "" : String) : Str)).length ≤ 2 := by split <;> decide
    rw [piled_cons]
    omega
mutual
theorem shown_le : ∀ d : PyData, okSh d → d.showable = true ∧ d.shown.length ≤ cap d
  | .none, _ => ⟨by simp [PyData.showable], by simp only [PyData.shown, cap]; decide⟩
  | .bool b, _ => ⟨by simp [PyData.showable], by simp only [PyData.shown, cap]; cases b <;> decide⟩
  | .int i, h => ⟨by simp only [PyData.showable]; exact decide_eq_true h, by simp only [PyData.shown, cap]; exact Nat.le_refl _⟩
  | .str x, h => ⟨by simp [PyData.showable], by simp only [PyData.shown, cap]; exact StrLaws.reprText_len x h⟩
  | .list xs, h => by
    obtain ⟨h1, h2⟩ := shownAll_le xs h
    refine ⟨by simpa [PyData.showable] using h1, ?_⟩
    simp only [PyData.shown, cap]
    unfold listText
    rw [strLen_append]
    have h3 := textFrom_le (PyData.shownAll xs) 0 "["
    have h4 : (("[" : String) : Str).length = 1 := rfl
    have h5 : (("]" : String) : Str).length = 1 := rfl
    omega
  | .tuple xs, h => by
    obtain ⟨h1, h2⟩ := shownAll_le xs h
    refine ⟨by simpa [PyData.showable] using h1, ?_⟩
    simp only [PyData.shown, cap]
    unfold tupleText
    rw [strLen_append, strLen_append]
    have h3 := join_le (PyData.shownAll xs)
    have h4 : (("(" : String) : Str).length = 1 := rfl
    have h5 : ((if (PyData.shownAll xs).length == 1 then ",)" else ")" : String) : Str).length ≤ 2 := by split <;> decide
    omega
  | .dict kvs, h => h.elim
theorem shownAll_le : ∀ xs : List PyData, okShAll xs → PyData.showableAll xs = true ∧ piled (PyData.shownAll xs) ≤ capAll xs
  | [], _ => ⟨by simp [PyData.showableAll], by simp [PyData.shownAll, piled]⟩
  | x :: xs, h => by
    obtain ⟨h1, h2⟩ := shown_le x h.1
    obtain ⟨h3, h4⟩ := shownAll_le xs h.2
    refine ⟨by simp [PyData.showableAll, h1, h3], ?_⟩
    simp only [PyData.shownAll, capAll]
    rw [piled_cons]
    omega
end
theorem repr_of {S : Store} {d : D} {p : PyData} (h : toD S d = some p) (hd : d ≠ .dct []) (k : okSh p) (hc : cap p ≤ 16777216) : dRepr [d] S = .ok (.str p.shown) S := by
  obtain ⟨h1, h2⟩ := shown_le p k
  have e : dRepr [d] S = (match toD S d with
    | some p => if (p.showable && fit p.shown.length) = true then R.ok (D.str p.shown) S else .bad
    | none => .bad) := by
    cases d with
    | dct kvs => cases kvs with
      | nil => exact absurd rfl hd
      | cons _ _ => rfl
    | _ => rfl
  rw [e, h]
  have h3 : (p.showable && fit p.shown.length) = true := by rw [h1, Bool.true_and, fit_le]; omega
  show (if (p.showable && fit p.shown.length) = true then R.ok (D.str p.shown) S else .bad) = _
  rw [if_pos h3]
theorem okShAll_map {α : Type} {f : α → PyData} : ∀ {xs : List α}, (∀ x ∈ xs, okSh (f x)) → okShAll (xs.map f)
  | [], _ => trivial
  | x :: xs, h => ⟨h x List.mem_cons_self, okShAll_map fun y hy => h y (List.mem_cons_of_mem _ hy)⟩
theorem capAll_map {α : Type} {f : α → PyData} {n : Nat} : ∀ {xs : List α}, (∀ x ∈ xs, cap (f x) ≤ n) → capAll (xs.map f) ≤ xs.length * (n + 2)
  | [], _ => by simp [capAll]
  | x :: xs, h => by
    have h1 := h x List.mem_cons_self
    have h2 := capAll_map (n := n) (xs := xs) fun y hy => h y (List.mem_cons_of_mem _ hy)
    show (cap (f x) + 2) + capAll (xs.map f) ≤ _
    rw [List.length_cons, Nat.add_mul, Nat.one_mul]
    omega
theorem name_sh {s : Str} (h : nameOk s) : okSh (.str s) ∧ cap (.str s) ≤ 82 := by
  obtain ⟨h1, h2, h3⟩ := h
  refine ⟨fun c hc => ?_, ?_⟩
  · have := h3 c hc
    omega
  · show 10 * s.length + 2 ≤ 82
    omega
theorem row_sh {r : Row} (h1 : nameOk r.1) (h2 : nameOk r.2.1) (h3 : nameOk r.2.2) : okSh (rwP r) ∧ cap (rwP r) ≤ 300 := by
  obtain ⟨a1, a2⟩ := name_sh h1
  obtain ⟨b1, b2⟩ := name_sh h2
  obtain ⟨c1, c2⟩ := name_sh h3
  refine ⟨⟨a1, b1, c1, trivial⟩, ?_⟩
  simp only [rwP, cap, capAll] at *
  omega
theorem repr_web {ns : List Str} {rs : List Row} (hn : ∀ s ∈ ns, nameOk s) (hr : ∀ r ∈ rs, nameOk r.1 ∧ r.2.1 ∈ ns ∧ r.2.2 ∈ ns) (hl : ns.length ≤ 1000) (hrl : rs.length ≤ 1000) : ∃ z, ∀ S, dRepr [web ns rs] S = .ok (.str z) S := by
  have h1 : okShAll (ns.map PyData.str) := okShAll_map fun s hs => (name_sh (hn s hs)).1
  have h2 : okShAll (rs.map rwP) := okShAll_map fun r h => (row_sh (hr r h).1 (hn _ (hr r h).2.1) (hn _ (hr r h).2.2)).1
  have h3 := capAll_map (n := 82) (f := PyData.str) (xs := ns) fun s hs => (name_sh (hn s hs)).2
  have h4 := capAll_map (n := 300) (f := rwP) (xs := rs) fun r h => (row_sh (hr r h).1 (hn _ (hr r h).2.1) (hn _ (hr r h).2.2)).2
  refine ⟨_, fun S => repr_of (Rep.to (f := fun p : List Str × List Row => web p.1 p.2) S (ns, rs) 20 (by decide)) (fun e => by cases e) ⟨h1, h2, trivial⟩ ?_⟩
  show 3 + ((3 + capAll (ns.map PyData.str) + 2) + ((3 + capAll (rs.map rwP) + 2) + 0)) ≤ _
  omega
def reprW (ns : List Str) (rs : List Row) : Str := (Rep.g (f := fun p : List Str × List Row => web p.1 p.2) (ns, rs)).shown
theorem repr_web' {S : Store} {ns : List Str} {rs : List Row} (hn : ∀ s ∈ ns, nameOk s) (hr : ∀ r ∈ rs, nameOk r.1 ∧ r.2.1 ∈ ns ∧ r.2.2 ∈ ns ∧ r.2.1 ≠ r.2.2) (hl : ns.length ≤ 1000) (hrl : rs.length ≤ 1000) : dRepr [web ns rs] S = .ok (.str (reprW ns rs)) S := by
  have h1 : okShAll (ns.map PyData.str) := okShAll_map fun s hs => (name_sh (hn s hs)).1
  have h2 : okShAll (rs.map rwP) := okShAll_map fun r h => (row_sh (hr r h).1 (hn _ (hr r h).2.1) (hn _ (hr r h).2.2.1)).1
  have h3 := capAll_map (n := 82) (f := PyData.str) (xs := ns) fun s hs => (name_sh (hn s hs)).2
  have h4 := capAll_map (n := 300) (f := rwP) (xs := rs) fun r h => (row_sh (hr r h).1 (hn _ (hr r h).2.1) (hn _ (hr r h).2.2.1)).2
  refine repr_of (Rep.to (f := fun p : List Str × List Row => web p.1 p.2) S (ns, rs) 20 (by decide)) (fun e => by cases e) ⟨h1, h2, trivial⟩ ?_
  show 3 + ((3 + capAll (ns.map PyData.str) + 2) + ((3 + capAll (rs.map rwP) + 2) + 0)) ≤ _
  omega
end FL

/-! GA: more constructs: dict(..), d.get, x += e, d[k] += e, split, index -/
namespace FL
open PySem PySem.Spec PyProof.Rows L2
/-! ### dict(rows), dict(d) -/
def toKV : List D → Option (List (Key × D))
  | [] => some []
  | .tup [k, v] :: r => match toKey k, toKV r with
    | some k, some r => some ((k, v) :: r)
    | _, _ => none
  | _ :: _ => none
def mergeD (kvs more : List (Key × D)) : List (Key × D) := more.foldl (fun acc kv => putD acc kv.1 kv.2) kvs
def dDict (m : Bool) (xs : List D) (S : Store) : R D := match xs with
  | [d] => match sqL S d with
    | some ds => match toKV ds with
      | some kvs => mkD m (mergeD [] kvs) S
      | none => .bad
    | none => match sqD S d with
      | some kvs => mkD m kvs S
      | none => .bad
  | _ => .bad
section
variable {K : PySem.W.Frag} {ι : Io} {H : Hp} {S : Store}
theorem toKV_rep (s : Sim K ι H S) : ∀ {ds : List D} {vs : List V} {kvs : List (Key × D)}, RepVs K ι H vs ds → toKV ds = some kvs →
    ∃ (ps : List Addr) (kv : List (Key × V)), vs = ps.map V.ref ∧ Paired (fun p kv => SqT K H p [kV kv.1, kv.2]) ps kv ∧ RepKs K ι H kv kvs
  | [], vs, kvs, r, h => by
    cases h
    have r : vs = [] := r
    subst r
    exact ⟨[], [], rfl, .nil, rfl⟩
  | d :: ds, vs, kvs, r, h => by
    obtain ⟨v, vs', rfl, r1, r2⟩ := r
    unfold toKV at h
    split at h
    · rename_i e
      cases e
    · rename_i k y r' e
      injection e with e1 e2
      subst e1 e2
      split at h
      · rename_i k' r'' q1 q2
        cases h
        obtain ⟨ps, kv, rfl, p1, p2⟩ := toKV_rep s r2 q2
        obtain ⟨a, xs, rfl, h1, h2⟩ := r1
        obtain ⟨x1, x2, rfl, h3, h4⟩ := RepVs.two h2
        have := toKey_rep h3 q1
        subst this
        exact ⟨a :: ps, (k', x2) :: kv, rfl, .cons (SqT.of h1) p1, ⟨x2, kv, rfl, h4, p2⟩⟩
      · cases h
    · cases h
theorem RepKs.merge : ∀ {kv0 : List (Key × V)} {kvs0 : List (Key × D)} {kv : List (Key × V)} {kvs : List (Key × D)}, RepKs K ι H kv kvs → RepKs K ι H kv0 kvs0 → RepKs K ι H (mergeK kv0 kv) (mergeD kvs0 kvs)
  | kv0, kvs0, kv, [], r, r0 => by
    have r : kv = [] := r
    subst r
    exact r0
  | kv0, kvs0, kv, (k, d) :: kvs, r, r0 => by
    obtain ⟨x, kv', rfl, h1, h2⟩ := r
    exact RepKs.merge (kv0 := putK kv0 k x) (kvs0 := putD kvs0 k d) h2 (RepKs.put h1 r0)
abbrev rDictA (K : PySem.W.Frag) : List V → Hp → VK → Prop := fun xs H Q => (∃ (a : Addr) (ps : List Addr) (kvs : List (Key × V)), xs = [.ref a] ∧ SqL K H a (ps.map V.ref) ∧ Paired (fun p kv => SqT K H p [kV kv.1, kv.2]) ps kvs ∧
    ∀ p, H p = none → Q (.ref p) (upd H p (.dK (mergeK [] kvs)))) ∨ ∃ (a : Addr) (kvs : List (Key × V)), xs = [.ref a] ∧ Rd H a (.dK kvs) ∧ ∀ p, H p = none → Q (.ref p) (upd H p (.dK kvs))
theorem k_dict {m : Bool} : OkN K (rDictA K) (dDict m) := by
  intro W σ ι H S xs ds Q s r h
  cases ds with
  | nil => exact h.elim
  | cons d r2 =>
    cases r2 with
    | cons _ _ => exact h.elim
    | nil =>
      obtain ⟨x, rfl, rx⟩ := r.one
      have h' : FinE K W ι H σ (Want K Q) (match sqL S d with
        | some ds => (match toKV ds with
          | some kvs => mkD m (mergeD [] kvs) S
          | none => .bad)
        | none => match sqD S d with
          | some kvs => mkD m kvs S
          | none => .bad) := h
      cases hp : sqL S d with
      | some es =>
        rw [hp] at h'
        have h' : FinE K W ι H σ (Want K Q) (match toKV es with
          | some kvs => mkD m (mergeD [] kvs) S
          | none => .bad) := h'
        cases hk : toKV es with
        | none => rw [hk] at h'; exact h'.elim
        | some kvs =>
          rw [hk] at h'
          obtain ⟨a, ys, rfl, h1, h2⟩ := repSqL s rx hp
          obtain ⟨ps, kv, rfl, p1, p2⟩ := toKV_rep s h2 hk
          exact .inl ⟨a, ps, kv, rfl, h1, p1, fun p hp => mkD_ok s (RepKs.merge (kv0 := []) (kvs0 := []) p2 rfl) h' hp⟩
      | none =>
        rw [hp] at h'
        have h' : FinE K W ι H σ (Want K Q) (match sqD S d with
          | some kvs => mkD m kvs S
          | none => .bad) := h'
        cases hk : sqD S d with
        | none => rw [hk] at h'; exact h'.elim
        | some kvs =>
          rw [hk] at h'
          obtain ⟨a, kv, rfl, h1, h2⟩ := repSqD s rx hk
          exact .inr ⟨a, kv, rfl, h1, fun p hp => mkD_ok s h2 h' hp⟩
end
theorem cc_dict {X : Cx} (hc : X.calm = true) : CallR X (.type "dict") (rDictA X.K) := (call_dictP hc).or call_dictD
/-! ### d.update(d2) -/
theorem mergeK_le : ∀ (more kvs : List (Key × V)), (mergeK kvs more).length ≤ kvs.length + more.length
  | [], kvs => Nat.le_refl _
  | p :: more, kvs => by
    have h := mergeK_le more (putK kvs p.1 p.2)
    have h2 := length_putK kvs p.1 p.2
    show (mergeK (putK kvs p.1 p.2) more).length ≤ _
    rw [List.length_cons]
    omega
abbrev rUpd : V → List V → Hp → VK → Prop := fun x xs H Q => ∃ (a b : Addr) (kvs more : List (Key × V)), x = .ref a ∧ xs = [.ref b] ∧ H a = some (.dK kvs) ∧ Rd H b (.dK more) ∧ a ≠ b ∧ kvs.length + more.length ≤ sizeLine ∧ Q .non (upd H a (.dK (mergeK kvs more)))
theorem mt_dupdate {X : Cx} : MtR X "dict.update" rUpd := by
  intro pins s σ H x xs v us Q I rx rv h
  obtain ⟨a, b, kvs, more, rfl, rfl, hH, hb, hab, hz, q⟩ := h
  cases rx
  obtain ⟨u1, rfl, r1⟩ := vals1 rv
  cases r1
  obtain ⟨z, hd, vs, rel, dd⟩ := dk_of I.hok hH
  obtain ⟨z2, hd2, vs2, rel2, dd2⟩ := dk_rd I.hok hb
  have hl : (mergeK kvs more).length ≤ sizeLine := by have := mergeK_le more kvs; omega
  refine call_meetsIn PySem.F.slot_dict_update dd.typeIs PySem.F.entry_dict_update (PySem.F.args_dict_update_2 _ _) (meets_dict_update (mixKind X.prog X.w) a b hab hd2)
    ⟨vs, vs2, dd, dd2, by rw [← rel.length, ← rel2.length]; exact hz, fun h' dd' _ hs => ⟨.non, _, d_write I (by rw [hH]; exact True.intro) hs ?_ (dk_new hl hd (KV.merge rel2 rel) dd'), rfl, q⟩⟩
  exact let ⟨q, _, _, hq, _⟩ := dd'; ⟨q, hq⟩
def D.isRef (n : Nat) : D → Bool
  | .ref k => decide (k = n)
  | _ => false
def mUpdate (d : D) (xs : List D) (S : Store) : R D := match dctAt S d, xs with
  | some (n, kvs), [y] => match sqD S y with
    | some more => if y.isRef n = true then .bad else if fit (kvs.length + more.length) = true then .ok .non (S.set n (.dct (mergeD kvs more))) else .bad
    | none => .bad
  | _, _ => .bad
section
variable {X : Cx} {W : WX} {ι : Io} {H : Hp} {S : Store}
/-- a dict's method of one argument -/
theorem pe_dm {name : Str} {id : String} {r : V → List V → Hp → VK → Prop} {o e : Expr} {apos cpos : Pos} {td ty : TE} (slot : Slot "dict" name id) (hty : typeOf (.builtin id) = pure (.type "method_descriptor")) (hm : MtR X id r) (ho : PE X o td) (he : PE X e ty) (m : M1 X o name apos e cpos) :
    PE X (.Call (.Attribute o name apos) [e] [] cpos) (fun σ H Q => td σ H fun x H1 => ∃ a, x = .ref a ∧ IsD H1 a ∧ ty σ H1 fun y H2 => r (.ref a) [y] H2 Q) := by
  refine ⟨fun pins s σ H Q I h => ?_⟩
  refine wpAny_Call_method m.base m.few m.line PySem.F.plainAttrs_dict slot hty (thn (ho.run pins s σ H _ I h) fun u s1 ⟨x, H1, I1, rx, a, ex, d, q1⟩ => ?_)
  subst ex
  obtain rfl : u = Value.ref a := rx
  obtain ⟨t1, t2, _⟩ := isD_at I1 d
  refine ⟨t1, t2, ?_⟩
  rw [m.trees]
  refine Calls.callWith_builtin rfl (Calls.evalArgs_plain (Calls.spliced_cons (thn (he.run pins s1 σ H1 _ I1 q1) fun w2 s2 ⟨y, H2, I2, ry, q2⟩ => Calls.spliced_nil ?_)))
  exact hm pins s2 σ H2 (.ref a) [y] (.ref a) [w2] Q I2 rfl (.cons ry .nil) q2
theorem IsD.of (s : Sim X.K ι H S) {x : V} {d : D} {kvs : List (Key × D)} (r : RepV X.K ι H x d) (e : sqD S d = some kvs) : ∃ a, x = .ref a ∧ IsD H a := by
  obtain ⟨a, kv, rfl, h1, h2⟩ := repSqD s r e
  exact ⟨a, rfl, .inl ⟨kv, h1⟩⟩
/-- d.name(e), d a dict -/
def evDM (f : D → D → Store → R D) (a b : Ev) : Ev := fun e S => (a e S).bind fun x S1 => if (sqD S1 x).isSome = true then (b e S1).bind fun y S2 => f x y S2 else .bad
def dGetO (x y z : D) (S : Store) : R D := match sqD S x with
  | some kvs => match toKey y with
    | some k => .ok ((valD kvs k).getD z) S
    | none => .bad
  | none => .bad
def evGet2 (a b c : Ev) : Ev := fun e S => (a e S).bind fun x S1 => if (sqD S1 x).isSome = true then (b e S1).bind fun y S2 => (c e S2).bind fun z S3 => dGetO x y z S3 else .bad
theorem f_dget1 {o k : Expr} {a b : Ev} {apos cpos : Pos} (hu : X.A.units + 64 < cLine) (ho : PEF X W o a) (hk : PEF X W k b) (m : M1 X o "get" apos k cpos) : PEF X W (.Call (.Attribute o "get" apos) [k] [] cpos) (evDM (fun x y => dGetO x y .non) a b) := by
  refine PE.weak (pe_dget1 (by omega) ho hk m) ?_
  rintro σ H Q ⟨ι, e, S, se, s, h⟩
  refine ⟨ι, e, S, se, s, FinE.mono ?_ (FinE.bind h)⟩
  rintro ι1 H1 d x1 ⟨S1, _, y1, s1, h1⟩ v rv
  by_cases c : (sqD S1 d).isSome = true
  · rw [if_pos c] at h1
    obtain ⟨kvs, hq⟩ := Option.isSome_iff_exists.mp c
    obtain ⟨p, rfl, hd⟩ := IsD.of s1 rv hq
    refine ⟨p, rfl, hd, ι1, e, S1, se.ext y1, s1, FinE.mono ?_ (FinE.bind h1)⟩
    rintro ι2 H2 d2 x2 ⟨S2, _, y2, s2, h2⟩ w rw'
    have rv2 := RepV.ext y2 _ _ rv
    have h2 : FinE X.K W ι2 H2 σ (Want X.K Q) (match sqD S2 d with
      | some kvs => (match toKey d2 with
        | some k => R.ok ((valD kvs k).getD .non) S2
        | none => .bad)
      | none => .bad) := h2
    cases q : sqD S2 d with
    | none => rw [q] at h2; exact h2.elim
    | some kvs2 =>
      rw [q] at h2
      cases q2 : toKey d2 with
      | none => rw [q2] at h2; exact h2.elim
      | some k =>
        rw [q2] at h2
        have h2 : FinE X.K W ι2 H2 σ (Want X.K Q) (.ok ((valD kvs2 k).getD .non) S2) := h2
        obtain ⟨p', o', e', g, hv⟩ := dget_of s2 rv2 rw' q q2
        cases e'
        refine ⟨o', g, ?_⟩
        cases q3 : valD kvs2 k with
        | none => rw [q3] at h2 hv; subst hv; exact here s2 h2 rfl
        | some z =>
          rw [q3] at h2 hv
          obtain ⟨v, rfl, rv⟩ := hv
          exact here s2 h2 rv
  · rw [if_neg c] at h1; exact h1.elim
theorem f_dget2 {o k z : Expr} {a b c : Ev} {apos cpos : Pos} (hu : X.A.units + 64 < cLine) (ho : PEF X W o a) (hk : PEF X W k b) (hz : PEF X W z c) (m : M2 X o "get" apos k z cpos) : PEF X W (.Call (.Attribute o "get" apos) [k, z] [] cpos) (evGet2 a b c) := by
  refine PE.weak (pe_dget2 (by omega) ho hk hz m) ?_
  rintro σ H Q ⟨ι, e, S, se, s, h⟩
  refine ⟨ι, e, S, se, s, FinE.mono ?_ (FinE.bind h)⟩
  rintro ι1 H1 d x1 ⟨S1, _, y1, s1, h1⟩ v rv
  by_cases c : (sqD S1 d).isSome = true
  · rw [if_pos c] at h1
    obtain ⟨kvs, hq⟩ := Option.isSome_iff_exists.mp c
    obtain ⟨p, rfl, hd⟩ := IsD.of s1 rv hq
    refine ⟨p, rfl, hd, ι1, e, S1, se.ext y1, s1, FinE.mono ?_ (FinE.bind h1)⟩
    rintro ι2 H2 d2 x2 ⟨S2, _, y2, s2, h2⟩ w rw'
    refine ⟨ι2, e, S2, (se.ext y1).ext y2, s2, FinE.mono ?_ (FinE.bind h2)⟩
    rintro ι3 H3 d3 x3 ⟨S3, _, y3, s3, h3⟩ w3 rw3
    have rv2 := RepV.ext (y2.trans y3) _ _ rv
    have rk := RepV.ext y3 _ _ rw'
    unfold dGetO at h3
    cases q : sqD S3 d with
    | none => rw [q] at h3; exact h3.elim
    | some kvs2 =>
      rw [q] at h3
      cases q2 : toKey d2 with
      | none => rw [q2] at h3; exact h3.elim
      | some k =>
        rw [q2] at h3
        have h3 : FinE X.K W ι3 H3 σ (Want X.K Q) (.ok ((valD kvs2 k).getD d3) S3) := h3
        obtain ⟨p', o', e', g, hv⟩ := dget_of s3 rv2 rk q q2
        cases e'
        refine ⟨o', g, ?_⟩
        cases q3 : valD kvs2 k with
        | none => rw [q3] at h3 hv; subst hv; exact here s3 h3 rw3
        | some z =>
          rw [q3] at h3 hv
          obtain ⟨v, rfl, rv⟩ := hv
          exact here s3 h3 rv
  · rw [if_neg c] at h1; exact h1.elim
/-- d.update(d2) -/
def dUpd (x y : D) (S : Store) : R D := mUpdate x [y] S
theorem f_dupd {o k : Expr} {a b : Ev} {apos cpos : Pos} (ho : PEF X W o a) (hk : PEF X W k b) (m : M1 X o "update" apos k cpos) : PEF X W (.Call (.Attribute o "update" apos) [k] [] cpos) (evDM dUpd a b) := by
  refine PE.weak (pe_dm PySem.F.slot_dict_update PySem.F.type_dict_update mt_dupdate ho hk m) ?_
  rintro σ H Q ⟨ι, e, S, se, s, h⟩
  refine ⟨ι, e, S, se, s, FinE.mono ?_ (FinE.bind h)⟩
  rintro ι1 H1 d x1 ⟨S1, _, y1, s1, h1⟩ v rv
  by_cases c : (sqD S1 d).isSome = true
  · rw [if_pos c] at h1
    obtain ⟨kvs, hq⟩ := Option.isSome_iff_exists.mp c
    obtain ⟨p, rfl, hd⟩ := IsD.of s1 rv hq
    refine ⟨p, rfl, hd, ι1, e, S1, se.ext y1, s1, FinE.mono ?_ (FinE.bind h1)⟩
    rintro ι2 H2 d2 x2 ⟨S2, _, y2, s2, h2⟩ w rw'
    have rv2 := RepV.ext y2 _ _ rv
    unfold dUpd mUpdate at h2
    cases q : dctAt S2 d with
    | none => rw [q] at h2; exact h2.elim
    | some pr =>
      obtain ⟨n, kvs2⟩ := pr
      rw [q] at h2
      have h2 : FinE X.K W ι2 H2 σ (Want X.K Q) (match sqD S2 d2 with
        | some more => if d2.isRef n = true then .bad else if fit (kvs2.length + more.length) = true then .ok .non (S2.set n (.dct (mergeD kvs2 more))) else .bad
        | none => .bad) := h2
      cases q2 : sqD S2 d2 with
      | none => rw [q2] at h2; exact h2.elim
      | some more =>
        rw [q2] at h2
        have h2 : FinE X.K W ι2 H2 σ (Want X.K Q) (if d2.isRef n = true then .bad else if fit (kvs2.length + more.length) = true then .ok .non (S2.set n (.dct (mergeD kvs2 more))) else .bad) := h2
        by_cases c1 : d2.isRef n = true
        · rw [if_pos c1] at h2; exact h2.elim
        · rw [if_neg c1] at h2
          by_cases c2 : fit (kvs2.length + more.length) = true
          · rw [if_pos c2] at h2
            obtain ⟨a', kv, e', g1, g2, g3⟩ := dctAt_ok s2 rv2 q
            cases e'
            obtain ⟨b', kv2, rfl, g4, g5⟩ := repSqD s2 rw' q2
            refine ⟨p, b', kv, kv2, rfl, rfl, g2, g4, ?_, by rw [g3.length, g5.length]; exact fit_ok c2, ?_⟩
            · intro e2
              subst e2
              cases d2 with
              | ref k =>
                obtain ⟨a2, e3, g6⟩ := rw'
                cases e3
                have : k = n := nd_ix s2.nd g6 g1
                exact c1 (decide_eq_true this)
              | dct kvs3 =>
                obtain ⟨a2, _, e3, _, g6, _⟩ := rw'
                cases e3
                exact g6.1 (List.mem_of_getElem? g1)
              | _ => cases q2
            · have g7 := dctAt_at q
              exact h2 _ _ (Ext.write s2 g1 g7 rfl) (s2.write g1 g7 rfl ⟨_, upd_same, RepKs.ext (Ext.write s2 g1 g7 rfl) _ _ (RepKs.merge g5 g3)⟩) .non rfl
          · rw [if_neg c2] at h2; exact h2.elim
  · rw [if_neg c] at h1; exact h1.elim
end
/-! ### x += e, d[k] += e -/
section
variable {X : Cx} {W : WX} {ι : Io} {H : Hp} {S : Store}
def iAdd : D → D → Store → R D := fI (fun _ _ => true) fun i j => .int (i + j)
def augK (i : Nat) (f : D → D → Store → R D) (a : Ev) : Option (Option D) → EvS
  | some (some x) => fun e S => (a e S).bindS e fun y S1 => (f x y S1).bindS e fun z S2 => .nx (e.set i (some z)) S2
  | _ => fun _ _ => .bad
def evAug (i : Nat) (f : D → D → Store → R D) (a : Ev) : EvS := fun e S => augK i f a e[i]? e S
theorem k_ipI {K : PySem.W.Frag} {g : Int → Int → Int} : Ok2 K (ipI g) (fI (fun _ _ => true) fun i j => .int (g i j)) := by
  intro W σ ι H S x y d e Q s rx ry h
  match d, e, h with
  | .int i, .int j, h => exact ⟨i, j, rx, ry, here s h rfl⟩
theorem fs_aug {i : Nat} {x : Str} {e : Expr} {a : Ev} {op : Operator} {ti : TIp} {f : D → D → Store → R D} {pos pos' : Pos} (hN : X.N.Nodup) (hi : X.N[i]? = some x) (hx : Loc X.env.scope x) (ho : PIp X op ti) (hf2 : Ok2 X.K ti f) (he : PEF X W e a) (hf : X.fn x = true ∨ X.env.scope.names.lookup x = some .local := by first | exact .inl rfl | exact .inr rfl | assumption) :
    PSF X W (.AugAssign (.Name x pos') op e pos) (evAug i f a) := by
  refine PS.weak (ps_aug hN hi hx he ho hf) ?_
  rintro D' σ H ⟨ι, ev, S, se, s, h⟩
  unfold evAug at h
  cases q : ev[i]? with
  | none => rw [q] at h; exact h.elim
  | some o =>
    cases o with
    | none => rw [q] at h; exact h.elim
    | some d =>
      rw [q] at h
      obtain ⟨v, h1, rv⟩ := se.get i d q
      refine ⟨v, h1, ι, ev, S, se, s, FinE.mono ?_ (FinE.bindS se h)⟩
      rintro ι1 H1 d1 x1 ⟨S1, _, y1, se1, s1, h1⟩ w rw'
      refine hf2 W σ ι1 H1 S1 v w d d1 _ s1 (RepV.ext y1 _ _ rv) rw' (FinE.mono ?_ (FinE.bindS se1 h1))
      rintro ι2 H2 d2 x2 ⟨S2, _, y2, se2, s2, h2⟩ z rz
      exact h2 _ H2 ι2 (Ext.refl _ _) (se2.set rz) s2
def evDAug (f : D → D → Store → R D) (d k a : Ev) : EvS := fun e S => (d e S).bindS e fun x S1 => (k e S1).bindS e fun y S2 => (dGet x y S2).bindS e fun w S3 => (a e S3).bindS e fun u S4 => (f w u S4).bindS e fun z S5 => putK3 x y z e S5
theorem k_rAdd {K : PySem.W.Frag} : Ok2 K rAdd iAdd := k_ipI
theorem k_rSub {K : PySem.W.Frag} : Ok2 K rSub dSub := k_ipI (g := fun i j => i - j)
theorem fs_daug {o i value : Expr} {ed ek ev : Ev} {op : Operator} {rd : V → V → Hp → VK → Prop} {f : D → D → Store → R D} {pos tpos : Pos} (hu : X.A.units + 64 < cLine) (hop : InOp X op rd) (hf : Ok2 X.K rd f) (ho : PEF X W o ed) (hi : PEF X W i ek) (hv : PEF X W value ev)
    (ha : ∀ ov iv new, augStore i ov iv new = (do holding [new, ov, iv] (setItem ov iv new); release [new, ov, iv] []; pure .next) := by intros; rfl) : PSF X W (.AugAssign (.Subscript o i tpos) op value pos) (evDAug f ed ek ev) := by
  refine PS.weak (ps_daug (by omega) ho hi hv hop ha) ?_
  rintro D' σ H ⟨ι, e, S, se, s, h⟩
  refine ⟨ι, e, S, se, s, FinE.mono ?_ (FinE.bindS se h)⟩
  rintro ι1 H1 dd x1 ⟨S1, _, _, se1, s1, h1⟩ x rx
  refine ⟨ι1, e, S1, se1, s1, FinE.mono ?_ (FinE.bindS se1 h1)⟩
  rintro ι2 H2 dk x2 ⟨S2, _, _, se2, s2, h2⟩ y ry
  have rx2 := RepV.ext x2 _ _ rx
  unfold dGet at h2
  cases q : sqD S2 dd with
  | none => rw [q] at h2; exact h2.elim
  | some kvs =>
    rw [q] at h2
    cases q2 : toKey dk with
    | none => rw [q2] at h2; exact h2.elim
    | some k =>
      rw [q2] at h2
      have h2 : FinS X.K W ι2 H2 D' ((match valD kvs k with
        | some d => R.ok d S2
        | none => R.bad).bindS e fun w S3 => (ev e S3).bindS e fun u S4 => (f w u S4).bindS e fun z S5 => putK3 dd dk z e S5) := h2
      obtain ⟨a, o', rfl, g, hv'⟩ := dget_of s2 rx2 ry q q2
      cases q3 : valD kvs k with
      | none => rw [q3] at h2; exact h2.elim
      | some z =>
        rw [q3] at h2 hv'
        obtain ⟨v, rfl, rv⟩ := hv'
        simp only [R.bindS_ok] at h2
        refine ⟨a, v, rfl, g, ι2, e, S2, se2, s2, FinE.mono ?_ (FinE.bindS se2 h2)⟩
        rintro ι3 H3 du x3 ⟨S3, _, y3, se3, s3, h3⟩ u ru
        refine hf W σ ι3 H3 S3 v u z du _ s3 (RepV.ext y3 _ _ rv) ru (FinE.mono ?_ (FinE.bindS se3 h3))
        rintro ι4 H4 dz x4 ⟨S4, _, y4, se4, s4, h4⟩ w rw'
        unfold putK3 at h4
        cases q4 : dctAt S4 dd with
        | none => rw [q4] at h4; exact h4.elim
        | some p =>
          obtain ⟨n, kvs4⟩ := p
          rw [q4] at h4
          rw [q2] at h4
          have h4 : FinS X.K W ι4 H4 D' (if fit (kvs4.length + 1) = true then .nx e (S4.set n (.dct (putD kvs4 k dz))) else .bad) := h4
          by_cases c : fit (kvs4.length + 1) = true
          · rw [if_pos c] at h4
            obtain ⟨a', kv, e', g1, g2, g3⟩ := dctAt_ok s4 (RepV.ext (y3.trans y4) _ _ rx2) q4
            cases e'
            have ey : y = kV k := toKey_rep ry q2
            have r5 : RepKs X.K ι4 H4 (putK kv k w) (putD kvs4 k dz) := RepKs.put rw' g3
            refine ⟨upd H4 a (.dK (putK kv k w)), by rw [ey]; exact DPut.k g2 (by have := fit_ok c; have := g3.length; omega), ?_⟩
            have g4 := dctAt_at q4
            exact h4 σ _ _ (Ext.write s4 g1 g4 rfl) (se4.ext (Ext.write s4 g1 g4 rfl)) (s4.write g1 g4 rfl ⟨_, upd_same, RepKs.ext (Ext.write s4 g1 g4 rfl) _ _ r5⟩)
          · rw [if_neg c] at h4; exact h4.elim
/-! ### s.split(t), xs.index(y), xs.insert(i, y) -/
def mSplit (m : Bool) (d : D) (xs : List D) (S : Store) : R D := match d, xs with
  | .str a, [.str b] => if (b.length == 0) = true then .bad else if fit (a.length + 2) = true then mkL m ((Txt.split a b).map .str) S else .bad
  | _, _ => .bad
theorem k_split {K : PySem.W.Frag} {m : Bool} : OkM K (fun x xs H Q => ∃ a b, x = .str a ∧ xs = [.str b] ∧ (b.length == 0) = false ∧ a.length + 2 ≤ sizeLine ∧ rNewStrs (Txt.split a b) H Q) (mSplit m) := by
  intro W σ ι H S x d xs es Q s rx rxs h
  match d, es, h with
  | .str a, [.str b], h =>
    have h' : FinE K W ι H σ (Want K Q) (if (b.length == 0) = true then .bad else if fit (a.length + 2) = true then mkL m ((Txt.split a b).map .str) S else .bad) := h
    by_cases c : (b.length == 0) = true
    · rw [if_pos c] at h'; exact h'.elim
    · rw [if_neg c] at h'
      by_cases c2 : fit (a.length + 2) = true
      · rw [if_pos c2] at h'
        obtain ⟨z, rfl, rz⟩ := rxs.one
        have ez : z = .str b := rz
        subst ez
        have r : RepVs K ι H ((Txt.split a b).map V.str) ((Txt.split a b).map D.str) := by
          induction Txt.split a b with
          | nil => exact rfl
          | cons y ys ih => exact ⟨.str y, ys.map V.str, rfl, rfl, ih⟩
        exact ⟨a, b, rx, rfl, by simpa using c, fit_ok c2, fun p hp => mkL_ok s r h' hp⟩
      · rw [if_neg c2] at h'; exact h'.elim
def flatD : D → Bool
  | .bl _ => true
  | .int _ => true
  | .str _ => true
  | .non => true
  | _ => false
def eqF : D → D → Bool
  | .non, .non => true
  | .bl a, .bl b => a == b
  | .bl a, .int b => (if a then 1 else 0) == b
  | .int a, .bl b => a == (if b then 1 else 0)
  | .int a, .int b => a == b
  | .str a, .str b => a == b
  | _, _ => false
def mIndex (d : D) (xs : List D) (S : Store) : R D := match sqL S d, xs with
  | some ds, [y] => if (flatD y && ds.all flatD) = true then match ds.findIdx? fun z => eqF z y with
    | some j => .ok (.int (j : Nat)) S
    | none => .bad
    else .bad
  | _, _ => .bad
theorem flat_rep {K : PySem.W.Frag} {v : V} {d : D} (r : RepV K ι H v d) (h : flatD d = true) : flatV v = true ∧ ∀ {w e}, RepV K ι H w e → flatD e = true → eqV v w = eqF d e := by
  cases d with
  | non =>
    have r : v = .non := r
    subst r
    refine ⟨rfl, fun {w e} rw' he => ?_⟩
    cases e with
    | non => cases rw'; rfl
    | bl _ => cases rw'; rfl
    | int _ => cases rw'; rfl
    | str _ => cases rw'; rfl
    | _ => cases he
  | bl b =>
    have r : v = .bl b := r
    subst r
    refine ⟨rfl, fun {w e} rw' he => ?_⟩
    cases e with
    | non => cases rw'; rfl
    | bl _ => cases rw'; rfl
    | int _ => cases rw'; rfl
    | str _ => cases rw'; rfl
    | _ => cases he
  | int i =>
    have r : v = .int i := r
    subst r
    refine ⟨rfl, fun {w e} rw' he => ?_⟩
    cases e with
    | non => cases rw'; rfl
    | bl _ => cases rw'; rfl
    | int _ => cases rw'; rfl
    | str _ => cases rw'; rfl
    | _ => cases he
  | str i =>
    have r : v = .str i := r
    subst r
    refine ⟨rfl, fun {w e} rw' he => ?_⟩
    cases e with
    | non => cases rw'; rfl
    | bl _ => cases rw'; rfl
    | int _ => cases rw'; rfl
    | str _ => cases rw'; rfl
    | _ => cases he
  | _ => cases h
theorem RepVs.at' {K : PySem.W.Frag} : ∀ {vs : List V} {ds : List D} {i : Nat} {v : V}, RepVs K ι H vs ds → vs[i]? = some v → ∃ d, ds[i]? = some d ∧ RepV K ι H v d
  | vs, [], i, v, r, h => by
    have r : vs = [] := r
    subst r
    simp at h
  | vs, d :: ds, i, v, r, h => by
    obtain ⟨x, r', rfl, h1, h2⟩ := r
    cases i with
    | zero => cases h; exact ⟨d, rfl, h1⟩
    | succ i =>
      obtain ⟨d', e1, e2⟩ := RepVs.at' h2 (i := i) (by simpa using h)
      exact ⟨d', by simpa using e1, e2⟩
theorem k_index {K : PySem.W.Frag} : OkM K (rIndex K) mIndex := by
  intro W σ ι H S x d xs es Q s rx rxs h
  unfold mIndex at h
  cases q : sqL S d with
  | none => rw [q] at h; exact h.elim
  | some ds =>
    rw [q] at h
    match es, h, rxs with
    | [y], h, rxs =>
      have h : FinE K W ι H σ (Want K Q) (if (flatD y && ds.all flatD) = true then match ds.findIdx? fun z => eqF z y with
        | some j => .ok (.int (j : Nat)) S
        | none => .bad
        else .bad) := h
      by_cases c : (flatD y && ds.all flatD) = true
      · rw [if_pos c] at h
        rw [Bool.and_eq_true] at c
        obtain ⟨z, rfl, rz⟩ := rxs.one
        obtain ⟨a, zs, rfl, h1, h2⟩ := repSqL s rx q
        cases q2 : ds.findIdx? (fun z => eqF z y) with
        | none => rw [q2] at h; exact h.elim
        | some j =>
          rw [q2] at h
          obtain ⟨hj, hz, hno⟩ := List.findIdx?_eq_some_iff_getElem.mp q2
          have hl := h2.length
          have fz : ∀ (m : Nat) (v : V), zs[m]? = some v → ∃ d, ds[m]? = some d ∧ flatV v = true ∧ eqV v z = eqF d y := fun m v hv => by
            obtain ⟨d, hd, rd⟩ := RepVs.at' h2 hv
            have fd : flatD d = true := List.all_eq_true.mp c.2 d (List.mem_of_getElem? hd)
            exact ⟨d, hd, (flat_rep rd fd).1, (flat_rep rd fd).2 rz c.1⟩
          have hj' : j < zs.length := by omega
          refine ⟨a, zs, z, j, zs[j], rfl, rfl, h1, (flat_rep rz c.1).1, ?_, List.getElem?_eq_getElem hj', ?_, fun m z' hm hz' => ?_, here s h rfl⟩
          · rw [List.all_eq_true]
            intro v hv
            obtain ⟨m, hm, rfl⟩ := List.getElem_of_mem hv
            exact (fz m _ (List.getElem?_eq_getElem hm)).elim fun d hd => hd.2.1
          · obtain ⟨d, hd, _, e⟩ := fz j _ (List.getElem?_eq_getElem hj')
            rw [e]
            rw [List.getElem?_eq_getElem hj] at hd
            cases hd
            exact hz
          · obtain ⟨d, hd, _, e⟩ := fz m _ hz'
            rw [e]
            have hm2 : m < ds.length := by omega
            rw [List.getElem?_eq_getElem hm2] at hd
            cases hd
            simpa using hno m hm
      · rw [if_neg c] at h; exact h.elim
    | [], h, _ => exact h.elim
    | _ :: _ :: _, h, _ => exact h.elim
end
end FL

/-! GB: GA's evaluators run by simp; plain laws of dicts -/
namespace FL
open PySem PySem.Spec PyProof.Rows L2
section
variable {S : Store} {e : Fenv}
@[simp ↓] theorem z_DM {f : D → D → Store → R D} {a b : Ev} : evDM f a b e S = (a e S).bind fun x S1 => if (sqD S1 x).isSome = true then (b e S1).bind fun y S2 => f x y S2 else .bad := rfl
@[simp ↓] theorem z_get2 {a b c : Ev} : evGet2 a b c e S = (a e S).bind fun x S1 => if (sqD S1 x).isSome = true then (b e S1).bind fun y S2 => (c e S2).bind fun z S3 => dGetO x y z S3 else .bad := rfl
@[simp] theorem sqD_d {kvs : List (Key × D)} : sqD S (.dct kvs) = some kvs := rfl
@[simp] theorem sqD_r {n : Nat} : sqD S (.ref n) = onDct S[n]? some none := by
  show (match S[n]? with | some (.dct kvs) => some kvs | some (.ldc kvs) => some kvs | _ => none) = _
  cases S[n]? with
  | none => rfl
  | some m => cases m <;> rfl
@[simp] theorem getO_S {kvs : List (Key × D)} {x : Str} {z : D} : dGetO (.dct kvs) (.str x) z S = .ok ((valD kvs (.inr x)).getD z) S := rfl
@[simp] theorem getO_I {kvs : List (Key × D)} {x : Int} {z : D} : dGetO (.dct kvs) (.int x) z S = .ok ((valD kvs (.inl x)).getD z) S := rfl
@[simp] theorem getO_r {n : Nat} {y z : D} : dGetO (.ref n) y z S = onDct S[n]? (fun kvs => dGetO (.dct kvs) y z S) .bad := by
  unfold dGetO
  rw [sqD_r]
  cases S[n]? with
  | none => rfl
  | some m => cases m <;> rfl
theorem dctAt_r {n : Nat} : dctAt S (.ref n) = onDctW S[n]? (fun kvs => some (n, kvs)) none := by
  show (match S[n]? with | some (.dct kvs) => some (n, kvs) | _ => none) = _
  cases S[n]? with
  | none => rfl
  | some m => cases m <;> rfl
@[simp] theorem upd_d {n : Nat} {more : List (Key × D)} : dUpd (.ref n) (.dct more) S = onDctW S[n]? (fun kvs => if kvs.length + more.length ≤ 16777216 then .ok .non (S.set n (.dct (mergeD kvs more))) else .bad) .bad := by
  unfold dUpd mUpdate
  rw [dctAt_r]
  cases S[n]? with
  | none => rfl
  | some m => cases m with
    | dct kvs =>
      show (if fit (kvs.length + more.length) = true then R.ok D.non (S.set n (.dct (mergeD kvs more))) else .bad) = _
      simp only [fit_le]
      rfl
    | _ => rfl
@[simp ↓] theorem z_aug {i : Nat} {f : D → D → Store → R D} {a : Ev} : evAug i f a e S = augK i f a e[i]? e S := rfl
@[simp ↓] theorem z_augK {i : Nat} {f : D → D → Store → R D} {a : Ev} {x : D} : augK i f a (some (some x)) e S = (a e S).bindS e fun y S1 => (f x y S1).bindS e fun z S2 => .nx (e.set i (some z)) S2 := rfl
@[simp ↓] theorem z_daug {f : D → D → Store → R D} {d k a : Ev} : evDAug f d k a e S = (d e S).bindS e fun x S1 => (k e S1).bindS e fun y S2 => (dGet x y S2).bindS e fun w S3 => (a e S3).bindS e fun u S4 => (f w u S4).bindS e fun z S5 => putK3 x y z e S5 := rfl
@[simp] theorem iAdd_I {i j : Int} : iAdd (.int i) (.int j) S = .ok (.int (i + j)) S := rfl
@[simp] theorem dDict_l {m : Bool} {ds : List D} : dDict m [.lst ds] S = match toKV ds with
    | some kvs => mkD m (mergeD [] kvs) S
    | none => .bad := rfl
@[simp] theorem dDict_d {m : Bool} {kvs : List (Key × D)} : dDict m [.dct kvs] S = mkD m kvs S := rfl
@[simp] theorem dDict_r {m : Bool} {n : Nat} : dDict m [.ref n] S = onObj S[n]? (fun ds => dDict m [.lst ds] S) fun kvs => mkD m kvs S := by
  show (match sqL S (.ref n) with
    | some ds => (match toKV ds with
      | some kvs => mkD m (mergeD [] kvs) S
      | none => .bad)
    | none => match sqD S (.ref n) with
      | some kvs => mkD m kvs S
      | none => .bad) = _
  rw [sqL_r, sqD_r]
  cases S[n]? with
  | none => rfl
  | some m => cases m <;> rfl
@[simp] theorem ite_str {c : Prop} [Decidable c] {a b : Str} : (if c then D.str a else D.str b) = D.str (if c then a else b) := by split <;> rfl
@[simp] theorem o_pick {c : Prop} [Decidable c] {a b : D} : dIx (.lst [a, b]) (.int (if c then 1 else 0)) S = .ok (if c then b else a) S := by
  split
  · exact ix_lst (by decide) rfl
  · exact ix_lst (by decide) rfl
@[simp] theorem toKV_nil : toKV [] = some [] := rfl
@[simp] theorem toKV_map {α : Type} {f : α → Str} {g : α → D} : ∀ {xs : List α}, toKV (xs.map fun x => .tup [.str (f x), g x]) = some (xs.map fun x => (Sum.inr (f x), g x))
  | [] => rfl
  | x :: xs => by
    rw [List.map_cons, toKV, toKV_map (xs := xs)]
    rfl
@[simp] theorem mSplit_s {m : Bool} {a b : Str} : mSplit m (.str a) [.str b] S = if (b.length == 0) = true then .bad else if a.length + 2 ≤ 16777216 then mkL m ((Txt.split a b).map .str) S else .bad := by
  show (if (b.length == 0) = true then R.bad else if fit (a.length + 2) = true then mkL m ((Txt.split a b).map .str) S else .bad) = _
  simp only [fit_le]
theorem mIndex_s {xs : List Str} {y : Str} {j : Nat} (h : xs.findIdx? (fun z => decide (z = y)) = some j) : mIndex (.lst (xs.map .str)) [.str y] S = .ok (.int (j : Nat)) S := by
  show (if (flatD (.str y) && (xs.map D.str).all flatD) = true then match (xs.map D.str).findIdx? fun z => eqF z (.str y) with
    | some j => R.ok (D.int (j : Nat)) S
    | none => .bad
    else .bad) = _
  have h1 : (xs.map D.str).all flatD = true := by simp [flatD]
  rw [if_pos (by rw [h1]; rfl), List.findIdx?_map]
  have h2 : ((fun z => eqF z (.str y)) ∘ D.str) = fun z => decide (z = y) := by
    funext z
    show (z == y) = _
    rw [Bool.eq_iff_iff]
    simp
  rw [h2, h]
end
/-! plain dicts -/
theorem valD_put {kvs : List (Key × D)} {k k' : Key} {v : D} : valD (putD kvs k v) k' = if k = k' then some v else valD kvs k' := by
  unfold putD
  split
  · rename_i h
    induction kvs with
    | nil => simp at h
    | cons p kvs ih =>
      by_cases c : p.1 = k
      · by_cases c2 : k = k'
        · subst c2
          simp [valD, c]
        · have c3 : p.1 ≠ k' := fun e => c2 (c.symm.trans e)
          have ih' : valD (kvs.map fun kv => if kv.1 = k then (kv.1, v) else kv) k' = valD kvs k' := by
            clear ih h
            induction kvs with
            | nil => rfl
            | cons q kvs ih =>
              unfold valD at *
              by_cases d : q.1 = k
              · have d2 : q.1 ≠ k' := fun e => c2 (d.symm.trans e)
                simp only [List.map_cons, d, if_true, List.find?_cons]
                rw [show decide (k = k') = false by simpa using c2]
                exact ih
              · simp only [List.map_cons, d, if_false, List.find?_cons]
                cases decide (q.1 = k') with
                | true => rfl
                | false => exact ih
          rw [if_neg c2]
          unfold valD at *
          simp only [List.map_cons, c, if_true, List.find?_cons]
          rw [show decide (k = k') = false by simpa using c2]
          exact ih'
      · have h' : (kvs.any fun kv => decide (kv.1 = k)) = true := by simpa [c] using h
        have ih := ih h'
        unfold valD at *
        simp only [List.map_cons, c, if_false, List.find?_cons]
        by_cases d : p.1 = k'
        · have : k ≠ k' := fun e => c (d.trans e.symm)
          simp [d, this]
        · simp only [d, decide_false]
          exact ih
  · rename_i h
    unfold valD
    rw [List.find?_append]
    by_cases c : k = k'
    · subst c
      have : kvs.find? (fun kv => decide (kv.1 = k)) = none := by
        rw [List.find?_eq_none]
        intro kv hkv
        simp only [Bool.not_eq_true, List.any_eq_false] at h
        simpa using h kv hkv
      simp [this]
    · simp [c]
theorem valD_merge {α : Type} {f : α → Str} {g : α → D} {y : Str} : ∀ {xs : List α} {kvs : List (Key × D)}, (∀ a ∈ xs, ∀ b ∈ xs, f a = f b → g a = g b) → valD (mergeD kvs (xs.map fun x => (Sum.inr (f x), g x))) (.inr y) = match xs.find? (fun x => decide (f x = y)) with
    | some x => some (g x)
    | none => valD kvs (.inr y)
  | [], kvs, _ => rfl
  | x :: xs, kvs, h => by
    have ih := valD_merge (f := f) (g := g) (y := y) (xs := xs) (kvs := putD kvs (.inr (f x)) (g x)) fun a ha b hb => h a (List.mem_cons_of_mem _ ha) b (List.mem_cons_of_mem _ hb)
    have e : mergeD kvs ((x :: xs).map fun x => (Sum.inr (f x), g x)) = mergeD (putD kvs (.inr (f x)) (g x)) (xs.map fun x => (Sum.inr (f x), g x)) := rfl
    rw [e, ih, List.find?_cons]
    by_cases c : f x = y
    · rw [show decide (f x = y) = true by simpa using c]
      cases q : xs.find? (fun x => decide (f x = y)) with
      | none => simp only [valD_put, c, if_true]
      | some z =>
        have hz := List.find?_some q
        have hm := List.mem_of_find?_eq_some q
        simp at hz
        simp only [h z (List.mem_cons_of_mem _ hm) x List.mem_cons_self (hz.trans c.symm)]
    · rw [show decide (f x = y) = false by simpa using c]
      have c2 : ¬ (Sum.inr (f x) : Key) = Sum.inr y := by simpa using c
      simp only [valD_put, c2, if_false]
theorem mergeD_len : ∀ (more kvs : List (Key × D)), (mergeD kvs more).length ≤ kvs.length + more.length
  | [], kvs => Nat.le_refl _
  | p :: more, kvs => by
    have h := mergeD_len more (putD kvs p.1 p.2)
    have h2 : (putD kvs p.1 p.2).length ≤ kvs.length + 1 := by
      unfold putD
      split <;> simp
    show (mergeD (putD kvs p.1 p.2) more).length ≤ _
    rw [List.length_cons]
    omega
theorem mergeD_app {α : Type} {f : α → Str} {g : α → D} : ∀ {xs : List α} {kvs : List (Key × D)}, (∀ x ∈ xs, ∀ p ∈ kvs, p.1 ≠ Sum.inr (f x)) → (xs.map f).Nodup → mergeD kvs (xs.map fun x => (Sum.inr (f x), g x)) = kvs ++ xs.map fun x => (Sum.inr (f x), g x)
  | [], kvs, _, _ => by simp [mergeD]
  | x :: xs, kvs, h, hn => by
    rw [List.map_cons, List.nodup_cons] at hn
    have e : mergeD kvs ((x :: xs).map fun x => (Sum.inr (f x), g x)) = mergeD (putD kvs (.inr (f x)) (g x)) (xs.map fun x => (Sum.inr (f x), g x)) := rfl
    have e2 : putD kvs (.inr (f x)) (g x) = kvs ++ [(Sum.inr (f x), g x)] := by
      unfold putD
      rw [if_neg]
      simp only [Bool.not_eq_true, List.any_eq_false]
      intro p hp
      simpa using h x List.mem_cons_self p hp
    rw [e, e2, mergeD_app (fun y hy p hp => ?_) hn.2, List.append_assoc]
    · rfl
    · rcases List.mem_append.mp hp with hp | hp
      · exact h y (List.mem_cons_of_mem _ hy) p hp
      · simp at hp
        subst hp
        intro e
        have e : f x = f y := by injection e
        exact hn.1 (e ▸ List.mem_map_of_mem hy)
theorem mergeD_nil {α : Type} {f : α → Str} {g : α → D} {xs : List α} (hn : (xs.map f).Nodup) : mergeD [] (xs.map fun x => (Sum.inr (f x), g x)) = xs.map fun x => (Sum.inr (f x), g x) := by
  rw [mergeD_app (fun x _ p hp => by simp at hp) hn]
  rfl
theorem mergeD_nil' {g : Str → D} {xs : List Str} (hn : xs.Nodup) : mergeD [] (xs.map fun x => (Sum.inr x, g x)) = xs.map fun x => (Sum.inr x, g x) := mergeD_nil (f := fun x => x) (by simpa using hn)
theorem valD_map {α : Type} {f : α → Str} {g : α → D} {y : Str} : ∀ {xs : List α}, valD (xs.map fun x => (Sum.inr (f x), g x)) (.inr y) = (xs.find? fun x => decide (f x = y)).map g
  | [] => rfl
  | x :: xs => by
    have ih := valD_map (f := f) (g := g) (y := y) (xs := xs)
    unfold valD at *
    rw [List.map_cons, List.find?_cons, List.find?_cons]
    by_cases c : f x = y
    · simp [c]
    · have c2 : ¬ (Sum.inr (f x) : Key) = Sum.inr y := by simpa using c
      rw [show decide ((Sum.inr (f x) : Key) = Sum.inr y) = false by simpa using c2, show decide (f x = y) = false by simpa using c]
      exact ih
theorem find_self {xs : List Str} {y : Str} : xs.find? (fun x => decide (x = y)) = if y ∈ xs then some y else none := by
  induction xs with
  | nil => rfl
  | cons x xs ih =>
    rw [List.find?_cons]
    by_cases c : x = y
    · simp [c]
    · have c2 : ¬ y = x := fun e => c e.symm
      simp [c, ih, c2]
end FL

/-! EA: exceptions: a try whose except suite has the exception as a value. -/
namespace FL
open PySem PySem.Spec PyProof.Rows L2

/-- a caught exception's object, which nothing changes any more -/
def cghO (oe : Obj) : HO := .frz oe (.ext fun _ => True)
theorem cghO_ok {P : Program} {w : World} {H : Hp} {h : Heap} {a : Addr} {oe : Obj} (e : h.get? a = some oe) : ObjOk P w H h a (cghO oe) :=
  ⟨e, trivial, ⟨oe, e⟩, fun _ _ _ _ => trivial⟩
section
variable {X : Cx} {pins : List (Addr × Obj)} {σ : L2.St} {H : Hp} {s : Shared}
/-- the state within an except suite, the exception tracked -/
theorem inv_inSuite (I : Inv X pins σ H s) {a : Addr} {oe : Obj} {vs : Array Value} (ha : s.heap.get? a = some oe) (hd : oe.data = .fields vs) (na : H a = none) (nL : a ≠ X.env.locals) (n0 : X.s_0.heap.get? a = none) (nC : ∀ v, oe.data ≠ .cell v) (nP : ∀ p ∈ X.pn ++ pins, p.1 ≠ a) :
    Inv (X.suite a (X.pn ++ pins)) [] σ (upd H a (cghO oe)) s := by
  have keepT : ∀ {b : Addr} {u : HO}, H b = some u → b ≠ a := fun e z => by rw [z, na] at e; cases e
  refine ⟨I.ok.suite a (X.pn ++ pins), I.os, I.bare, ⟨I.base.keep, I.base.slot, fun b o e n hx => ?_, I.base.there, fun b xs e => ?_, fun b o u e => ?_, fun b ps e => ?_⟩, I.loc, I.cell, ?_, fun x c e => ?_, fun p hp => ?_, fun b u e => ?_, I.len⟩
  · have hb : b ≠ a := fun z => by rw [z, n0] at e; cases e
    rw [upd_ne hb]
    exact I.base.free b o e n hx
  · have q := I.base.tups b xs e
    rw [upd_ne (keepT q)]
    exact q
  · have q := I.base.frzs b o u e
    rw [upd_ne (keepT q)]
    exact q
  · obtain ⟨m, q⟩ := I.base.tbls b ps e
    exact ⟨m, by rw [upd_ne (keepT q)]; exact q⟩
  · show upd H a _ X.env.locals = none
    rw [upd_ne (Ne.symm nL)]
    exact I.free
  · have hc : c ≠ a := fun z => by
      obtain ⟨v, o, ho, hdc⟩ := I.cell x c e
      rw [z, ha] at ho
      cases ho
      exact nC v hdc
    rw [upd_ne hc]
    exact I.freeC x c e
  · have hp : p ∈ X.pn ++ pins := by rw [List.append_nil] at hp; exact hp
    obtain ⟨p1, p2, p3⟩ := I.pin p hp
    exact ⟨p1, by rw [upd_ne (nP p hp)]; exact p2, p3⟩
  · by_cases hb : b = a
    · subst hb
      rw [upd_same] at e
      cases e
      exact cghO_ok ha
    · rw [upd_ne hb] at e
      refine (I.hok b u e).stay (fun c v hc q => q) (fun c q => ?_) fun c xs q => ?_
      · rw [upd_ne (keepT q)]; exact q
      · rw [upd_ne (keepT q)]; exact q
/-- the state behind it: the exception stays known -/
theorem inv_offSuite (ok : X.Ok) {a : Addr} {pn' : List (Addr × Obj)} (I : Inv (X.suite a (X.pn ++ pins)) pn' σ H s) : Inv X pins σ H s :=
  ⟨ok, I.os, I.bare, I.base, I.loc, I.cell, I.free, I.freeC, fun p q => I.pin p (List.mem_append_left _ q), I.hok, I.len⟩
end
/-- what 'except x as n: ts' wishes of an exception of the body -/
def wAsT (K : PySem.W.Frag) (c : Value) (i : Nat) (ts : TS) (Wout : WX) (D' : Ends) : WX := fun cls d σ H =>
  ∃ b, PySem.W.exmOne K cls c = some b ∧
    (b = true → ∀ (a : Addr) (oe : Obj), H a = none → L2N.Zn cls d oe → (∃ vs, oe.data = .fields vs) →
      ts { nx := fun τ H' => D'.nx (τ.set i none) H', rt := D'.rt, bk := fun τ H' => D'.bk (τ.set i none) H', ct := fun τ H' => D'.ct (τ.set i none) H' } (σ.set i (some (.ref a))) (upd H a (cghO oe))) ∧
    (b = false → Wout cls d σ H)
section
variable {X : Cx} {x n : Str} {c : Value} {i : Nat} {body suite : List Stmt} {st : Stmt} {np pos pos' : Pos} {tb : WX → TS} {ts : TS} {Wout : WX}
theorem ps_tryT (hs : X.stack = X.env :: X.outer) (hf : X.env.frame = some X.env.locals) (hex : X.ex = []) (hN : X.N.Nodup) (hi : X.N[i]? = some n) (hln : X.env.kindOf n = some .local) (hc : Names X x c) (tk : L2N.Takes X Wout)
    (hb : ∀ (W : WX) (pn : List (Addr × Obj)) (xe : Value → Shared → Prop), L2N.Takes (X.tr pn xe) W → PassesOwn (model X.prog X.w) X.A X.env xe → PSs (X.tr pn xe) body (tb W))
    (hsu : ∀ (a : Addr) (pn : List (Addr × Obj)), PSs (X.suite a pn) (st :: suite) ts) :
    L2.PS X (.Try body [.ExceptHandler (some (.Name x np)) (some n) (st :: suite) pos'] [] [] pos) (fun D' σ H => tb (wAsT X.K c i ts Wout D') D' σ H) := by
  refine ⟨fun pins s σ H D' I h => ?_⟩
  have ok := I.ok
  have hfr : X.A.frames = some (X.env :: X.outer) := by rw [ok.frames, hs]
  refine wpAny_Try_except (wpAny_mono ((hb (wAsT X.K c i ts Wout D') (X.pn ++ pins) (fun e t1 => wpAny (model X.prog X.w) X.A (noteFrame e X.env) (fun _ t2 => wpAny (model X.prog X.w) X.A (setFlight e none) (fun _ t3 =>
    wpAny (model X.prog X.w) X.A (handleBy e X.env [.ExceptHandler (some (.Name x np)) (some n) (st :: suite) pos']) (SP X pins D') X.xe t3) X.xe t2) X.xe t1) (fun u s' xx => ?_) PassesOwn.looking).run [] s σ H D' (I.toTry _) h) (fun f s1 hsp => ?_) fun _ _ he => he)
  · obtain ⟨a, B, sI, pins', σ', H', cls, d, rfl, J', nb, up, sky, na, os, ag, b, hb1, hyes, hno⟩ := xx
    have J : Inv X pins σ' H' sI := J'.ofTry ok
    rw [show (X.tr (X.pn ++ pins) _).stack = X.env :: X.outer from hs] at sky
    show wpAny (model X.prog X.w) X.A (noteFrame (.ref a) X.env) _ _ _
    refine L2N.Sky.land L2N.Zn.steady hfr hf sky fun h3 fl3 up3 => ?_
    have K3 : Inv X pins σ' H' { s' with heap := h3 } := J.landed nb fl3.1 (up.trans up3) os ag
    obtain ⟨o3, vs3, he3, hz3, hd3⟩ := fl3.there
    have notF : a ∉ frs (X.env :: X.outer) := fun hm => by
      obtain ⟨_, o', e', hnf⟩ := fl3.2.2.1.mem hm
      rw [he3] at e'
      cases e'
      exact hnf _ hd3
    have nL : a ≠ X.env.locals := fun z => notF (List.mem_filterMap.mpr ⟨X.env, List.mem_cons_self, by rw [hf, z]⟩)
    have nF : a ∉ X.fs := fun hm => by
      obtain ⟨e, he, q⟩ := List.mem_filterMap.mp hm
      exact notF (List.mem_filterMap.mpr ⟨e, List.mem_cons_of_mem _ he, q⟩)
    have nI : sI.heap.get? a = none := by
      cases q : sI.heap.get? a with
      | none => rfl
      | some o =>
        have z := nb a o q (by show a ∉ frs X.stack; rw [hs]; exact notF)
        rw [fl3.2.1] at z
        cases z
    have n0 : X.s_0.heap.get? a = none := by
      cases q : X.s_0.heap.get? a with
      | none => rfl
      | some o =>
        obtain ⟨o', z⟩ := J.base.there a o q (by rw [hex]; exact fun z => nomatch z)
        rw [nI] at z
        cases z
    have nP : ∀ p ∈ X.pn ++ pins, p.1 ≠ a := fun p hp z => by
      have q := (J.pin p hp).1
      rw [z, nI] at q
      cases q
    have S3 := K3.suite he3 hd3 na nL nF
    refine wpAny_handleBy_cons (codeAny_handlers_test ?_) (by intro q; cases q)
    have LT : PySem.W.Looks (model X.prog X.w) h3 (typeOf (.ref a)) cls := fun _ _ _ _ k q => wpAny_typeOf_ref (k _ _ he3) (by rw [hz3.1]; exact q)
    have LM := PySem.W.exm_one (M := model X.prog X.w) K3.kIn LT hb1
    have named : ∀ {Q : Value → Shared → Prop} {E : Value → Shared → Prop}, Q c { s' with heap := h3 } → wpAny (model X.prog X.w) (X.A.mark (some (.ref a))) (eval (.Name x np) X.env) Q E { s' with heap := h3 } := fun q => by
      obtain ⟨hg, hdb, hm | ⟨hm, hv, hnn⟩⟩ := hc
      · exact ld_glob (X := X.suite a ((a, o3) :: (X.pn ++ pins))) S3 hg hm q hdb
      · exact ld_blt (X := X.suite a ((a, o3) :: (X.pn ++ pins))) S3 hg hm hv q hnn hdb
    refine named (LM.here ?_)
    cases b with
    | true =>
      refine codeAny_handlers_suite_as (HandSPX.lands_againZ fl3 fun h4 fl4 up4 => ?_)
      have K4 : Inv X pins σ' H' { s' with heap := h4 } := J.landed nb fl4.1 ((up.trans up3).trans up4) os ag
      obtain ⟨o4, vs4, he4, hz4, hd4⟩ := fl4.there
      have S4 := inv_inSuite K4 he4 hd4 na nL n0 (fun v z => by rw [hd4] at z; cases z) nP
      refine store_ok (X := X.suite a (X.pn ++ pins)) (v := .ref a) S4 hN hi (.inl hln) rfl (fun s5 S5 => ?_) (.inr hln)
      refine wpAny_mono ((hsu a (X.pn ++ pins)).run [] s5 _ _ _ S5 (hyes rfl a o4 na hz4 ⟨_, hd4⟩)) (fun f s6 hsp => ?_) (fun _ _ z => False.elim z)
      have leave : ∀ {τ : L2.St} {H6 : Hp} {Q : Shared → Prop}, Inv (X.suite a (X.pn ++ pins)) [] τ H6 s6 → (∀ s7, Inv X pins (τ.set i none) H6 s7 → Q s7) →
          wpAny (model X.prog X.w) X.A (do bindName X.env n .none; unbindBehindTheSuite X.env n pos') (fun _ s7 => Q s7) X.xe s6 := fun S6 hq => gone_ok (inv_offSuite ok S6) hN hi hln hq
      cases f with
      | next => exact let ⟨_, _, S6, q6⟩ := hsp; leave S6 fun s7 J7 => ⟨_, _, J7, q6⟩
      | brk => exact let ⟨_, _, S6, q6⟩ := hsp; leave S6 fun s7 J7 => ⟨_, _, J7, q6⟩
      | cont => exact let ⟨_, _, S6, q6⟩ := hsp; leave S6 fun s7 J7 => ⟨_, _, J7, q6⟩
      | ret u => exact let ⟨_, _, _, S6, r6, q6⟩ := hsp; leave S6 fun s7 J7 => ⟨_, _, _, J7, r6, q6⟩
    | false =>
      show wpAny _ X.A (handleBy (.ref a) X.env []) _ _ _
      refine wpAny_handleBy_nil ?_
      obtain ⟨_, _, _, o5, v5, T, _, _, h51, _, h52, h53, _⟩ := id fl3
      have fin : wpAny (model X.prog X.w) X.A (setFlight (.ref a) X.env.frame) (fun _ s4 => wpAny (model X.prog X.w) X.A (throw (.ref a) : Sem Flow) (SP X pins D') X.xe s4) X.xe { s' with heap := h3 } := by
        rw [hf]
        refine HandSPX.setFlight_upZ fl3 fun h4 hh4 up4 => wpAny_throw (tk _ _ ?_)
        exact ⟨a, B, sI, pins, σ', H', cls, d, rfl, J, nb, (up.trans up3).trans up4, .inr (.inr (by rw [hs]; exact hh4)), na, os, ag, hno rfl⟩
      unfold PySem.passOn
      refine wpAny_bind (wpAny_field h51 h52 h53 ?_)
      rw [if_neg (show ¬ ((Value.ref T == Value.none) = true) by simp)]
      first
        | exact wpAny_bind (wpAny_pure (wpAny_bind fin))
        | exact wpAny_bind fin
  · cases f with
    | next => exact let ⟨_, _, Jn, q⟩ := hsp; wpAny_execs_nil ⟨_, _, Jn.ofTry ok, q⟩
    | brk => exact let ⟨_, _, Jn, q⟩ := hsp; ⟨_, _, Jn.ofTry ok, q⟩
    | cont => exact let ⟨_, _, Jn, q⟩ := hsp; ⟨_, _, Jn.ofTry ok, q⟩
    | ret u => exact let ⟨_, _, _, Jn, r, q⟩ := hsp; ⟨_, _, _, Jn.ofTry ok, r, q⟩
end

/-! ### try by functions -/
/-- one of our exceptions' classes under another one -/
def isSubX (C T : Str) : Bool := C == T || T == "RootError" || T == "ValueError"
def tryEnd (i : Nat) (r : SR) : SR := match r with
  | .nx e S => .nx (e.set i none) S
  | .rt d S => .rt d S
  | .bk e S => .bk (e.set i none) S
  | .ct e S => .ct (e.set i none) S
  | _ => .bad
def evTryAs (L : List Str) (T : Str) (i : Nat) (b s : EvS) : EvS := fun e S => match b e S with
  | .ex c e' S' => if c.C ∈ L then (if isSubX c.C T = true then tryEnd i (s (e'.set i (some (.exc c.C c.lot.toList))) S') else .ex c e' S') else .bad
  | r => r
/-- except clauses, and isinstance: which of L's classes come under T -/
def Under (K : PySem.W.Frag) (L : List Str) (T : Str) (t : Value) : Prop := ∀ C ∈ L, ∀ cls, ClsN K C cls → PySem.W.exmOne K cls t = some (isSubX C T)
theorem SimE.unset {K : PySem.W.Frag} {ι : Io} {H : Hp} {σ : L2.St} {e : Fenv} (s : SimE K ι H σ e) (i : Nat) : SimE K ι H (σ.set i none) (e.set i none) := by
  refine ⟨by simp [s.len], fun j d h => ?_⟩
  by_cases hj : i = j
  · subst hj
    by_cases hl : i < e.length
    · rw [List.getElem?_set_self hl] at h; cases h
    · rw [List.getElem?_eq_none (by simpa using hl)] at h; cases h
  · rw [List.getElem?_set_ne hj] at h
    obtain ⟨v, h1, h2⟩ := s.get j d h
    exact ⟨v, by rw [List.getElem?_set_ne hj]; exact h1, h2⟩
theorem exc_rep {K : PySem.W.Frag} {ι : Io} {H : Hp} {a : Addr} {oe : Obj} {c : Xc} {cls : Value} {dd : Option Addr} (na : H a = none) (hz : L2N.Zn cls dd oe) (hf : ∃ vs, oe.data = .fields vs) (hx : RepX K ι H c cls dd) : RepV K ι (upd H a (cghO oe)) (.ref a) (.exc c.C c.lot.toList) := by
  obtain ⟨C, lot⟩ := c
  obtain ⟨h1, h2⟩ := hx
  cases lot with
  | none => exact ⟨a, dd, [], rfl, ⟨oe, _, cls, upd_same, hz, hf, h1⟩, rfl, .inl ⟨rfl, h2⟩⟩
  | some l =>
    obtain ⟨p, v, h3, h4, h5, h6⟩ := h2
    exact ⟨a, dd, [v], rfl, ⟨oe, _, cls, upd_same, hz, hf, h1⟩, ⟨v, [], rfl, RepV.ext (Ext.new ι na) l v h6, rfl⟩, .inr ⟨p, v, h3, rfl, by rw [upd_ne (ne_of_none h4 na)]; exact h4, h5⟩⟩
section
variable {X : Cx} {W : WX} {x n : Str} {t : Value} {L : List Str} {i : Nat} {body suite : List Stmt} {st : Stmt} {np pos pos' : Pos} {b s : EvS}
theorem tryEnd_fin {K : PySem.W.Frag} {i : Nat} {ι : Io} {H : Hp} {D' : Ends} {r : SR} (h : FinS K W ι H D' (tryEnd i r)) :
    FinS K W0 ι H { nx := fun τ H' => D'.nx (τ.set i none) H', rt := D'.rt, bk := fun τ H' => D'.bk (τ.set i none) H', ct := fun τ H' => D'.ct (τ.set i none) H' } r := by
  cases r with
  | nx e S => exact fun σ' H' ι' x1 se sm => h _ H' ι' x1 (se.unset i) sm
  | rt d S => exact h
  | bk e S => exact fun σ' H' ι' x1 se sm => h _ H' ι' x1 (se.unset i) sm
  | ct e S => exact fun σ' H' ι' x1 se sm => h _ H' ι' x1 (se.unset i) sm
  | ex c e S => exact h.elim
  | bad => exact h.elim
theorem fs_tryAs (hs : X.stack = X.env :: X.outer) (hf : X.env.frame = some X.env.locals) (hex : X.ex = []) (hN : X.N.Nodup) (hi : X.N[i]? = some n) (hln : X.env.kindOf n = some .local) (hc : Names X x t) (hu : Under X.K L x t) (tk : L2N.Takes X W)
    (hb : ∀ (W' : WX) (pn : List (Addr × Obj)) (xe : Value → Shared → Prop), L2N.Takes (X.tr pn xe) W' → PassesOwn (model X.prog X.w) X.A X.env xe → PSsF (X.tr pn xe) W' body b)
    (hsu : ∀ (a : Addr) (pn : List (Addr × Obj)), PSsF (X.suite a pn) W0 (st :: suite) s) :
    PSF X W (.Try body [.ExceptHandler (some (.Name x np)) (some n) (st :: suite) pos'] [] [] pos) (evTryAs L x i b s) := by
  refine PS.weak (ps_tryT (i := i) (tb := fun W' => tFS X.K W' b) (ts := tFS X.K W0 s) hs hf hex hN hi hln hc tk hb hsu) ?_
  rintro D' σ H ⟨ι, e, S, se, sm, h⟩
  refine ⟨ι, e, S, se, sm, ?_⟩
  unfold evTryAs at h
  cases q : b e S with
  | nx e' S' => rw [q] at h; exact h
  | rt d S' => rw [q] at h; exact h
  | bk e' S' => rw [q] at h; exact h
  | ct e' S' => rw [q] at h; exact h
  | bad => rw [q] at h; exact h.elim
  | ex c e' S' =>
    rw [q] at h
    have h : FinS X.K W ι H D' (if c.C ∈ L then (if isSubX c.C x = true then tryEnd i (s (e'.set i (some (.exc c.C c.lot.toList))) S') else .ex c e' S') else .bad) := h
    by_cases hL : c.C ∈ L
    · rw [if_pos hL] at h
      intro cls dd σ' H' ι' x1 se1 sm1 hx
      refine ⟨_, hu c.C hL cls hx.1, fun hb a oe na hz hf => ?_, fun hb => ?_⟩
      · rw [if_pos hb] at h
        have e1 := Ext.new (o := cghO oe) ι' na
        exact ⟨ι', _, S', (se1.ext e1).set (exc_rep na hz hf hx), sm1.new na, (tryEnd_fin h).ext (x1.trans e1)⟩
      · rw [if_neg (by rw [hb]; decide)] at h
        exact h cls dd σ' H' ι' x1 se1 sm1 hx
    · rw [if_neg hL] at h; exact h.elim
end
end FL

/-! EB: raising: own classes without __init__, and one whose __init__ calls its base's and keeps a lot. -/
namespace FL
open PySem PySem.Spec PyProof.Rows L2

/-- what the written part says of an own exception class that the module calls x, at C -/
structure ExcN (K : PySem.W.Frag) (mg : Str → Option Value) (x : Str) (C : Addr) : Prop where
  nsI : PySem.W.nsIn K mainGlobals x = some (some (.ref C))
  gl : mg x = some (.ref C)
  kp : PySem.W.keepIn K (.ref C) = true
  sub : PySem.W.subIn K (.ref C) (.type "BaseException") = some true
  ty : PySem.W.typeIn K (.ref C) = some (.type "type")
section
variable {X : Cx} {W : WX} {x : Str} {C : Addr}
/-- raise x("..") -/
def evRaise (x : Str) : EvS := fun e S => .ex ⟨x, none⟩ e S
theorem fs_raise {m : Str} {j : Nat} {p p2 pos pos2 : Pos} (hc : X.calm = true) (tk : L2N.Takes X W) (N : ExcN X.K X.mg x C) (q : PySem.W.excIn X.K C PySem.HandSPX.veTail "ValueError.__new__" = true) (hg : Gl X x) (hdb : (x == ("__debug__" : Str)) = false := by decide) :
    PSF X W (.Raise (some (.Call (.Name x p) [.Constant (.str m) j p2] [] pos)) none pos2) (evRaise x) := by
  refine PS.weak (L2N.ps_raise hc tk (L2N.pmk_own F.excBase_ValueError q N.gl N.kp (raises_own N.sub N.ty) hg hdb)) ?_
  rintro D' σ H ⟨ι, e, S, se, s, h⟩
  exact h (.ref C) none σ H ι (Ext.refl ι H) se s ⟨⟨C, N.nsI, rfl⟩, rfl⟩
/-! ### the base's __init__, called by its name -/
theorem pe_rootInit {pl : Sem Bool} {e : Expr} {es : List Expr} {ta : TA} {p1 p2 pos : Pos} (hg : Gl X x) (gC : X.mg x = some (.ref C)) (rd : PySem.W.readsIn X.K C (.type "type") = true) (ga : PySem.W.specialIn X.K (.ref C) "__getattribute__" = some (some (.builtin "type.__getattribute__")))
    (fi : PySem.W.findCls X.K (.ref C) (.type "type") "__init__" = some (.val (.builtin "ValueError.__init__"))) (ha : PA X (e :: es) ta) (hdb : (x == ("__debug__" : Str)) = false := by decide)
    (hev : eval (.Call (.Attribute (.Name x p1) "__init__" p2) (e :: es) [] pos) X.env = (do
      let ov ← eval (.Name x p1) X.env
      standAt p2.atName
      let (f, first) ← holding [ov] (getMethod ov "__init__" pl)
      callWith pos f first (backTo pos (starEach (e :: es) X.env)) (backToKw pos (keywordEach [] X.env))) := by rfl)
    (hst : starEach (e :: es) X.env = (false, eval e X.env) :: starEach es X.env := by rfl) (hpl : (backTo pos (starEach es X.env)).any (·.1) = false := by rfl) :
    PE X (.Call (.Attribute (.Name x p1) "__init__" p2) (e :: es) [] pos) (tVeI X.K ta) := by
  refine ⟨fun pins s σ H Q I h => ?_⟩
  refine PySem.W.methodCall_KW (ld_glob I hg gC ?_ hdb) hev
  refine PySem.W.method_cls I.kIn ga (PySem.W.cls_value I.kIn rd fi (by decide +kernel) ?_)
  show wpAny _ _ (callWith pos (Value.builtin "ValueError.__init__") [] (backTo pos (starEach (e :: es) X.env)) []) _ _ _
  refine PyProof.Rows.callWith_method1 (thn (ha.run pos pins _ σ H _ (I.tok _) h) fun us t1 ⟨vs, H1, I1, r1, a, D', ws, ev, hl, T, ea, q⟩ => ?_) hst hpl
  subst ev
  cases r1 with
  | @cons _ u0 _ ur ra rw' =>
    obtain rfl : u0 = Value.ref a := ra
    exact oinit_ok T I1 ea (by rw [← Paired.length rw', sizeLine_eq]; omega) fun s' J => ⟨.non, H1, J, rfl, q⟩
end
/-- what such an __init__ does -/
def spFew (K : PySem.W.Frag) : Sp := fun vs H Q _ => ∃ (a C : Addr) (v : V), vs = [.ref a, v] ∧ OexC K C ∧ PySem.W.findIn K (.ref C) "lot" = some none ∧ H a = some (exo a C none) ∧ ∀ dx, H dx = none → dx ≠ a → Q .non (upd (upd H dx (exd dx [(("lot" : Str), v)])) a (exo a C (some dx)))
section
variable {X : Cx} {CX : CXT} {x : Str} {C fI : Addr} {k : Nat} {fd : FuncData} {ps : List Str} {sp : Sp} {e : Expr} {es : List Expr} {ta : TA} {p pos : Pos}
theorem pmk_oexN (T : OexC X.K C) (iC : PySem.W.findIn X.K (.ref C) "__init__" = some (some (.ref fI))) (tI : PySem.W.typeIn X.K (.ref fI) = some (.type "function")) (F1 : FnOk X.prog X.w X.K X.mg X.base CX k fI fd ps sp) (hr : Room (k + 1) X.A) (hb : Binds X.K fd ps [])
    (hx : Passes CX X (fun _ _ _ => False)) (hg : Gl X x) (hm : X.mg x = some (.ref C)) (ha : PA X (e :: es) ta) (hdb : (x == ("__debug__" : Str)) = false := by decide) (hst : starEach (e :: es) X.env = (false, eval e X.env) :: starEach es X.env := by rfl) (hpl : (backTo pos (starEach es X.env)).any (·.1) = false := by rfl) :
    L2N.PMk X (.Call (.Name x p) (e :: es) [] pos) (tMkO C sp [] ta) := by
  intro pins s σ H Q I h
  obtain ⟨nm, qn, N, bs, bm, sn, sub, ab, col, dd, k0, k1, k2, k3, k5, hC, hbm⟩ := T.cls
  refine wpAny_Call_Name_kw (ld_glob I hg hm ?_ hdb)
  refine PySem.W.callWith_K (h₀ := X.base) I.ok.mod.kin T.kC (thn (ha.run pos pins s σ H _ I h) fun us t1 ⟨vs, H1, I1, r1, hz, q1⟩ => ⟨I1.kIn, ?_⟩) hst hpl
  show wpAny _ _ (call (.ref C) us) _ _ _
  obtain ⟨hp, g, dr, tk, os⟩ := t1
  have sz : hp.objs.size ≤ hp.objs.size + 1 := Nat.le_succ _
  have free : H1 (hp.objs.size + 1) = none := I1.hok.fresh sz
  have want := q1 (hp.objs.size + 1) free
  have kept : ∀ b o, hp.get? b = some o → ((hp.push (PySem.W.kdv_tup us)).push (PySem.HandSPX.excO C hp.objs.size)).get? b = some o := fun b o z => Heap.get?_push_of_some _ (Heap.get?_push_of_some _ z)
  have got : ((hp.push (PySem.W.kdv_tup us)).push (PySem.HandSPX.excO C hp.objs.size)).get? (hp.objs.size + 1) = some (PySem.HandSPX.excO C hp.objs.size) := by heap_get
  have I2 := I1.laid (t' := tk) (a := hp.objs.size + 1) (o := exo (hp.objs.size + 1) C none) kept sz (exo_ok got)
  have r2 : Vals (V.ref (hp.objs.size + 1) :: (vs ++ [])) (Value.ref (hp.objs.size + 1) :: us) := .cons rfl (by rw [List.append_nil]; exact r1)
  have hl : (Value.ref (hp.objs.size + 1) :: us).length = ps.length := r2.length.symm.trans (F1.len _ _ _ _ want)
  refine wpAny_call (PySem.HandSPX.call_own F.excBase_ValueError (fun Y => PySem.HandSPX.refsVE_contains Y bm hbm) (I1.kIn _ _ hC) (PySem.W.looks_findIn I1.kIn iC) (fun self => PySem.W.bind_fn I1.kIn self tI) (by rw [← Paired.length r1, sizeLine_eq]; omega)
    (codeAny_mono (F1.run _ X.stack _ _ ⟨Value.ref (hp.objs.size + 1) :: us, []⟩ (Value.ref (hp.objs.size + 1) :: us) _ _ (fun _ _ _ => False) (hr.make C us []) (I2.env0.make C us []) (by have b := hb _ (Value.ref (hp.objs.size + 1) :: us) I2.kIn (by rw [List.append_nil]; exact hl); rw [List.append_nil] at b; exact b) r2 want) fun r s' hq' => ?_))
  cases r with
  | error er => exact hx pins σ _ _ er s' I2 hq'
  | ok fl =>
    cases fl with
    | ret u =>
      obtain ⟨v, H2, os2, bare2, un2, hok2, rv, ev, d, fs, ea, ed, hd1, q2⟩ := hq'
      subst ev
      obtain ⟨h2, g2, d2, t2, os'⟩ := s'
      obtain ⟨t0, G, J, kG, ge, hoe, na⟩ := mk_end0 (d2 := d2) (t2 := t2) I1 sz kept un2 hok2 os2 bare2 ea ed hd1
      exact ⟨rv, ⟨_, _, _, ⟨G, g2, d2, t2, os'⟩, _, .ref C, some d, rfl, J, kG, ge, hoe, ⟨rfl, rfl, fun w z => by cases z; rfl⟩, rfl, rfl, na, rfl, bare2, raises_own T.exC T.tyC, q2⟩⟩
    | next => exact False.elim hq'
    | brk => exact False.elim hq'
    | cont => exact False.elim hq'
end
section
variable {X : Cx} {W : WX} {x : Str} {C fI : Addr} {k : Nat} {fd : FuncData} {e : Expr} {a : Ev} {p pos pos2 : Pos}
/-- raise x(e), x's __init__ as spFew says -/
def evRaiseL (x : Str) (a : Ev) : EvS := fun e S => (a e S).bindS e fun d S1 => .ex ⟨x, some d⟩ e S1
theorem fs_raiseL (hc : X.calm = true) (tk : L2N.Takes X W) (nsI : PySem.W.nsIn X.K mainGlobals x = some (some (.ref C))) (hm : X.mg x = some (.ref C)) (T : OexC X.K C) (nl : PySem.W.findIn X.K (.ref C) "lot" = some none) (iC : PySem.W.findIn X.K (.ref C) "__init__" = some (some (.ref fI))) (tI : PySem.W.typeIn X.K (.ref fI) = some (.type "function"))
    (F1 : FnOk X.prog X.w X.K X.mg X.base (L2N.CX X.prog X.w) k fI fd ["self", "lot"] (spFew X.K)) (hr : Room (k + 1) X.A) (hb : Binds X.K fd ["self", "lot"] []) (hg : Gl X x) (he : PEF X W e a)
    (hdb : (x == ("__debug__" : Str)) = false := by decide) (hst : starEach (e :: []) X.env = (false, eval e X.env) :: starEach [] X.env := by rfl) (hpl : (backTo pos (starEach [] X.env)).any (·.1) = false := by rfl) :
    PSF X W (.Raise (some (.Call (.Name x p) [e] [] pos)) none pos2) (evRaiseL x a) := by
  have hx : Passes (L2N.CX X.prog X.w) X (fun _ _ _ => False) := fun pins σ H s e s' I c => L2N.passes_call (W := fun _ _ _ _ => False) (E := fun _ _ _ => False) (tk.imp fun _ _ _ _ z => z.elim) (fun _ _ _ _ z => z) pins σ H s e s' I c
  refine PS.weak (L2N.ps_raise hc tk (pmk_oexN T iC tI F1 hr hb hx hg hm (pa_cons he pa_nil hst) hdb hst hpl)) ?_
  rintro D' σ H ⟨ι, en, S, se, s, h⟩
  refine ⟨ι, en, S, se, s, FinE.mono ?_ (FinE.bindS se h)⟩
  rintro ι1 H1 d x1 ⟨S1, _, xx, se1, s1, h1⟩ v r
  refine ⟨by simp, fun y hy => ⟨y, C, v, rfl, T, nl, upd_same, fun dx hdx hne => ⟨rfl, dx, _, upd_same, by rw [upd_ne hne, upd_same], ?_, ?_⟩⟩⟩
  · rw [upd_ne hne] at hdx
    exact hdx
  · rw [upd_ne hne] at hdx
    have e1 : upd (del (upd (upd (upd H1 y (exo y C none)) dx (exd dx [(("lot" : Str), v)])) y (exo y C (some dx))) y) dx (.xd [(("lot" : Str), v)]) = upd H1 dx (.xd [(("lot" : Str), v)]) := by
      funext b
      by_cases c : b = dx
      · rw [c, upd_same, upd_same]
      · rw [upd_ne c, upd_ne c]
        by_cases c2 : b = y
        · rw [c2, del_same, hy]
        · rw [del_ne c2, upd_ne c2, upd_ne c, upd_ne c2]
    rw [e1]
    have x2 := Ext.new (o := .xd [(("lot" : Str), v)]) ι1 hdx
    exact h1 (.ref C) (some dx) σ _ ι1 x2 (se1.ext x2) (s1.new hdx) ⟨⟨C, nsI, rfl⟩, dx, v, rfl, upd_same, s1.notIn hdx, RepV.ext x2 d v r⟩
end
end FL

/-! EC: what an except suite, or a def that it calls, asks of the exception: isinstance, its lot. -/
namespace FL
open PySem PySem.Spec PyProof.Rows L2

/-- what an own exception class must say, so that isinstance asks its instances rightly -/
structure IsC (K : PySem.W.Frag) (C : Addr) : Prop where
  ga : PySem.W.findIn K (.ref C) "__getattribute__" = some (some (.builtin "BaseException.__getattribute__"))
  gt : PySem.W.findIn K (.ref C) "__getattr__" = some none
  sb : PySem.W.subIn K (.ref C) (.type "BaseException") = some true
  hd : PySem.W.hasDictIn K C = true
  cl : PySem.W.findIn K (.ref C) "__class__" = some (some (.builtin "object.__class__"))
  sp : PySem.W.specialIn K (.builtin "object.__class__") "__get__" = some (some (.builtin "getset_descriptor.__get__"))
  tk : PySem.W.takesIn K (.builtin "object.__class__") = some true
  mr : PySem.W.mroIn K C (.type "object") = some true
section
variable {prog : Program} {w : World} {A : Around} {E : Value → Shared → Prop} {s : Shared} {K : PySem.W.Frag} {x C : Addr} {ox : Obj} {od : Option Obj}
theorem findObj_cls (c : IsC K C) : PySem.W.findObj K C od "__class__" = some (.bind (.builtin "getset_descriptor.__get__") (.builtin "object.__class__")) := by
  obtain ⟨cd, hc, _⟩ := PySem.W.any_some c.hd
  unfold PySem.W.findObj
  rw [hc, Option.bind_some, c.cl, Option.bind_some]
  simp [c.sp, c.tk]
theorem own_class {Q : Option Value → Shared → Prop} (c : IsC K C) (X : K.In s.heap) (I : PySem.W.InstAt s.heap x ox C od) (h : Q (some (.ref C)) { s with toks := s.toks + 1 }) : wpAny (model prog w) A (getAttr? (.ref x) "__class__") Q E s := by
  obtain ⟨hp, g, d, t, os⟩ := s
  have ty := I.type (M := model prog w)
  have lga := PySem.W.looks_findIn (M := model prog w) X c.ga
  have lgt := PySem.W.looks_findIn (M := model prog w) X c.gt
  have lcl := PySem.W.looks_find (M := model prog w) X I (findObj_cls c)
  have isB : PySem.W.Looks (model prog w) hp (isInstance (.ref x) (.type "BaseException")) true := ty.andThen (PySem.W.looks_subIn X c.sb)
  have n0 : (false && onTheHeap (Value.builtin "BaseException.__getattribute__")) = false := rfl
  have n2 : (Value.builtin "BaseException.__getattribute__" == Value.builtin "object.__getattribute__") = false := by decide +kernel
  have n1 : (onTheHeap (Value.ref C) && Value.builtin "BaseException.__getattribute__" == Value.builtin "object.__getattribute__") = false := by rw [n2]; rfl
  unfold getAttr? getAttrBy? getAttrBy
  refine wpAny_bind (wpAny_mkText (wpAny_bind (wpAny_attempt (wpAny_holding (wpAny_bind (ty.at (wpAny_bind (lga.at ?_))))))))
  show wpAny _ _ (if (onTheHeap (Value.ref C) && Value.builtin "BaseException.__getattribute__" == Value.builtin "object.__getattribute__") = true then _ else _) _ _ _
  rw [n1, if_neg Bool.false_ne_true]
  unfold getAttrByItsOwn hookBefore
  refine wpAny_bind ?_
  rw [if_pos (show onTheHeap (Value.ref C) = true from rfl)]
  refine lgt.at (wpAny_bind (wpAny_attempt (wpAny_holding ?_)))
  unfold callGetattribute
  rw [n0, if_neg Bool.false_ne_true]
  unfold boundAndCalled
  rw [PySem.F.excAttr_ValueError.ga.bind (.ref x)]
  refine wpAny_bind (wpAny_pure ?_)
  show wpAny _ _ (call (.builtin "BaseException.__getattribute__") [.ref x, .str "__class__" t]) _ _ _
  refine wpAny_call (codeAny_call_builtin PySem.F.excAttr_ValueError.ga.plain PySem.F.entry_bexc_ga ?_)
  refine @PySem.W.check_slot (model prog w) _ _ ⟨hp, g, d, t + 1, os⟩ "BaseException.__getattribute__" "BaseException" "__getattribute__" (.ref x) [.str "__class__" t] [] _ (by decide +kernel) (by decide +kernel) isB (PySem.F.args_bexc_ga (.ref x) (.str "__class__" t)) ?_
  unfold Builtin.«object.__getattribute__»
  refine wpAny_bind (wpAny_of_eq (a := ((Value.ref x : Value), [Value.str "__class__" t])) (by first | rfl | (simp only [slotArgs]; rfl)) ?_)
  refine wpAny_bind (wpAny_pure (wpAny_bind (ty.at (wpAny_bind (lcl.at ?_)))))
  show wpAny _ _ (holding [Value.builtin "object.__class__"] (call (.builtin "getset_descriptor.__get__") [.builtin "object.__class__", .ref x, .ref C]) >>= ret) _ _ _
  refine wpAny_bind (wpAny_holding (wpAny_call (PySem.W.class_get (s := ⟨hp, g, d, t + 1, os⟩) (ox := ox) (od := od) X I c.mr (wpAny_pure ?_))))
  show wpAny _ _ (handedOut (.ref C)) _ _ _
  rw [PySem.W.handedOut_of (v := .ref C) rfl]
  first
    | exact wpAny_pure (wpAny_pure h)
    | exact wpAny_pure h
    | exact wpAny_pure (wpAny_bind (wpAny_pure (wpAny_pure h)))
theorem kitX_own (c : IsC K C) : PySem.W.KitX K (.ref x) (.ref C) (fun h => ∃ od, PySem.W.InstAt h x ox C od) where
  ty := fun _ _ _ ⟨_, I⟩ => I.type
  it := fun _ _ X _ => by
    obtain ⟨cd, hc, _⟩ := PySem.W.any_some c.hd
    unfold PySem.W.clsIn at hc
    split at hc
    · rename_i c' d' cd' sl' ho
      intro A' Q' E' s' k q
      unfold isType loadHead
      exact wpAny_bind (wpAny_loadPart (k _ _ (X _ _ ho)) (wpAny_pure q))
    · cases hc
  ne := fun h tp dd its n sl X htp => by
    obtain ⟨cd, hc, _⟩ := PySem.W.any_some c.hd
    unfold PySem.W.clsIn at hc
    refine Bool.eq_false_iff.mpr fun q => ?_
    obtain rfl : C = tp := Value.ref.inj (beq_iff_eq.mp q)
    split at hc
    · rename_i c' d' cd' sl' ho
      cases (X _ _ ho).symm.trans htp
    · cases hc
  ca := fun X ⟨_, I⟩ k => own_class c X I k
end

/-! ### isinstance(e, T), e a caught exception of one of L's classes -/
/-- what is asked of L's classes: their instances are asked rightly; which of them come under T, the value t -/
def AskC (K : PySem.W.Frag) (L : List Str) : Prop := ∀ C ∈ L, ∀ c : Addr, PySem.W.nsIn K mainGlobals C = some (some (.ref c)) → IsC K c
def AskT (K : PySem.W.Frag) (L : List Str) (T : Str) (t : Value) : Prop := ∀ C ∈ L, ∀ c : Addr, PySem.W.nsIn K mainGlobals C = some (some (.ref c)) → PySem.W.kitOne K (.ref c) t = some (isSubX C T)
/-- a caught exception's object, in a state -/
theorem cgh_inst {X : Cx} {pins : List (Addr × Obj)} {σ : L2.St} {H : Hp} {s : Shared} {ι : Io} {v : V} {C : Str} {ls : List D} (I : Inv X pins σ H s) (r : RepV X.K ι H v (.exc C ls)) :
    ∃ (a c : Addr) (oe : Obj) (xs : List V), v = .ref a ∧ PySem.W.nsIn X.K mainGlobals C = some (some (.ref c)) ∧ RepVs X.K ι H xs ls ∧
      ((xs = [] ∧ PySem.W.InstAt s.heap a oe c none) ∨ ∃ (x : V) (p : Addr) (od : Obj) (mA : Str → Option Value), xs = [x] ∧ PySem.W.InstAt s.heap a oe c (some od) ∧ s.heap.get? p = some od ∧ s.heap.Ns1 p mA ∧ ∀ f, RelO (List.lookup f [(("lot" : Str), x)]) (mA f)) := by
  obtain ⟨a, dd, xs, rfl, ⟨oe, u, cls, h1, hz, ⟨vs, hd⟩, c, hc, rfl⟩, h2, h3⟩ := r
  have o1 : ObjOk X.prog X.w H s.heap a (.frz oe (.ext u)) := I.hok a _ h1
  have no : PySem.W.notCls oe = true := by unfold PySem.W.notCls; rw [hd] <;> rfl
  refine ⟨a, c, oe, xs, rfl, hc, h2, ?_⟩
  rcases h3 with ⟨rfl, rfl⟩ | ⟨p, x, rfl, rfl, h4, h5⟩
  · exact .inl ⟨rfl, o1.1, hz.1, no, by rw [hz.2.1]; trivial⟩
  · have o2 : ObjOk X.prog X.w H s.heap p (.xd [(("lot" : Str), x)]) := I.hok p _ h4
    obtain ⟨mA, hns, hr⟩ := o2
    obtain ⟨od, es, ep, ho, q⟩ := id hns
    exact .inr ⟨x, p, od, mA, rfl, ⟨o1.1, hz.1, no, by rw [hz.2.1]; exact ho⟩, ho, hns, hr⟩
def rIsX (K : PySem.W.Frag) (L : List Str) : List V → Hp → VK → Prop := fun xs H Q => ∃ (v c : V) (cv : Value) (C : Str) (ls : List D) (ι : Io) (b : Bool), xs = [v, c] ∧ RepV K ι H v (.exc C ls) ∧ C ∈ L ∧ (∀ u, RelV c u → u = cv) ∧
  (∀ d : Addr, PySem.W.nsIn K mainGlobals C = some (some (.ref d)) → PySem.W.kitOne K (.ref d) cv = some b) ∧ Q (.bl b) H
section
variable {X : Cx} {W : WX} {L : List Str}
theorem call_isX (hA : AskC X.K L) : CallR X (.builtin "isinstance") (rIsX X.K L) := by
  intro pins s σ H xs us Q I r h
  obtain ⟨v, c, cv, C, ls, ι, b, rfl, rv, hC, hcv, hk, q⟩ := h
  obtain ⟨a, d, oe, ys, rfl, hd, _, hi⟩ := cgh_inst I rv
  cases r with
  | cons rx rr =>
    cases rr with
    | cons rt rr =>
      cases rr
      cases rx
      have ec := hcv _ rt
      subst ec
      have J : ∃ od, PySem.W.InstAt s.heap a oe d od := by
        rcases hi with ⟨_, J⟩ | ⟨_, _, od, _, _, J, _⟩
        · exact ⟨_, J⟩
        · exact ⟨_, J⟩
      exact PySem.W.kia_one (kitX_own (hA C hC d hd)) I.kIn J (hk d hd) (fun z => nomatch z) fun tk => ⟨.bl b, H, I.kept (t' := tk) fun _ _ z => z, rfl, q⟩
def evIsE (L : List Str) (T : Str) (a : Ev) : Ev := fun e S => (a e S).bind fun d S1 => match d with
  | .exc C _ => if C ∈ L then .ok (.bl (isSubX C T)) S1 else .bad
  | _ => .bad
theorem f_isE {T : Str} {cV : V} {cv : Value} {p pos : Pos} {e ty : Expr} {a : Ev} (hA : AskC X.K L) (hT : AskT X.K L T cv) (hg : Gl X "isinstance") (hm : X.mg "isinstance" = none) (ha : PEF X W e a) (hy : PE X ty (tC cV)) (hrel : ∀ u, RelV cV u → u = cv)
    (he : starEach [e, ty] X.env = (false, eval e X.env) :: starEach [ty] X.env := by rfl) (he2 : starEach [ty] X.env = (false, eval ty X.env) :: starEach [] X.env := by rfl) (hpl : (backTo pos (starEach [ty] X.env)).any (·.1) = false := by rfl) :
    PEF X W (.Call (.Name "isinstance" p) [e, ty] [] pos) (evIsE L T a) := by
  refine PE.weak (pe_callB (call_isX hA) hg hm bo_isinstance (pa_cons ha (pa_cons hy pa_nil he2) he) (by decide) (by decide) he hpl) ?_
  rintro σ H Q ⟨ι, en, S, se, s, h⟩
  refine ⟨ι, en, S, se, s, FinE.mono ?_ (FinE.bind h)⟩
  rintro ι1 H1 d x1 ⟨S1, _, x, s1, h1⟩ v r
  cases d with
  | exc C ls =>
    have h1 : FinE X.K W ι1 H1 σ (fun ι' H' d => ∀ v, RepV X.K ι' H' v d → Q v H') (if C ∈ L then .ok (.bl (isSubX C T)) S1 else .bad) := h1
    by_cases c : C ∈ L
    · rw [if_pos c] at h1
      exact ⟨v, cV, cv, C, ls, ι1, _, rfl, r, c, hrel, fun d hd => hT C c d hd, h1 H1 ι1 (Ext.refl _ _) s1 _ rfl⟩
    · rw [if_neg c] at h1; exact h1.elim
  | _ => exact h1.elim
/-! isinstance(e, (T, ..)) -/
def AskTs (K : PySem.W.Frag) (L Ts : List Str) (cvs : List Value) : Prop := ∀ C ∈ L, ∀ c : Addr, PySem.W.nsIn K mainGlobals C = some (some (.ref c)) → PySem.W.kitAny K (.ref c) cvs = some (Ts.any fun T => isSubX C T)
def tCs (cs : List V) : TA := fun _ H Q => Q cs H
theorem pc_nil : PA X [] (tCs []) := pa_nil
theorem pc_cons {e : Expr} {es : List Expr} {c : V} {cs : List V} (he : PE X e (tC c)) (hr : PA X es (tCs cs)) (hs : starEach (e :: es) X.env = (false, eval e X.env) :: starEach es X.env := by rfl) : PA X (e :: es) (tCs (c :: cs)) := pa_cons he hr hs
def rIsT (K : PySem.W.Frag) (L : List Str) : List V → Hp → VK → Prop := fun xs H Q => ∃ (v : V) (tp : Addr) (cs : List V) (cvs : List Value) (C : Str) (ls : List D) (ι : Io) (b : Bool), xs = [v, .ref tp] ∧ RepV K ι H v (.exc C ls) ∧ C ∈ L ∧ H tp = some (.tup cs) ∧ (∀ us, Vals cs us → us = cvs) ∧
  (∀ d : Addr, PySem.W.nsIn K mainGlobals C = some (some (.ref d)) → PySem.W.kitAny K (.ref d) cvs = some b) ∧ Q (.bl b) H
theorem call_isTX (hA : AskC X.K L) : CallR X (.builtin "isinstance") (rIsT X.K L) := by
  intro pins s σ H xs us Q I r h
  obtain ⟨v, tp, cs, cvs, C, ls, ι, b, rfl, rv, hC, htp, hcv, hk, q⟩ := h
  obtain ⟨a, d, oe, ys, rfl, hd, _, hi⟩ := cgh_inst I rv
  cases r with
  | cons rx rr =>
    cases rr with
    | cons rt rr =>
      cases rr
      cases rx
      cases rt
      have ot : ObjOk X.prog X.w H s.heap tp (.tup cs) := I.hok tp _ htp
      obtain ⟨_, its, rv2, ⟨o, ho, hcl, n, hdt⟩⟩ := ot
      have ei := hcv its rv2
      subst ei
      have J : ∃ od, PySem.W.InstAt s.heap a oe d od := by
        rcases hi with ⟨_, J⟩ | ⟨_, _, od, _, _, J, _⟩
        · exact ⟨_, J⟩
        · exact ⟨_, J⟩
      obtain ⟨oc, odd, oda, osl⟩ := o
      dsimp only at hcl hdt
      subst hcl hdt
      exact PySem.W.kia_tup (kitX_own (hA C hC d hd)) I.kIn J ho (hk d hd) (fun z => nomatch z) fun tk => ⟨.bl b, H, I.kept (t' := tk) fun _ _ z => z, rfl, q⟩
def evIsT (L Ts : List Str) (a : Ev) : Ev := fun e S => (a e S).bind fun d S1 => match d with
  | .exc C _ => if C ∈ L then .ok (.bl (Ts.any fun T => isSubX C T)) S1 else .bad
  | _ => .bad
theorem f_isT {Ts : List Str} {cs : List V} {cvs : List Value} {p pos tpos : Pos} {j} {e : Expr} {tys : List Expr} {a : Ev} (hA : AskC X.K L) (hT : AskTs X.K L Ts cvs) (hg : Gl X "isinstance") (hm : X.mg "isinstance" = none) (ha : PEF X W e a) (hy : PA X tys (tCs cs)) (hrel : ∀ us, Vals cs us → us = cvs) (hl : cs.length ≤ 1000)
    (he : starEach [e, .Tuple tys j tpos] X.env = (false, eval e X.env) :: starEach [.Tuple tys j tpos] X.env := by rfl) (he2 : starEach [.Tuple tys j tpos] X.env = (false, eval (.Tuple tys j tpos) X.env) :: starEach [] X.env := by rfl) (hpl : (backTo pos (starEach [.Tuple tys j tpos] X.env)).any (·.1) = false := by rfl) :
    PEF X W (.Call (.Name "isinstance" p) [e, .Tuple tys j tpos] [] pos) (evIsT L Ts a) := by
  refine PE.weak (pe_callB (call_isTX hA) hg hm bo_isinstance (pa_cons ha (pa_cons (pe_tup hy) pa_nil he2) he) (by decide) (by decide) he hpl) ?_
  rintro σ H Q ⟨ι, en, S, se, s, h⟩
  refine ⟨ι, en, S, se, s, FinE.mono ?_ (FinE.bind h)⟩
  rintro ι1 H1 d x1 ⟨S1, _, x, s1, h1⟩ v r
  cases d with
  | exc C ls =>
    have h1 : FinE X.K W ι1 H1 σ (fun ι' H' d => ∀ v, RepV X.K ι' H' v d → Q v H') (if C ∈ L then .ok (.bl (Ts.any fun T => isSubX C T)) S1 else .bad) := h1
    by_cases c : C ∈ L
    · rw [if_pos c] at h1
      refine ⟨by rw [sizeLine_eq]; omega, fun tp htp => ?_⟩
      have x2 := Ext.new (o := .tup cs) ι1 htp
      exact ⟨v, tp, cs, cvs, C, ls, ι1, _, rfl, RepV.ext x2 _ v r, c, upd_same, hrel, fun d hd => hT C c d hd, h1 _ ι1 x2 (s1.new htp) _ rfl⟩
    · rw [if_neg c] at h1; exact h1.elim
  | _ => exact h1.elim
/-! e.lot -/
def tLot (K : PySem.W.Frag) (te : TE) : TE := fun σ H Q => te σ H fun v H1 => ∃ (C : Str) (l : D) (ι : Io), RepV K ι H1 v (.exc C [l]) ∧ (∀ c : Addr, PySem.W.nsIn K mainGlobals C = some (some (.ref c)) → IsC K c ∧ PySem.W.findIn K (.ref c) "lot" = some none) ∧ ∀ y, RepV K ι H1 y l → Q y H1
theorem pe_lot {e : Expr} {te : TE} {pos : Pos} (he : PE X e te) (hb : attributeBase e "lot" X.env (eval e X.env) = eval e X.env := by rfl) : PE X (.Attribute e "lot" pos) (tLot X.K te) := by
  refine ⟨fun pins s σ H Q I h => ?_⟩
  refine attr_of hb (thn (he.run pins s σ H _ I h) fun u s1 ⟨v, H1, I1, rx, C, l, ι, rv, hC, q⟩ => ?_)
  obtain ⟨a, c, oe, xs, rfl, hc, rl, hi⟩ := cgh_inst I1 rv
  obtain rfl : u = Value.ref a := rx
  obtain ⟨k1, k2⟩ := hC c hc
  rcases hi with ⟨rfl, _⟩ | ⟨x, p, od, mA, rfl, J, ho, hns, hr⟩
  · obtain ⟨_, _, z, _⟩ := rl; cases z
  obtain ⟨od', ho', hl⟩ := lookIn_ns hns
  rw [ho] at ho'
  cases ho'
  obtain ⟨w, hw, rw'⟩ := RelO.some_of (v := x) (o := mA "lot") (by have z := hr "lot"; simpa [List.lookup] using z)
  exact HandSPX.exc_get I1.kIn J k1.ga k1.gt k1.sb (PySem.W.findObj_own k1.hd k2 rfl (by rw [hl, hw])) (handed_of rw') ⟨x, H1, I1.tok _, rw', q x (by obtain ⟨y, r, z, r1, _⟩ := rl; cases z; exact r1)⟩
def AskL (K : PySem.W.Frag) (L : List Str) : Prop := ∀ C ∈ L, ∀ c : Addr, PySem.W.nsIn K mainGlobals C = some (some (.ref c)) → IsC K c ∧ PySem.W.findIn K (.ref c) "lot" = some none
def evLot (L : List Str) (a : Ev) : Ev := fun e S => (a e S).bind fun d S1 => match d with
  | .exc C [l] => if C ∈ L then .ok l S1 else .bad
  | _ => .bad
theorem f_lot {e : Expr} {a : Ev} {pos : Pos} (hL : AskL X.K L) (ha : PEF X W e a) (hb : attributeBase e "lot" X.env (eval e X.env) = eval e X.env := by rfl) : PEF X W (.Attribute e "lot" pos) (evLot L a) := by
  refine PE.weak (pe_lot ha hb) ?_
  rintro σ H Q ⟨ι, en, S, se, s, h⟩
  refine ⟨ι, en, S, se, s, FinE.mono ?_ (FinE.bind h)⟩
  rintro ι1 H1 d x1 ⟨S1, _, x, s1, h1⟩ v r
  cases d with
  | exc C ls =>
    match ls, h1, r with
    | [], h1, _ => exact h1.elim
    | _ :: _ :: _, h1, _ => exact h1.elim
    | [l], h1, r =>
      have h1 : FinE X.K W ι1 H1 σ (fun ι' H' d => ∀ v, RepV X.K ι' H' v d → Q v H') (if C ∈ L then .ok l S1 else .bad) := h1
      by_cases c : C ∈ L
      · rw [if_pos c] at h1
        exact ⟨C, l, ι1, r, fun d hd => hL C c d hd, fun y hy => h1 H1 ι1 (Ext.refl _ _) s1 y hy⟩
      · rw [if_neg c] at h1; exact h1.elim
  | _ => exact h1.elim
end
end FL

/-! ED: defs called in an except suite; an except suite without a name. -/
namespace FL
open PySem PySem.Spec PyProof.Rows L2
open L2H (RoomH roomH_of)

/-- the promise of a def wherever it is called, also where an exception is handled -/
structure FnQ (P : Program) (w : World) (K : PySem.W.Frag) (mg : Str → Option Value) (base : Heap) (k : Nat) (f : Addr) (fd : FuncData) (ps : List Str) (F : List D → Store → R D) : Prop where
  run : ∀ (A : Around) (outer : List Env) (s : Shared) (H : Hp) (args : Args) (us : List Value) (vs : List V) (Q : VK) (E : XK) (ι : Io) (ds : List D) (S : Store), RoomH k A → A.guards = some [] → Env0 P w K mg base A outer s H → BindsTo s fd args (ps.zip us) → Vals vs us →
    ds.length = ps.length → RepVs K ι H vs ds → Sim K ι H S → FinE K (WofE E) ι H [] (Want K Q) (F ds S) → codeAny (model P w) A (.call (.ref f) args) (CR (L2N.CX P w) outer P w H s Q E) s
/-- the context of its body -/
abbrev cxQ (P : Program) (w : World) (K : PySem.W.Frag) (mg : Str → Option Value) (base : Heap) (N : List Str) (qual : Str) (scope : Scope) (f : Addr) (cd : Value) (A : Around) (outer : List Env) (s : Shared) (H : Hp) (E : XK) : Cx :=
  { cxOf (L2N.CX P w) P w K mg base N qual scope f cd A outer s H E with calm := false }
section
variable {P : Program} {w : World} {K : PySem.W.Frag} {mg : Str → Option Value} {base : Heap}
theorem inv_startQ {N ps : List Str} {qual : Str} {scope : Scope} {f : Addr} {cd : Value} {A : Around} {outer : List Env} {s s1 : Shared} {H : Hp} {E : XK} {us : List Value} {vs : List V}
    (S : FnScope N ps scope) (e0 : Env0 P w K mg base A outer s H) (hl : vs.length = ps.length) (r : Vals vs us)
    (x : InCallC s s.heap.objs.size (bindL (envOfC qual scope s.heap.objs.size f cd).kindOf (ps.zip us) fun _ => none) (cellsFrom (s.heap.objs.size + 1) scope.names []) (bindC (envOfC qual scope s.heap.objs.size f cd).kindOf (ps.zip us) fun _ => none) s1) :
    Inv (cxQ P w K mg base N qual scope f cd A outer s H E) [] (L2.start N vs) H s1 := by
  have e1 : Env0 P w K mg base { A with handled := none } outer s H := ⟨e0.frames, e0.mod, e0.bs, e0.bsz, e0.funs, e0.frf, e0.hok, e0.bare⟩
  have I := inv_start (CX := L2N.CX P w) (E := E) S (A := { A with handled := none }) rfl e1 hl r x
  exact ⟨⟨I.ok.mod, I.ok.kind, I.ok.glob, I.ok.blt, I.ok.above, I.ok.inj, I.ok.has, I.ok.cab, fun z => Bool.noConfusion (show false = true from z), Around.frames_deeper e0.frames, I.ok.stk, I.ok.exf, I.ok.bs, I.ok.bsz, I.ok.noex, I.ok.exfs, I.ok.funs, I.ok.frf⟩,
    I.os, I.bare, I.base, I.loc, I.cell, I.free, I.freeC, I.pin, I.hok, I.len⟩
theorem okQ {x qual : Str} {st : Stmt} {f : Addr} {fd : FuncData} {N ps : List Str} {k : Nat} {mt : Bool} {ev : EvS} (F : Fun K x qual st f fd) (Sc : FnScope N ps (defScope st))
    (body : ∀ (cdv : Value) (A : Around) (outer : List Env) (s : Shared) (H : Hp) (E : XK), RoomH k (A.deeper (envOfC qual (defScope st) s.heap.objs.size f cdv)) → (A.deeper (envOfC qual (defScope st) s.heap.objs.size f cdv)).guards = some [] →
      PSsF (cxQ P w K mg base N qual (defScope st) f cdv A outer s H E) (WofE E) (defBody st) ev) : FnQ P w K mg base (k + 1) f fd ps (runF mt N.length ev) := by
  obtain ⟨oc, od, kV, doc, pm, an, cdv, ct, osl, rfl, lk, hcd⟩ := F.ex
  refine ⟨fun A outer s H args us vs Q E ι ds S room gd e0 hb rv hl rd sim fin => ?_⟩
  have hlv : vs.length = ps.length := rd.length.trans hl
  have kin : K.In s.heap := e0.mod.kin.keeps fun b o e => (e0.bs b o e).1
  have nol : s.heap.NoLimit := e0.mod.nolimit.keeps fun b o e => (e0.bs b o e).1
  have kinds : ∀ y ∈ ps.zip us, (defScope st).names.lookup y.1 = some .local ∨ ((defScope st).names.lookup y.1 = some .cell ∧ ((cellsFrom (s.heap.objs.size + 1) (defScope st).names []).lookup y.1).isSome = true) := by
    rintro ⟨n, v⟩ hy
    rcases Sc.par n (List.of_mem_zip hy).1 with q | q
    · exact .inl q
    · exact .inr ⟨q, PySem.W.cellsFrom_some _ _ _ (.inl q)⟩
  refine codeAny_call_function room.depth (kin _ _ lk) rfl Sc.co Sc.gen rfl (PySem.W.codeRec_of kin hcd) (hb _ _ _ _ ?_)
  refine wpAny_newFunctionEnv_cells Sc.kind kinds fun env henv s1 icc => ?_
  subst henv
  refine ⟨nol.keeps icc.toInCall.keep, codeAny_func ?_⟩
  have inv : Inv (cxQ P w K mg base N qual (defScope st) f cdv A outer s H E) [] (L2.start N vs) H s1 := inv_startQ Sc e0 hlv rv icc
  have b := body cdv A outer s H E (room.deeper _) gd
  refine wpAny_mono (b.run [] s1 (L2.start N vs) H { nx := fun _ H' => Q .non H', rt := Q } inv ⟨ι, startE N.length ds, S, start_ok rd, sim, gc_ok (W := WofE E) sim rfl rfl fin⟩) (fun fl s' hs => ?_) fun e s' hs => hs
  cases fl with
  | ret u => exact let ⟨v, σ', H', J, r', q⟩ := hs; ⟨v, H', J.os, J.bare, J.base, J.hok, r', q⟩
  | next => exact let ⟨σ', H', J, q⟩ := hs; ⟨V.non, H', J.os, J.bare, J.base, J.hok, rfl, q⟩
  | brk => exact hs.elim fun _ z => z.elim fun _ z => False.elim z.2
  | cont => exact hs.elim fun _ z => z.elim fun _ z => False.elim z.2
end
section
variable {X : Cx} {W : WX}
theorem f_callQ {k : Nat} {f : Addr} {fd : FuncData} {ps : List Str} {F : List D → Store → R D} {x : Str} {p pos : Pos} {e : Expr} {es : List Expr} {a : EvL} (G : FnQ X.prog X.w X.K X.mg X.base k f fd ps F) (hr : RoomH k X.A) (gd : X.A.guards = some []) (hg : Gl X x) (hm : X.mg x = some (.ref f)) (hk : PySem.W.keepIn X.K (.ref f) = true) (hb : Binds X.K fd ps []) (tk : L2N.Takes X W)
    (ha : PAF X W (e :: es) a) (hdb : (x == ("__debug__" : Str)) = false := by decide) (he : starEach (e :: es) X.env = (false, eval e X.env) :: starEach es X.env := by rfl) (hpl : (backTo pos (starEach es X.env)).any (·.1) = false := by rfl) :
    PEF X W (.Call (.Name x p) (e :: es) [] pos) (evCall ps.length F a) := by
  refine ⟨fun pins s σ H Q I h => ?_⟩
  obtain ⟨ι, en, S, se, sim, h⟩ := h
  have arg : tFL X.K W a σ H fun vs H1 => ∃ ι1 ds S1, ds.length = ps.length ∧ RepVs X.K ι1 H1 vs ds ∧ Sim X.K ι1 H1 S1 ∧ FinE X.K W ι1 H1 σ (Want X.K Q) (F ds S1) := by
    refine ⟨ι, en, S, se, sim, FinE.mono ?_ (FinE.bind h)⟩
    rintro ι1 H1 ds x1 ⟨S1, _, _, s1, h1⟩ vs rv
    by_cases c : ds.length = ps.length
    · rw [if_pos c] at h1; exact ⟨ι1, ds, S1, c, rv, s1, h1⟩
    · rw [if_neg c] at h1; exact h1.elim
  refine wpAny_Call_Name_kw (ld_glob I hg hm ?_ hdb)
  refine PySem.W.callWith_K (h₀ := X.base) I.ok.mod.kin hk (thn (ha.run pos pins s σ H _ I arg) fun us s1 ⟨vs, H1, I1, r, ι1, ds, S1, h1, h2, h3, h4⟩ => ⟨I1.kIn, ?_⟩) he hpl
  show wpAny _ _ (call (.ref f) us) _ _ _
  have hl2 : us.length = ps.length := by rw [← r.length, h2.length]; exact h1
  have b := hb s1 us I1.kIn (by rw [List.append_nil]; exact hl2)
  rw [List.append_nil] at b
  have h' : FinE X.K (WofE (WE W σ)) ι1 H1 [] (Want X.K Q) (F ds S1) := by
    cases q : F ds S1 with
    | ok d S' => rw [q] at h4; exact h4
    | ex c S' => rw [q] at h4; exact h4
    | bad => rw [q] at h4; exact h4
  refine wpAny_call (codeAny_mono (G.run X.A X.stack s1 H1 ⟨us, []⟩ us vs Q (WE W σ) ι1 ds S1 hr gd I1.env0 b r h1 h2 h3 h') fun r' s' hq => ?_)
  cases r' with
  | error e => exact L2N.passAt tk σ pins H1 s1 e s' I1 hq
  | ok fl =>
    cases fl with
    | ret u => exact I1.after hq
    | next => exact False.elim hq
    | brk => exact False.elim hq
    | cont => exact False.elim hq
end
/-! ### try: .. except T: .. without a name -/
def offX (r : SR) : SR := match r with
  | .ex _ _ _ => .bad
  | r => r
def evTry0 (L : List Str) (T : Str) (b s : EvS) : EvS := fun e S => match b e S with
  | .ex c e' S' => if c.C ∈ L then (if isSubX c.C T = true then offX (s e' S') else .ex c e' S') else .bad
  | r => r
section
variable {X : Cx} {W : WX} {x : Str} {t : Value} {L : List Str} {body suite : List Stmt} {st : Stmt} {np pos pos' : Pos} {b s : EvS}
theorem fs_try0 (hs : X.stack = X.env :: X.outer) (hf : X.env.frame = some X.env.locals) (hc : Names X x t) (hu : Under X.K L x t) (tk : L2N.Takes X W)
    (hb : ∀ (W' : WX) (pn : List (Addr × Obj)) (xe : Value → Shared → Prop), L2N.Takes (X.tr pn xe) W' → PassesOwn (model X.prog X.w) X.A X.env xe → PSsF (X.tr pn xe) W' body b)
    (hsu : ∀ (a : Addr) (pn : List (Addr × Obj)), PSsF (X.suite a pn) W0 (st :: suite) s) :
    PSF X W (.Try body [.ExceptHandler (some (.Name x np)) none (st :: suite) pos'] [] [] pos) (evTry0 L x b s) := by
  refine PS.weak (L2N.ps_try_many (tb := fun W' => tFS X.K W' b) (l := [(t, fun _ _ _ => tFS X.K W0 s)]) hs hf tk hb (.cons hc (fun a oe _ _ pn _ _ => hsu a _) .nil)) ?_
  rintro D' σ H ⟨ι, e, S, se, sm, h⟩
  refine ⟨ι, e, S, se, sm, ?_⟩
  unfold evTry0 at h
  cases q : b e S with
  | nx e' S' => rw [q] at h; exact h
  | rt d S' => rw [q] at h; exact h
  | bk e' S' => rw [q] at h; exact h
  | ct e' S' => rw [q] at h; exact h
  | bad => rw [q] at h; exact h.elim
  | ex c e' S' =>
    rw [q] at h
    have h : FinS X.K W ι H D' (if c.C ∈ L then (if isSubX c.C x = true then offX (s e' S') else .ex c e' S') else .bad) := h
    by_cases hL : c.C ∈ L
    · rw [if_pos hL] at h
      intro cls dd σ' H' ι' x1 se1 sm1 hx
      refine ⟨_, hu c.C hL cls hx.1, fun hb a na => ?_, fun hb => ?_⟩
      · rw [if_pos hb] at h
        refine ⟨ι', e', S', se1, sm1, ?_⟩
        cases q2 : s e' S' with
        | nx e2 S2 => rw [q2] at h; exact h.ext x1
        | rt d S2 => rw [q2] at h; exact h.ext x1
        | bk e2 S2 => rw [q2] at h; exact h.ext x1
        | ct e2 S2 => rw [q2] at h; exact h.ext x1
        | ex _ _ _ => rw [q2] at h; exact h.elim
        | bad => rw [q2] at h; exact h.elim
      · rw [if_neg (by rw [hb]; decide)] at h
        exact h cls dd σ' H' ι' x1 se1 sm1 hx
    · rw [if_neg hL] at h; exact h.elim
end
end FL

/-! EE: the facts of the classes put together; the __init__ of the class with a lot. -/
namespace FL
open PySem PySem.Spec PyProof.Rows L2
theorem _root_.L2H.RoomH.units {k : Nat} {A : Around} (r : L2H.RoomH k A) : A.units + 64 < cLine := by have := r.un; omega
theorem roomHM {k : Nat} {A : Around} {h : Option Value} (r : Room k A) : L2H.RoomH k (A.mark h) := ⟨r.dp, r.un⟩
section
variable {K : PySem.W.Frag} {L Ts : List Str} {C T : Str} {c t : Addr} {b : Bool} {cvs : List Value}
theorem askC_nil : AskC K [] := fun _ h => nomatch h
theorem askC_cons (e : PySem.W.nsIn K mainGlobals C = some (some (.ref c))) (i : IsC K c) (r : AskC K L) : AskC K (C :: L) := fun D' h d q => by
  rcases List.mem_cons.mp h with rfl | h
  · cases e.symm.trans q
    exact i
  · exact r D' h d q
theorem under_nil {v : Value} : Under K [] T v := fun _ h => nomatch h
theorem under_cons (hb : PySem.W.subIn K (.ref t) (.type "BaseException") = some true) (hd : PySem.W.hasDictIn K t = true) (ht : PySem.W.typeIn K (.ref t) = some (.type "type")) (e : PySem.W.nsIn K mainGlobals C = some (some (.ref c))) (i : PySem.W.subIn K (.ref c) (.ref t) = some (isSubX C T)) (r : Under K L T (.ref t)) : Under K (C :: L) T (.ref t) := fun D' h cls q => by
  rcases List.mem_cons.mp h with rfl | h
  · obtain ⟨d, q1, rfl⟩ := q
    cases e.symm.trans q1
    exact PySem.W.exm_ref hb hd ht i
  · exact r D' h cls q
theorem kit_ref (hd : PySem.W.hasDictIn K t = true) (ht : PySem.W.typeIn K (.ref t) = some (.type "type")) (hs : PySem.W.subIn K (.ref c) (.ref c) = some true) (i : PySem.W.subIn K (.ref c) (.ref t) = some b) : PySem.W.kitOne K (.ref c) (.ref t) = some b := by
  unfold PySem.W.kitOne
  by_cases q : (Value.ref c == Value.ref t) = true
  · rw [if_pos q]
    have : c = t := Value.ref.inj (beq_iff_eq.mp q)
    rw [this] at hs i
    rw [← hs, i]
  · rw [if_neg q]
    obtain ⟨cd, hc, _⟩ := PySem.W.any_some hd
    show (if ((PySem.W.clsIn K t).isSome && PySem.W.typeIn K (.ref t) == some (.type "type")) = true then PySem.W.subIn K (.ref c) (.ref t) else none) = _
    rw [if_pos (by rw [hc, ht]; rfl)]
    exact i
theorem kit_ve (i : PySem.W.subIn K (.ref c) (.type "ValueError") = some b) : PySem.W.kitOne K (.ref c) (.type "ValueError") = some b := by
  unfold PySem.W.kitOne
  rw [if_neg (by simp)]
  show (if PySem.W.kitMeta "ValueError" = true then PySem.W.subIn K (.ref c) (.type "ValueError") else none) = _
  rw [if_pos (by decide +kernel)]
  exact i
theorem askT_nil {v : Value} : AskT K [] T v := fun _ h => nomatch h
theorem askT_cons {v : Value} (e : PySem.W.nsIn K mainGlobals C = some (some (.ref c))) (i : PySem.W.kitOne K (.ref c) v = some (isSubX C T)) (r : AskT K L T v) : AskT K (C :: L) T v := fun D' h d q => by
  rcases List.mem_cons.mp h with rfl | h
  · cases e.symm.trans q
    exact i
  · exact r D' h d q
theorem askTs_nil : AskTs K L [] [] := fun _ _ _ _ => rfl
theorem askTs_cons {v : Value} (h : AskT K L T v) (r : AskTs K L Ts cvs) : AskTs K L (T :: Ts) (v :: cvs) := fun D' hd d q => by
  have h1 := h D' hd d q
  have h2 := r D' hd d q
  unfold PySem.W.kitAny
  rw [h1, List.any_cons]
  cases k : isSubX D' T
  · show PySem.W.kitAny K (.ref d) cvs = _
    rw [h2]
    rfl
  · rfl
theorem askL_one (e : PySem.W.nsIn K mainGlobals C = some (some (.ref c))) (i : IsC K c) (n : PySem.W.findIn K (.ref c) "lot" = some none) : AskL K [C] := fun D' h d q => by
  obtain rfl := List.mem_singleton.mp h
  cases e.symm.trans q
  exact ⟨i, n⟩
theorem vals_nil : ∀ us, Vals ([] : List V) us → us = [] := fun us h => by cases h; rfl
theorem vals_cons {x : V} {v : Value} {xs : List V} {vs : List Value} (h : ∀ u, RelV x u → u = v) (r : ∀ us, Vals xs us → us = vs) : ∀ us, Vals (x :: xs) us → us = v :: vs := fun us k => by
  cases k with
  | cons a b => rw [h _ a, r _ b]
end
theorem boo_ValueError : bootBuiltins "ValueError" = some (.type "ValueError") := by decide +kernel
/-- the reading of such an __init__ -/
def tFew (K : PySem.W.Frag) (m : Str) : TS := tSeq (tDrop (tVeI K (tCons (tVar 0) (tCons (tC (.str m)) tNil)))) (tOst K "lot" (tVar 0) (tVar 1))
theorem few_ok {P : Program} {w : World} {K : PySem.W.Frag} {mg : Str → Option Value} {base : Heap} {qual : Str} {st : Stmt} {f : Addr} {fd : FuncData} {m : Str} (F : Fun K "__init__" qual st f fd) (Sc : FnScope ["self", "lot"] ["self", "lot"] (defScope st))
    (body : ∀ (cdv : Value) (A : Around) (outer : List Env) (s : Shared) (H : Hp) (E : XK), PSs (cxOf (L2N.CX P w) P w K mg base ["self", "lot"] qual (defScope st) f cdv A outer s H E) (defBody st) (tFew K m)) : FnOk P w K mg base (L2N.CX P w) 1 f fd ["self", "lot"] (spFew K) := by
  obtain ⟨oc, od, kV, doc, pm, an, cdv, ct, osl, rfl, lk, hcd⟩ := F.ex
  refine fn_of lk hcd Sc (fun vs H Q E h => by obtain ⟨a, C, v, rfl, _⟩ := h; rfl) fun A outer s H vs Q E hr hsp => ⟨_, body cdv A outer s H E, ?_⟩
  obtain ⟨a, C, v, rfl, T, nl, ha, hq⟩ := hsp
  exact ⟨.ref a, rfl, a, C, [.str m], rfl, by simp, T, ha, v, rfl, .ref a, rfl, a, C, rfl, T, nl, .inl ⟨ha, fun dx h1 h2 => hq dx h1 h2⟩⟩
end FL

/-! EF: exceptions' evaluators run by simp. -/
namespace FL
open PySem PySem.Spec PyProof.Rows L2
section
variable {S S' : Store} {e : Fenv} {L Ts : List Str} {T C : Str}
@[simp ↓] theorem z_raise : evRaise C e S = .ex ⟨C, none⟩ e S := rfl
@[simp ↓] theorem z_raiseL {a : Ev} : evRaiseL C a e S = (a e S).bindS e fun d S1 => .ex ⟨C, some d⟩ e S1 := rfl
def isEK (L : List Str) (T : Str) (d : D) (S1 : Store) : R D := match d with
  | .exc C _ => if C ∈ L then .ok (.bl (isSubX C T)) S1 else .bad
  | _ => .bad
def isTK (L Ts : List Str) (d : D) (S1 : Store) : R D := match d with
  | .exc C _ => if C ∈ L then .ok (.bl (Ts.any fun T => isSubX C T)) S1 else .bad
  | _ => .bad
def lotK (L : List Str) (d : D) (S1 : Store) : R D := match d with
  | .exc C [l] => if C ∈ L then .ok l S1 else .bad
  | _ => .bad
@[simp ↓] theorem z_isE {a : Ev} : evIsE L T a e S = (a e S).bind (isEK L T) := rfl
@[simp ↓] theorem z_isT {a : Ev} : evIsT L Ts a e S = (a e S).bind (isTK L Ts) := rfl
@[simp ↓] theorem z_lot {a : Ev} : evLot L a e S = (a e S).bind (lotK L) := by
  unfold evLot lotK
  congr 1
theorem isEK_ok {ls : List D} (h : C ∈ L) : isEK L T (.exc C ls) S = .ok (.bl (isSubX C T)) S := if_pos h
theorem isTK_ok {ls : List D} (h : C ∈ L) : isTK L Ts (.exc C ls) S = .ok (.bl (Ts.any fun T => isSubX C T)) S := if_pos h
theorem lotK_ok {l : D} (h : C ∈ L) : lotK L (.exc C [l]) S = .ok l S := if_pos h
variable {nx : Fenv → Store → Prop} {rt : D → Store → Prop} {bk : Fenv → Store → Prop} {ct : Fenv → Store → Prop} {ex : Xc → Fenv → Store → Prop}
@[simp ↓] theorem wpS_tryAs {i : Nat} {b s : EvS} : @wpS (evTryAs L T i b s e S) ⟨nx, rt, bk, ct, ex⟩ = @wpS (b e S) ⟨nx, rt, bk, ct, fun c e' S' => c.C ∈ L ∧ (if isSubX c.C T = true then
    @wpS (s (e'.set i (some (.exc c.C c.lot.toList))) S') ⟨fun e S => nx (e.set i none) S, rt, fun e S => bk (e.set i none) S, fun e S => ct (e.set i none) S, fun _ _ _ => False⟩ else ex c e' S')⟩ := by
  cases hq : b e S with
  | ex c e' S' =>
    have h0 : evTryAs L T i b s e S = if c.C ∈ L then (if isSubX c.C T = true then tryEnd i (s (e'.set i (some (.exc c.C c.lot.toList))) S') else .ex c e' S') else .bad := by
      unfold evTryAs
      rw [hq]
    rw [h0]
    by_cases h : c.C ∈ L
    · rw [if_pos h]
      by_cases k : isSubX c.C T = true
      · rw [if_pos k]
        refine propext ⟨fun z => ⟨h, ?_⟩, fun z => ?_⟩
        · rw [if_pos k]
          cases q : s (e'.set i (some (.exc c.C c.lot.toList))) S' <;> rw [q] at z <;> exact z
        · have z := z.2
          rw [if_pos k] at z
          cases q : s (e'.set i (some (.exc c.C c.lot.toList))) S' <;> rw [q] at z <;> exact z
      · rw [if_neg k]
        exact propext ⟨fun z => ⟨h, by rw [if_neg k]; exact z⟩, fun z => by have z := z.2; rw [if_neg k] at z; exact z⟩
    · rw [if_neg h]
      exact propext ⟨fun z => z.elim, fun z => absurd z.1 h⟩
  | _ =>
    have h0 : evTryAs L T i b s e S = b e S := by
      unfold evTryAs
      rw [hq]
    rw [h0, hq]
    rfl
@[simp ↓] theorem wpS_try0 {b s : EvS} : @wpS (evTry0 L T b s e S) ⟨nx, rt, bk, ct, ex⟩ = @wpS (b e S) ⟨nx, rt, bk, ct, fun c e' S' => c.C ∈ L ∧ (if isSubX c.C T = true then @wpS (s e' S') ⟨nx, rt, bk, ct, fun _ _ _ => False⟩ else ex c e' S')⟩ := by
  cases hq : b e S with
  | ex c e' S' =>
    have h0 : evTry0 L T b s e S = if c.C ∈ L then (if isSubX c.C T = true then offX (s e' S') else .ex c e' S') else .bad := by
      unfold evTry0
      rw [hq]
    rw [h0]
    by_cases h : c.C ∈ L
    · rw [if_pos h]
      by_cases k : isSubX c.C T = true
      · rw [if_pos k]
        refine propext ⟨fun z => ⟨h, ?_⟩, fun z => ?_⟩
        · rw [if_pos k]
          cases q : s e' S' <;> rw [q] at z <;> exact z
        · have z := z.2
          rw [if_pos k] at z
          cases q : s e' S' <;> rw [q] at z <;> exact z
      · rw [if_neg k]
        exact propext ⟨fun z => ⟨h, by rw [if_neg k]; exact z⟩, fun z => by have z := z.2; rw [if_neg k] at z; exact z⟩
    · rw [if_neg h]
      exact propext ⟨fun z => z.elim, fun z => absurd z.1 h⟩
  | _ =>
    have h0 : evTry0 L T b s e S = b e S := by
      unfold evTry0
      rw [hq]
    rw [h0, hq]
    rfl
/-- an exception leaves a def -/
theorem wp_gcx {mt : Bool} {c : Xc} {Q : D → Store → Prop} {X : Xc → Store → Prop} (k : KeepS S S') (hl : ∀ l, c.lot = some l → low S.length l = true) (h : X c (S'.take S.length)) : @wp _ (gc mt S (.ex c e S')) ⟨Q, X⟩ := by
  have : gc mt S (.ex c e S') = .ex c (S'.take S.length) := by
    show (match oldO none S.length S' S S' with
      | none => R.bad
      | some So => match c.lot with
        | none => R.ex c So
        | some l => match fz none 12 S.length S' l with
          | some l' => R.ex ⟨c.C, some l'⟩ So
          | none => R.bad) = _
    rw [oldO_take k.len k.old]
    obtain ⟨C, lot⟩ := c
    cases lot with
    | none => rfl
    | some l =>
      show (match fz none 12 S.length S' l with
          | some l' => R.ex ⟨C, some l'⟩ (S'.take S.length)
          | none => R.bad) = _
      rw [fz_low (hl l rfl)]
  rw [this]
  exact h
theorem wp_gcx0 {mt : Bool} {Q : D → Store → Prop} {X : Xc → Store → Prop} (h : X ⟨C, none⟩ S) : @wp _ (gc mt S (.ex ⟨C, none⟩ e S)) ⟨Q, X⟩ := wp_gcx (KeepS.refl S) (fun _ z => nomatch z) (by rw [List.take_length]; exact h)
theorem gcx0 {mt : Bool} : gc mt S (.ex ⟨C, none⟩ e S) = .ex ⟨C, none⟩ S := by
  have h := wp_gcx0 (S := S) (e := e) (C := C) (mt := mt) (Q := fun _ _ => False) (X := fun c S' => c = ⟨C, none⟩ ∧ S' = S) ⟨rfl, rfl⟩
  cases q : gc mt S (.ex ⟨C, none⟩ e S) with
  | ok _ _ => rw [q] at h; exact h.elim
  | ex c S' => rw [q] at h; obtain ⟨rfl, rfl⟩ := h; rfl
  | bad => rw [q] at h; exact h.elim
theorem wp.of_ex {α : Type} {r : R α} {c : Xc} {Q : α → Store → Prop} {X : Xc → Store → Prop} (h : r = .ex c S) (k : X c S) : @wp α r ⟨Q, X⟩ := by rw [h]; exact k
theorem wp.ex_eq {α : Type} {r : R α} {c : Xc} (h : @wp α r ⟨fun _ _ => False, fun c' S' => c' = c ∧ S' = S⟩) : r = .ex c S := by
  cases r with
  | ok _ _ => exact h.elim
  | ex c S' => obtain ⟨rfl, rfl⟩ := h; rfl
  | bad => exact h.elim
end
end FL

/-! EX4: sum(xs) of truths; a, b, c = x, y, z. -/
namespace FL
open PySem PySem.Spec PyProof.Rows L2
open Sem (wp)
/-! ### an iterator of a list ends while an exception is handled -/
section
variable {prog : Program} {w : World} {A : Around} {E : Value → Shared → Prop} {s : Shared}
theorem pyNext_list_end_hot {it l x1 : Addr} {i : Nat} {items} {Q : Option Value → Shared → Prop} (hot : HotX.HotAt A x1 s.heap)
    (hit : s.heap.IsListIter it l i) (hl : s.heap.IsList l items) (hx : items[i]? = none)
    (hQ : ∀ h', Heap.ExtBut it s.heap h' → Q none { s with heap := h' }) : wpAny (model prog w) A (pyNext (.ref it)) Q E s := by
  obtain ⟨o, ho, hc, hd⟩ := id hit
  obtain ⟨ol, hol, _, nl, hdl⟩ := hl
  obtain ⟨hh, o1, vs1, h1, d1, c1⟩ := hot
  have hne : x1 ≠ it := fun e => by
    rw [e, ho] at h1
    cases h1
    rw [hd] at d1
    cases d1
    simp at c1
  unfold pyNext
  refine wpAny_bind (wpAny_attempt (wpAny_callSpecial?_slot (name := Str.ofString "__next__") hit.typeIs slot_listiter_next
    (wpAny_call_entry slot_listiter_next hit.typeIs entry_listiter_next ?_ (args_listiter_next _))))
  show wpAny _ _ (field (.ref it) 0 >>= _) _ _ s
  refine wpAny_bind (wpAny_field ho hd (x := .ref l) rfl ?_)
  show wpAny _ _ (if (Value.ref l == Value.none) = true then _ else _) _ _ s
  rw [if_neg (show ¬ ((Value.ref l == Value.none) = true) from Bool.false_ne_true)]
  show wpAny _ _ (field (.ref it) 1 >>= _) _ _ s
  refine wpAny_bind (wpAny_field ho hd (x := .int i 0) rfl ?_)
  show wpAny _ _ (seqItems? (.ref l) >>= _) _ _ s
  refine wpAny_bind (wpAny_seqItems hol hdl ?_)
  simp only [Int.toNat_natCast, hx]
  refine wpAny_bind (wpAny_rule (wpAny_bind (wpAny_setField ho hd (by simp) ?_)))
  show wpAny _ _ (newExc (.type "StopIteration") [] >>= _) _ _ _
  refine wpAny_bind ?_
  simp only [newExc, newTuple]
  refine wpAny_bind (wpAny_newObj_type ?_ (by size_fits))
  refine wpAny_bind (m := firstArgMember _ _) (wpAny_of_eq (a := Value.none) (by first | rfl | (simp only [firstArgMember]; rfl)) ?_)
  refine wpAny_newObj_type ?_ (by size_fits)
  have k1 := (Heap.SameBut.update (h := s.heap) (a := it) (f := Obj.mapFields (·.setIfInBounds 0 Value.none))).extBut x1 o1 hne h1
  refine HotX.raiseNew_hot ⟨hh, o1, vs1, Heap.get?_push_of_some _ (Heap.get?_push_of_some _ k1), d1, c1⟩ (Nat.ne_of_lt (Heap.lt_size (Heap.get?_push_of_some _ k1))) (Heap.get?_push_size _ rfl) rfl (by first | (simp; done) | (simp; omega) | (simp only [Array.size_append]; simp; omega)) ?_
  refine wpAny_bind (wpAny_isInstance (T := "StopIteration") (b := true) ⟨_, Heap.get?_update_self _ (Heap.get?_push_size _ rfl) rfl, rfl⟩ isSubtype_stop ?_)
  refine wpAny_pure (hQ _ fun b o hb e => ?_)
  have k2 := (Heap.SameBut.update (h := s.heap) (a := it) (f := Obj.mapFields (·.setIfInBounds 0 Value.none))).extBut b o hb e
  rw [Heap.get?_update_other _ _ (Nat.ne_of_gt (Heap.lt_size (Heap.get?_push_of_some _ k2)))]
  exact Heap.get?_push_of_some _ (Heap.get?_push_of_some _ k2)
/-- no exception is handled, or one that bears no context -/
def HandOk (A : Around) (h : Heap) : Prop := A.handled = none ∨ ∃ x1, HotX.HotAt A x1 h
end
def b01 (b : Bool) : Int := if b = true then 1 else 0
def boolAt (bs : List Bool) (i : Nat) : Int := b01 (bs.getD i false)
section
variable {prog : Program} {w : World} {A : Around} {R : Result → Shared → Prop} {E : Value → Shared → Prop}
theorem sumB_loop {bs : List Bool} {I : Addr} {wr fp : List Addr} {n : Nat} {P : Nat → Value → Prop} {St : Nat → Heap → Prop} (W : PySem.Walks prog w A.in1 I fp wr n P St) (hval : ∀ i v, P i v → ∃ b, v = .bool b ∧ boolAt bs i = b01 b) (S : Addr) (hSf : S ∉ fp) :
    ∀ (k i : Nat) (s : Shared) (tA : Tok) (c : Nat) (stage : Int), (stage = 0 ∨ stage = 2) → n - i = k → i ≤ n → St i s.heap → s.heap.get? S = some { cls := .type "list", dict := none, data := .seq #[.int (preSum (boolAt bs) i) tA] c, slots := #[] } →
    (∀ h' tk t', (∀ b o, b ∉ wr → b ≠ S → s.heap.get? b = some o → h'.get? b = some o) → R (.ok (.ret (.int (preSum (boolAt bs) n) t'))) { s with heap := h', toks := tk }) →
    codeAny (model prog w) A (.builtin "sum.loop" ⟨[.ref I, .ref S, rawInt stage, rawInt 0], []⟩) R s := by
  have hSw : S ∉ wr := fun h => hSf (W.sub _ h)
  intro k
  induction k with
  | zero =>
    intro i s tA c stage hstage hk hi hst hS hR
    obtain rfl : i = n := by omega
    refine codeAny_builtin F.entry_sum_loop ?_
    rw [Around.under_plainId F.plain_sum_loop _]
    show wpAny _ A.in1 (seqItems? (.ref S) >>= _) _ _ s
    refine wpAny_bind (wpAny_seqItems hS rfl ?_)
    show wpAny _ A.in1 (tryCatch (pyNext (.ref I)) _ >>= _) _ _ s
    refine wpAny_bind (wpAny_tryCatch (W.done s _ _ hst fun h' tk hk' => ?_))
    exact wpAny_pure (hR h' tk tA fun b o hbw _ e => hk' b o hbw e)
  | succ k ih =>
    intro i s tA c stage hstage hk hi hst hS hR
    have hlt : i < n := by omega
    refine codeAny_builtin F.entry_sum_loop ?_
    rw [Around.under_plainId F.plain_sum_loop _]
    show wpAny _ A.in1 (seqItems? (.ref S) >>= _) _ _ s
    refine wpAny_bind (wpAny_seqItems hS rfl ?_)
    show wpAny _ A.in1 (tryCatch (pyNext (.ref I)) _ >>= _) _ _ s
    refine wpAny_bind (wpAny_tryCatch (W.item i s _ _ hlt hst fun v h' tk hP hst' hk' => ?_))
    obtain ⟨b, rfl, hv⟩ := hval i v hP
    have hS' := hk' S _ hSw hS
    have hb : (if b = true then (1 : Int) else 0) = boolAt bs i := hv.symm
    have frame0 : ∀ (h2 : Heap), (∀ c o, c ≠ S → h'.get? c = some o → h2.get? c = some o) → St (i + 1) h2 := fun h2 k => W.frame _ _ _ hst' fun c hc o e => k c o (fun z => hSf (by rw [← z]; exact hc)) e
    rcases hstage with rfl | rfl
    · show wpAny _ A.in1 (if (_ : Bool) = true then (mkInt (preSum (boolAt bs) i + (if b = true then (1 : Int) else 0)) >>= _) else _) _ _ _
      rw [hb]
      split
      · refine wpAny_bind (wpAny_mkInt ?_)
        show wpAny _ A.in1 (updateSeq S (fun _ => #[.int (preSum (boolAt bs) i + boolAt bs i) tk]) >>= _) _ _ _
        refine wpAny_bind ?_
        refine wpAny_updateSeq hS' rfl (wpAny_pure ⟨plainId_quiet F.plain_sum_loop _, ih (i + 1) _ tk _ 0 (Or.inl rfl) (by omega) hlt (frame0 _ fun c o hc e => (Heap.get?_update_other _ _ (Ne.symm hc)).trans e) (Heap.get?_update_self _ hS' rfl) fun h'' tk'' t'' hk'' => ?_⟩)
        exact hR h'' tk'' t'' fun c o hbw hbS e => hk'' c o hbw hbS ((Heap.get?_update_other _ _ (Ne.symm hbS)).trans (hk' c o hbw e))
      · refine wpAny_bind (wpAny_rule ?_)
        refine wpAny_bind (wpAny_attempt (wpAny_holding (PySem.add_int_bool ?_)))
        rw [hb]
        show wpAny _ A.in1 (updateSeq S (fun _ => #[.int (preSum (boolAt bs) i + boolAt bs i) tk]) >>= _) _ _ _
        refine wpAny_bind ?_
        refine wpAny_updateSeq hS' rfl ?_
        have hS2 := Heap.get?_update_self (Obj.mapSeq fun _ => #[Value.int (preSum (boolAt bs) i + boolAt bs i) tk]) hS' rfl
        refine wpAny_bind (wpAny_letGo ?_)
        refine wpAny_bind ?_
        refine wpAny_updateSeq hS2 rfl (wpAny_pure ⟨plainId_quiet F.plain_sum_loop _, ih (i + 1) _ tk _ 2 (Or.inr rfl) (by omega) hlt (frame0 _ fun c o hc e => (Heap.get?_update_other _ _ (Ne.symm hc)).trans ((Heap.get?_update_other _ _ (Ne.symm hc)).trans e)) (Heap.get?_update_self _ hS2 rfl) fun h'' tk'' t'' hk'' => ?_⟩)
        exact hR h'' tk'' t'' fun c o hbw hbS e => hk'' c o hbw hbS ((Heap.get?_update_other _ _ (Ne.symm hbS)).trans ((Heap.get?_update_other _ _ (Ne.symm hbS)).trans (hk' c o hbw e)))
    · show wpAny _ A.in1 ((holding [Value.bool b] (binaryOp .Add (.int (preSum (boolAt bs) i) tA) (.bool b))).attempt >>= _) _ _ _
      refine wpAny_bind (wpAny_attempt (wpAny_holding (PySem.add_int_bool ?_)))
      rw [hb]
      show wpAny _ A.in1 (updateSeq S (fun _ => #[.int (preSum (boolAt bs) i + boolAt bs i) tk]) >>= _) _ _ _
      refine wpAny_bind ?_
      refine wpAny_updateSeq hS' rfl ?_
      have hS2 := Heap.get?_update_self (Obj.mapSeq fun _ => #[Value.int (preSum (boolAt bs) i + boolAt bs i) tk]) hS' rfl
      refine wpAny_bind (wpAny_letGo ?_)
      refine wpAny_bind ?_
      refine wpAny_updateSeq hS2 rfl (wpAny_pure ⟨plainId_quiet F.plain_sum_loop _, ih (i + 1) _ tk _ 2 (Or.inr rfl) (by omega) hlt (frame0 _ fun c o hc e => (Heap.get?_update_other _ _ (Ne.symm hc)).trans ((Heap.get?_update_other _ _ (Ne.symm hc)).trans e)) (Heap.get?_update_self _ hS2 rfl) fun h'' tk'' t'' hk'' => ?_⟩)
      exact hR h'' tk'' t'' fun c o hbw hbS e => hk'' c o hbw hbS ((Heap.get?_update_other _ _ (Ne.symm hbS)).trans ((Heap.get?_update_other _ _ (Ne.symm hbS)).trans (hk' c o hbw e)))
theorem walks_hot {prog : Program} {w : World} {A : Around} {x1 : Addr} (I ax : Addr) (hne : ax ≠ I) (hx : x1 ≠ I) (items : Array Value) :
    PySem.Walks prog w A I [I, ax, x1] [I] items.size (fun i v => items[i]? = some v) (fun i h => (h.IsListIter I ax i ∧ h.IsList ax items) ∧ HotX.HotAt A x1 h) where
  sub := fun b hb => by simp at hb; simp [hb]
  frame := fun _ _ _ st hk => ⟨⟨st.1.1.at fun o e => hk I (by simp) o e, st.1.2.at fun o e => hk ax (by simp) o e⟩, by
    obtain ⟨hh, o1, vs1, h1, d1, c1⟩ := st.2
    exact ⟨hh, o1, vs1, hk x1 (by simp) _ h1, d1, c1⟩⟩
  item := fun i s Q E hi st hQ => by
    refine wpAny_pyNext_list_item st.1.1 st.1.2 (x := items[i]) (by simp [hi]) fun h' hit' hs' => ?_
    obtain ⟨hh, o1, vs1, h1, d1, c1⟩ := st.2
    exact hQ _ h' s.toks (by simp [hi]) ⟨⟨hit', st.1.2.extBut hs'.extBut hne⟩, hh, o1, vs1, hs'.extBut x1 o1 hx h1, d1, c1⟩ fun b o hb e => hs'.extBut b o (fun h => hb (by simp [h])) e
  done := fun s Q E st hQ => pyNext_list_end_hot st.2 st.1.1 st.1.2 (by simp) fun h' he' => hQ h' s.toks fun b o hb e => he' b o (fun h => hb (by simp [h])) e
  self := fun _ _ _ _ st hQ => wpAny_pyIter_listiter st.1.1 hQ
theorem sumB_raw {s : Shared} {l : Addr} {bs : List Bool} {Q : Value → Shared → Prop} (hh : HandOk A s.heap) (hl : s.heap.IsList l (bs.map Value.bool).toArray)
    (h : ∀ h' tk t', (∀ b o, s.heap.get? b = some o → h'.get? b = some o) → Q (.int (preSum (boolAt bs) bs.length) t') { s with heap := h', toks := tk }) : wpAny (model prog w) A (call (.builtin "sum") [.ref l]) Q E s := by
  have hlt : l < s.heap.objs.size := by obtain ⟨_, e, _⟩ := hl; exact Heap.lt_size e
  refine call_function_tree F.kind_sum F.plain_sum F.entry_sum (F.args_sum1 _) ?_
  unfold Builtin.«sum»
  simp only [List.length_cons, List.length_nil]
  rw [if_neg (by decide)]
  refine wpAny_bind (wpAny_of_eq (show Builtin.Builtins.bindParams "sum" ["start"] 0 { } = pure [none] from rfl) ?_)
  refine wpAny_bind (wpAny_pyIter_list hl ?_)
  refine wpAny_bind (wpAny_mkInt ?_)
  refine wpAny_bind (wpAny_pure ?_)
  simp only [List.forIn_cons, List.forIn_nil]
  refine wpAny_bind (wpAny_bind (wpAny_bind (wpAny_isInstance (T := "int") (b := false) (typeIs_int _ _ _) PySem.sub_int_str ?_)))
  simp only [Bool.false_eq_true, if_false]
  refine wpAny_pure (wpAny_bind (wpAny_bind (wpAny_isInstance (T := "int") (b := false) (typeIs_int _ _ _) PySem.sub_int_bytes ?_)))
  simp only [Bool.false_eq_true, if_false]
  refine wpAny_pure (wpAny_bind (wpAny_bind (wpAny_isInstance (T := "int") (b := false) (typeIs_int _ _ _) PySem.sub_int_bytearray ?_)))
  simp only [Bool.false_eq_true, if_false]
  refine wpAny_pure (wpAny_pure ?_)
  refine wpAny_bind (wpAny_newObj_type ?_)
  have st0 : (s.heap.push { cls := .type "list_iterator", data := .fields #[.ref l, .int 0 0] }).IsListIter s.heap.objs.size l 0 ∧ (s.heap.push { cls := .type "list_iterator", data := .fields #[.ref l, .int 0 0] }).IsList l (bs.map Value.bool).toArray := ⟨⟨_, Heap.get?_push_size _ rfl, rfl, rfl⟩, hl.push _⟩
  have sz : (bs.map Value.bool).toArray.size = bs.length := by simp
  have vals : ∀ i v, (bs.map Value.bool).toArray[i]? = some v → ∃ b, v = .bool b ∧ boolAt bs i = b01 b := fun i v hP => by
    rw [List.getElem?_toArray, List.getElem?_map] at hP
    cases q : bs[i]? with
    | none => rw [q] at hP; cases hP
    | some b =>
      rw [q] at hP
      cases hP
      exact ⟨b, rfl, by unfold boolAt; rw [List.getD_eq_getElem?_getD, q]; rfl⟩
  have fin : ∀ (h' : Heap) (tk t' : Nat), (∀ b o, b ∉ [s.heap.objs.size] → b ≠ (s.heap.push { cls := .type "list_iterator", data := .fields #[.ref l, .int 0 0] }).objs.size → ((s.heap.push { cls := .type "list_iterator", data := .fields #[.ref l, .int 0 0] }).push { cls := .type "list", data := .seq #[.int 0 s.toks] }).get? b = some o → h'.get? b = some o) → Q (.int (preSum (boolAt bs) (bs.map Value.bool).toArray.size) t') { s with heap := h', toks := tk } := fun h' tk t' hk => by
    rw [sz]
    exact h h' tk t' (old_kept fun b o hb e => hk b o hb (fun z => by
      have := Heap.lt_size e
      rw [z] at this
      exact Nat.lt_irrefl _ this) (Heap.get?_push_of_some _ e))
  have big : ∀ b, b < s.heap.objs.size → b ≠ (s.heap.push { cls := .type "list_iterator", data := .fields #[.ref l, .int 0 0] }).objs.size := fun b hb => by
    rw [Heap.size_push]
    omega
  rcases hh with hh | ⟨x1, hot⟩
  · have W := PySem.Walks.list (prog := prog) (w := w) (A := A.in1) hh s.heap.objs.size l (Nat.ne_of_lt hlt) (bs.map Value.bool).toArray
    have hSf : (s.heap.push { cls := .type "list_iterator", data := .fields #[.ref l, .int 0 0] }).objs.size ∉ [s.heap.objs.size, l] := fun hm => by
      rcases List.mem_cons.mp hm with e | hm
      · rw [Heap.size_push] at e
        omega
      · exact big l hlt (List.mem_singleton.mp hm).symm
    exact wpAny_pure ⟨plainId_quiet F.plain_sum_loop _, sumB_loop (bs := bs) W vals _ hSf _ 0 _ _ 0 0 (Or.inl rfl) rfl (Nat.zero_le _) (W.frame _ _ _ st0 fun b _ o e => Heap.get?_push_of_some _ e) (Heap.get?_push_size _ rfl) fun h' tk t' hk => fin h' tk t' hk⟩
  · obtain ⟨hh, o1, vs1, h1, d1, c1⟩ := hot
    have hx := Heap.lt_size h1
    have W := walks_hot (prog := prog) (w := w) (A := A.in1) (x1 := x1) s.heap.objs.size l (Nat.ne_of_lt hlt) (Nat.ne_of_lt hx) (bs.map Value.bool).toArray
    have hSf : (s.heap.push { cls := .type "list_iterator", data := .fields #[.ref l, .int 0 0] }).objs.size ∉ [s.heap.objs.size, l, x1] := fun hm => by
      rcases List.mem_cons.mp hm with e | hm
      · rw [Heap.size_push] at e
        omega
      · rcases List.mem_cons.mp hm with e | hm
        · exact big l hlt e.symm
        · exact big x1 hx (List.mem_singleton.mp hm).symm
    have hot2 : HotX.HotAt A.in1 x1 (s.heap.push { cls := .type "list_iterator", data := .fields #[.ref l, .int 0 0] }) := ⟨hh, o1, vs1, Heap.get?_push_of_some _ h1, d1, c1⟩
    exact wpAny_pure ⟨plainId_quiet F.plain_sum_loop _, sumB_loop (bs := bs) W vals _ hSf _ 0 _ _ 0 0 (Or.inl rfl) rfl (Nat.zero_le _) (W.frame _ _ _ ⟨st0, hot2⟩ fun b _ o e => Heap.get?_push_of_some _ e) (Heap.get?_push_size _ rfl) fun h' tk t' hk => fin h' tk t' hk⟩
end
end FL

/-! EX5: a def called in an except suite with the exception: what stands there lets it walk over lists. -/
namespace FL
open PySem PySem.Spec PyProof.Rows L2
open L2H (RoomH roomH_of)
/-- no exception is handled, or one that is known and bears no context -/
def HotH (A : Around) (H : Hp) : Prop := A.handled = none ∨ ∃ (a : Addr) (oe : Obj) (u : Heap → Prop) (vs : Array Value), A.handled = some (.ref a) ∧ H a = some (.frz oe (.ext u)) ∧ oe.data = .fields vs ∧ vs[2]? = some .none
theorem HotH.frz {A : Around} {H H' : Hp} (h : HotH A H) (k : ∀ b o u, H b = some (.frz o u) → H' b = some (.frz o u)) : HotH A H' := by
  rcases h with h | ⟨a, oe, u, vs, h1, h2, h3, h4⟩
  · exact .inl h
  · exact .inr ⟨a, oe, u, vs, h1, k _ _ _ h2, h3, h4⟩
theorem HotH.at {X : Cx} {pins : List (Addr × Obj)} {σ : L2.St} {H : Hp} {s : Shared} (h : HotH X.A H) (I : Inv X pins σ H s) : HandOk X.A s.heap := by
  rcases h with h | ⟨a, oe, u, vs, h1, h2, h3, h4⟩
  · exact .inl h
  · have o1 : ObjOk X.prog X.w H s.heap a (.frz oe (.ext u)) := I.hok a _ h2
    exact .inr ⟨a, h1, oe, vs, o1.1, h3, h4⟩
theorem HotH.inv {X : Cx} {pins : List (Addr × Obj)} {σ : L2.St} {H : Hp} {s : Shared} (h : HotH X.A X.H_0) (I : Inv X pins σ H s) : HandOk X.A s.heap := HotH.at (h.frz I.base.frzs) I
/-- the promise of a def that is called with a handled exception that is known -/
structure FnW (P : Program) (w : World) (K : PySem.W.Frag) (mg : Str → Option Value) (base : Heap) (k : Nat) (f : Addr) (fd : FuncData) (ps : List Str) (F : List D → Store → R D) : Prop where
  run : ∀ (A : Around) (outer : List Env) (s : Shared) (H : Hp) (args : Args) (us : List Value) (vs : List V) (Q : VK) (E : XK) (ι : Io) (ds : List D) (S : Store), RoomH k A → A.guards = some [] → HotH A H → Env0 P w K mg base A outer s H → BindsTo s fd args (ps.zip us) → Vals vs us →
    ds.length = ps.length → RepVs K ι H vs ds → Sim K ι H S → FinE K (WofE E) ι H [] (Want K Q) (F ds S) → codeAny (model P w) A (.call (.ref f) args) (CR (L2N.CX P w) outer P w H s Q E) s
section
variable {P : Program} {w : World} {K : PySem.W.Frag} {mg : Str → Option Value} {base : Heap}
theorem okW {x qual : Str} {st : Stmt} {f : Addr} {fd : FuncData} {N ps : List Str} {k : Nat} {mt : Bool} {ev : EvS} (F : Fun K x qual st f fd) (Sc : FnScope N ps (defScope st))
    (body : ∀ (cdv : Value) (A : Around) (outer : List Env) (s : Shared) (H : Hp) (E : XK), RoomH k (A.deeper (envOfC qual (defScope st) s.heap.objs.size f cdv)) → (A.deeper (envOfC qual (defScope st) s.heap.objs.size f cdv)).guards = some [] → HotH (A.deeper (envOfC qual (defScope st) s.heap.objs.size f cdv)) H →
      PSsF (cxQ P w K mg base N qual (defScope st) f cdv A outer s H E) (WofE E) (defBody st) ev) : FnW P w K mg base (k + 1) f fd ps (runF mt N.length ev) := by
  obtain ⟨oc, od, kV, doc, pm, an, cdv, ct, osl, rfl, lk, hcd⟩ := F.ex
  refine ⟨fun A outer s H args us vs Q E ι ds S room gd hot e0 hb rv hl rd sim fin => ?_⟩
  have hlv : vs.length = ps.length := rd.length.trans hl
  have kin : K.In s.heap := e0.mod.kin.keeps fun b o e => (e0.bs b o e).1
  have nol : s.heap.NoLimit := e0.mod.nolimit.keeps fun b o e => (e0.bs b o e).1
  have kinds : ∀ y ∈ ps.zip us, (defScope st).names.lookup y.1 = some .local ∨ ((defScope st).names.lookup y.1 = some .cell ∧ ((cellsFrom (s.heap.objs.size + 1) (defScope st).names []).lookup y.1).isSome = true) := by
    rintro ⟨n, v⟩ hy
    rcases Sc.par n (List.of_mem_zip hy).1 with q | q
    · exact .inl q
    · exact .inr ⟨q, PySem.W.cellsFrom_some _ _ _ (.inl q)⟩
  refine codeAny_call_function room.depth (kin _ _ lk) rfl Sc.co Sc.gen rfl (PySem.W.codeRec_of kin hcd) (hb _ _ _ _ ?_)
  refine wpAny_newFunctionEnv_cells Sc.kind kinds fun env henv s1 icc => ?_
  subst henv
  refine ⟨nol.keeps icc.toInCall.keep, codeAny_func ?_⟩
  have inv : Inv (cxQ P w K mg base N qual (defScope st) f cdv A outer s H E) [] (L2.start N vs) H s1 := inv_startQ Sc e0 hlv rv icc
  have b := body cdv A outer s H E (room.deeper _) gd hot
  refine wpAny_mono (b.run [] s1 (L2.start N vs) H { nx := fun _ H' => Q .non H', rt := Q } inv ⟨ι, startE N.length ds, S, start_ok rd, sim, gc_ok (W := WofE E) sim rfl rfl fin⟩) (fun fl s' hs => ?_) fun e s' hs => hs
  cases fl with
  | ret u => exact let ⟨v, σ', H', J, r', q⟩ := hs; ⟨v, H', J.os, J.bare, J.base, J.hok, r', q⟩
  | next => exact let ⟨σ', H', J, q⟩ := hs; ⟨V.non, H', J.os, J.bare, J.base, J.hok, rfl, q⟩
  | brk => exact hs.elim fun _ z => z.elim fun _ z => False.elim z.2
  | cont => exact hs.elim fun _ z => z.elim fun _ z => False.elim z.2
end
/-! ### sum of truths -/
def rSumB (K : PySem.W.Frag) : List V → Hp → VK → Prop := fun vs H Q => ∃ (a : Addr) (bs : List Bool), vs = [V.ref a] ∧ SqL K H a (bs.map V.bl) ∧ Q (.int (preSum (boolAt bs) bs.length)) H
theorem cr_sumB {X : Cx} (hot : HotH X.A X.H_0) : CallR X (.builtin "sum") (rSumB X.K) := by
  intro pins s σ H vs us Q I r h
  obtain ⟨a, bs, rfl, hs, q⟩ := h
  obtain ⟨its, rv, hl, _⟩ := I.list hs
  rw [Vals.ref1 r]
  have e : its = bs.map Value.bool := Vals.bls rv
  subst e
  exact sumB_raw (hot.inv I) hl.isList fun h' tk t' hk => ⟨.int _, H, I.kept hk, ⟨_, rfl⟩, q⟩
def dSumB : List D → Store → R D := onL fun ds S => match toBs ds with
  | some bs => .ok (.int (preSum (boolAt bs) bs.length)) S
  | none => .bad
theorem k_sumB {K : PySem.W.Frag} : OkN K (rSumB K) dSumB := OkN.onL fun W σ ι H S a xs ds Q s hs r h => by
  cases q : toBs ds with
  | none => rw [q] at h; exact h.elim
  | some bs => rw [q] at h; rw [toBs_rep r q] at hs; exact ⟨a, bs, rfl, hs, here s h rfl⟩
theorem preSum_bool : ∀ (bs : List Bool), preSum (boolAt bs) bs.length = (bs.map b01).sum := fun bs => by
  have key : ∀ n, n ≤ bs.length → preSum (boolAt bs) n = ((bs.take n).map b01).sum := by
    intro n
    induction n with
    | zero => intro _; simp [preSum]
    | succ n ih =>
      intro h
      rw [preSum, ih (by omega), List.take_add_one, List.map_append, List.sum_append]
      congr 1
      unfold boolAt
      rw [List.getD_eq_getElem?_getD, List.getElem?_eq_getElem (by omega)]
      simp
  have := key bs.length (Nat.le_refl _)
  rwa [List.take_length] at this
/-- what 'except x as n: ts' wishes of an exception of the body -/
def wAsU (K : PySem.W.Frag) (c : Value) (i : Nat) (ts : Addr → TS) (Wout : WX) (D' : Ends) : WX := fun cls d σ H =>
  ∃ b, PySem.W.exmOne K cls c = some b ∧
    (b = true → ∀ (a : Addr) (oe : Obj), H a = none → L2N.Zn cls d oe → (∃ vs, oe.data = .fields vs) →
      ts a { nx := fun τ H' => D'.nx (τ.set i none) H', rt := D'.rt, bk := fun τ H' => D'.bk (τ.set i none) H', ct := fun τ H' => D'.ct (τ.set i none) H' } (σ.set i (some (.ref a))) (upd H a (cghO oe))) ∧
    (b = false → Wout cls d σ H)
section
variable {X : Cx} {x n : Str} {c : Value} {i : Nat} {body suite : List Stmt} {st : Stmt} {np pos pos' : Pos} {tb : WX → TS} {ts : Addr → TS} {Wout : WX}
theorem ps_tryU (hs : X.stack = X.env :: X.outer) (hf : X.env.frame = some X.env.locals) (hex : X.ex = []) (hN : X.N.Nodup) (hi : X.N[i]? = some n) (hln : X.env.kindOf n = some .local) (hc : Names X x c) (tk : L2N.Takes X Wout)
    (hb : ∀ (W : WX) (pn : List (Addr × Obj)) (xe : Value → Shared → Prop), L2N.Takes (X.tr pn xe) W → PassesOwn (model X.prog X.w) X.A X.env xe → PSs (X.tr pn xe) body (tb W))
    (hsu : ∀ (a : Addr) (pn : List (Addr × Obj)), PSs (X.suite a pn) (st :: suite) (ts a)) :
    L2.PS X (.Try body [.ExceptHandler (some (.Name x np)) (some n) (st :: suite) pos'] [] [] pos) (fun D' σ H => tb (wAsU X.K c i ts Wout D') D' σ H) := by
  refine ⟨fun pins s σ H D' I h => ?_⟩
  have ok := I.ok
  have hfr : X.A.frames = some (X.env :: X.outer) := by rw [ok.frames, hs]
  refine wpAny_Try_except (wpAny_mono ((hb (wAsU X.K c i ts Wout D') (X.pn ++ pins) (fun e t1 => wpAny (model X.prog X.w) X.A (noteFrame e X.env) (fun _ t2 => wpAny (model X.prog X.w) X.A (setFlight e none) (fun _ t3 =>
    wpAny (model X.prog X.w) X.A (handleBy e X.env [.ExceptHandler (some (.Name x np)) (some n) (st :: suite) pos']) (SP X pins D') X.xe t3) X.xe t2) X.xe t1) (fun u s' xx => ?_) PassesOwn.looking).run [] s σ H D' (I.toTry _) h) (fun f s1 hsp => ?_) fun _ _ he => he)
  · obtain ⟨a, B, sI, pins', σ', H', cls, d, rfl, J', nb, up, sky, na, os, ag, b, hb1, hyes, hno⟩ := xx
    have J : Inv X pins σ' H' sI := J'.ofTry ok
    rw [show (X.tr (X.pn ++ pins) _).stack = X.env :: X.outer from hs] at sky
    show wpAny (model X.prog X.w) X.A (noteFrame (.ref a) X.env) _ _ _
    refine L2N.Sky.land L2N.Zn.steady hfr hf sky fun h3 fl3 up3 => ?_
    have K3 : Inv X pins σ' H' { s' with heap := h3 } := J.landed nb fl3.1 (up.trans up3) os ag
    obtain ⟨o3, vs3, he3, hz3, hd3⟩ := fl3.there
    have notF : a ∉ frs (X.env :: X.outer) := fun hm => by
      obtain ⟨_, o', e', hnf⟩ := fl3.2.2.1.mem hm
      rw [he3] at e'
      cases e'
      exact hnf _ hd3
    have nL : a ≠ X.env.locals := fun z => notF (List.mem_filterMap.mpr ⟨X.env, List.mem_cons_self, by rw [hf, z]⟩)
    have nF : a ∉ X.fs := fun hm => by
      obtain ⟨e, he, q⟩ := List.mem_filterMap.mp hm
      exact notF (List.mem_filterMap.mpr ⟨e, List.mem_cons_of_mem _ he, q⟩)
    have nI : sI.heap.get? a = none := by
      cases q : sI.heap.get? a with
      | none => rfl
      | some o =>
        have z := nb a o q (by show a ∉ frs X.stack; rw [hs]; exact notF)
        rw [fl3.2.1] at z
        cases z
    have n0 : X.s_0.heap.get? a = none := by
      cases q : X.s_0.heap.get? a with
      | none => rfl
      | some o =>
        obtain ⟨o', z⟩ := J.base.there a o q (by rw [hex]; exact fun z => nomatch z)
        rw [nI] at z
        cases z
    have nP : ∀ p ∈ X.pn ++ pins, p.1 ≠ a := fun p hp z => by
      have q := (J.pin p hp).1
      rw [z, nI] at q
      cases q
    have S3 := K3.suite he3 hd3 na nL nF
    refine wpAny_handleBy_cons (codeAny_handlers_test ?_) (by intro q; cases q)
    have LT : PySem.W.Looks (model X.prog X.w) h3 (typeOf (.ref a)) cls := fun _ _ _ _ k q => wpAny_typeOf_ref (k _ _ he3) (by rw [hz3.1]; exact q)
    have LM := PySem.W.exm_one (M := model X.prog X.w) K3.kIn LT hb1
    have named : ∀ {Q : Value → Shared → Prop} {E : Value → Shared → Prop}, Q c { s' with heap := h3 } → wpAny (model X.prog X.w) (X.A.mark (some (.ref a))) (eval (.Name x np) X.env) Q E { s' with heap := h3 } := fun q => by
      obtain ⟨hg, hdb, hm | ⟨hm, hv, hnn⟩⟩ := hc
      · exact ld_glob (X := X.suite a ((a, o3) :: (X.pn ++ pins))) S3 hg hm q hdb
      · exact ld_blt (X := X.suite a ((a, o3) :: (X.pn ++ pins))) S3 hg hm hv q hnn hdb
    refine named (LM.here ?_)
    cases b with
    | true =>
      refine codeAny_handlers_suite_as (HandSPX.lands_againZ fl3 fun h4 fl4 up4 => ?_)
      have K4 : Inv X pins σ' H' { s' with heap := h4 } := J.landed nb fl4.1 ((up.trans up3).trans up4) os ag
      obtain ⟨o4, vs4, he4, hz4, hd4⟩ := fl4.there
      have S4 := inv_inSuite K4 he4 hd4 na nL n0 (fun v z => by rw [hd4] at z; cases z) nP
      refine store_ok (X := X.suite a (X.pn ++ pins)) (v := .ref a) S4 hN hi (.inl hln) rfl (fun s5 S5 => ?_) (.inr hln)
      refine wpAny_mono ((hsu a (X.pn ++ pins)).run [] s5 _ _ _ S5 (hyes rfl a o4 na hz4 ⟨_, hd4⟩)) (fun f s6 hsp => ?_) (fun _ _ z => False.elim z)
      have leave : ∀ {τ : L2.St} {H6 : Hp} {Q : Shared → Prop}, Inv (X.suite a (X.pn ++ pins)) [] τ H6 s6 → (∀ s7, Inv X pins (τ.set i none) H6 s7 → Q s7) →
          wpAny (model X.prog X.w) X.A (do bindName X.env n .none; unbindBehindTheSuite X.env n pos') (fun _ s7 => Q s7) X.xe s6 := fun S6 hq => gone_ok (inv_offSuite ok S6) hN hi hln hq
      cases f with
      | next => exact let ⟨_, _, S6, q6⟩ := hsp; leave S6 fun s7 J7 => ⟨_, _, J7, q6⟩
      | brk => exact let ⟨_, _, S6, q6⟩ := hsp; leave S6 fun s7 J7 => ⟨_, _, J7, q6⟩
      | cont => exact let ⟨_, _, S6, q6⟩ := hsp; leave S6 fun s7 J7 => ⟨_, _, J7, q6⟩
      | ret u => exact let ⟨_, _, _, S6, r6, q6⟩ := hsp; leave S6 fun s7 J7 => ⟨_, _, _, J7, r6, q6⟩
    | false =>
      show wpAny _ X.A (handleBy (.ref a) X.env []) _ _ _
      refine wpAny_handleBy_nil ?_
      obtain ⟨_, _, _, o5, v5, T, _, _, h51, _, h52, h53, _⟩ := id fl3
      have fin : wpAny (model X.prog X.w) X.A (setFlight (.ref a) X.env.frame) (fun _ s4 => wpAny (model X.prog X.w) X.A (throw (.ref a) : Sem Flow) (SP X pins D') X.xe s4) X.xe { s' with heap := h3 } := by
        rw [hf]
        refine HandSPX.setFlight_upZ fl3 fun h4 hh4 up4 => wpAny_throw (tk _ _ ?_)
        exact ⟨a, B, sI, pins, σ', H', cls, d, rfl, J, nb, (up.trans up3).trans up4, .inr (.inr (by rw [hs]; exact hh4)), na, os, ag, hno rfl⟩
      unfold PySem.passOn
      refine wpAny_bind (wpAny_field h51 h52 h53 ?_)
      rw [if_neg (show ¬ ((Value.ref T == Value.none) = true) by simp)]
      first
        | exact wpAny_bind (wpAny_pure (wpAny_bind fin))
        | exact wpAny_bind fin
  · cases f with
    | next => exact let ⟨_, _, Jn, q⟩ := hsp; wpAny_execs_nil ⟨_, _, Jn.ofTry ok, q⟩
    | brk => exact let ⟨_, _, Jn, q⟩ := hsp; ⟨_, _, Jn.ofTry ok, q⟩
    | cont => exact let ⟨_, _, Jn, q⟩ := hsp; ⟨_, _, Jn.ofTry ok, q⟩
    | ret u => exact let ⟨_, _, _, Jn, r, q⟩ := hsp; ⟨_, _, _, Jn.ofTry ok, r, q⟩
end

section
variable {X : Cx} {W : WX}
/-- what the suite knows of the exception -/
def tKnow (X : Cx) (t : TE) : TE := fun σ H Q => HotH X.A H ∧ t σ H Q
theorem pe_callW {k : Nat} {f : Addr} {fd : FuncData} {ps : List Str} {F : List D → Store → R D} {x : Str} {p pos : Pos} {e : Expr} {es : List Expr} {a : EvL} (G : FnW X.prog X.w X.K X.mg X.base k f fd ps F) (hr : RoomH k X.A) (gd : X.A.guards = some []) (hg : Gl X x) (hm : X.mg x = some (.ref f)) (hk : PySem.W.keepIn X.K (.ref f) = true) (hb : Binds X.K fd ps []) (tk : L2N.Takes X W)
    (ha : PAF X W (e :: es) a) (hdb : (x == ("__debug__" : Str)) = false := by decide) (he : starEach (e :: es) X.env = (false, eval e X.env) :: starEach es X.env := by rfl) (hpl : (backTo pos (starEach es X.env)).any (·.1) = false := by rfl) :
    PE X (.Call (.Name x p) (e :: es) [] pos) (tKnow X (tF X.K W (evCall ps.length F a))) := by
  refine ⟨fun pins s σ H Q I h => ?_⟩
  obtain ⟨hot, ι, en, S, se, sim, h⟩ := h
  have arg : tFL X.K W a σ H fun vs H1 => HotH X.A H1 ∧ ∃ ι1 ds S1, ds.length = ps.length ∧ RepVs X.K ι1 H1 vs ds ∧ Sim X.K ι1 H1 S1 ∧ FinE X.K W ι1 H1 σ (Want X.K Q) (F ds S1) := by
    refine ⟨ι, en, S, se, sim, FinE.mono ?_ (FinE.bind h)⟩
    rintro ι1 H1 ds x1 ⟨S1, _, _, s1, h1⟩ vs rv
    by_cases c : ds.length = ps.length
    · rw [if_pos c] at h1; exact ⟨hot.frz x1.frzs, ι1, ds, S1, c, rv, s1, h1⟩
    · rw [if_neg c] at h1; exact h1.elim
  refine wpAny_Call_Name_kw (ld_glob I hg hm ?_ hdb)
  refine PySem.W.callWith_K (h₀ := X.base) I.ok.mod.kin hk (thn (ha.run pos pins s σ H _ I arg) fun us s1 ⟨vs, H1, I1, r, hot1, ι1, ds, S1, h1, h2, h3, h4⟩ => ⟨I1.kIn, ?_⟩) he hpl
  show wpAny _ _ (call (.ref f) us) _ _ _
  have hl2 : us.length = ps.length := by rw [← r.length, h2.length]; exact h1
  have b := hb s1 us I1.kIn (by rw [List.append_nil]; exact hl2)
  rw [List.append_nil] at b
  have h' : FinE X.K (WofE (WE W σ)) ι1 H1 [] (Want X.K Q) (F ds S1) := by
    cases q : F ds S1 with
    | ok d S' => rw [q] at h4; exact h4
    | ex c S' => rw [q] at h4; exact h4
    | bad => rw [q] at h4; exact h4
  refine wpAny_call (codeAny_mono (G.run X.A X.stack s1 H1 ⟨us, []⟩ us vs Q (WE W σ) ι1 ds S1 hr gd hot1 I1.env0 b r h1 h2 h3 h') fun r' s' hq => ?_)
  cases r' with
  | error e => exact L2N.passAt tk σ pins H1 s1 e s' I1 hq
  | ok fl =>
    cases fl with
    | ret u => exact I1.after hq
    | next => exact False.elim hq
    | brk => exact False.elim hq
    | cont => exact False.elim hq
/-- x = e, where e wants the exception known -/
theorem ps_setKnow {i : Nat} {x : Str} {e : Expr} {a : Ev} {pos pos' : Pos} (hN : X.N.Nodup) (hi : X.N[i]? = some x) (hx : Loc X.env.scope x) (he : PE X e (tKnow X (tF X.K W a))) (hs : swapsWith e (some (.Name x pos')) pos.line X.env = pure false := by rfl) (hf : X.fn x = true ∨ X.env.scope.names.lookup x = some .local := by first | exact .inl rfl | exact .inr rfl | assumption) :
    L2.PS X (.Assign [.Name x pos'] e pos) (fun D' σ H => HotH X.A H ∧ tFS X.K W (evSet i a) D' σ H) := by
  refine PS.weak (ps_set (i := i) hN hi hx he hs hf) ?_
  rintro D' σ H ⟨hot, ι, e, S, se, s, h⟩
  refine ⟨hot, ι, e, S, se, s, FinE.mono ?_ (FinE.bindS se h)⟩
  rintro ι1 H1 d x1 ⟨S1, _, x, se1, s1, h1⟩ v r
  exact h1 _ H1 ι1 (Ext.refl _ _) (se1.set r) s1
variable {x n : Str} {t : Value} {L : List Str} {i : Nat} {body : List Stmt} {st : Stmt} {np pos pos' : Pos} {b s : EvS}
theorem fs_tryCall (hs : X.stack = X.env :: X.outer) (hf : X.env.frame = some X.env.locals) (hex : X.ex = []) (hN : X.N.Nodup) (hi : X.N[i]? = some n) (hln : X.env.kindOf n = some .local) (hc : Names X x t) (hu : Under X.K L x t) (tk : L2N.Takes X W)
    (hb : ∀ (W' : WX) (pn : List (Addr × Obj)) (xe : Value → Shared → Prop), L2N.Takes (X.tr pn xe) W' → PassesOwn (model X.prog X.w) X.A X.env xe → PSsF (X.tr pn xe) W' body b)
    (hsu : ∀ (a : Addr) (pn : List (Addr × Obj)), L2.PS (X.suite a pn) st (fun D' σ H => HotH (X.suite a pn).A H ∧ tFS X.K W0 s D' σ H)) :
    PSF X W (.Try body [.ExceptHandler (some (.Name x np)) (some n) [st] pos'] [] [] pos) (evTryAs L x i b s) := by
  refine PS.weak (ps_tryU (i := i) (tb := fun W' => tFS X.K W' b) (ts := fun a D' σ H => HotH (X.A.mark (some (.ref a))) H ∧ tFS X.K W0 s D' σ H) hs hf hex hN hi hln hc tk hb fun a pn => PSs.weak (pss_one (hsu a pn)) fun _ _ _ h => h) ?_
  rintro D' σ H ⟨ι, e, S, se, sm, h⟩
  refine ⟨ι, e, S, se, sm, ?_⟩
  unfold evTryAs at h
  cases q : b e S with
  | nx e' S' => rw [q] at h; exact h
  | rt d S' => rw [q] at h; exact h
  | bk e' S' => rw [q] at h; exact h
  | ct e' S' => rw [q] at h; exact h
  | bad => rw [q] at h; exact h.elim
  | ex c e' S' =>
    rw [q] at h
    have h : FinS X.K W ι H D' (if c.C ∈ L then (if isSubX c.C x = true then tryEnd i (s (e'.set i (some (.exc c.C c.lot.toList))) S') else .ex c e' S') else .bad) := h
    by_cases hL : c.C ∈ L
    · rw [if_pos hL] at h
      intro cls dd σ' H' ι' x1 se1 sm1 hx
      refine ⟨_, hu c.C hL cls hx.1, fun hb a oe na hz hf => ?_, fun hb => ?_⟩
      · rw [if_pos hb] at h
        have e1 := Ext.new (o := cghO oe) ι' na
        obtain ⟨vs, hd⟩ := hf
        exact ⟨.inr ⟨a, oe, _, vs, rfl, upd_same, hd, hz.2.2 vs hd⟩, ι', _, S', (se1.ext e1).set (exc_rep na hz ⟨vs, hd⟩ hx), sm1.new na, (tryEnd_fin h).ext (x1.trans e1)⟩
      · rw [if_neg (by rw [hb]; decide)] at h
        exact h cls dd σ' H' ι' x1 se1 sm1 hx
    · rw [if_neg hL] at h; exact h.elim
end
end FL

/-! EX10: any(xs) where an exception is handled; what the suite knows of it goes on through and, not and tuples. -/
namespace FL
open PySem PySem.Spec PyProof.Rows L2
open L2H (RoomH roomH_of)
theorem cr_anyH {X : Cx} (hot : HotH X.A X.H_0) : CallR X (.builtin "any") (rAny X.K) := by
  intro pins s σ H vs us Q I r h
  obtain ⟨a, bs, rfl, hs, q⟩ := h
  obtain ⟨its, rv, hl, _⟩ := I.list hs
  rw [Vals.ref1 r]
  have hb := Vals.bls rv
  rcases hot.inv I with hh | ⟨x1, hx⟩
  · refine call_any_walk (iter_any hl.isList fun s₂ e2 st hne => ?_)
    subst e2
    refine ⟨_, _, _, _, _, _, _, rfl, Walks.list (A := X.A.in1) hh _ a hne its.toArray, st, truth_bools hb, fun h' tk hk => ?_⟩
    refine ⟨.bl _, H, I.kept fun b o eo => hk b o (fun hmem => ?_) (Heap.get?_push_of_some _ eo), ?_, q⟩
    · rcases List.mem_cons.mp hmem with e1 | hmem
      · exact absurd (e1 ▸ Heap.lt_size eo) (Nat.lt_irrefl _)
      · cases hmem
    · show Value.bool _ = Value.bool _
      rw [← L2.any_range, hb, List.size_toArray, List.length_map]
  · obtain ⟨hh, o1, vs1, h1, d1, c1⟩ := hx
    refine call_any_walk (iter_any hl.isList fun s₂ e2 st hne => ?_)
    subst e2
    have hot2 : HotX.HotAt X.A.in1 x1 (s.heap.push { cls := .type "list_iterator", data := .fields #[.ref a, .int 0 0] }) := ⟨hh, o1, vs1, Heap.get?_push_of_some _ h1, d1, c1⟩
    refine ⟨_, _, _, _, _, _, _, rfl, walks_hot (A := X.A.in1) (x1 := x1) _ a hne (Nat.ne_of_lt (Heap.lt_size h1)) its.toArray, ⟨st, hot2⟩, truth_bools hb, fun h' tk hk => ?_⟩
    refine ⟨.bl _, H, I.kept fun b o eo => hk b o (fun hmem => ?_) (Heap.get?_push_of_some _ eo), ?_, q⟩
    · rcases List.mem_cons.mp hmem with e1 | hmem
      · exact absurd (e1 ▸ Heap.lt_size eo) (Nat.lt_irrefl _)
      · cases hmem
    · show Value.bool _ = Value.bool _
      rw [← L2.any_range, hb, List.size_toArray, List.length_map]
section
variable {X : Cx} {W : WX}
theorem know_one {op : BoolOp} {a : Expr} {ea : Ev} {pos : Pos} (ha : PE X a (tKnow X (tF X.K W ea))) : PE X (.BoolOp op [a] pos) (tKnow X (tF X.K W ea)) := pe_one ha
theorem know_and {a b : Expr} {rest : List Expr} {ea eb : Ev} {pos : Pos} (ha : PEF X W a ea) (hb : PE X (.BoolOp .And (b :: rest) pos) (tKnow X (tF X.K W eb))) : PE X (.BoolOp .And (a :: b :: rest) pos) (tKnow X (tF X.K W (evAndV ea eb))) := by
  refine PE.weak (pe_and ha hb) ?_
  rintro σ H Q ⟨hot, ι, e, S, se, s, h⟩
  refine tF.bind1 se s h fun ι1 H1 S1 x d x1 se1 s1 rx h1 => ?_
  cases d with
  | bl c =>
    refine ⟨c, rx, ?_⟩
    cases c with
    | true => exact ⟨hot.frz x1.frzs, ι1, e, S1, se1, s1, h1⟩
    | false => exact h1 H1 ι1 (Ext.refl _ _) s1 _ rfl
  | _ => exact h1.elim
theorem know_not {a : Expr} {ea : Ev} {pos : Pos} (ha : PE X a (tKnow X (tF X.K W ea))) : PE X (.UnaryOp .Not a pos) (tKnow X (tF X.K W (evNotV ea))) := by
  refine PE.weak (pe_not ha) ?_
  rintro σ H Q ⟨hot, ι, e, S, se, s, h⟩
  refine ⟨hot, tF.bind1 se s h fun ι1 H1 S1 x d x1 se1 s1 rx h1 => ?_⟩
  cases d with
  | bl c => exact ⟨c, rx, h1 H1 ι1 (Ext.refl _ _) s1 _ rfl⟩
  | _ => exact h1.elim
def tKnowL (X : Cx) (t : TA) : TA := fun σ H Q => HotH X.A H ∧ t σ H Q
theorem know_cons {e : Expr} {es : List Expr} {a : Ev} {r : EvL} (ha : PEF X W e a) (hr : PA X es (tKnowL X (tFL X.K W r))) (hs : starEach (e :: es) X.env = (false, eval e X.env) :: starEach es X.env := by rfl) : PA X (e :: es) (tKnowL X (tFL X.K W (evCons a r))) := by
  refine PA.weak (pa_cons ha hr hs) ?_
  rintro σ H Q ⟨hot, ι, e, S, se, s, h⟩
  refine ⟨ι, e, S, se, s, FinE.mono ?_ (FinE.bind h)⟩
  rintro ι1 H1 d x1 ⟨S1, _, x, s1, h1⟩ v rv
  refine ⟨hot.frz x1.frzs, ι1, e, S1, se.ext x, s1, FinE.mono ?_ (FinE.bind h1)⟩
  rintro ι2 H2 d' x2 ⟨S2, _, y, s2, h2⟩ vs rs
  exact h2 H2 ι2 (Ext.refl _ _) s2 (v :: vs) ⟨v, vs, rfl, RepV.ext y d v rv, rs⟩
theorem know_last {e : Expr} {es : List Expr} {a : Ev} {r : EvL} (ha : PE X e (tKnow X (tF X.K W a))) (hr : PAF X W es r) (hs : starEach (e :: es) X.env = (false, eval e X.env) :: starEach es X.env := by rfl) : PA X (e :: es) (tKnowL X (tFL X.K W (evCons a r))) := by
  refine PA.weak (pa_cons ha hr hs) ?_
  rintro σ H Q ⟨hot, ι, e, S, se, s, h⟩
  refine ⟨hot, ι, e, S, se, s, FinE.mono ?_ (FinE.bind h)⟩
  rintro ι1 H1 d x1 ⟨S1, _, x, s1, h1⟩ v rv
  refine ⟨ι1, e, S1, se.ext x, s1, FinE.mono ?_ (FinE.bind h1)⟩
  rintro ι2 H2 d' x2 ⟨S2, _, y, s2, h2⟩ vs rs
  exact h2 H2 ι2 (Ext.refl _ _) s2 (v :: vs) ⟨v, vs, rfl, RepV.ext y d v rv, rs⟩
theorem know_tup {es : List Expr} {a : EvL} {x1} {pos : Pos} (ha : PA X es (tKnowL X (tFL X.K W a))) : PE X (.Tuple es x1 pos) (tKnow X (tF X.K W (evTup a))) := by
  refine PE.weak (pe_tup ha) ?_
  rintro σ H Q ⟨hot, ι, e, S, se, s, h⟩
  refine ⟨hot, ι, e, S, se, s, FinE.mono ?_ (FinE.bind h)⟩
  rintro ι1 H1 ds x1 ⟨S1, _, x, s1, h1⟩ xs r
  by_cases c : fit ds.length = true
  · rw [if_pos c] at h1
    exact ⟨by rw [r.length]; exact fit_ok c, fun p hp => mkT_ok s1 r h1 hp⟩
  · rw [if_neg c] at h1; exact h1.elim
end
end FL

/-! GC: sets of texts: sorted(set(xs)), len(set(xs)) -/
namespace FL
open PySem PySem.Spec PyProof.Rows L2
/-! ### what a set of texts is -/
def keyT (e : Int × Value) : Str := match e.2 with | .str k _ => k | _ => Str.empty
def GoodT (w : World) (e : Int × Value) : Prop := ∃ k tk, e.2 = Value.str k tk ∧ e.1 = hashStr w k
/-- the set of texts at a: its members are those of L -/
def TxtSet (w : World) (h : Heap) (a : Addr) (L : List Str) : Prop :=
  ∃ o es ep t, h.get? a = some o ∧ o.ExactSet ∧ o.data = .set es ep t ∧ (∀ e ∈ es.toList, GoodT w e) ∧ (es.toList.map keyT).Nodup ∧ (∀ k, k ∈ L ↔ k ∈ es.toList.map keyT) ∧
    es.size ≤ L.length ∧ t.fits es.size = true ∧ Ris t.place.toList ∧ (w.params.followText "set-order" = true ∨ t.led = true)
section
variable {P : Program} {w : World} {h h' : Heap} {a : Addr} {L : List Str}
theorem TxtSet.at (R : TxtSet w h a L) (k : ∀ o, h.get? a = some o → h'.get? a = some o) : TxtSet w h' a L := by
  obtain ⟨o, es, ep, t, ho, r⟩ := R
  exact ⟨o, es, ep, t, k o ho, r⟩
theorem goodT_elems {l : List (Int × Value)} (g : ∀ e ∈ l, GoodT w e) : ElemsOf (strKind P w) l := fun e he => by
  obtain ⟨k, tk, h1, h2⟩ := g e he
  exact ⟨⟨k, by rw [h1]; exact strKind_is P w k tk, h2⟩, by rw [h1] <;> rfl⟩
theorem goodT_is {e : Int × Value} (g : GoodT w e) (k : Str) : (strKind P w).is k e.2 = true ↔ keyT e = k := by
  obtain ⟨k0, tk, h1, _⟩ := g
  unfold keyT
  rw [h1]
  constructor
  · intro h
    exact ((strKind P w).inj (.str k0 tk) k k0 h (strKind_is P w k0 tk)).symm
  · intro h
    have h : k0 = k := h
    subst h
    exact strKind_is P w k0 tk
theorem goodT_mem {l : List (Int × Value)} (g : ∀ e ∈ l, GoodT w e) (k : Str) : k ∈ l.map keyT ↔ ∃ e ∈ l, (strKind P w).is k e.2 = true := by
  rw [List.mem_map]
  constructor
  · rintro ⟨e, he, q⟩
    exact ⟨e, he, (goodT_is (g e he) k).2 q⟩
  · rintro ⟨e, he, q⟩
    exact ⟨e, he, (goodT_is (g e he) k).1 q⟩
theorem txtSet_new {a : Addr} (ho : h.get? a = some { cls := .type "set", dict := none, data := .set #[] 0 (.fresh 0 0 (!w.params.followText "set-order")) }) : TxtSet w h a [] :=
  ⟨_, #[], 0, _, ho, ⟨rfl, rfl, rfl⟩, rfl, (fun e he => by simp at he), (by simp), (fun k => by simp), Nat.le_refl _, (by rfl), List.Pairwise.nil, by
    show _ ∨ (!w.params.followText "set-order") = true
    cases w.params.followText "set-order"
    · exact .inr rfl
    · exact .inl rfl⟩
end
section
variable {P : Program} {w : World} {A : Around} {E : Value → Shared → Prop} {s : Shared} {a : Addr} {L : List Str}
/-! ### add -/
theorem txtSet_tail {g : Bool → Sem Unit} (hg : ∀ (b : Bool) (s₁ : Shared) (Q' : Unit → Shared → Prop), Q' () s₁ → wpAny (model P w) A (g b) Q' E s₁)
    {o : Obj} {es : Array (Int × Value)} {ep : Nat} {t : SetTable} (ho : s.heap.get? a = some o) (hex : o.ExactSet) (hd : o.data = .set es ep t)
    {es1 : Array (Int × Value)} {t2 : SetTable} {L' : List Str} (g1 : ∀ e ∈ es1.toList, GoodT w e) (nd1 : (es1.toList.map keyT).Nodup) (m1 : ∀ k, k ∈ L' ↔ k ∈ es1.toList.map keyT)
    (hb0 : es1.size ≤ L'.length) (hb1 : es1.size < scanBound) (hf2 : t2.fits es1.size = true) (hr : Ris t2.place.toList) (hl : w.params.followText "set-order" = true ∨ t2.led = true) {wasDummy : Bool} {R : Option Bool → Shared → Prop}
    (hR : ∀ h', Heap.SameBut a s.heap h' → TxtSet w h' a L' → R (some true) { s with heap := h' }) :
    wpAny (model P w) A (do
        storeSet a es1 t2
        if (!wasDummy && t2.tooFull) = true then do
            g (relayAll t2 es1 (SetTable.grown es1.size)).2.2
            storeSet a (relayAll t2 es1 (SetTable.grown es1.size)).1 (relayAll t2 es1 (SetTable.grown es1.size)).2.1
            pure (some true)
          else pure (some true)) R E s := by
  refine wpAny_bind (wpAny_storeSet_of ho hd ?_ (fits_of_scanBound hb1))
  have ho1 := store_at (es' := es1) (t' := t2) ho hd
  have sb1 := Heap.SameBut.update s.heap a (Obj.putSet es1 t2)
  split
  · have pm := relayAll_perm t2 es1 (SetTable.grown es1.size)
    have hf3 := relayAll_fits t2 es1 (SetTable.grown es1.size)
    have hr3 := relayAll_ris t2 es1 (SetTable.grown es1.size)
    have hl3 := relayAll_led t2 es1 (SetTable.grown es1.size)
    generalize relayAll t2 es1 (SetTable.grown es1.size) = Z at pm hf3 hr3 hl3 ⊢
    obtain ⟨es2, t3, gave⟩ := Z
    dsimp only at pm hf3 hr3 hl3 ⊢
    have hsz : es2.size = es1.size := by rw [← Array.length_toList, pm.length_eq, Array.length_toList]
    have hb2 : es2.size < scanBound := by rw [hsz]; exact hb1
    refine wpAny_bind (hg _ _ _ ?_)
    refine wpAny_bind (wpAny_storeSet_of ho1 rfl ?_ (fits_of_scanBound hb2))
    have ho2 := store_at (es' := es2) (t' := t3) ho1 rfl
    refine wpAny_pure (hR _ (sb1.trans (Heap.SameBut.update _ a _)) ?_)
    exact ⟨_, es2, _, t3, ho2, hex, rfl, fun e he => g1 e (pm.mem_iff.mp he), (pm.map keyT).nodup_iff.mpr nd1, fun k => (m1 k).trans (pm.map keyT).mem_iff.symm, by rw [hsz]; exact hb0, hf3, hr3,
      hl.imp id fun z => by rw [hl3]; exact z⟩
  · exact wpAny_pure (hR _ sb1 ⟨_, es1, _, t2, ho1, hex, rfl, g1, nd1, m1, hb0, hf2, hr, hl⟩)
theorem txtSet_add {k : Str} {tk : Tok} {Q : Bool → Shared → Prop} (R : TxtSet w s.heap a L) (room : L.length + 1 < scanBound)
    (hQ : ∀ b h', Heap.SameBut a s.heap h' → TxtSet w h' a (L ++ [k]) → Q b { s with heap := h' }) :
    wpAny (model P w) A (setAddHashed a (.str k tk) (hashStr w k)) Q E s := by
  obtain ⟨o, es, ep, t, ho, hex, hd, g, nd, hm, hn, hf, hr, hl⟩ := R
  have hb : es.size < scanBound := by omega
  have hkey : (strKind P w).is k (.str k tk) = true := strKind_is P w k tk
  have hsc : (Value.str k tk).scannable = true := rfl
  have hel : ElemsOf (strKind P w) es.toList := goodT_elems g
  unfold setAddHashed setAddHashedIn
  refine wpAny_holding (wpAny_bind (wpAny_setState_of ho hd hf ?_))
  dsimp only
  rw [byScan_of hsc hb hel]
  simp only [↓reduceIte]
  unfold setAddByScan
  refine wpAny_bind ?_
  refine wpAny_bind (wpAny_rule ?_)
  refine wpAny_bind (wpAny_setScan_of (knd := strKind P w) (k := k) hkey ho hd hf hel ?_)
  cases hfi : List.findIdx? (fun e => (strKind P w).is k e.2) es.toList with
  | some j =>
    dsimp only
    obtain ⟨hj, pj, _⟩ := List.findIdx?_eq_some_iff_getElem.mp hfi
    have hk : k ∈ es.toList.map keyT := (goodT_mem (P := P) (w := w) g k).2 ⟨es.toList[j], List.getElem_mem hj, pj⟩
    refine wpAny_pure (wpAny_pure ?_)
    exact hQ _ s.heap (Heap.SameBut.refl a s.heap) ⟨o, es, ep, t, ho, hex, hd, g, nd, fun i => by
      rw [List.mem_append, hm i, List.mem_singleton]
      exact ⟨fun z => z.elim id (fun e => e ▸ hk), .inl⟩, by rw [List.length_append, List.length_singleton]; omega, hf, hr, hl⟩
  | none =>
    dsimp only
    have hnk : k ∉ es.toList.map keyT := fun z => by
      obtain ⟨e, he, q⟩ := (goodT_mem (P := P) (w := w) g k).1 z
      have c := List.findIdx?_eq_none_iff.mp hfi e he
      rw [q] at c
      cases c
    have hgw : ∀ (b : Bool) {s₁ : Shared} {Q' : Unit → Shared → Prop}, Q' () s₁ → wpAny (model P w) A (match b with | true => rule "set.scan.the-table-gave-way" | false => pure ()) Q' E s₁ :=
      fun b s₁ Q' q => by cases b <;> first | exact wpAny_pure q | exact wpAny_rule q
    have pm := layNew_perm t es (hashStr w k) (.str k tk)
    have hf1 := layNew_fits t es (hashStr w k) (.str k tk)
    have hr1 := layNew_ris t es (hashStr w k) (.str k tk) hr
    have hl1 := layNew_led t es (hashStr w k) (.str k tk)
    generalize layNew t es (hashStr w k) (.str k tk) = Z at pm hf1 hr1 hl1 ⊢
    obtain ⟨es1, t1, wasDummy, gave⟩ := Z
    dsimp only at pm hf1 hr1 hl1 ⊢
    rw [Array.toList_push] at pm
    have pc : es1.toList.Perm ((hashStr w k, Value.str k tk) :: es.toList) := pm.trans (List.perm_append_singleton _ _)
    have pk : (es1.toList.map keyT).Perm (k :: es.toList.map keyT) := pc.map keyT
    have g1 : ∀ e ∈ es1.toList, GoodT w e := fun e he => by
      rcases List.mem_cons.mp (pc.mem_iff.mp he) with z | z
      · rw [z]; exact ⟨k, tk, rfl, rfl⟩
      · exact g e z
    have nd1 : (es1.toList.map keyT).Nodup := pk.nodup_iff.mpr (List.nodup_cons.mpr ⟨hnk, nd⟩)
    have m1 : ∀ i, i ∈ L ++ [k] ↔ i ∈ es1.toList.map keyT := fun i => by
      rw [List.mem_append, List.mem_singleton, hm i, pk.mem_iff, List.mem_cons]
      exact Or.comm
    have hsz : es1.size = es.size + 1 := by rw [← Array.length_toList, pc.length_eq, List.length_cons, Array.length_toList]
    have hb0 : es1.size ≤ (L ++ [k]).length := by rw [hsz, List.length_append, List.length_singleton]; omega
    have hb1 : es1.size < scanBound := by rw [hsz]; omega
    have hled : w.params.followText "set-order" = true ∨ t1.led = true := hl.imp id fun z => by rw [hl1]; exact z
    refine wpAny_bind (hgw _ ?_)
    split
    · refine wpAny_bind ?_
      rw [hashByValue_scannable 8 hsc]
      refine wpAny_pure ?_
      refine txtSet_tail ?_ ho hex hd g1 nd1 m1 hb0 hb1 ?_ ?_ ?_ ?_
      · intro b s₁ Q' q; cases b <;> first | exact wpAny_pure q | exact wpAny_rule q
      · first | (split <;> first | exact hf1 | exact SetTable.fits_plain_off hf1) | exact hf1
      · first | (split <;> exact hr1) | exact hr1
      · first | (split <;> exact hled) | exact hled
      · intro h' sb r; dsimp only; exact wpAny_pure (hQ _ h' sb r)
    · refine wpAny_bind (wpAny_pure ?_)
      simp only [↓reduceIte]
      refine txtSet_tail ?_ ho hex hd g1 nd1 m1 hb0 hb1 hf1 hr1 hled ?_
      · intro b s₁ Q' q; cases b <;> first | exact wpAny_pure q | exact wpAny_rule q
      · intro h' sb r; dsimp only; exact wpAny_pure (hQ _ h' sb r)
/-! ### the loop -/
theorem set_update_txts {I : Addr} {fp wr : List Addr} {G : Array GenState → Array GenState → Prop} {n : Nat} {Pv : Nat → Value → Prop} {St : Nat → Shared → Prop} {R : Result → Shared → Prop}
    (W : WalksS P w A.in1 I fp wr G n Pv St) (S : Addr) (hSf : S ∉ fp) (ns : List Str) (hn : n = ns.length) (hb : ns.length + 1 < scanBound) (hval : ∀ i v, Pv i v → ∃ k t, ns[i]? = some k ∧ v = .str k t) :
    ∀ (k i : Nat) (s : Shared), n - i = k → i ≤ n → St i s → TxtSet w s.heap S (ns.take i) →
      (∀ s', Moved (S :: wr) G s s' → TxtSet w s'.heap S ns → R (.ok (.ret .none)) s') →
      codeAny (model P w) A (.builtin "set.update.loop" ⟨[.ref S, .ref I], []⟩) R s := by
  have hSw : S ∉ wr := fun h => hSf (W.sub _ h)
  have hsub : ∀ b ∈ wr, b ∈ S :: wr := fun b hb => List.mem_cons_of_mem _ hb
  intro k
  induction k with
  | zero =>
    intro i s hk' hi hst hS hR
    have hin : i = n := by omega
    subst hin
    refine codeAny_builtin F.entry_set_update_loop ?_
    rw [Around.under_plainId F.plain_set_update_loop _]
    show wpAny _ A.in1 (pyNext (.ref I) >>= _) _ _ s
    refine wpAny_bind (W.done s _ _ hst fun s' hm => ?_)
    show wpAny _ A.in1 (ret Value.none) _ _ s'
    have e : ns.take i = ns := List.take_of_length_le (by omega)
    rw [e] at hS
    exact wpAny_pure (hR s' (hm.mono hsub) (hS.at fun o e => hm.heap S o hSw e))
  | succ k ih =>
    intro i s hk' hi hst hS hR
    have hlt : i < n := by omega
    refine codeAny_builtin F.entry_set_update_loop ?_
    rw [Around.under_plainId F.plain_set_update_loop _]
    show wpAny _ A.in1 (pyNext (.ref I) >>= _) _ _ s
    refine wpAny_bind (W.item i s _ _ hlt hst fun v s' hP hst' hm => ?_)
    obtain ⟨z, t, hz, rfl⟩ := hval i v hP
    have hS' : TxtSet w s'.heap S (ns.take i) := hS.at fun o e => hm.heap S o hSw e
    show wpAny _ A.in1 (holding [Value.str z t] (setAdd S (.str z t)) >>= _) _ _ s'
    refine wpAny_bind (wpAny_holding ?_)
    unfold setAdd
    refine wpAny_holding ?_
    refine wpAny_bind ((strKind P w).pyHash (k := z) (strKind_is _ _ _ _) ?_)
    refine txtSet_add (s := { s' with toks := s'.toks + 1 }) hS' (by rw [List.length_take]; omega) fun b h' hsb hS2 => ?_
    have hS3 : TxtSet w h' S (ns.take (i + 1)) := by
      rw [List.take_add_one, hz]
      exact hS2
    refine wpAny_pure ⟨plainId_quiet F.plain_set_update_loop _, ih (i + 1) _ (by omega) hlt (W.frame _ s' _ _ hst' (Nat.le_succ _) fun b hb o e => ?_) hS3 fun s'' hm'' hS'' => ?_⟩
    · rw [hsb.2 b (fun h : b = S => hSf (by rw [← h]; exact hb))]; exact e
    · refine hR s'' (Moved.trans W.gtrans ((hm.mono hsub).then_heap (Nat.le_succ _) fun b o hb e => ?_) hm'') hS''
      rw [hsb.2 b (fun h : b = S => hb (by rw [h]; exact List.mem_cons_self))]; exact e
theorem txts_at {its : List Value} {ns : List Str} (r : StrsAre its ns) {i : Nat} {v : Value} (h : its[i]? = some v) : ∃ k t, ns[i]? = some k ∧ v = .str k t := by
  have hi : i < ns.length := by
    rw [← StrsAre.len_eq r]
    exact (List.getElem?_eq_some_iff.mp h).1
  obtain ⟨t, e⟩ := SS.strs_at r i v h
  refine ⟨ns[i], t, List.getElem?_eq_getElem hi, ?_⟩
  rw [e, List.getD_eq_getElem?_getD, List.getElem?_eq_getElem hi] <;> rfl

set_option maxHeartbeats 6400000 in
theorem set_txts_list {l : Addr} {items : Array Value} (ns : List Str) {Q : Value → Shared → Prop} (hh : A.handled = none) (hl : s.heap.IsList l items) (hit : StrsAre items.toList ns) (hb : ns.length + 1 < scanBound)
    (h : ∀ (h' : Heap) (tk : Nat), TxtSet w h' s.heap.objs.size ns → (∀ b o, s.heap.get? b = some o → h'.get? b = some o) → Q (.ref s.heap.objs.size) { s with heap := h', toks := tk }) :
    wpAny (model P w) A (call (.type "set") [.ref l]) Q E s := by
  have hisz : items.size = ns.length := by
    have q := StrsAre.len_eq hit
    rw [Array.length_toList] at q
    exact q
  obtain ⟨c, tl, hmro⟩ := F.called_set.mro
  have hmade := F.called_set.made
  have hsub := F.called_set.sub
  refine wpAny_call (codeAny_of_tree ?_)
  show wpAny _ _ (callAny (.type "set") _) _ _ _
  refine wpAny_pure ⟨Code.quiet_builtin _ (by decide +kernel), codeAny_builtin F.entry_type_call ?_⟩
  rw [Around.under_plain (weight_type_call_type "set" [.ref l] []) rfl]
  have h1 := F.called_set.notType
  have h2 := F.called_set.canCreate
  have hct := F.typeCall_set_1 (.ref l)
  repeat (any_goals (first | assumption | wp_step))
  refine codeAny_mono (code_set_led1 (.ref l) (E := E) (Q₁ := fun obj s₁ => obj = .ref s.heap.objs.size ∧ s₁ = { s with heap := s.heap.push { cls := .type "set", dict := none, data := .set #[] 0 (.fresh 0 0 (!w.params.followText "set-order")) } }) ⟨rfl, rfl⟩) fun r s₁ hr => ?_
  cases r with
  | error e => exact hr
  | ok fl =>
    cases fl with
    | ret obj =>
      obtain ⟨rfl, rfl⟩ := hr
      have hS : (s.heap.push { cls := .type "set", dict := none, data := .set #[] 0 (.fresh 0 0 (!w.params.followText "set-order")) }).get? s.heap.objs.size = some { cls := .type "set", dict := none, data := .set #[] 0 (.fresh 0 0 (!w.params.followText "set-order")) } := Heap.get?_push_size _ rfl
      have hT : Shared.TypeIs { s with heap := s.heap.push { cls := .type "set", dict := none, data := .set #[] 0 (.fresh 0 0 (!w.params.followText "set-order")) } } (.ref s.heap.objs.size) "set" := ⟨_, hS, rfl⟩
      have hli := F.called_set.init.lookup
      have hbi := F.called_set.init.bind (.ref s.heap.objs.size)
      repeat (any_goals (first | assumption | wp_step))
      refine codeAny_mono (codeAny_call_builtin (R := wants (fun r s₂ => r = .none ∧ ∃ h' tk, s₂ = { s with heap := h', toks := tk } ∧ TxtSet w h' s.heap.objs.size ns ∧
          (∀ b o, s.heap.get? b = some o → h'.get? b = some o)) E) F.called_set.init.plain F.entry_set_init (check_set_init_1 hT ?_)) fun r₂ s₂ hr₂ => ?_
      · obtain ⟨ol, hol, hcl, nl, hdl⟩ := hl
        obtain ⟨ocls, odict, odata, oslots⟩ := ol
        simp only at hcl hdl
        subst hcl; subst hdl
        have hol' : (s.heap.push { cls := .type "set", dict := none, data := .set #[] 0 (.fresh 0 0 (!w.params.followText "set-order")) }).get? l = some { cls := .type "list", dict := odict, data := .seq items nl, slots := oslots } := Heap.get?_push_of_some _ hol
        have hsls := F.sub_list_set
        have hslf := F.sub_list_frozenset
        have hne : (Value.type "list" == Value.type "dict") = false := by decide
        have hl1 : (s.heap.push { cls := .type "set", dict := none, data := .set #[] 0 (.fresh 0 0 (!w.params.followText "set-order")) }).IsList l items := ⟨_, hol', rfl, nl, rfl⟩
        unfold Builtin.«set.__init__» noKeywords Builtin.Frozenset.updateFrom
        generalize hPI : pyIter = PI
        wp_walk
        subst hPI
        refine wpAny_pyIter_list hl1 ?_
        refine wpAny_bind (wpAny_runValue ?_)
        have hlS : l < s.heap.objs.size := Heap.lt_size hol
        have hh3 : A.in1.in1.in1.handled = none := by simp [hh]
        have hz1 : (s.heap.push { cls := .type "set", dict := none, data := .set #[] 0 (.fresh 0 0 (!w.params.followText "set-order")) }).objs.size = s.heap.objs.size + 1 := Heap.size_push ..
        have hneI : l ≠ (s.heap.push { cls := .type "set", dict := none, data := .set #[] 0 (.fresh 0 0 (!w.params.followText "set-order")) }).objs.size := by
          rw [Heap.size_push]; exact Nat.ne_of_lt (Nat.lt_succ_of_lt hlS)
        have hSf : s.heap.objs.size ∉ [(s.heap.push { cls := .type "set", dict := none, data := .set #[] 0 (.fresh 0 0 (!w.params.followText "set-order")) }).objs.size, l] := by
          rw [Heap.size_push]; simp only [List.mem_cons, List.mem_singleton, List.not_mem_nil, or_false, not_or]
          exact ⟨Nat.ne_of_lt (Nat.lt_succ_self _), Nat.ne_of_gt hlS⟩
        have hval : ∀ (i : Nat) (v : Value), items[i]? = some v → ∃ k t, ns[i]? = some k ∧ v = .str k t := fun i v hv => txts_at hit (by rw [Array.getElem?_toList]; exact hv)
        refine set_update_txts ((Walks.list hh3 _ l hneI items).toS) s.heap.objs.size
          hSf ns hisz hb hval (items.size - 0) 0 _ (by omega) (Nat.zero_le _)
          ⟨⟨_, Heap.get?_push_size _ rfl, rfl, rfl⟩, (hl1.push _)⟩ ?hS0 ?hR
        case hS0 =>
          have hget : ((s.heap.push { cls := .type "set", dict := none, data := .set #[] 0 (.fresh 0 0 (!w.params.followText "set-order")) }).push { cls := .type "list_iterator", data := .fields #[.ref l, .int 0 0] }).get? s.heap.objs.size
              = some { cls := .type "set", dict := none, data := .set #[] 0 (.fresh 0 0 (!w.params.followText "set-order")) } := Heap.get?_push_of_some _ hS
          exact txtSet_new hget
        case hR =>
          intro s' hm hS'
          obtain ⟨h', g2, d', tk', os'⟩ := s'
          have eg : g2 = s.gens := hm.gens
          have ed : d' = s.drawn := hm.drawn
          have eo : os' = s.os := hm.os
          subst eg; subst ed; subst eo
          show wpAny _ _ _ _ _ _
          refine wpAny_pure ?_
          show wpAny _ _ (ret Value.none) _ _ _
          refine wpAny_pure ⟨rfl, h', tk', rfl, hS', fun b o e => ?_⟩
          have hb0 : b < s.heap.objs.size := Heap.lt_size e
          have hb1 : b ≠ s.heap.objs.size := Nat.ne_of_lt hb0
          have hb2 : b ≠ (s.heap.push { cls := .type "set", dict := none, data := .set #[] 0 (.fresh 0 0 (!w.params.followText "set-order")) }).objs.size := by
            rw [Heap.size_push]; exact Nat.ne_of_lt (Nat.lt_succ_of_lt hb0)
          exact hm.heap b o (by simp only [List.mem_cons, List.mem_singleton, List.not_mem_nil, or_false, not_or]; exact ⟨hb1, hb2⟩) (Heap.get?_push_of_some _ (Heap.get?_push_of_some _ e))
      · cases r₂ with
        | error e => exact hr₂
        | ok fl₂ =>
          cases fl₂ with
          | ret r =>
            obtain ⟨rfl, h', tk, rfl, hS', hk'⟩ := hr₂
            repeat (any_goals (first | assumption | wp_step))
            exact h _ _ hS' hk'
          | _ => exact hr₂.elim
    | _ => exact hr.elim

set_option maxHeartbeats 6400000 in
theorem set_txts_tuple {l : Addr} {items : Array Value} (ns : List Str) {Q : Value → Shared → Prop} (hh : A.handled = none) (hl : s.heap.IsTuple l items) (hit : StrsAre items.toList ns) (hb : ns.length + 1 < scanBound)
    (h : ∀ (h' : Heap) (tk : Nat), TxtSet w h' s.heap.objs.size ns → (∀ b o, s.heap.get? b = some o → h'.get? b = some o) → Q (.ref s.heap.objs.size) { s with heap := h', toks := tk }) :
    wpAny (model P w) A (call (.type "set") [.ref l]) Q E s := by
  have hisz : items.size = ns.length := by
    have q := StrsAre.len_eq hit
    rw [Array.length_toList] at q
    exact q
  obtain ⟨c, tl, hmro⟩ := F.called_set.mro
  have hmade := F.called_set.made
  have hsub := F.called_set.sub
  refine wpAny_call (codeAny_of_tree ?_)
  show wpAny _ _ (callAny (.type "set") _) _ _ _
  refine wpAny_pure ⟨Code.quiet_builtin _ (by decide +kernel), codeAny_builtin F.entry_type_call ?_⟩
  rw [Around.under_plain (weight_type_call_type "set" [.ref l] []) rfl]
  have h1 := F.called_set.notType
  have h2 := F.called_set.canCreate
  have hct := F.typeCall_set_1 (.ref l)
  repeat (any_goals (first | assumption | wp_step))
  refine codeAny_mono (code_set_led1 (.ref l) (E := E) (Q₁ := fun obj s₁ => obj = .ref s.heap.objs.size ∧ s₁ = { s with heap := s.heap.push { cls := .type "set", dict := none, data := .set #[] 0 (.fresh 0 0 (!w.params.followText "set-order")) } }) ⟨rfl, rfl⟩) fun r s₁ hr => ?_
  cases r with
  | error e => exact hr
  | ok fl =>
    cases fl with
    | ret obj =>
      obtain ⟨rfl, rfl⟩ := hr
      have hS : (s.heap.push { cls := .type "set", dict := none, data := .set #[] 0 (.fresh 0 0 (!w.params.followText "set-order")) }).get? s.heap.objs.size = some { cls := .type "set", dict := none, data := .set #[] 0 (.fresh 0 0 (!w.params.followText "set-order")) } := Heap.get?_push_size _ rfl
      have hT : Shared.TypeIs { s with heap := s.heap.push { cls := .type "set", dict := none, data := .set #[] 0 (.fresh 0 0 (!w.params.followText "set-order")) } } (.ref s.heap.objs.size) "set" := ⟨_, hS, rfl⟩
      have hli := F.called_set.init.lookup
      have hbi := F.called_set.init.bind (.ref s.heap.objs.size)
      repeat (any_goals (first | assumption | wp_step))
      refine codeAny_mono (codeAny_call_builtin (R := wants (fun r s₂ => r = .none ∧ ∃ h' tk, s₂ = { s with heap := h', toks := tk } ∧ TxtSet w h' s.heap.objs.size ns ∧
          (∀ b o, s.heap.get? b = some o → h'.get? b = some o)) E) F.called_set.init.plain F.entry_set_init (check_set_init_1 hT ?_)) fun r₂ s₂ hr₂ => ?_
      · obtain ⟨ol, hol, hcl, nl, hdl⟩ := hl
        obtain ⟨ocls, odict, odata, oslots⟩ := ol
        simp only at hcl hdl
        subst hcl; subst hdl
        have hol' : (s.heap.push { cls := .type "set", dict := none, data := .set #[] 0 (.fresh 0 0 (!w.params.followText "set-order")) }).get? l = some { cls := .type "tuple", dict := odict, data := .seq items nl, slots := oslots } := Heap.get?_push_of_some _ hol
        have hsls := F.sub_tuple_set
        have hslf := F.sub_tuple_frozenset
        have hne : (Value.type "tuple" == Value.type "dict") = false := by decide
        have hl1 : (s.heap.push { cls := .type "set", dict := none, data := .set #[] 0 (.fresh 0 0 (!w.params.followText "set-order")) }).IsTuple l items := ⟨_, hol', rfl, nl, rfl⟩
        unfold Builtin.«set.__init__» noKeywords Builtin.Frozenset.updateFrom
        generalize hPI : pyIter = PI
        wp_walk
        subst hPI
        refine wpAny_pyIter_tuple hl1 ?_
        refine wpAny_bind (wpAny_runValue ?_)
        have hlS : l < s.heap.objs.size := Heap.lt_size hol
        have hh3 : A.in1.in1.in1.handled = none := by simp [hh]
        have hz1 : (s.heap.push { cls := .type "set", dict := none, data := .set #[] 0 (.fresh 0 0 (!w.params.followText "set-order")) }).objs.size = s.heap.objs.size + 1 := Heap.size_push ..
        have hneI : l ≠ (s.heap.push { cls := .type "set", dict := none, data := .set #[] 0 (.fresh 0 0 (!w.params.followText "set-order")) }).objs.size := by
          rw [Heap.size_push]; exact Nat.ne_of_lt (Nat.lt_succ_of_lt hlS)
        have hSf : s.heap.objs.size ∉ [(s.heap.push { cls := .type "set", dict := none, data := .set #[] 0 (.fresh 0 0 (!w.params.followText "set-order")) }).objs.size, l] := by
          rw [Heap.size_push]; simp only [List.mem_cons, List.mem_singleton, List.not_mem_nil, or_false, not_or]
          exact ⟨Nat.ne_of_lt (Nat.lt_succ_self _), Nat.ne_of_gt hlS⟩
        have hval : ∀ (i : Nat) (v : Value), items[i]? = some v → ∃ k t, ns[i]? = some k ∧ v = .str k t := fun i v hv => txts_at hit (by rw [Array.getElem?_toList]; exact hv)
        refine set_update_txts ((Walks.tuple hh3 _ l hneI items).toS) s.heap.objs.size
          hSf ns hisz hb hval (items.size - 0) 0 _ (by omega) (Nat.zero_le _)
          ⟨⟨_, Heap.get?_push_size _ rfl, rfl, rfl⟩, (hl1.push _)⟩ ?hS0 ?hR
        case hS0 =>
          have hget : ((s.heap.push { cls := .type "set", dict := none, data := .set #[] 0 (.fresh 0 0 (!w.params.followText "set-order")) }).push { cls := .type "tuple_iterator", data := .fields #[.ref l, .int 0 0] }).get? s.heap.objs.size
              = some { cls := .type "set", dict := none, data := .set #[] 0 (.fresh 0 0 (!w.params.followText "set-order")) } := Heap.get?_push_of_some _ hS
          exact txtSet_new hget
        case hR =>
          intro s' hm hS'
          obtain ⟨h', g2, d', tk', os'⟩ := s'
          have eg : g2 = s.gens := hm.gens
          have ed : d' = s.drawn := hm.drawn
          have eo : os' = s.os := hm.os
          subst eg; subst ed; subst eo
          show wpAny _ _ _ _ _ _
          refine wpAny_pure ?_
          show wpAny _ _ (ret Value.none) _ _ _
          refine wpAny_pure ⟨rfl, h', tk', rfl, hS', fun b o e => ?_⟩
          have hb0 : b < s.heap.objs.size := Heap.lt_size e
          have hb1 : b ≠ s.heap.objs.size := Nat.ne_of_lt hb0
          have hb2 : b ≠ (s.heap.push { cls := .type "set", dict := none, data := .set #[] 0 (.fresh 0 0 (!w.params.followText "set-order")) }).objs.size := by
            rw [Heap.size_push]; exact Nat.ne_of_lt (Nat.lt_succ_of_lt hb0)
          exact hm.heap b o (by simp only [List.mem_cons, List.mem_singleton, List.not_mem_nil, or_false, not_or]; exact ⟨hb1, hb2⟩) (Heap.get?_push_of_some _ (Heap.get?_push_of_some _ e))
      · cases r₂ with
        | error e => exact hr₂
        | ok fl₂ =>
          cases fl₂ with
          | ret r =>
            obtain ⟨rfl, h', tk, rfl, hS', hk'⟩ := hr₂
            repeat (any_goals (first | assumption | wp_step))
            exact h _ _ hS' hk'
          | _ => exact hr₂.elim
    | _ => exact hr.elim

end
end FL

namespace FL
open PySem PySem.Spec PyProof.Rows L2
/-! ### the members, once each, rising -/
def nubT : List Str → List Str
  | [] => []
  | x :: r => if x ∈ r then nubT r else x :: nubT r
theorem nubT_mem : ∀ {xs : List Str} {k : Str}, k ∈ nubT xs ↔ k ∈ xs
  | [], k => Iff.rfl
  | x :: r, k => by
    unfold nubT
    split
    · rename_i h
      rw [nubT_mem, List.mem_cons]
      exact ⟨.inr, fun z => z.elim (fun e => e ▸ h) id⟩
    · rw [List.mem_cons, List.mem_cons, nubT_mem]
theorem nubT_nodup : ∀ xs : List Str, (nubT xs).Nodup
  | [] => List.nodup_nil
  | x :: r => by
    unfold nubT
    split
    · exact nubT_nodup r
    · rename_i h
      exact List.nodup_cons.mpr ⟨fun z => h (nubT_mem.mp z), nubT_nodup r⟩
theorem nubT_len : ∀ xs : List Str, (nubT xs).length ≤ xs.length
  | [] => Nat.le_refl _
  | x :: r => by
    have := nubT_len r
    unfold nubT
    split <;> simp <;> omega
theorem nubT_self : ∀ {xs : List Str}, xs.Nodup → nubT xs = xs
  | [], _ => rfl
  | x :: r, h => by
    obtain ⟨h1, h2⟩ := List.nodup_cons.mp h
    unfold nubT
    rw [if_neg h1, nubT_self h2]
def setL (xs : List Str) : List Str := (nubT xs).mergeSort leS
theorem leS_anti {a b : Str} (h : leS a b = true) (k : leS b a = true) : a = b := by
  have h := of_decide_eq_true h
  have k := of_decide_eq_true k
  exact str_cps (List.le_antisymm h k)
theorem sort_perm {xs ys : List Str} (h : xs.Perm ys) : xs.mergeSort leS = ys.mergeSort leS := by
  refine List.Perm.eq_of_pairwise (le := fun a b => leS a b = true) (fun a b _ _ h k => leS_anti h k) (List.pairwise_mergeSort leS_trans leS_total xs) (List.pairwise_mergeSort leS_trans leS_total ys) ?_
  exact (List.mergeSort_perm xs leS).trans (h.trans (List.mergeSort_perm ys leS).symm)
theorem strsAre_each : ∀ {us : List Value} {ks : List Str}, PySem.W.EachIs (fun (v : Value) (k : Str) => ∃ tk, v = .str k tk) us ks → StrsAre us ks
  | _, _, .nil => .nil
  | _, _, .cons ⟨t, e⟩ r => by subst e; exact .cons _ t (strsAre_each r)
section
variable {P : Program} {w : World} {A : Around} {E : Value → Shared → Prop} {s : Shared} {a : Addr} {L : List Str}
def txtOf : Value → Str
  | .str k _ => k
  | _ => Str.empty
theorem each_txt : ∀ {vs : List Value}, (∀ v ∈ vs, ∃ k tk, v = Value.str k tk) → PySem.W.EachIs (fun (v : Value) (k : Str) => ∃ tk, v = .str k tk) vs (vs.map txtOf)
  | [], _ => .nil
  | v :: vs, h => by
    obtain ⟨k, tk, rfl⟩ := h v List.mem_cons_self
    exact .cons ⟨tk, rfl⟩ (each_txt fun u hu => h u (List.mem_cons_of_mem _ hu))
theorem each_reads {h : Heap} {a : Addr} : ∀ {vs : List Value}, (∀ v ∈ vs, ∃ k tk, v = Value.str k tk) → PySem.W.EachIs (fun v b => ∃ as, Reads h v (PyData.str b) as ∧ a ∉ as) vs (vs.map txtOf)
  | [], _ => .nil
  | v :: vs, q => by
    obtain ⟨k, tk, rfl⟩ := q v List.mem_cons_self
    exact .cons ⟨[], .str k tk, by simp⟩ (each_reads fun u hu => q u (List.mem_cons_of_mem _ hu))
theorem dataLe_leS : PySem.W.dataLe false (fun b : Str => PyData.str b) = leS := by
  have := PySem.W.dataLe_str (β := Str) fun x => x
  rw [show (fun b : Str => PyData.str b) = fun x => PyData.str ((fun x => x) x) from rfl, this]
  rfl
theorem sorted_txts {Q : Value → Shared → Prop} (R : TxtSet w s.heap a L) (hh : A.handled = none) (hu : A.units + 64 < cLine) (room : L.length + 1 < scanBound)
    (hQ : ∀ s' p (out : Array Value) (c : Nat), (∀ b o, s.heap.get? b = some o → s'.heap.get? b = some o) → s'.gens = s.gens → s'.os = s.os → s.heap.objs.size ≤ p →
      s'.heap.get? p = some (seqObj "list" out c) → StrsAre out.toList (setL L) → Q (.ref p) s') :
    wpAny (model P w) A (call (.builtin "sorted") [.ref a]) Q E s := by
  obtain ⟨o, es, ep, t, ho, hex, hd, g, nd, hm, hn, hf, hr, hl⟩ := R
  have hb : es.size < scanBound := by omega
  refine Calls.call_function_entry kind_sorted plain_sorted entry_sorted (args_sorted1 _) ?_
  unfold Builtin.«sorted»
  refine wpAny_bind (m := checkCount "sorted" 1 1 _) (wpAny_pure ?_)
  refine wpAny_bind (collect_set (A := A.in1) hh ⟨o, ho, hex.1, hd⟩ hf hb hr hl fun s1 vs k1 hz g1 o1 pm => ?_)
  have hvl : vs.length = es.size := by rw [pm.length_eq, List.length_map, Array.length_toList]
  have hsl : vs.length ≤ sizeLine := by rw [hvl]; exact fits_of_scanBound hb
  have hI : ∀ v ∈ vs, ∃ k tk, v = Value.str k tk := fun v hv => by
    obtain ⟨e, he, q⟩ := List.mem_map.mp (pm.mem_iff.mp hv)
    obtain ⟨k, tk, h1, _⟩ := g e he
    exact ⟨k, tk, by rw [← q]; exact h1⟩
  have pk : (vs.map txtOf).Perm (es.toList.map keyT) := by
    have q := pm.map txtOf
    rw [List.map_map] at q
    exact q
  have pn : (vs.map txtOf).Perm (nubT L) := pk.trans ((List.perm_ext_iff_of_nodup nd (nubT_nodup L)).mpr fun k => by rw [nubT_mem]; exact (hm k).symm)
  refine wpAny_bind (wpAny_newList ?_ hsl)
  have hoL : (s1.heap.push (seqObj "list" vs.toArray 0)).get? s1.heap.objs.size = some (seqObj "list" vs.toArray 0) := Heap.get?_push_size _ rfl
  refine wpAny_bind (wpAny_holding (PySem.W.list_sort_data (s := { s1 with heap := s1.heap.push (seqObj "list" vs.toArray 0) }) (enc := fun b : Str => PyData.str b) hoL (each_txt hI) (each_reads hI) (.of fun _ _ => rfl) (.others fun _ => ⟨fun z => (nomatch z), fun _ z => (nomatch z)⟩) (by rw [List.length_map]; exact hsl) (fun b _ => ?_) fun out ho2 e2 => ?_))
  · have : (PyData.str b).depth ≤ 1 := by unfold PyData.depth; omega
    have h2 : A.in1.units ≤ A.units + 3 := by first | exact Nat.le_refl _ | (show A.units + 1 ≤ _; omega)
    omega
  rw [dataLe_leS, sort_perm pn] at e2
  obtain ⟨c, hc⟩ := sortedHeap_at (vs := vs) (out := out.toArray) hoL
  refine wpAny_pure ⟨_, rfl, hQ _ s1.heap.objs.size out.toArray c (fun b u e => ?_) g1 o1 hz hc (strsAre_each e2)⟩
  have q := k1 b u e
  have hlt := Heap.lt_size q
  show (sortedHeap (s1.heap.push (seqObj "list" vs.toArray 0)) s1.heap.objs.size vs out.toArray).get? b = some u
  rw [sortedHeap_old (Nat.ne_of_lt hlt) (by rw [size_push']; exact Nat.lt_succ_of_lt hlt)]
  exact Heap.get?_push_of_some _ q
theorem len_txts {Q : Value → Shared → Prop} (R : TxtSet w s.heap a L) (room : L.length + 1 < scanBound) (h : ∀ tk tk', Q (.int (nubT L).length tk) { s with toks := tk' }) :
    wpAny (model P w) A (call (.builtin "len") [.ref a]) Q E s := by
  obtain ⟨o, es, ep, t, ho, hex, hd, g, nd, hm, hn, hf, hr, hl⟩ := R
  have e : es.size = (nubT L).length := by
    have pn : (es.toList.map keyT).Perm (nubT L) := (List.perm_ext_iff_of_nodup nd (nubT_nodup L)).mpr fun k => by rw [nubT_mem]; exact (hm k).symm
    rw [← pn.length_eq, List.length_map, Array.length_toList]
  refine call_len_set ho hex hd hf (by unfold scanBound at room; omega) ?_
  rw [e]
  exact h _ _
end
/-! ### the two expressions -/
section
variable {X : Cx} {a : Expr} {ta : TE}
def tSetOf (K : PySem.W.Frag) (ta : TE) (k : List Str → Hp → Prop) : L2.St → Hp → Prop := fun σ H => ta σ H fun x H1 => ∃ l, ∃ xs : List Str, x = .ref l ∧ (SqL K H1 l (xs.map V.str) ∨ SqT K H1 l (xs.map V.str)) ∧ xs.length + 1 < scanBound ∧ k xs H1
def tSortSet (K : PySem.W.Frag) (ta : TE) : TE := fun σ H Q => tSetOf K ta (fun xs H1 => ∀ p, H1 p = none → Q (.ref p) (upd H1 p (.lst ((setL xs).map V.str)))) σ H
def tLenSetT (K : PySem.W.Frag) (ta : TE) : TE := fun σ H Q => tSetOf K ta (fun xs H1 => Q (.int ((nubT xs).length : Nat)) H1) σ H
theorem set_of_at {pins : List (Addr × Obj)} {σ : L2.St} {H : Hp} {s : Shared} {l : Addr} {xs : List Str} {Q : Value → Shared → Prop} {E : Value → Shared → Prop} (hc : X.calm = true) (I : Inv X pins σ H s) (hq : SqL X.K H l (xs.map V.str) ∨ SqT X.K H l (xs.map V.str)) (hb : xs.length + 1 < scanBound)
    (h : ∀ h' tk, TxtSet X.w h' s.heap.objs.size xs → Inv X pins σ H { s with heap := h', toks := tk } → Q (.ref s.heap.objs.size) { s with heap := h', toks := tk }) :
    wpAny (model X.prog X.w) X.A (call (.type "set") [.ref l]) Q E s := by
  rcases hq with hq | hq
  · obtain ⟨its, r, pl, hz⟩ := I.list hq
    exact set_txts_list xs (I.ok.hd hc) pl.isList (by simpa using strsAre_of r) hb fun h' tk R k => h h' tk R (I.kept k)
  · obtain ⟨its, r, pl, hz⟩ := I.tuple hq
    exact set_txts_tuple xs (I.ok.hd hc) pl (by simpa using strsAre_of r) hb fun h' tk R k => h h' tk R (I.kept k)
theorem vals_strs : ∀ {us : List Value} {ks : List Str}, StrsAre us ks → Vals (ks.map V.str) us
  | _, _, .nil => .nil
  | _, _, .cons k t r => .cons ⟨t, rfl⟩ (vals_strs r)
theorem pe_sortSet {p p2 q pos : Pos} (hc : X.calm = true) (hu : X.A.units + 64 < cLine) (hg : Gl X "sorted") (hm : X.mg "sorted" = none) (hg2 : Gl X "set") (hm2 : X.mg "set" = none) (ha : PE X a ta)
    (na : starEach [a] X.env = (false, eval a X.env) :: starEach [] X.env := by rfl) : PE X (.Call (.Name "sorted" p) [.Call (.Name "set" p2) [a] [] q] [] pos) (tSortSet X.K ta) := by
  refine ⟨fun pins s σ H Q I h => ?_⟩
  refine Call_ (ld_blt I hg hm (by rfl) ?_)
  refine PyProof.Rows.callWith_builtin1 (PyProof.Rows.args_cons ?_ rfl) rfl rfl
  refine Call_ (ld_blt I hg2 hm2 (by rfl) ?_)
  refine PyProof.Rows.callWith_type1 (PyProof.Rows.args_cons (thn (ha.run pins s σ H _ I h) fun v s1 ⟨x, H1, I1, r1, q1⟩ => PyProof.Rows.args_nil ?_) na) na rfl
  obtain ⟨l, xs, rfl, hq, hb, q1⟩ := q1
  cases r1
  refine set_of_at hc I1 hq hb fun h' tk R I2 => PyProof.Rows.args_nil ?_
  refine sorted_txts R (I2.ok.hd hc) hu hb fun s' p out c k g o hp hgt rr => ?_
  have hn : H1 p = none := I2.hok.fresh hp
  have hv : Vals ((setL xs).map V.str) out.toList := vals_strs rr
  have hlen : ((setL xs).map V.str).length ≤ sizeLine := by
    have := nubT_len xs
    have h2 := fits_of_scanBound (show xs.length < scanBound by omega)
    rw [List.length_map, setL, List.length_mergeSort]
    omega
  have J : Inv X pins σ (upd H1 p (.lst ((setL xs).map V.str))) s' :=
    I2.call' (ch := []) o (Un.laid k hp hn) (I2.hok.laid k hp ⟨hlen, out.toList, c, hv, hgt⟩) (by rw [g]; exact I2.bare) (fun _ z => nomatch z)
  exact ⟨.ref p, _, J, rfl, q1 p hn⟩
theorem pe_lenSetT {p p2 q pos : Pos} (hc : X.calm = true) (hg : Gl X "len") (hm : X.mg "len" = none) (hg2 : Gl X "set") (hm2 : X.mg "set" = none) (ha : PE X a ta)
    (na : starEach [a] X.env = (false, eval a X.env) :: starEach [] X.env := by rfl) : PE X (.Call (.Name "len" p) [.Call (.Name "set" p2) [a] [] q] [] pos) (tLenSetT X.K ta) := by
  refine ⟨fun pins s σ H Q I h => ?_⟩
  refine Call_ (ld_blt I hg hm (by rfl) ?_)
  refine PyProof.Rows.callWith_builtin1 (PyProof.Rows.args_cons ?_ rfl) rfl rfl
  refine Call_ (ld_blt I hg2 hm2 (by rfl) ?_)
  refine PyProof.Rows.callWith_type1 (PyProof.Rows.args_cons (thn (ha.run pins s σ H _ I h) fun v s1 ⟨x, H1, I1, r1, q1⟩ => PyProof.Rows.args_nil ?_) na) na rfl
  obtain ⟨l, xs, rfl, hq, hb, q1⟩ := q1
  cases r1
  refine set_of_at hc I1 hq hb fun h' tk R I2 => PyProof.Rows.args_nil ?_
  exact len_txts R hb fun tk tk' => ⟨.int ((nubT xs).length : Nat), H1, I2.tok _, ⟨_, rfl⟩, q1⟩
end
/-! ### on data -/
def strsOpt : List D → Option (List Str)
  | [] => some []
  | .str s :: r => (strsOpt r).map (s :: ·)
  | _ :: _ => none
theorem strsOpt_rep {K : PySem.W.Frag} {ι : Io} {H : Hp} : ∀ {ds : List D} {vs : List V} {xs : List Str}, RepVs K ι H vs ds → strsOpt ds = some xs → vs = xs.map V.str
  | [], vs, xs, r, e => by
    cases e
    exact r
  | d :: ds, vs, xs, r, e => by
    obtain ⟨v, vs', rfl, r1, r2⟩ := r
    unfold strsOpt at e
    split at e
    · rename_i h
      cases h
    · rename_i s r' h
      injection h with h1 h2
      subst h1 h2
      cases q : strsOpt ds with
      | none => rw [q] at e; cases e
      | some ys =>
        rw [q] at e
        cases e
        rw [strsOpt_rep r2 q]
        have r1 : v = .str s := r1
        rw [r1]
        rfl
    · cases e
theorem strsOpt_map (xs : List Str) : strsOpt (xs.map D.str) = some xs := by
  induction xs with
  | nil => rfl
  | cons x r ih =>
    show (strsOpt (r.map D.str)).map (x :: ·) = _
    rw [ih]
    rfl
def fitT (n : Nat) : Bool := Nat.blt n 4000
theorem fitT_of {n : Nat} (h : n ≤ 3999) : fitT n = true := Nat.blt_eq.mpr (by omega)
theorem fitT_lt {n : Nat} (h : fitT n = true) : n + 1 < scanBound := by
  have := Nat.blt_eq.mp h
  unfold scanBound
  omega
def dSortSet (m : Bool) (d : D) (S : Store) : R D := match sq S d with
  | some ds => match strsOpt ds with
    | some xs => if fitT xs.length = true then mkL m ((setL xs).map .str) S else .bad
    | none => .bad
  | none => .bad
def dLenSet (d : D) (S : Store) : R D := match sq S d with
  | some ds => match strsOpt ds with
    | some xs => if fitT xs.length = true then .ok (.int ((nubT xs).length : Nat)) S else .bad
    | none => .bad
  | none => .bad
theorem repStrs {K : PySem.W.Frag} {ι : Io} {H : Hp} : ∀ xs : List Str, RepVs K ι H (xs.map V.str) (xs.map D.str)
  | [] => rfl
  | x :: r => ⟨_, _, rfl, rfl, repStrs r⟩
section
variable {X : Cx} {W : WX} {a : Expr} {ea : Ev} {p p2 q pos : Pos}
theorem f_sortSet {m : Bool} (hc : X.calm = true) (hu : X.A.units + 64 < cLine) (hg : Gl X "sorted") (hm : X.mg "sorted" = none) (hg2 : Gl X "set") (hm2 : X.mg "set" = none) (ha : PEF X W a ea)
    (na : starEach [a] X.env = (false, eval a X.env) :: starEach [] X.env := by rfl) : PEF X W (.Call (.Name "sorted" p) [.Call (.Name "set" p2) [a] [] q] [] pos) (ev1 (dSortSet m) ea) := by
  refine PE.weak (pe_sortSet hc hu hg hm hg2 hm2 ha na) ?_
  rintro σ H Q ⟨ι, e, S, se, s, h⟩
  refine tF.bind1 se s h fun ι1 H1 S1 x d _ _ s1 rx h1 => ?_
  unfold dSortSet at h1
  cases hs : sq S1 d with
  | none => rw [hs] at h1; exact h1.elim
  | some ds =>
    rw [hs] at h1
    have h1 : FinE X.K W ι1 H1 σ (Want X.K Q) (match strsOpt ds with
      | some xs => if fitT xs.length = true then mkL m ((setL xs).map .str) S1 else .bad
      | none => .bad) := h1
    cases hx : strsOpt ds with
    | none => rw [hx] at h1; exact h1.elim
    | some xs =>
      rw [hx] at h1
      have h1 : FinE X.K W ι1 H1 σ (Want X.K Q) (if fitT xs.length = true then mkL m ((setL xs).map .str) S1 else .bad) := h1
      by_cases c : fitT xs.length = true
      · rw [if_pos c] at h1
        obtain ⟨l, vs, rfl, hq, rv⟩ := repSq s1 rx hs
        have e := strsOpt_rep rv hx
        subst e
        exact ⟨l, xs, rfl, hq, fitT_lt c, fun p hp => mkL_ok s1 (repStrs _) h1 hp⟩
      · rw [if_neg c] at h1; exact h1.elim
theorem f_lenSet (hc : X.calm = true) (hg : Gl X "len") (hm : X.mg "len" = none) (hg2 : Gl X "set") (hm2 : X.mg "set" = none) (ha : PEF X W a ea)
    (na : starEach [a] X.env = (false, eval a X.env) :: starEach [] X.env := by rfl) : PEF X W (.Call (.Name "len" p) [.Call (.Name "set" p2) [a] [] q] [] pos) (ev1 dLenSet ea) := by
  refine PE.weak (pe_lenSetT hc hg hm hg2 hm2 ha na) ?_
  rintro σ H Q ⟨ι, e, S, se, s, h⟩
  refine tF.bind1 se s h fun ι1 H1 S1 x d _ _ s1 rx h1 => ?_
  unfold dLenSet at h1
  cases hs : sq S1 d with
  | none => rw [hs] at h1; exact h1.elim
  | some ds =>
    rw [hs] at h1
    have h1 : FinE X.K W ι1 H1 σ (Want X.K Q) (match strsOpt ds with
      | some xs => if fitT xs.length = true then .ok (.int ((nubT xs).length : Nat)) S1 else .bad
      | none => .bad) := h1
    cases hx : strsOpt ds with
    | none => rw [hx] at h1; exact h1.elim
    | some xs =>
      rw [hx] at h1
      have h1 : FinE X.K W ι1 H1 σ (Want X.K Q) (if fitT xs.length = true then .ok (.int ((nubT xs).length : Nat)) S1 else .bad) := h1
      by_cases c : fitT xs.length = true
      · rw [if_pos c] at h1
        obtain ⟨l, vs, rfl, hq, rv⟩ := repSq s1 rx hs
        have e := strsOpt_rep rv hx
        subst e
        exact ⟨l, xs, rfl, hq, fitT_lt c, here s1 h1 rfl⟩
      · rw [if_neg c] at h1; exact h1.elim
end
/-! ### their simp rules -/
section
variable {S : Store} {m : Bool}
@[simp] theorem o_sortSetT {xs : List Str} (h : xs.length ≤ 3999) : dSortSet m (.tup (xs.map .str)) S = mkL m ((setL xs).map .str) S := by
  show (match strsOpt (xs.map D.str) with
    | some xs => if fitT xs.length = true then mkL m ((setL xs).map .str) S else .bad
    | none => .bad) = _
  rw [strsOpt_map]
  exact if_pos (fitT_of h)
@[simp] theorem o_sortSetL {xs : List Str} (h : xs.length ≤ 3999) : dSortSet m (.lst (xs.map .str)) S = mkL m ((setL xs).map .str) S := o_sortSetT h
@[simp] theorem o_lenSetT {xs : List Str} (h : xs.length ≤ 3999) : dLenSet (.tup (xs.map .str)) S = .ok (.int ((nubT xs).length : Nat)) S := by
  show (match strsOpt (xs.map D.str) with
    | some xs => if fitT xs.length = true then R.ok (D.int ((nubT xs).length : Nat)) S else .bad
    | none => .bad) = _
  rw [strsOpt_map]
  exact if_pos (fitT_of h)
@[simp] theorem o_lenSetL {xs : List Str} (h : xs.length ≤ 3999) : dLenSet (.lst (xs.map .str)) S = .ok (.int ((nubT xs).length : Nat)) S := o_lenSetT h
@[simp] theorem r_sortSet {n : Nat} : dSortSet m (.ref n) S = onLst S[n]? fun ds => dSortSet m (.lst ds) S := by
  show (match sq S (.ref n) with
    | some ds => (match strsOpt ds with
      | some xs => if fitT xs.length = true then mkL m ((setL xs).map .str) S else .bad
      | none => .bad)
    | none => .bad) = _
  rw [sq_r]
  cases S[n]? with
  | none => rfl
  | some o => cases o <;> rfl
@[simp] theorem r_lenSet {n : Nat} : dLenSet (.ref n) S = onLst S[n]? fun ds => dLenSet (.lst ds) S := by
  show (match sq S (.ref n) with
    | some ds => (match strsOpt ds with
      | some xs => if fitT xs.length = true then R.ok (D.int ((nubT xs).length : Nat)) S else .bad
      | none => .bad)
    | none => .bad) = _
  rw [sq_r]
  cases S[n]? with
  | none => rfl
  | some o => cases o <;> rfl
end
theorem setL_rising (xs : List Str) : (setL xs).Pairwise ltS := sorted_rising (nubT_nodup xs)
theorem setL_mem {xs : List Str} {k : Str} : k ∈ setL xs ↔ k ∈ xs := by
  unfold setL
  rw [(List.mergeSort_perm _ _).mem_iff, nubT_mem]
theorem setL_len (xs : List Str) : (setL xs).length ≤ xs.length := by
  unfold setL
  rw [List.length_mergeSort]
  exact nubT_len xs
theorem ltS_le {a b : Str} (h : ltS a b) : leS a b = true := decide_eq_true (List.le_of_lt h)
theorem setL_self {xs : List Str} (h : xs.Pairwise ltS) : setL xs = xs := by
  have nd : xs.Nodup := List.Pairwise.imp (fun {a b} (h : ltS a b) => by
    intro e
    subst e
    exact List.lt_irrefl _ h) h
  unfold setL
  rw [nubT_self nd]
  exact List.mergeSort_of_pairwise (h.imp fun h => ltS_le h)
theorem setL_eq {xs : List Str} : xs = setL xs ↔ xs.Pairwise ltS :=
  ⟨fun e => e ▸ setL_rising xs, fun h => (setL_self h).symm⟩
end FL

namespace FL
open PySem PySem.Spec PyProof.Rows L2
def topS (i : Nat) : Stmt := PySem.Challenge.pw_rootshares_k16_texts_refused.main.body.getD i (.Pass ⟨0, 0, 0, 0⟩)
abbrev s_law_at : Stmt := topS 29
theorem sc_law_at : FnScope ["_law_script", "_law_k"] ["_law_script", "_law_k"] (defScope s_law_at) := ⟨rfl, rfl, rfl, by decide +kernel, rfl, by decide +kernel, by decide +kernel⟩
abbrev s_law_pot : Stmt := topS 30
theorem sc_law_pot : FnScope ["_law_script", "_law_k", "_law_cell"] ["_law_script", "_law_k"] (defScope s_law_pot) := ⟨rfl, rfl, rfl, by decide +kernel, rfl, by decide +kernel, by decide +kernel⟩
abbrev s_law_take : Stmt := topS 31
theorem sc_law_take : FnScope ["_law_pot_here", "_law_many", "_law_digit"] ["_law_pot_here", "_law_many"] (defScope s_law_take) := ⟨rfl, rfl, rfl, by decide +kernel, rfl, by decide +kernel, by decide +kernel⟩
abbrev s_law_name : Stmt := topS 32
theorem sc_law_name : FnScope ["_law_pot_here", "_law_taken", "_law_letters", "_law_name_here", "_law_k", "_law_some", "_law_one"] ["_law_pot_here", "_law_taken"] (defScope s_law_name) := ⟨rfl, rfl, rfl, by decide +kernel, rfl, by decide +kernel, by decide +kernel⟩
abbrev s_law_places : Stmt := topS 35
theorem sc_law_places : FnScope ["_law_pot_here", "_law_most", "_law_taken", "_law_k"] ["_law_pot_here", "_law_most"] (defScope s_law_places) := ⟨rfl, rfl, rfl, by decide +kernel, rfl, by decide +kernel, by decide +kernel⟩
abbrev s_law_more : Stmt := topS 34
theorem sc_law_more : FnScope ["_law_pot_here", "_law_places_here", "_law_rows_here", "_law_taken", "_law_many", "_law_k", "_law_a", "_law_b"] ["_law_pot_here", "_law_places_here", "_law_rows_here", "_law_taken", "_law_many"] (defScope s_law_more) := ⟨rfl, rfl, rfl, by decide +kernel, rfl, by decide +kernel, by decide +kernel⟩
abbrev s_law_grown : Stmt := topS 33
theorem sc_law_grown : FnScope ["_law_pot_here", "_law_places_here", "_law_root", "_law_rows_here", "_law_taken", "_law_done", "_law_left", "_law_place", "_law_tree", "_law_goal"] ["_law_pot_here", "_law_places_here", "_law_root", "_law_rows_here", "_law_taken"] (defScope s_law_grown) := ⟨rfl, rfl, rfl, by decide +kernel, rfl, by decide +kernel, by decide +kernel⟩
abbrev s_law_web : Stmt := topS 36
theorem sc_law_web : FnScope ["_law_pot_here", "_law_most_places", "_law_most_more", "_law_places_here", "_law_root", "_law_rows_here", "_law_taken", "_law_trees", "_law_k", "_law_many"] ["_law_pot_here", "_law_most_places", "_law_most_more"] (defScope s_law_web) := ⟨rfl, rfl, rfl, by decide +kernel, rfl, by decide +kernel, by decide +kernel⟩
abbrev s_law_web_text : Stmt := topS 37
theorem sc_law_web_text : FnScope ["_law_web_here", "_law_lines", "_law_row", "_law_line"] ["_law_web_here"] (defScope s_law_web_text) := ⟨rfl, rfl, rfl, by decide +kernel, rfl, by decide +kernel, by decide +kernel⟩
abbrev s_law_trees_text : Stmt := topS 38
theorem sc_law_trees_text : FnScope ["_law_trees", "_law_text", "_law_tree", "_law_tie"] ["_law_trees"] (defScope s_law_trees_text) := ⟨rfl, rfl, rfl, by decide +kernel, rfl, by decide +kernel, by decide +kernel⟩
abbrev s_lines_in : Stmt := topS 25
theorem sc_lines_in : FnScope ["text", "lines", "line"] ["text"] (defScope s_lines_in) := ⟨rfl, rfl, rfl, by decide +kernel, rfl, by decide +kernel, by decide +kernel⟩
abbrev s_are_rising : Stmt := topS 17
theorem sc_are_rising : FnScope ["names", "one", "other"] ["names"] (defScope s_are_rising) := ⟨rfl, rfl, rfl, by decide +kernel, rfl, by decide +kernel, by decide +kernel⟩
abbrev s_is_name : Stmt := topS 16
theorem sc_is_name : FnScope ["thing", "sign"] ["thing"] (defScope s_is_name) := ⟨rfl, rfl, rfl, by decide +kernel, rfl, by decide +kernel, by decide +kernel⟩
abbrev s_are_names : Stmt := topS 18
theorem sc_are_names : FnScope ["thing", "one"] ["thing"] (defScope s_are_names) := ⟨rfl, rfl, rfl, by decide +kernel, rfl, by decide +kernel, by decide +kernel⟩
abbrev s_is_tie : Stmt := topS 19
theorem sc_is_tie : FnScope ["places", "thing", "one"] ["places", "thing"] (defScope s_is_tie) := ⟨rfl, rfl, rfl, by decide +kernel, rfl, by decide +kernel, by decide +kernel⟩
abbrev s_is_web : Stmt := topS 20
theorem sc_is_web : FnScope ["thing", "places", "rows", "row"] ["thing"] (defScope s_is_web) := ⟨rfl, rfl, rfl, by decide +kernel, rfl, by decide +kernel, by decide +kernel⟩
abbrev s_read_web : Stmt := topS 26
theorem sc_read_web : FnScope ["text", "lines", "line", "found"] ["text"] (defScope s_read_web) := ⟨rfl, rfl, rfl, by decide +kernel, rfl, by decide +kernel, by decide +kernel⟩
abbrev s_read_trees : Stmt := topS 27
theorem sc_read_trees : FnScope ["text", "lines", "found", "line", "tree"] ["text"] (defScope s_read_trees) := ⟨rfl, rfl, rfl, by decide +kernel, rfl, by decide +kernel, by decide +kernel⟩
abbrev s_law_is_other : Stmt := topS 45
theorem sc_law_is_other : FnScope ["_law_e", "_law_some"] ["_law_e"] (defScope s_law_is_other) := ⟨rfl, rfl, rfl, by decide +kernel, rfl, by decide +kernel, by decide +kernel⟩
abbrev s_law_told : Stmt := topS 46
theorem sc_law_told : FnScope ["_law_thing", "_law_wants_web", "_law_told_here", "_law_e"] ["_law_thing", "_law_wants_web"] (defScope s_law_told) := ⟨rfl, rfl, rfl, by decide +kernel, rfl, by decide +kernel, by decide +kernel⟩
abbrev s_law_names : Stmt := topS 42
theorem sc_law_names : FnScope ["_law_words", "_law_word"] ["_law_words"] (defScope s_law_names) := ⟨rfl, rfl, rfl, by decide +kernel, rfl, by decide +kernel, by decide +kernel⟩
abbrev s_law_rows : Stmt := topS 43
theorem sc_law_rows : FnScope ["_law_thing", "_law_first", "_law_rows_here", "_law_line", "_law_words"] ["_law_thing", "_law_first"] (defScope s_law_rows) := ⟨rfl, rfl, rfl, by decide +kernel, rfl, by decide +kernel, by decide +kernel⟩
abbrev s_law_web_of : Stmt := topS 44
theorem sc_law_web_of : FnScope ["_law_thing", "_law_rows_here", "_law_ties", "_law_row", "_law_names_here"] ["_law_thing"] (defScope s_law_web_of) := ⟨rfl, rfl, rfl, by decide +kernel, rfl, by decide +kernel, by decide +kernel⟩
abbrev s_law_agrees : Stmt := topS 47
theorem sc_law_agrees : FnScope ["_law_thing", "_law_wants_web", "_law_due", "_law_told_here"] ["_law_thing"] (defScope s_law_agrees) := ⟨rfl, rfl, rfl, by decide +kernel, rfl, by decide +kernel, by decide +kernel⟩
abbrev s_law_sign_spoilt : Stmt := topS 39
theorem sc_law_sign_spoilt : FnScope ["_law_pot_here", "_law_text", "_law_at_here", "_law_signs", "_law_sign", "_law_some"] ["_law_pot_here", "_law_text"] (defScope s_law_sign_spoilt) := ⟨rfl, rfl, rfl, by decide +kernel, rfl, by decide +kernel, by decide +kernel⟩
abbrev s_law_lines_spoilt : Stmt := topS 40
theorem sc_law_lines_spoilt : FnScope ["_law_pot_here", "_law_text", "_law_lines", "_law_at_here", "_law_words", "_law_place", "_law_other", "_law_changed", "_law_some", "_law_row"] ["_law_pot_here", "_law_text"] (defScope s_law_lines_spoilt) := ⟨rfl, rfl, rfl, by decide +kernel, rfl, by decide +kernel, by decide +kernel⟩
abbrev s_law_spoilt : Stmt := topS 41
theorem sc_law_spoilt : FnScope ["_law_pot_here", "_law_text", "_law_turn"] ["_law_pot_here", "_law_text"] (defScope s_law_spoilt) := ⟨rfl, rfl, rfl, by decide +kernel, rfl, by decide +kernel, by decide +kernel⟩
abbrev s_law : Stmt := topS 48
theorem sc_law : FnScope ["_law_script", "_law_menu", "_law_k", "_law_pot_here", "_law_web_here", "_law_root", "_law_trees", "_law_texts", "_law_turn"] ["_law_script"] (defScope s_law) := ⟨rfl, rfl, rfl, by decide +kernel, rfl, by decide +kernel, by decide +kernel⟩
def rsX : List Str := ["NoText"]
/-! ### what the defs compute -/
noncomputable def b_law_at : EvS := (evSeq (evIfS (evT (ev2 (dOrd fun p q => PySem.W.dataLt p q) (evVar 1) (evN dLen (evCons (evVar 0) evNil)))) (evRet (ev2 dIx (evVar 0) (evVar 1))) evNext) (evRet (evC (.int 0))))
noncomputable def f_law_at : List D → Store → R D := runF false 2 b_law_at
theorem u_law_at {S : Store} {a0 a1 : D} : f_law_at [a0, a1] S = gc false S (b_law_at [some a0, some a1] S) := rfl
noncomputable def b_law_pot : EvS := (evSeq (evSet 2 (evCall 2 f_law_at (evCons (evVar 0) (evCons (evVar 1) evNil)))) (evRet (evLst true (evCons (evN dMax (evCons (evC (.int 0)) (evCons (ev2 dSub (evVar 2) (ev2 dPow (evC (.int 10)) (evC (.int 18)))) evNil))) (evCons (ev2 dMod (ev2 (dAdd' false) (ev2 dMod (evVar 2) (evC (.int 2147483629))) (ev2 dMul (evC (.int 48271)) (ev2 (dAdd' false) (evVar 1) (evC (.int 1))))) (evC (.int 2147483629))) evNil)))))
noncomputable def f_law_pot : List D → Store → R D := runF true 3 b_law_pot
theorem u_law_pot {S : Store} {a0 a1 : D} : f_law_pot [a0, a1] S = gc true S (b_law_pot [some a0, some a1, none] S) := rfl
noncomputable def b_law_take : EvS := (evSeq (evIfS (evT (ev2 (dOrd fun p q => PySem.W.dataLt q p) (ev2 dIx (evVar 0) (evC (.int 0))) (evC (.int 0)))) (evSeq (evSet 2 (ev2 dMod (ev2 dIx (evVar 0) (evC (.int 0))) (evVar 1))) (evSeq (evAsg (ev2 dDiv (ev2 dIx (evVar 0) (evC (.int 0))) (evVar 1)) (evgIx (evVar 0) (evC (.int 0)))) (evRet (evVar 2)))) evNext) (evSeq (evAsg (ev2 dMod (ev2 (dAdd' false) (ev2 dMul (ev2 dIx (evVar 0) (evC (.int 1))) (evC (.int 39373))) (evC (.int 7919))) (evC (.int 2147483629))) (evgIx (evVar 0) (evC (.int 1)))) (evRet (ev2 dMod (ev2 dDiv (ev2 dMod (ev2 dMul (ev2 dIx (evVar 0) (evC (.int 1))) (ev2 dIx (evVar 0) (evC (.int 1)))) (evC (.int 2147483563))) (evC (.int 11))) (evVar 1)))))
noncomputable def f_law_take : List D → Store → R D := runF false 3 b_law_take
theorem u_law_take {S : Store} {a0 a1 : D} : f_law_take [a0, a1] S = gc false S (b_law_take [some a0, some a1, none] S) := rfl
noncomputable def b_law_name : EvS := (evSeq (evSet 2 (evC (.str "abcdefghijklmnopqrstuvwxyz"))) (evSeq (evSet 3 (evM "str" mJoin (evC (.str "")) (evCons (evLc false [4] (evRange (evCons (ev2 (dAdd' false) (evC (.int 1)) (ev2 dMul (evCall 2 f_law_take (evCons (evVar 0) (evCons (evC (.int 2)) evNil))) (evCall 2 f_law_take (evCons (evVar 0) (evCons (evC (.int 8)) evNil))))) evNil)) (evgName 4) evYes (ev2 dIx (evVar 2) (evCall 2 f_law_take (evCons (evVar 0) (evCons (evC (.int 26)) evNil))))) evNil))) (evSeq (evIfS (evT (ev2 dEq' (evCall 2 f_law_take (evCons (evVar 0) (evCons (evC (.int 9)) evNil))) (evC (.int 5)))) (evSet 3 (ev2 dIx (evLst false (evCons (evC (.str "tie")) (evCons (evC (.str "places")) (evCons (evC (.str "tree")) (evCons (evC (.str "ties")) (evCons (evC (.str "place")) evNil)))))) (evCall 2 f_law_take (evCons (evVar 0) (evCons (evC (.int 5)) evNil))))) evNext) (evSeq (evIfS (evT (ev2 (dIn false) (evVar 3) (evVar 1))) (evSeq (evSet 5 (evLc false [4] (evRange (evCons (ev2 (dAdd' false) (evN dLen (evCons (evVar 1) evNil)) (evC (.int 1))) evNil)) (evgName 4) evYes (ev2 (dAdd' false) (ev2 (dAdd' false) (evSl false (evVar 3) evNoP (evP (evC (.int 6)))) (ev2 dIx (evVar 2) (ev2 dDiv (evVar 4) (evC (.int 26))))) (ev2 dIx (evVar 2) (ev2 dMod (evVar 4) (evC (.int 26))))))) (evSet 3 (ev2 dIx (evLc false [6] (evIter (evVar 5)) (evgName 6) (evT (ev2 (dIn true) (evVar 6) (evVar 1))) (evVar 6)) (evC (.int 0))))) evNext) (evSeq (evDrop (evM "list" mAppend (evVar 1) (evCons (evVar 3) evNil))) (evRet (evVar 3)))))))
noncomputable def f_law_name : List D → Store → R D := runF false 7 b_law_name
theorem u_law_name {S : Store} {a0 a1 : D} : f_law_name [a0, a1] S = gc false S (b_law_name [some a0, some a1, none, none, none, none, none] S) := rfl
noncomputable def b_law_places : EvS := (evSeq (evSet 2 (evLst true evNil)) (evSeq (evFor (evRange (evCons (ev2 (dAdd' false) (evC (.int 1)) (evCall 2 f_law_take (evCons (evVar 0) (evCons (evVar 1) evNil)))) evNil)) (evgName 3) (evDrop (evCall 2 f_law_name (evCons (evVar 0) (evCons (evVar 2) evNil))))) (evRet (evN (dSorted false) (evCons (evVar 2) evNil)))))
noncomputable def f_law_places : List D → Store → R D := runF false 4 b_law_places
theorem u_law_places {S : Store} {a0 a1 : D} : f_law_places [a0, a1] S = gc false S (b_law_places [some a0, some a1, none, none] S) := rfl
noncomputable def b_law_more : EvS := (evFor (evRange (evCons (ev2 dMul (evVar 4) (evN dInt (evCons (ev2 (dOrd fun p q => PySem.W.dataLt q p) (evN dLen (evCons (evVar 1) evNil)) (evC (.int 1))) evNil))) evNil)) (evgName 5) (evSeq (evSet 6 (evCall 2 f_law_take (evCons (evVar 0) (evCons (evN dLen (evCons (evVar 1) evNil)) evNil)))) (evSeq (evSet 7 (ev2 dMod (ev2 (dAdd' false) (ev2 (dAdd' false) (evVar 6) (evC (.int 1))) (evCall 2 f_law_take (evCons (evVar 0) (evCons (ev2 dSub (evN dLen (evCons (evVar 1) evNil)) (evC (.int 1))) evNil)))) (evN dLen (evCons (evVar 1) evNil)))) (evDrop (evM "list" mAppend (evVar 2) (evCons (evTup (evCons (evCall 2 f_law_name (evCons (evVar 0) (evCons (evVar 3) evNil))) (evCons (ev2 dIx (evVar 1) (evVar 6)) (evCons (ev2 dIx (evVar 1) (evVar 7)) evNil)))) evNil))))))
noncomputable def f_law_more : List D → Store → R D := runF false 8 b_law_more
theorem u_law_more {S : Store} {a0 a1 a2 a3 a4 : D} : f_law_more [a0, a1, a2, a3, a4] S = gc false S (b_law_more [some a0, some a1, some a2, some a3, some a4, none, none, none] S) := rfl
noncomputable def b_law_grown : EvS := (evSeq (evSet 5 (evLst true (evCons (evVar 2) evNil))) (evSeq (evSet 6 (evLc true [7] (evIter (evVar 1)) (evgName 7) (evT (ev2 dNe' (evVar 7) (evVar 2))) (evVar 7))) (evSeq (evSet 8 (evLst true evNil)) (evSeq (evWhile (evT (ev2 dNe' (evVar 6) (evLst false evNil))) (evSeq (evSet 9 (evM "list" mPopAt (evVar 6) (evCons (evCall 2 f_law_take (evCons (evVar 0) (evCons (evN dLen (evCons (evVar 6) evNil)) evNil))) evNil))) (evSeq (evDrop (evM "list" mAppend (evVar 3) (evCons (evTup (evCons (evCall 2 f_law_name (evCons (evVar 0) (evCons (evVar 4) evNil))) (evCons (ev2 dIx (evVar 5) (evCall 2 f_law_take (evCons (evVar 0) (evCons (evN dLen (evCons (evVar 5) evNil)) evNil)))) (evCons (evVar 9) evNil)))) evNil))) (evSeq (evDrop (evM "list" mAppend (evVar 8) (evCons (ev2 dIx (ev2 dIx (evVar 3) (ev1 dNeg (evC (.int 1)))) (evC (.int 0))) evNil))) (evDrop (evM "list" mAppend (evVar 5) (evCons (evVar 9) evNil))))))) (evRet (evN dTuple (evCons (evN (dSorted false) (evCons (evVar 8) evNil)) evNil)))))))
noncomputable def f_law_grown : List D → Store → R D := runF false 10 b_law_grown
theorem u_law_grown {S : Store} {a0 a1 a2 a3 a4 : D} : f_law_grown [a0, a1, a2, a3, a4] S = gc false S (b_law_grown [some a0, some a1, some a2, some a3, some a4, none, none, none, none, none] S) := rfl
noncomputable def b_law_web : EvS := (evSeq (evSet 3 (evCall 2 f_law_places (evCons (evVar 0) (evCons (evVar 1) evNil)))) (evSeq (evSet 4 (ev2 dIx (evVar 3) (evCall 2 f_law_take (evCons (evVar 0) (evCons (evN dLen (evCons (evVar 3) evNil)) evNil))))) (evSeq (evAsg (evTup (evCons (evLst true evNil) (evCons (evLst true evNil) evNil))) (evgTup 2 (evgCons (evgName 5) (evgCons (evgName 6) evgNil)))) (evSeq (evSet 7 (evLc false [8] (evRange (evCons (evCall 2 f_law_take (evCons (evVar 0) (evCons (evC (.int 4)) evNil))) evNil)) (evgName 8) evYes (evCall 5 f_law_grown (evCons (evVar 0) (evCons (evVar 3) (evCons (evVar 4) (evCons (evVar 5) (evCons (evVar 6) evNil)))))))) (evSeq (evSet 9 (evCall 2 f_law_take (evCons (evVar 0) (evCons (ev2 (dAdd' false) (evVar 2) (evC (.int 1))) evNil)))) (evSeq (evIfS (evT (ev2 dEq' (evCall 2 f_law_take (evCons (evVar 0) (evCons (evC (.int 8)) evNil))) (evC (.int 7)))) (evSet 9 (ev2 dSub (evC (.int 37)) (evN dLen (evCons (evVar 5) evNil)))) evNext) (evSeq (evDrop (evCall 5 f_law_more (evCons (evVar 0) (evCons (evVar 3) (evCons (evVar 5) (evCons (evVar 6) (evCons (evVar 9) evNil))))))) (evRet (evTup (evCons (evTup (evCons (evN dTuple (evCons (evVar 3) evNil)) (evCons (evN dTuple (evCons (evN (dSorted false) (evCons (evVar 5) evNil)) evNil)) evNil))) (evCons (evVar 4) (evCons (evVar 7) evNil))))))))))))
noncomputable def f_law_web : List D → Store → R D := runF false 10 b_law_web
theorem u_law_web {S : Store} {a0 a1 a2 : D} : f_law_web [a0, a1, a2] S = gc false S (b_law_web [some a0, some a1, some a2, none, none, none, none, none, none, none] S) := rfl
noncomputable def b_law_web_text : EvS := (evSeq (evSet 1 (evLst true (evCons (ev2 (dAdd' false) (evLst false (evCons (evC (.str "places")) evNil)) (evN (dList false) (evCons (ev2 dIx (evVar 0) (evC (.int 0))) evNil))) evNil))) (evSeq (evFor (evIter (ev2 dIx (evVar 0) (evC (.int 1)))) (evgName 2) (evDrop (evM "list" mAppend (evVar 1) (evCons (ev2 (dAdd' false) (evLst false (evCons (evC (.str "tie")) evNil)) (evN (dList false) (evCons (evVar 2) evNil))) evNil)))) (evRet (evM "str" mJoin (evC (.str "")) (evCons (evLc false [3] (evIter (evVar 1)) (evgName 3) evYes (ev2 (dAdd' false) (evM "str" mJoin (evC (.str " ")) (evCons (evVar 3) evNil)) (evC (.str "\n")))) evNil)))))
noncomputable def f_law_web_text : List D → Store → R D := runF false 4 b_law_web_text
theorem u_law_web_text {S : Store} {a0 : D} : f_law_web_text [a0] S = gc false S (b_law_web_text [some a0, none, none, none] S) := rfl
noncomputable def b_law_trees_text : EvS := (evSeq (evSet 1 (evC (.str ""))) (evSeq (evFor (evIter (evVar 0)) (evgName 2) (evSeq (evSet 1 (ev2 (dAdd' false) (evVar 1) (evC (.str "tree")))) (evSeq (evFor (evIter (evVar 2)) (evgName 3) (evSet 1 (ev2 (dAdd' false) (ev2 (dAdd' false) (evVar 1) (evC (.str " "))) (evVar 3)))) (evSet 1 (ev2 (dAdd' false) (evVar 1) (evC (.str "\n"))))))) (evRet (evVar 1))))
noncomputable def f_law_trees_text : List D → Store → R D := runF false 4 b_law_trees_text
theorem u_law_trees_text {S : Store} {a0 : D} : f_law_trees_text [a0] S = gc false S (b_law_trees_text [some a0, none, none, none] S) := rfl
noncomputable def b_lines_in : EvS := (evSeq (evSet 1 (evM "str" (mSplit false) (evVar 0) (evCons (evC (.str "\n")) evNil))) (evSeq (evIfS (evT (ev2 dNe' (ev2 dIx (evVar 1) (ev1 dNeg (evC (.int 1)))) (evC (.str "")))) (evRaise "NoText") evNext) (evRet (evLc false [2] (evIter (evSl false (evVar 1) evNoP (evP (ev1 dNeg (evC (.int 1)))))) (evgName 2) evYes (evM "str" (mSplit false) (evVar 2) (evCons (evC (.str " ")) evNil))))))
noncomputable def f_lines_in : List D → Store → R D := runF false 3 b_lines_in
theorem u_lines_in {S : Store} {a0 : D} : f_lines_in [a0] S = gc false S (b_lines_in [some a0, none, none] S) := rfl
noncomputable def b_are_rising : EvS := (evRet (evN dAll (evCons (evLc false [1, 2] (evZip (evCons (evVar 0) (evCons (evSl false (evVar 0) (evP (evC (.int 1))) evNoP) evNil))) (evgTup 2 (evgCons (evgName 1) (evgCons (evgName 2) evgNil))) evYes (ev2 (dOrd fun p q => PySem.W.dataLt p q) (evVar 1) (evVar 2))) evNil)))
noncomputable def f_are_rising : List D → Store → R D := runF false 3 b_are_rising
theorem u_are_rising {S : Store} {a0 : D} : f_are_rising [a0] S = gc false S (b_are_rising [some a0, none, none] S) := rfl
noncomputable def b_is_name : EvS := (evSeq (evIfS (evOr (evNot (evT (evIsi "str" (evVar 0)))) (evNot (evT (evChain (dOrd fun p q => !PySem.W.dataLt q p) (dOrd fun p q => !PySem.W.dataLt q p) (evC (.int 1)) (evN dLen (evCons (evVar 0) evNil)) (evC (.int 8)))))) (evRet (evC (.bl false))) evNext) (evRet (evN dAll (evCons (evLc false [1] (evIter (evVar 0)) (evgName 1) evYes (ev2 (dIn false) (evVar 1) (evC (.str "abcdefghijklmnopqrstuvwxyz")))) evNil))))
noncomputable def f_is_name : List D → Store → R D := runF false 2 b_is_name
theorem u_is_name {S : Store} {a0 : D} : f_is_name [a0] S = gc false S (b_is_name [some a0, none] S) := rfl
noncomputable def b_are_names : EvS := (evRet (evAndV (evIsi "tuple" (evVar 0)) (evAndV (evN dAll (evCons (evLc false [1] (evIter (evVar 0)) (evgName 1) evYes (evCall 1 f_is_name (evCons (evVar 1) evNil))) evNil)) (evCall 1 f_are_rising (evCons (evVar 0) evNil)))))
noncomputable def f_are_names : List D → Store → R D := runF false 2 b_are_names
theorem u_are_names {S : Store} {a0 : D} : f_are_names [a0] S = gc false S (b_are_names [some a0, none] S) := rfl
noncomputable def b_is_tie : EvS := (evSeq (evIfS (evOr (evNot (evT (evIsi "tuple" (evVar 1)))) (evOr (evT (ev2 dNe' (evN dLen (evCons (evVar 1) evNil)) (evC (.int 3)))) (evNot (evT (evN dAll (evCons (evLc false [2] (evIter (evVar 1)) (evgName 2) evYes (evCall 1 f_is_name (evCons (evVar 2) evNil))) evNil)))))) (evRet (evC (.bl false))) evNext) (evRet (evAndV (ev2 (dIn false) (ev2 dIx (evVar 1) (evC (.int 1))) (evVar 0)) (evAndV (ev2 (dIn false) (ev2 dIx (evVar 1) (evC (.int 2))) (evVar 0)) (ev2 dNe' (ev2 dIx (evVar 1) (evC (.int 1))) (ev2 dIx (evVar 1) (evC (.int 2))))))))
noncomputable def f_is_tie : List D → Store → R D := runF false 3 b_is_tie
theorem u_is_tie {S : Store} {a0 a1 : D} : f_is_tie [a0, a1] S = gc false S (b_is_tie [some a0, some a1, none] S) := rfl
noncomputable def b_is_web : EvS := (evSeq (evIfS (evOr (evNot (evT (evIsi "tuple" (evVar 0)))) (evOr (evT (ev2 dNe' (evN dLen (evCons (evVar 0) evNil)) (evC (.int 2)))) (evOr (evNot (evT (evCall 1 f_are_names (evCons (ev2 dIx (evVar 0) (evC (.int 0))) evNil)))) (evT (ev2 dEq' (ev2 dIx (evVar 0) (evC (.int 0))) (evTup evNil)))))) (evRet (evC (.bl false))) evNext) (evSeq (evAsg (evVar 0) (evgTup 2 (evgCons (evgName 1) (evgCons (evgName 2) evgNil)))) (evSeq (evIfS (evOr (evNot (evT (evIsi "tuple" (evVar 2)))) (evNot (evT (evN dAll (evCons (evLc false [3] (evIter (evVar 2)) (evgName 3) evYes (evCall 2 f_is_tie (evCons (evVar 1) (evCons (evVar 3) evNil)))) evNil))))) (evRet (evC (.bl false))) evNext) (evRet (evCall 1 f_are_rising (evCons (evLc false [3] (evIter (evVar 2)) (evgName 3) evYes (ev2 dIx (evVar 3) (evC (.int 0)))) evNil))))))
noncomputable def f_is_web : List D → Store → R D := runF false 4 b_is_web
theorem u_is_web {S : Store} {a0 : D} : f_is_web [a0] S = gc false S (b_is_web [some a0, none, none, none] S) := rfl
noncomputable def b_read_web : EvS := (evSeq (evIfS (evNot (evT (evIsi "str" (evVar 0)))) (evRaise "NoText") evNext) (evSeq (evSet 1 (evCall 1 f_lines_in (evCons (evVar 0) evNil))) (evSeq (evIfS (evOr (evT (ev2 dEq' (evVar 1) (evLst false evNil))) (evOr (evT (ev2 dNe' (ev2 dIx (ev2 dIx (evVar 1) (evC (.int 0))) (evC (.int 0))) (evC (.str "places")))) (evT (evN dAny (evCons (evLc false [2] (evIter (evSl false (evVar 1) (evP (evC (.int 1))) evNoP)) (evgName 2) evYes (ev2 dNe' (ev2 dIx (evVar 2) (evC (.int 0))) (evC (.str "tie")))) evNil))))) (evRaise "NoText") evNext) (evSeq (evSet 3 (evTup (evCons (evN dTuple (evCons (evSl false (ev2 dIx (evVar 1) (evC (.int 0))) (evP (evC (.int 1))) evNoP) evNil)) (evCons (evN dTuple (evCons (evLc false [2] (evIter (evSl false (evVar 1) (evP (evC (.int 1))) evNoP)) (evgName 2) evYes (evN dTuple (evCons (evSl false (evVar 2) (evP (evC (.int 1))) evNoP) evNil))) evNil)) evNil)))) (evSeq (evIfS (evNot (evT (evCall 1 f_is_web (evCons (evVar 3) evNil)))) (evRaise "NoText") evNext) (evRet (evVar 3)))))))
noncomputable def f_read_web : List D → Store → R D := runF false 4 b_read_web
theorem u_read_web {S : Store} {a0 : D} : f_read_web [a0] S = gc false S (b_read_web [some a0, none, none, none] S) := rfl
noncomputable def b_read_trees : EvS := (evSeq (evIfS (evNot (evT (evIsi "str" (evVar 0)))) (evRaise "NoText") evNext) (evSeq (evSet 1 (evCall 1 f_lines_in (evCons (evVar 0) evNil))) (evSeq (evSet 2 (evLc false [3] (evIter (evVar 1)) (evgName 3) evYes (evN dTuple (evCons (evSl false (evVar 3) (evP (evC (.int 1))) evNoP) evNil)))) (evSeq (evIfS (evOr (evT (evN dAny (evCons (evLc false [3] (evIter (evVar 1)) (evgName 3) evYes (ev2 dNe' (ev2 dIx (evVar 3) (evC (.int 0))) (evC (.str "tree")))) evNil))) (evNot (evT (evN dAll (evCons (evLc false [4] (evIter (evVar 2)) (evgName 4) evYes (evCall 1 f_are_names (evCons (evVar 4) evNil))) evNil))))) (evRaise "NoText") evNext) (evRet (evVar 2))))))
noncomputable def f_read_trees : List D → Store → R D := runF false 5 b_read_trees
theorem u_read_trees {S : Store} {a0 : D} : f_read_trees [a0] S = gc false S (b_read_trees [some a0, none, none, none, none] S) := rfl
noncomputable def b_law_is_other : EvS := (evSeq (evSet 1 (evLst false (evCons (evIsE rsX "NoCosts" (evVar 0)) (evCons (evIsE rsX "NoLot" (evVar 0)) (evCons (evIsE rsX "NoNumber" (evVar 0)) (evCons (evIsE rsX "NoPlace" (evVar 0)) evNil)))))) (evSeq (evSet 1 (ev2 (dAdd' false) (evVar 1) (evLst false (evCons (evIsE rsX "NoRoots" (evVar 0)) (evCons (evIsE rsX "NoTie" (evVar 0)) (evCons (evIsE rsX "NoTree" (evVar 0)) (evCons (evIsE rsX "NoWeb" (evVar 0)) evNil))))))) (evRet (evN dAny (evCons (ev2 (dAdd' false) (evVar 1) (evLst false (evCons (evIsE rsX "TooFew" (evVar 0)) (evCons (evIsE rsX "TooMany" (evVar 0)) evNil)))) evNil)))))
noncomputable def f_law_is_other : List D → Store → R D := runF false 2 b_law_is_other
theorem u_law_is_other {S : Store} {a0 : D} : f_law_is_other [a0] S = gc false S (b_law_is_other [some a0, none] S) := rfl
noncomputable def b_law_told : EvS := (evSeq (evSet 2 (evC .non)) (evSeq (evTryAs rsX "RootError" 3 (evSet 2 (evTup (evCons (evC (.str "told")) (evCons (evIf (evT (evVar 1)) (evCall 1 f_read_web (evCons (evVar 0) evNil)) (evCall 1 f_read_trees (evCons (evVar 0) evNil))) evNil)))) (evSet 2 (evTup (evCons (evC (.str "refused")) (evCons (evAndV (evIsE rsX "NoText" (evVar 3)) (evAndV (evIsE rsX "ValueError" (evVar 3)) (evNotV (evCall 1 f_law_is_other (evCons (evVar 3) evNil))))) evNil))))) (evRet (evVar 2))))
noncomputable def f_law_told : List D → Store → R D := runF false 4 b_law_told
theorem u_law_told {S : Store} {a0 a1 : D} : f_law_told [a0, a1] S = gc false S (b_law_told [some a0, some a1, none, none] S) := rfl
noncomputable def b_law_names : EvS := (evSeq (evIfS (evNot (evT (evN dAll (evCons (evLc false [1] (evIter (evVar 0)) (evgName 1) evYes (evAndV (evChain (dOrd fun p q => !PySem.W.dataLt q p) (dOrd fun p q => !PySem.W.dataLt q p) (evC (.int 1)) (evN dLen (evCons (evVar 1) evNil)) (evC (.int 8))) (ev2 dEq' (evM "str" mStrip (evVar 1) (evCons (evC (.str "abcdefghijklmnopqrstuvwxyz")) evNil)) (evC (.str ""))))) evNil)))) (evRet (evC .non)) evNext) (evRet (evVar 0)))
noncomputable def f_law_names : List D → Store → R D := runF false 2 b_law_names
theorem u_law_names {S : Store} {a0 : D} : f_law_names [a0] S = gc false S (b_law_names [some a0, none] S) := rfl
noncomputable def b_law_rows : EvS := (evSeq (evIfS (evOr (evNot (evT (evIsi "str" (evVar 0)))) (evAnd (evT (ev2 dNe' (evVar 0) (evC (.str "")))) (evT (ev2 dNe' (ev2 dIx (evVar 0) (ev1 dNeg (evC (.int 1)))) (evC (.str "\n")))))) (evRet (evC .non)) evNext) (evSeq (evSet 2 (evLst true evNil)) (evSeq (evFor (evIter (evSl false (evM "str" (mSplit false) (evVar 0) (evCons (evC (.str "\n")) evNil)) evNoP (evP (ev1 dNeg (evC (.int 1)))))) (evgName 3) (evSeq (evSet 4 (evM "str" (mSplit false) (evVar 3) (evCons (evC (.str " ")) evNil))) (evSeq (evIfS (evOr (evT (ev2 (dIs false) (evCall 1 f_law_names (evCons (evVar 4) evNil)) (evC .non))) (evAnd (evT (ev2 dNe' (ev2 dIx (evVar 4) (evC (.int 0))) (evIf (evT (ev2 dEq' (evVar 2) (evLst false evNil))) (evVar 1) (evC (.str "tie"))))) (evT (ev2 dNe' (evVar 1) (evC (.str "tree")))))) (evRet (evC .non)) evNext) (evSeq (evIfS (evAnd (evT (ev2 dEq' (evVar 1) (evC (.str "tree")))) (evOr (evT (ev2 dNe' (ev2 dIx (evVar 4) (evC (.int 0))) (evVar 1))) (evT (ev2 dNe' (evSl false (evVar 4) (evP (evC (.int 1))) evNoP) (ev1 (dSortSet false) (evSl false (evVar 4) (evP (evC (.int 1))) evNoP)))))) (evRet (evC .non)) evNext) (evDrop (evM "list" mAppend (evVar 2) (evCons (evN dTuple (evCons (evSl false (evVar 4) (evP (evC (.int 1))) evNoP) evNil)) evNil))))))) (evRet (evVar 2)))))
noncomputable def f_law_rows : List D → Store → R D := runF false 5 b_law_rows
theorem u_law_rows {S : Store} {a0 a1 : D} : f_law_rows [a0, a1] S = gc false S (b_law_rows [some a0, some a1, none, none, none] S) := rfl
noncomputable def b_law_web_of : EvS := (evSeq (evSet 1 (evCall 2 f_law_rows (evCons (evVar 0) (evCons (evC (.str "places")) evNil)))) (evSeq (evIfS (evOr (evT (ev2 (dIs false) (evVar 1) (evC .non))) (evOr (evT (ev2 dEq' (evVar 1) (evLst false evNil))) (evOr (evT (ev2 dEq' (ev2 dIx (evVar 1) (evC (.int 0))) (evTup evNil))) (evT (ev2 dNe' (evN (dList false) (evCons (ev2 dIx (evVar 1) (evC (.int 0))) evNil)) (ev1 (dSortSet false) (ev2 dIx (evVar 1) (evC (.int 0))))))))) (evRet (evC .non)) evNext) (evSeq (evSet 2 (evLc false [3] (evIter (evSl false (evVar 1) (evP (evC (.int 1))) evNoP)) (evgName 3) (evAnd (evT (ev2 dEq' (evN dLen (evCons (evVar 3) evNil)) (evC (.int 3)))) (evAnd (evT (ev2 dNe' (ev2 dIx (evVar 3) (evC (.int 1))) (ev2 dIx (evVar 3) (evC (.int 2))))) (evAnd (evT (ev2 (dIn false) (ev2 dIx (evVar 3) (evC (.int 1))) (ev2 dIx (evVar 1) (evC (.int 0))))) (evT (ev2 (dIn false) (ev2 dIx (evVar 3) (evC (.int 2))) (ev2 dIx (evVar 1) (evC (.int 0)))))))) (evVar 3))) (evSeq (evSet 4 (evLc false [3] (evIter (evVar 2)) (evgName 3) evYes (ev2 dIx (evVar 3) (evC (.int 0))))) (evSeq (evIfS (evOr (evT (ev2 (dOrd fun p q => PySem.W.dataLt p q) (evN dLen (evCons (evVar 2) evNil)) (ev2 dSub (evN dLen (evCons (evVar 1) evNil)) (evC (.int 1))))) (evT (ev2 dNe' (evVar 4) (ev1 (dSortSet false) (evVar 4))))) (evRet (evC .non)) evNext) (evRet (evTup (evCons (ev2 dIx (evVar 1) (evC (.int 0))) (evCons (evN dTuple (evCons (evSl false (evVar 1) (evP (evC (.int 1))) evNoP) evNil)) evNil)))))))))
noncomputable def f_law_web_of : List D → Store → R D := runF false 5 b_law_web_of
theorem u_law_web_of {S : Store} {a0 : D} : f_law_web_of [a0] S = gc false S (b_law_web_of [some a0, none, none, none, none] S) := rfl
noncomputable def b_law_agrees : EvS := (evSeq (evFor (evIter (evTup (evCons (evC (.bl true)) (evCons (evC (.bl false)) evNil)))) (evgName 1) (evSeq (evSet 2 (evIf (evT (evVar 1)) (evCall 1 f_law_web_of (evCons (evVar 0) evNil)) (evCall 2 f_law_rows (evCons (evVar 0) (evCons (evC (.str "tree")) evNil))))) (evSeq (evSet 3 (evCall 2 f_law_told (evCons (evVar 0) (evCons (evVar 1) evNil)))) (evIfS (evOr (evAnd (evT (ev2 (dIs false) (evVar 2) (evC .non))) (evT (ev2 dNe' (evVar 3) (evTup (evCons (evC (.str "refused")) (evCons (evC (.bl true)) evNil)))))) (evAnd (evT (ev2 (dIs true) (evVar 2) (evC .non))) (evT (ev2 dNe' (evVar 3) (evTup (evCons (evC (.str "told")) (evCons (evVar 2) evNil))))))) (evRet (evC (.bl false))) evNext)))) (evRet (evC (.bl true))))
noncomputable def f_law_agrees : List D → Store → R D := runF false 4 b_law_agrees
theorem u_law_agrees {S : Store} {a0 : D} : f_law_agrees [a0] S = gc false S (b_law_agrees [some a0, none, none, none] S) := rfl
noncomputable def b_law_sign_spoilt : EvS := (evSeq (evSet 2 (evCall 2 f_law_take (evCons (evVar 0) (evCons (ev2 (dAdd' false) (evN dLen (evCons (evVar 1) evNil)) (evC (.int 1))) evNil)))) (evSeq (evSet 3 (evC (.str " !\"#$&'()*+,-./0123456789:;<=>?@ABCDEFGHIJKLMNOPQRSTUVWXYZ[\\]^_`"))) (evSeq (evSet 3 (ev2 (dAdd' false) (evVar 3) (evC (.str "abcdefghijklmnopqrstuvwxyz{|}~  \n\n")))) (evSeq (evSet 4 (ev2 dIx (evVar 3) (evCall 2 f_law_take (evCons (evVar 0) (evCons (evN dLen (evCons (evVar 3) evNil)) evNil))))) (evSeq (evSet 5 (evLst false (evCons (ev2 (dAdd' false) (ev2 (dAdd' false) (evSl false (evVar 1) evNoP (evP (evVar 2))) (evVar 4)) (evSl false (evVar 1) (evP (evVar 2)) evNoP)) (evCons (ev2 (dAdd' false) (evSl false (evVar 1) evNoP (evP (evVar 2))) (evSl false (evVar 1) (evP (ev2 (dAdd' false) (evVar 2) (evC (.int 1)))) evNoP)) (evCons (ev2 (dAdd' false) (ev2 (dAdd' false) (evSl false (evVar 1) evNoP (evP (evVar 2))) (evVar 4)) (evSl false (evVar 1) (evP (ev2 (dAdd' false) (evVar 2) (evC (.int 1)))) evNoP)) evNil))))) (evRet (ev2 dIx (evVar 5) (evCall 2 f_law_take (evCons (evVar 0) (evCons (evC (.int 3)) evNil))))))))))
noncomputable def f_law_sign_spoilt : List D → Store → R D := runF false 6 b_law_sign_spoilt
theorem u_law_sign_spoilt {S : Store} {a0 a1 : D} : f_law_sign_spoilt [a0, a1] S = gc false S (b_law_sign_spoilt [some a0, some a1, none, none, none, none] S) := rfl
noncomputable def b_law_lines_spoilt : EvS := (evSeq (evSet 2 (evM "str" (mSplit false) (evVar 1) (evCons (evC (.str "\n")) evNil))) (evSeq (evSet 3 (evCall 2 f_law_take (evCons (evVar 0) (evCons (evN dLen (evCons (evVar 2) evNil)) evNil)))) (evSeq (evSet 4 (evM "str" (mSplit false) (ev2 dIx (evVar 2) (evVar 3)) (evCons (evC (.str " ")) evNil))) (evSeq (evSet 5 (evCall 2 f_law_take (evCons (evVar 0) (evCons (evN dLen (evCons (evVar 4) evNil)) evNil)))) (evSeq (evSet 6 (evCall 2 f_law_take (evCons (evVar 0) (evCons (evN dLen (evCons (evVar 4) evNil)) evNil)))) (evSeq (evSet 7 (evN (dList true) (evCons (evVar 4) evNil))) (evSeq (evAsg (evTup (evCons (ev2 dIx (evVar 4) (evVar 6)) (evCons (ev2 dIx (evVar 4) (evVar 5)) evNil))) (evgTup 2 (evgCons (evgIx (evVar 7) (evVar 5)) (evgCons (evgIx (evVar 7) (evVar 6)) evgNil)))) (evSeq (evSet 8 (evLst true (evCons (ev2 (dAdd' false) (evSl false (evVar 2) evNoP (evP (evVar 3))) (evSl false (evVar 2) (evP (ev2 (dAdd' false) (evVar 3) (evC (.int 1)))) evNoP)) (evCons (ev2 (dAdd' false) (evSl false (evVar 2) evNoP (evP (ev2 (dAdd' false) (evVar 3) (evC (.int 1))))) (evSl false (evVar 2) (evP (evVar 3)) evNoP)) (evCons (ev2 (dAdd' false) (evSl false (evVar 2) (evP (evVar 3)) evNoP) (evSl false (evVar 2) evNoP (evP (evVar 3)))) evNil))))) (evSeq (evFor (evIter (evTup (evCons (ev2 (dAdd' false) (evSl false (evVar 4) evNoP (evP (ev2 (dAdd' false) (evVar 5) (evC (.int 1))))) (evSl false (evVar 4) (evP (evVar 5)) evNoP)) (evCons (ev2 (dAdd' false) (evSl false (evVar 4) evNoP (evP (evVar 5))) (evSl false (evVar 4) (evP (ev2 (dAdd' false) (evVar 5) (evC (.int 1)))) evNoP)) (evCons (evVar 7) evNil))))) (evgName 9) (evDrop (evM "list" mAppend (evVar 8) (evCons (ev2 (dAdd' false) (ev2 (dAdd' false) (evSl false (evVar 2) evNoP (evP (evVar 3))) (evLst false (evCons (evM "str" mJoin (evC (.str " ")) (evCons (evVar 9) evNil)) evNil))) (evSl false (evVar 2) (evP (ev2 (dAdd' false) (evVar 3) (evC (.int 1)))) evNoP)) evNil)))) (evRet (evM "str" mJoin (evC (.str "\n")) (evCons (ev2 dIx (evVar 8) (evCall 2 f_law_take (evCons (evVar 0) (evCons (evN dLen (evCons (evVar 8) evNil)) evNil)))) evNil))))))))))))
noncomputable def f_law_lines_spoilt : List D → Store → R D := runF false 10 b_law_lines_spoilt
theorem u_law_lines_spoilt {S : Store} {a0 a1 : D} : f_law_lines_spoilt [a0, a1] S = gc false S (b_law_lines_spoilt [some a0, some a1, none, none, none, none, none, none, none, none] S) := rfl
noncomputable def b_law_spoilt : EvS := (evSeq (evFor (evRange (evCons (ev2 (dAdd' false) (evC (.int 1)) (evCall 2 f_law_take (evCons (evVar 0) (evCons (evC (.int 3)) evNil)))) evNil)) (evgName 2) (evIfS (evT (ev2 dEq' (evCall 2 f_law_take (evCons (evVar 0) (evCons (evC (.int 2)) evNil))) (evC (.int 0)))) (evSet 1 (evCall 2 f_law_sign_spoilt (evCons (evVar 0) (evCons (evVar 1) evNil)))) (evSet 1 (evCall 2 f_law_lines_spoilt (evCons (evVar 0) (evCons (evVar 1) evNil)))))) (evRet (evVar 1)))
noncomputable def f_law_spoilt : List D → Store → R D := runF false 3 b_law_spoilt
theorem u_law_spoilt {S : Store} {a0 a1 : D} : f_law_spoilt [a0, a1] S = gc false S (b_law_spoilt [some a0, some a1, none] S) := rfl
noncomputable def b_law : EvS := (evSeq (evSet 1 (evLst false (evCons (evC .non) (evCons (evC (.int 0)) (evCons (evC (.bl true)) (evCons (evLst false evNil) (evCons (evTup evNil) (evCons (evDct false) (evCons (evLst false (evCons (evC (.str "tree")) evNil)) (evCons (evTup (evCons (evC (.str "places a")) evNil)) (evCons (evC (.str "")) (evCons (evC (.str "\n")) (evCons (evC (.str " ")) (evCons (evC (.str "tree")) (evCons (evC (.str "tree\n")) (evCons (evC (.str "tree \n")) (evCons (evC (.str "places\n")) evNil))))))))))))))))) (evSeq (evSet 1 (ev2 (dAdd' false) (evVar 1) (evLst false (evCons (evC (.str "places a\n")) (evCons (evC (.str "places a")) (evCons (evC (.str "places  a\n")) (evCons (evC (.str "places a \n")) (evCons (evC (.str "places a\n\n")) (evCons (evC (.str "\nplaces a\n")) evNil))))))))) (evSeq (evSet 1 (ev2 (dAdd' false) (evVar 1) (evLst false (evCons (evC (.str "tie t a b\n")) (evCons (evC (.str "places a b\ntie t a b\n")) (evCons (evC (.str "places a b\ntie t a a\n")) (evCons (evC (.str "places b a\n")) (evCons (evC (.str "places a a\n")) evNil)))))))) (evSeq (evSet 1 (ev2 (dAdd' false) (evVar 1) (evLst false (evCons (evC (.str "tree a\ntree\n")) (evCons (evC (.str "tree b a\n")) (evCons (evC (.str "tree a a\n")) evNil)))))) (evSeq (evFor (evRange (evCons (evN dMax (evCons (evC (.int 1)) (evCons (evN dMin (evCons (evN dLen (evCons (evVar 0) evNil)) (evCons (evC (.int 8)) evNil))) evNil))) evNil)) (evgName 2) (evSeq (evSet 3 (evCall 2 f_law_pot (evCons (evVar 0) (evCons (evVar 2) evNil)))) (evSeq (evAsg (evCall 3 f_law_web (evCons (evVar 3) (evCons (evC (.int 5)) (evCons (evC (.int 16)) evNil)))) (evgTup 3 (evgCons (evgName 4) (evgCons (evgName 5) (evgCons (evgName 6) evgNil))))) (evSeq (evSet 7 (evLst false (evCons (evCall 1 f_law_web_text (evCons (evVar 4) evNil)) (evCons (evCall 1 f_law_trees_text (evCons (evVar 6) evNil)) evNil)))) (evSeq (evFor (evRange (evCons (evC (.int 5)) evNil)) (evgName 8) (evIfS (evNot (evT (evCall 1 f_law_agrees (evCons (evCall 2 f_law_spoilt (evCons (evVar 3) (evCons (ev2 dIx (evVar 7) (evCall 2 f_law_take (evCons (evVar 3) (evCons (evC (.int 2)) evNil)))) evNil))) evNil)))) (evRet (evC (.bl false))) evNext)) (evIfS (evOr (evNot (evT (evCall 1 f_law_agrees (evCons (ev2 dIx (evVar 7) (evC (.int 0))) evNil)))) (evOr (evNot (evT (evCall 1 f_law_agrees (evCons (ev2 dIx (evVar 7) (evC (.int 1))) evNil)))) (evNot (evT (evCall 1 f_law_agrees (evCons (ev2 dIx (evVar 1) (evCall 2 f_law_take (evCons (evVar 3) (evCons (evN dLen (evCons (evVar 1) evNil)) evNil)))) evNil)))))) (evRet (evC (.bl false))) evNext)))))) (evRet (evC (.bl true))))))))
noncomputable def f_law : List D → Store → R D := runF false 9 b_law
theorem u_law {S : Store} {a0 : D} : f_law [a0] S = gc false S (b_law [some a0, none, none, none, none, none, none, none, none] S) := rfl
/-! ### what stands behind the top -/
structure Gs (K : PySem.W.Frag) (mg : Str → Option Value) where
  n_ValueError : mg "ValueError" = none
  n_all : mg "all" = none
  n_any : mg "any" = none
  n_int : mg "int" = none
  n_isinstance : mg "isinstance" = none
  n_len : mg "len" = none
  n_list : mg "list" = none
  n_max : mg "max" = none
  n_min : mg "min" = none
  n_range : mg "range" = none
  n_set : mg "set" = none
  n_sorted : mg "sorted" = none
  n_str : mg "str" = none
  n_tuple : mg "tuple" = none
  n_zip : mg "zip" = none
  t_LETTERS : Nat
  c_LETTERS : mg "LETTERS" = some (.str "abcdefghijklmnopqrstuvwxyz" t_LETTERS)
  t_MOST_LETTERS : Nat
  c_MOST_LETTERS : mg "MOST_LETTERS" = some (.int 8 t_MOST_LETTERS)
  t_PLACES : Nat
  c_PLACES : mg "PLACES" = some (.str "places" t_PLACES)
  t_TIE : Nat
  c_TIE : mg "TIE" = some (.str "tie" t_TIE)
  t_TREE : Nat
  c_TREE : mg "TREE" = some (.str "tree" t_TREE)
  x_NoText : Addr
  X_NoText : ExcN K mg "NoText" x_NoText
  x_RootError : Addr
  X_RootError : ExcN K mg "RootError" x_RootError
  x_NoCosts : Addr
  X_NoCosts : ExcN K mg "NoCosts" x_NoCosts
  x_NoLot : Addr
  X_NoLot : ExcN K mg "NoLot" x_NoLot
  x_NoNumber : Addr
  X_NoNumber : ExcN K mg "NoNumber" x_NoNumber
  x_NoPlace : Addr
  X_NoPlace : ExcN K mg "NoPlace" x_NoPlace
  x_NoRoots : Addr
  X_NoRoots : ExcN K mg "NoRoots" x_NoRoots
  x_NoTie : Addr
  X_NoTie : ExcN K mg "NoTie" x_NoTie
  x_NoTree : Addr
  X_NoTree : ExcN K mg "NoTree" x_NoTree
  x_NoWeb : Addr
  X_NoWeb : ExcN K mg "NoWeb" x_NoWeb
  x_TooFew : Addr
  X_TooFew : ExcN K mg "TooFew" x_TooFew
  x_TooMany : Addr
  X_TooMany : ExcN K mg "TooMany" x_TooMany
  q_NoText : PySem.W.excIn K x_NoText PySem.HandSPX.veTail "ValueError.__new__" = true
  askC : AskC K rsX
  u_RootError : Under K rsX "RootError" (.ref x_RootError)
  k_NoCosts : AskT K rsX "NoCosts" (.ref x_NoCosts)
  k_NoLot : AskT K rsX "NoLot" (.ref x_NoLot)
  k_NoNumber : AskT K rsX "NoNumber" (.ref x_NoNumber)
  k_NoPlace : AskT K rsX "NoPlace" (.ref x_NoPlace)
  k_NoRoots : AskT K rsX "NoRoots" (.ref x_NoRoots)
  k_NoTie : AskT K rsX "NoTie" (.ref x_NoTie)
  k_NoTree : AskT K rsX "NoTree" (.ref x_NoTree)
  k_NoWeb : AskT K rsX "NoWeb" (.ref x_NoWeb)
  k_TooFew : AskT K rsX "TooFew" (.ref x_TooFew)
  k_TooMany : AskT K rsX "TooMany" (.ref x_TooMany)
  k_NoText : AskT K rsX "NoText" (.ref x_NoText)
  k_ValueError : AskT K rsX "ValueError" (.type "ValueError")
  a_law_at : Addr
  d_law_at : FuncData
  F_law_at : Fun K "_law_at" "_law_at" s_law_at a_law_at d_law_at
  g_law_at : mg "_law_at" = some (.ref a_law_at)
  b_law_at : Binds K d_law_at ["_law_script", "_law_k"] []
  a_law_pot : Addr
  d_law_pot : FuncData
  F_law_pot : Fun K "_law_pot" "_law_pot" s_law_pot a_law_pot d_law_pot
  g_law_pot : mg "_law_pot" = some (.ref a_law_pot)
  b_law_pot : Binds K d_law_pot ["_law_script", "_law_k"] []
  a_law_take : Addr
  d_law_take : FuncData
  F_law_take : Fun K "_law_take" "_law_take" s_law_take a_law_take d_law_take
  g_law_take : mg "_law_take" = some (.ref a_law_take)
  b_law_take : Binds K d_law_take ["_law_pot_here", "_law_many"] []
  a_law_name : Addr
  d_law_name : FuncData
  F_law_name : Fun K "_law_name" "_law_name" s_law_name a_law_name d_law_name
  g_law_name : mg "_law_name" = some (.ref a_law_name)
  b_law_name : Binds K d_law_name ["_law_pot_here", "_law_taken"] []
  a_law_places : Addr
  d_law_places : FuncData
  F_law_places : Fun K "_law_places" "_law_places" s_law_places a_law_places d_law_places
  g_law_places : mg "_law_places" = some (.ref a_law_places)
  b_law_places : Binds K d_law_places ["_law_pot_here", "_law_most"] []
  a_law_more : Addr
  d_law_more : FuncData
  F_law_more : Fun K "_law_more" "_law_more" s_law_more a_law_more d_law_more
  g_law_more : mg "_law_more" = some (.ref a_law_more)
  b_law_more : Binds K d_law_more ["_law_pot_here", "_law_places_here", "_law_rows_here", "_law_taken", "_law_many"] []
  a_law_grown : Addr
  d_law_grown : FuncData
  F_law_grown : Fun K "_law_grown" "_law_grown" s_law_grown a_law_grown d_law_grown
  g_law_grown : mg "_law_grown" = some (.ref a_law_grown)
  b_law_grown : Binds K d_law_grown ["_law_pot_here", "_law_places_here", "_law_root", "_law_rows_here", "_law_taken"] []
  a_law_web : Addr
  d_law_web : FuncData
  F_law_web : Fun K "_law_web" "_law_web" s_law_web a_law_web d_law_web
  g_law_web : mg "_law_web" = some (.ref a_law_web)
  b_law_web : Binds K d_law_web ["_law_pot_here", "_law_most_places", "_law_most_more"] []
  a_law_web_text : Addr
  d_law_web_text : FuncData
  F_law_web_text : Fun K "_law_web_text" "_law_web_text" s_law_web_text a_law_web_text d_law_web_text
  g_law_web_text : mg "_law_web_text" = some (.ref a_law_web_text)
  b_law_web_text : Binds K d_law_web_text ["_law_web_here"] []
  a_law_trees_text : Addr
  d_law_trees_text : FuncData
  F_law_trees_text : Fun K "_law_trees_text" "_law_trees_text" s_law_trees_text a_law_trees_text d_law_trees_text
  g_law_trees_text : mg "_law_trees_text" = some (.ref a_law_trees_text)
  b_law_trees_text : Binds K d_law_trees_text ["_law_trees"] []
  a_lines_in : Addr
  d_lines_in : FuncData
  F_lines_in : Fun K "lines_in" "lines_in" s_lines_in a_lines_in d_lines_in
  g_lines_in : mg "lines_in" = some (.ref a_lines_in)
  b_lines_in : Binds K d_lines_in ["text"] []
  a_are_rising : Addr
  d_are_rising : FuncData
  F_are_rising : Fun K "are_rising" "are_rising" s_are_rising a_are_rising d_are_rising
  g_are_rising : mg "are_rising" = some (.ref a_are_rising)
  b_are_rising : Binds K d_are_rising ["names"] []
  a_is_name : Addr
  d_is_name : FuncData
  F_is_name : Fun K "is_name" "is_name" s_is_name a_is_name d_is_name
  g_is_name : mg "is_name" = some (.ref a_is_name)
  b_is_name : Binds K d_is_name ["thing"] []
  a_are_names : Addr
  d_are_names : FuncData
  F_are_names : Fun K "are_names" "are_names" s_are_names a_are_names d_are_names
  g_are_names : mg "are_names" = some (.ref a_are_names)
  b_are_names : Binds K d_are_names ["thing"] []
  a_is_tie : Addr
  d_is_tie : FuncData
  F_is_tie : Fun K "is_tie" "is_tie" s_is_tie a_is_tie d_is_tie
  g_is_tie : mg "is_tie" = some (.ref a_is_tie)
  b_is_tie : Binds K d_is_tie ["places", "thing"] []
  a_is_web : Addr
  d_is_web : FuncData
  F_is_web : Fun K "is_web" "is_web" s_is_web a_is_web d_is_web
  g_is_web : mg "is_web" = some (.ref a_is_web)
  b_is_web : Binds K d_is_web ["thing"] []
  a_read_web : Addr
  d_read_web : FuncData
  F_read_web : Fun K "read_web" "read_web" s_read_web a_read_web d_read_web
  g_read_web : mg "read_web" = some (.ref a_read_web)
  b_read_web : Binds K d_read_web ["text"] []
  a_read_trees : Addr
  d_read_trees : FuncData
  F_read_trees : Fun K "read_trees" "read_trees" s_read_trees a_read_trees d_read_trees
  g_read_trees : mg "read_trees" = some (.ref a_read_trees)
  b_read_trees : Binds K d_read_trees ["text"] []
  a_law_is_other : Addr
  d_law_is_other : FuncData
  F_law_is_other : Fun K "_law_is_other" "_law_is_other" s_law_is_other a_law_is_other d_law_is_other
  g_law_is_other : mg "_law_is_other" = some (.ref a_law_is_other)
  b_law_is_other : Binds K d_law_is_other ["_law_e"] []
  a_law_told : Addr
  d_law_told : FuncData
  F_law_told : Fun K "_law_told" "_law_told" s_law_told a_law_told d_law_told
  g_law_told : mg "_law_told" = some (.ref a_law_told)
  b_law_told : Binds K d_law_told ["_law_thing", "_law_wants_web"] []
  a_law_names : Addr
  d_law_names : FuncData
  F_law_names : Fun K "_law_names" "_law_names" s_law_names a_law_names d_law_names
  g_law_names : mg "_law_names" = some (.ref a_law_names)
  b_law_names : Binds K d_law_names ["_law_words"] []
  a_law_rows : Addr
  d_law_rows : FuncData
  F_law_rows : Fun K "_law_rows" "_law_rows" s_law_rows a_law_rows d_law_rows
  g_law_rows : mg "_law_rows" = some (.ref a_law_rows)
  b_law_rows : Binds K d_law_rows ["_law_thing", "_law_first"] []
  a_law_web_of : Addr
  d_law_web_of : FuncData
  F_law_web_of : Fun K "_law_web_of" "_law_web_of" s_law_web_of a_law_web_of d_law_web_of
  g_law_web_of : mg "_law_web_of" = some (.ref a_law_web_of)
  b_law_web_of : Binds K d_law_web_of ["_law_thing"] []
  a_law_agrees : Addr
  d_law_agrees : FuncData
  F_law_agrees : Fun K "_law_agrees" "_law_agrees" s_law_agrees a_law_agrees d_law_agrees
  g_law_agrees : mg "_law_agrees" = some (.ref a_law_agrees)
  b_law_agrees : Binds K d_law_agrees ["_law_thing"] []
  a_law_sign_spoilt : Addr
  d_law_sign_spoilt : FuncData
  F_law_sign_spoilt : Fun K "_law_sign_spoilt" "_law_sign_spoilt" s_law_sign_spoilt a_law_sign_spoilt d_law_sign_spoilt
  g_law_sign_spoilt : mg "_law_sign_spoilt" = some (.ref a_law_sign_spoilt)
  b_law_sign_spoilt : Binds K d_law_sign_spoilt ["_law_pot_here", "_law_text"] []
  a_law_lines_spoilt : Addr
  d_law_lines_spoilt : FuncData
  F_law_lines_spoilt : Fun K "_law_lines_spoilt" "_law_lines_spoilt" s_law_lines_spoilt a_law_lines_spoilt d_law_lines_spoilt
  g_law_lines_spoilt : mg "_law_lines_spoilt" = some (.ref a_law_lines_spoilt)
  b_law_lines_spoilt : Binds K d_law_lines_spoilt ["_law_pot_here", "_law_text"] []
  a_law_spoilt : Addr
  d_law_spoilt : FuncData
  F_law_spoilt : Fun K "_law_spoilt" "_law_spoilt" s_law_spoilt a_law_spoilt d_law_spoilt
  g_law_spoilt : mg "_law_spoilt" = some (.ref a_law_spoilt)
  b_law_spoilt : Binds K d_law_spoilt ["_law_pot_here", "_law_text"] []
  a_law : Addr
  d_law : FuncData
  F_law : Fun K "law" "law" s_law a_law d_law
  g_law : mg "law" = some (.ref a_law)
  b_law : Binds K d_law ["_law_script"] []

end FL

namespace FL
open PySem PySem.Spec PyProof.Rows L2
section
variable {P : Program} {w : World} {K : PySem.W.Frag} {mg : Str → Option Value} {base : Heap}
theorem ok_law_at (G : Gs K mg) : FnG P w K mg base 1 G.a_law_at G.d_law_at ["_law_script", "_law_k"] f_law_at := by
  have h := okG (P := P) (w := w) (mg := mg) (base := base) (k := 0) (mt := false) G.F_law_at sc_law_at (fun cdv A outer s H E room gd =>
  (fs_cons (fs_if (ft_cmp (oo_lt room.units) k_ord (f_var 1) (f_callB cc_len k_len (by rfl) G.n_len bo_len (fa_cons (f_var 0) fa_nil)) (nomark _))
    (fs_one (fs_ret (f_ix ix_seq k_ix (f_var 0) (f_var 1))))
    fs_nil)
    (fs_one (fs_ret f_int))))
  exact h
theorem ok_law_pot (G : Gs K mg) : FnG P w K mg base 2 G.a_law_pot G.d_law_pot ["_law_script", "_law_k"] f_law_pot := by
  have h := okG (P := P) (w := w) (mg := mg) (base := base) (k := 1) (mt := true) G.F_law_pot sc_law_pot (fun cdv A outer s H E room gd =>
  (fs_cons (fs_set (i := 2) sc_law_pot.nd rfl (by first | exact .inl rfl | exact .inr rfl) (f_call (ok_law_at G) (room.mono (by decide)) gd (by rfl) G.g_law_at G.F_law_at.kp G.b_law_at (L2N.takes_of rfl rfl rfl rfl) (fa_cons (f_var 0) (fa_cons (f_var 1) fa_nil))))
    (fs_one (fs_ret (f_lst (m := true) (fa_cons (f_callB (call_max2 rfl) k_2I (by rfl) G.n_max bo_max (fa_cons f_int (fa_cons (f_bin op_sub k_sub (f_var 2) (f_bin op_pow k_pow f_int f_int)) fa_nil))) (fa_cons (f_bin op_mod k_mod (f_bin oo_add (k_add (m := false)) (f_bin op_mod k_mod (f_var 2) f_int) (f_bin op_mul k_imul f_int (f_bin oo_add (k_add (m := false)) (f_var 1) f_int))) f_int) fa_nil)))))))
  exact h
theorem ok_law_take (G : Gs K mg) : FnG P w K mg base 1 G.a_law_take G.d_law_take ["_law_pot_here", "_law_many"] f_law_take := by
  have h := okG (P := P) (w := w) (mg := mg) (base := base) (k := 0) (mt := false) G.F_law_take sc_law_take (fun cdv A outer s H E room gd =>
  (fs_cons (fs_if (ft_cmp (oo_gt room.units) k_ord (f_ix ix_seq k_ix (f_var 0) f_int) f_int (nomark _))
    (fs_cons (fs_set (i := 2) sc_law_take.nd rfl (by first | exact .inl rfl | exact .inr rfl) (f_bin op_mod k_mod (f_ix ix_seq k_ix (f_var 0) f_int) (f_var 1)))
    (fs_cons (fs_ix (f_bin op_fdiv k_div (f_ix ix_seq k_ix (f_var 0) f_int) (f_var 1)) (f_var 0) f_int)
    (fs_one (fs_ret (f_var 2)))))
    fs_nil)
    (fs_cons (fs_ix (f_bin op_mod k_mod (f_bin oo_add (k_add (m := false)) (f_bin op_mul k_imul (f_ix ix_seq k_ix (f_var 0) f_int) f_int) f_int) f_int) (f_var 0) f_int)
    (fs_one (fs_ret (f_bin op_mod k_mod (f_bin op_fdiv k_div (f_bin op_mod k_mod (f_bin op_mul k_imul (f_ix ix_seq k_ix (f_var 0) f_int) (f_ix ix_seq k_ix (f_var 0) f_int)) f_int) f_int) (f_var 1)))))))
  exact h
theorem ok_law_name (G : Gs K mg) : FnG P w K mg base 2 G.a_law_name G.d_law_name ["_law_pot_here", "_law_taken"] f_law_name := by
  have h := okG (P := P) (w := w) (mg := mg) (base := base) (k := 1) (mt := false) G.F_law_name sc_law_name (fun cdv A outer s H E room gd =>
  (fs_cons (fs_set (i := 2) sc_law_name.nd rfl (by first | exact .inl rfl | exact .inr rfl) f_str)
    (fs_cons (fs_set (i := 3) sc_law_name.nd rfl (by first | exact .inl rfl | exact .inr rfl) (f_bm PySem.F.plainAttrs_str PySem.F.slot_str_join PySem.F.type_str_join mt_join k_join f_str (fa_cons (f_lc (m := false) (own := [("_law_k", 4)]) rfl sc_law_name.nd (fi_range1 (by rfl) G.n_range (fa_cons (f_bin oo_add (k_add (m := false)) f_int (f_bin op_mul k_imul (f_call (ok_law_take G) (room.mono (by decide)) gd (by rfl) G.g_law_take G.F_law_take.kp G.b_law_take (L2N.takes_of rfl rfl rfl rfl) (fa_cons (f_var 0) (fa_cons f_int fa_nil))) (f_call (ok_law_take G) (room.mono (by decide)) gd (by rfl) G.g_law_take G.F_law_take.kp G.b_law_take (L2N.takes_of rfl rfl rfl rfl) (fa_cons (f_var 0) (fa_cons f_int fa_nil))))) fa_nil) len1) (blkOk_by (by kernel_rfl)) (fun _ _ _ _ _ => (pg_name (i := 4) sc_law_name.nd rfl (by first | exact .inl rfl | exact .inr rfl))) g_name (fun _ _ _ _ _ => fts_nil) (fun _ _ _ _ _ => (f_ix ix_seq k_ix (f_var 2) (f_call (ok_law_take G) (room.mono (by decide)) gd (by rfl) G.g_law_take G.F_law_take.kp G.b_law_take take0 (fa_cons (f_var 0) (fa_cons f_int fa_nil)))))) fa_nil)))
    (fs_cons (fs_if (ft_cmp (oo_eq room.units) k_eq (f_call (ok_law_take G) (room.mono (by decide)) gd (by rfl) G.g_law_take G.F_law_take.kp G.b_law_take (L2N.takes_of rfl rfl rfl rfl) (fa_cons (f_var 0) (fa_cons f_int fa_nil))) f_int (nomark _))
    (fs_one (fs_set (i := 3) sc_law_name.nd rfl (by first | exact .inl rfl | exact .inr rfl) (f_ix ix_seq k_ix (f_lst (m := false) (fa_cons f_str (fa_cons f_str (fa_cons f_str (fa_cons f_str (fa_cons f_str fa_nil)))))) (f_call (ok_law_take G) (room.mono (by decide)) gd (by rfl) G.g_law_take G.F_law_take.kp G.b_law_take (L2N.takes_of rfl rfl rfl rfl) (fa_cons (f_var 0) (fa_cons f_int fa_nil))))))
    fs_nil)
    (fs_cons (fs_if (ft_cmp (oo_in room.units) k_in (f_var 3) (f_var 1) (by rfl))
    (fs_cons (fs_setLc (m := false) (own := [("_law_k", 4)]) (j := 5) rfl sc_law_name.nd rfl rfl (by rfl) (fi_range1 (by rfl) G.n_range (fa_cons (f_bin oo_add (k_add (m := false)) (f_callB cc_len k_len (by rfl) G.n_len bo_len (fa_cons (f_var 1) fa_nil)) f_int) fa_nil) len1) (blkOk_by (by kernel_rfl)) (fun _ _ _ _ _ => (pg_name (i := 4) sc_law_name.nd rfl (by first | exact .inl rfl | exact .inr rfl))) g_name (fun _ _ _ _ _ => fts_nil) (fun _ _ _ _ _ => (f_bin oo_add (k_add (m := false)) (f_bin oo_add (k_add (m := false)) (f_sl (m := false) (f_var 3) fo_none (fo_some f_int)) (f_ix ix_seq k_ix (f_var 2) (f_bin op_fdiv k_div (f_var 4) f_int))) (f_ix ix_seq k_ix (f_var 2) (f_bin op_mod k_mod (f_var 4) f_int)))))
    (fs_one (fs_set (i := 3) sc_law_name.nd rfl (by first | exact .inl rfl | exact .inr rfl) (f_ix ix_seq k_ix (f_lc (m := false) (own := [("_law_one", 6)]) rfl sc_law_name.nd (fi_any (f_var 5)) (blkOk_by (by kernel_rfl)) (fun _ _ _ _ _ => (pg_name (i := 6) sc_law_name.nd rfl (by first | exact .inl rfl | exact .inr rfl))) g_name (fun _ _ _ _ _ => (fts_one (ft_cmp (oo_notIn room.units) k_in (f_var 6) (f_var 1) (by rfl)))) (fun _ _ _ _ _ => (f_var 6))) f_int))))
    fs_nil)
    (fs_cons (fs_expr (f_bm PySem.F.plainAttrs_list PySem.F.slot_list_append PySem.F.type_list_append mt_append k_append (f_var 1) (fa_cons (f_var 3) fa_nil)))
    (fs_one (fs_ret (f_var 3)))))))))
  exact h
theorem ok_law_places (G : Gs K mg) : FnG P w K mg base 3 G.a_law_places G.d_law_places ["_law_pot_here", "_law_most"] f_law_places := by
  have h := okG (P := P) (w := w) (mg := mg) (base := base) (k := 2) (mt := false) G.F_law_places sc_law_places (fun cdv A outer s H E room gd =>
  (fs_cons (fs_set (i := 2) sc_law_places.nd rfl (by first | exact .inl rfl | exact .inr rfl) (f_lst (m := true) fa_nil))
    (fs_cons (fs_for (passes_of rfl) rfl (fi_range1 (by rfl) G.n_range (fa_cons (f_bin oo_add (k_add (m := false)) f_int (f_call (ok_law_take G) (room.mono (by decide)) gd (by rfl) G.g_law_take G.F_law_take.kp G.b_law_take (L2N.takes_of rfl rfl rfl rfl) (fa_cons (f_var 0) (fa_cons (f_var 1) fa_nil)))) fa_nil) len1) (pg_name (i := 3) sc_law_places.nd rfl (by first | exact .inl rfl | exact .inr rfl)) g_name
    (fs_one (fs_expr (f_call (ok_law_name G) (room.mono (by decide)) gd (by rfl) G.g_law_name G.F_law_name.kp G.b_law_name (L2N.takes_of rfl rfl rfl rfl) (fa_cons (f_var 0) (fa_cons (f_var 2) fa_nil))))))
    (fs_one (fs_ret (f_callB (cc_sorted room.units) (k_sorted (m := false)) (by rfl) G.n_sorted bo_sorted (fa_cons (f_var 2) fa_nil)))))))
  exact h
theorem ok_law_more (G : Gs K mg) : FnG P w K mg base 3 G.a_law_more G.d_law_more ["_law_pot_here", "_law_places_here", "_law_rows_here", "_law_taken", "_law_many"] f_law_more := by
  have h := okG (P := P) (w := w) (mg := mg) (base := base) (k := 2) (mt := false) G.F_law_more sc_law_more (fun cdv A outer s H E room gd =>
  (fs_one (fs_for (passes_of rfl) rfl (fi_range1 (by rfl) G.n_range (fa_cons (f_bin op_mul k_imul (f_var 4) (f_callT call_int1 k_intc (by rfl) G.n_int bo_int (fa_cons (f_cmp (oo_gt room.units) k_ord (f_callB cc_len k_len (by rfl) G.n_len bo_len (fa_cons (f_var 1) fa_nil)) f_int (nomark _)) fa_nil))) fa_nil) len1) (pg_name (i := 5) sc_law_more.nd rfl (by first | exact .inl rfl | exact .inr rfl)) g_name
    (fs_cons (fs_set (i := 6) sc_law_more.nd rfl (by first | exact .inl rfl | exact .inr rfl) (f_call (ok_law_take G) (room.mono (by decide)) gd (by rfl) G.g_law_take G.F_law_take.kp G.b_law_take (L2N.takes_of rfl rfl rfl rfl) (fa_cons (f_var 0) (fa_cons (f_callB cc_len k_len (by rfl) G.n_len bo_len (fa_cons (f_var 1) fa_nil)) fa_nil))))
    (fs_cons (fs_set (i := 7) sc_law_more.nd rfl (by first | exact .inl rfl | exact .inr rfl) (f_bin op_mod k_mod (f_bin oo_add (k_add (m := false)) (f_bin oo_add (k_add (m := false)) (f_var 6) f_int) (f_call (ok_law_take G) (room.mono (by decide)) gd (by rfl) G.g_law_take G.F_law_take.kp G.b_law_take (L2N.takes_of rfl rfl rfl rfl) (fa_cons (f_var 0) (fa_cons (f_bin op_sub k_sub (f_callB cc_len k_len (by rfl) G.n_len bo_len (fa_cons (f_var 1) fa_nil)) f_int) fa_nil)))) (f_callB cc_len k_len (by rfl) G.n_len bo_len (fa_cons (f_var 1) fa_nil))))
    (fs_one (fs_expr (f_bm PySem.F.plainAttrs_list PySem.F.slot_list_append PySem.F.type_list_append mt_append k_append (f_var 2) (fa_cons (f_tup (fa_cons (f_call (ok_law_name G) (room.mono (by decide)) gd (by rfl) G.g_law_name G.F_law_name.kp G.b_law_name (L2N.takes_of rfl rfl rfl rfl) (fa_cons (f_var 0) (fa_cons (f_var 3) fa_nil))) (fa_cons (f_ix ix_seq k_ix (f_var 1) (f_var 6)) (fa_cons (f_ix ix_seq k_ix (f_var 1) (f_var 7)) fa_nil)))) fa_nil)))))))))
  exact h
theorem ok_law_grown (G : Gs K mg) : FnG P w K mg base 3 G.a_law_grown G.d_law_grown ["_law_pot_here", "_law_places_here", "_law_root", "_law_rows_here", "_law_taken"] f_law_grown := by
  have h := okG (P := P) (w := w) (mg := mg) (base := base) (k := 2) (mt := false) G.F_law_grown sc_law_grown (fun cdv A outer s H E room gd =>
  (fs_cons (fs_set (i := 5) sc_law_grown.nd rfl (by first | exact .inl rfl | exact .inr rfl) (f_lst (m := true) (fa_cons (f_var 2) fa_nil)))
    (fs_cons (fs_setLc (m := true) (own := [("_law_place", 7)]) (j := 6) rfl sc_law_grown.nd rfl rfl (by rfl) (fi_any (f_var 1)) (blkOk_by (by kernel_rfl)) (fun _ _ _ _ _ => (pg_name (i := 7) sc_law_grown.nd rfl (by first | exact .inl rfl | exact .inr rfl))) g_name (fun _ _ _ _ _ => (fts_one (ft_cmp (oo_ne room.units) k_ne (f_var 7) (f_var 2) (nomark _)))) (fun _ _ _ _ _ => (f_var 7)))
    (fs_cons (fs_set (i := 8) sc_law_grown.nd rfl (by first | exact .inl rfl | exact .inr rfl) (f_lst (m := true) fa_nil))
    (fs_cons (fs_while (passes_of rfl) (ft_cmp (oo_ne room.units) k_ne (f_var 6) (f_lst (m := false) fa_nil) (nomark _))
    (fs_cons (fs_set (i := 9) sc_law_grown.nd rfl (by first | exact .inl rfl | exact .inr rfl) (f_bm PySem.F.plainAttrs_list PySem.F.slot_list_pop PySem.F.type_list_pop mt_popAt k_popAt (f_var 6) (fa_cons (f_call (ok_law_take G) (room.mono (by decide)) gd (by rfl) G.g_law_take G.F_law_take.kp G.b_law_take (L2N.takes_of rfl rfl rfl rfl) (fa_cons (f_var 0) (fa_cons (f_callB cc_len k_len (by rfl) G.n_len bo_len (fa_cons (f_var 6) fa_nil)) fa_nil))) fa_nil)))
    (fs_cons (fs_expr (f_bm PySem.F.plainAttrs_list PySem.F.slot_list_append PySem.F.type_list_append mt_append k_append (f_var 3) (fa_cons (f_tup (fa_cons (f_call (ok_law_name G) (room.mono (by decide)) gd (by rfl) G.g_law_name G.F_law_name.kp G.b_law_name (L2N.takes_of rfl rfl rfl rfl) (fa_cons (f_var 0) (fa_cons (f_var 4) fa_nil))) (fa_cons (f_ix ix_seq k_ix (f_var 5) (f_call (ok_law_take G) (room.mono (by decide)) gd (by rfl) G.g_law_take G.F_law_take.kp G.b_law_take (L2N.takes_of rfl rfl rfl rfl) (fa_cons (f_var 0) (fa_cons (f_callB cc_len k_len (by rfl) G.n_len bo_len (fa_cons (f_var 5) fa_nil)) fa_nil)))) (fa_cons (f_var 9) fa_nil)))) fa_nil)))
    (fs_cons (fs_expr (f_bm PySem.F.plainAttrs_list PySem.F.slot_list_append PySem.F.type_list_append mt_append k_append (f_var 8) (fa_cons (f_ix ix_seq k_ix (f_ix ix_seq k_ix (f_var 3) (f_un un_neg k_neg f_int)) f_int) fa_nil)))
    (fs_one (fs_expr (f_bm PySem.F.plainAttrs_list PySem.F.slot_list_append PySem.F.type_list_append mt_append k_append (f_var 5) (fa_cons (f_var 9) fa_nil))))))))
    (fs_one (fs_ret (f_callT call_tuple_of k_tuple (by rfl) G.n_tuple bo_tuple (fa_cons (f_callB (cc_sorted room.units) (k_sorted (m := false)) (by rfl) G.n_sorted bo_sorted (fa_cons (f_var 8) fa_nil)) fa_nil)))))))))
  exact h
theorem ok_law_web (G : Gs K mg) : FnG P w K mg base 4 G.a_law_web G.d_law_web ["_law_pot_here", "_law_most_places", "_law_most_more"] f_law_web := by
  have h := okG (P := P) (w := w) (mg := mg) (base := base) (k := 3) (mt := false) G.F_law_web sc_law_web (fun cdv A outer s H E room gd =>
  (fs_cons (fs_set (i := 3) sc_law_web.nd rfl (by first | exact .inl rfl | exact .inr rfl) (f_call (ok_law_places G) (room.mono (by decide)) gd (by rfl) G.g_law_places G.F_law_places.kp G.b_law_places (L2N.takes_of rfl rfl rfl rfl) (fa_cons (f_var 0) (fa_cons (f_var 1) fa_nil))))
    (fs_cons (fs_set (i := 4) sc_law_web.nd rfl (by first | exact .inl rfl | exact .inr rfl) (f_ix ix_seq k_ix (f_var 3) (f_call (ok_law_take G) (room.mono (by decide)) gd (by rfl) G.g_law_take G.F_law_take.kp G.b_law_take (L2N.takes_of rfl rfl rfl rfl) (fa_cons (f_var 0) (fa_cons (f_callB cc_len k_len (by rfl) G.n_len bo_len (fa_cons (f_var 3) fa_nil)) fa_nil)))))
    (fs_cons (fs_asg (f_tup (fa_cons (f_lst (m := true) fa_nil) (fa_cons (f_lst (m := true) fa_nil) fa_nil))) (pg_tup (n := 2) rfl (pgs_cons (pg_name (i := 5) sc_law_web.nd rfl (by first | exact .inl rfl | exact .inr rfl)) (pgs_cons (pg_name (i := 6) sc_law_web.nd rfl (by first | exact .inl rfl | exact .inr rfl)) pgs_nil))) (g_tup (gs_cons g_name (gs_cons g_name gs_nil))))
    (fs_cons (fs_setLc (m := false) (own := [("_law_k", 8)]) (j := 7) rfl sc_law_web.nd rfl rfl (by rfl) (fi_range1 (by rfl) G.n_range (fa_cons (f_call (ok_law_take G) (room.mono (by decide)) gd (by rfl) G.g_law_take G.F_law_take.kp G.b_law_take (L2N.takes_of rfl rfl rfl rfl) (fa_cons (f_var 0) (fa_cons f_int fa_nil))) fa_nil) len1) (blkOk_by (by kernel_rfl)) (fun _ _ _ _ _ => (pg_name (i := 8) sc_law_web.nd rfl (by first | exact .inl rfl | exact .inr rfl))) g_name (fun _ _ _ _ _ => fts_nil) (fun _ _ _ _ _ => (f_call (ok_law_grown G) (room.mono (by decide)) gd (by rfl) G.g_law_grown G.F_law_grown.kp G.b_law_grown take0 (fa_cons (f_var 0) (fa_cons (f_var 3) (fa_cons (f_var 4) (fa_cons (f_var 5) (fa_cons (f_var 6) fa_nil))))))))
    (fs_cons (fs_set (i := 9) sc_law_web.nd rfl (by first | exact .inl rfl | exact .inr rfl) (f_call (ok_law_take G) (room.mono (by decide)) gd (by rfl) G.g_law_take G.F_law_take.kp G.b_law_take (L2N.takes_of rfl rfl rfl rfl) (fa_cons (f_var 0) (fa_cons (f_bin oo_add (k_add (m := false)) (f_var 2) f_int) fa_nil))))
    (fs_cons (fs_if (ft_cmp (oo_eq room.units) k_eq (f_call (ok_law_take G) (room.mono (by decide)) gd (by rfl) G.g_law_take G.F_law_take.kp G.b_law_take (L2N.takes_of rfl rfl rfl rfl) (fa_cons (f_var 0) (fa_cons f_int fa_nil))) f_int (nomark _))
    (fs_one (fs_set (i := 9) sc_law_web.nd rfl (by first | exact .inl rfl | exact .inr rfl) (f_bin op_sub k_sub f_int (f_callB cc_len k_len (by rfl) G.n_len bo_len (fa_cons (f_var 5) fa_nil)))))
    fs_nil)
    (fs_cons (fs_expr (f_call (ok_law_more G) (room.mono (by decide)) gd (by rfl) G.g_law_more G.F_law_more.kp G.b_law_more (L2N.takes_of rfl rfl rfl rfl) (fa_cons (f_var 0) (fa_cons (f_var 3) (fa_cons (f_var 5) (fa_cons (f_var 6) (fa_cons (f_var 9) fa_nil)))))))
    (fs_one (fs_ret (f_tup (fa_cons (f_tup (fa_cons (f_callT call_tuple_of k_tuple (by rfl) G.n_tuple bo_tuple (fa_cons (f_var 3) fa_nil)) (fa_cons (f_callT call_tuple_of k_tuple (by rfl) G.n_tuple bo_tuple (fa_cons (f_callB (cc_sorted room.units) (k_sorted (m := false)) (by rfl) G.n_sorted bo_sorted (fa_cons (f_var 5) fa_nil)) fa_nil)) fa_nil))) (fa_cons (f_var 4) (fa_cons (f_var 7) fa_nil))))))))))))))
  exact h
theorem ok_law_web_text (G : Gs K mg) : FnG P w K mg base 1 G.a_law_web_text G.d_law_web_text ["_law_web_here"] f_law_web_text := by
  have h := okG (P := P) (w := w) (mg := mg) (base := base) (k := 0) (mt := false) G.F_law_web_text sc_law_web_text (fun cdv A outer s H E room gd =>
  (fs_cons (fs_set (i := 1) sc_law_web_text.nd rfl (by first | exact .inl rfl | exact .inr rfl) (f_lst (m := true) (fa_cons (f_bin oo_add (k_add (m := false)) (f_lst (m := false) (fa_cons f_str fa_nil)) (f_callT call_list_of (k_list (m := false)) (by rfl) G.n_list bo_list (fa_cons (f_ix ix_seq k_ix (f_var 0) f_int) fa_nil))) fa_nil)))
    (fs_cons (fs_for (passes_of rfl) rfl (fi_any (f_ix ix_seq k_ix (f_var 0) f_int)) (pg_name (i := 2) sc_law_web_text.nd rfl (by first | exact .inl rfl | exact .inr rfl)) g_name
    (fs_one (fs_expr (f_bm PySem.F.plainAttrs_list PySem.F.slot_list_append PySem.F.type_list_append mt_append k_append (f_var 1) (fa_cons (f_bin oo_add (k_add (m := false)) (f_lst (m := false) (fa_cons f_str fa_nil)) (f_callT call_list_of (k_list (m := false)) (by rfl) G.n_list bo_list (fa_cons (f_var 2) fa_nil))) fa_nil)))))
    (fs_one (fs_ret (f_bm PySem.F.plainAttrs_str PySem.F.slot_str_join PySem.F.type_str_join mt_join k_join f_str (fa_cons (f_lc (m := false) (own := [("_law_line", 3)]) rfl sc_law_web_text.nd (fi_any (f_var 1)) (blkOk_by (by kernel_rfl)) (fun _ _ _ _ _ => (pg_name (i := 3) sc_law_web_text.nd rfl (by first | exact .inl rfl | exact .inr rfl))) g_name (fun _ _ _ _ _ => fts_nil) (fun _ _ _ _ _ => (f_bin oo_add (k_add (m := false)) (f_bm PySem.F.plainAttrs_str PySem.F.slot_str_join PySem.F.type_str_join mt_join k_join f_str (fa_cons (f_var 3) fa_nil)) f_str))) fa_nil)))))))
  exact h
theorem ok_law_trees_text (G : Gs K mg) : FnG P w K mg base 1 G.a_law_trees_text G.d_law_trees_text ["_law_trees"] f_law_trees_text := by
  have h := okG (P := P) (w := w) (mg := mg) (base := base) (k := 0) (mt := false) G.F_law_trees_text sc_law_trees_text (fun cdv A outer s H E room gd =>
  (fs_cons (fs_set (i := 1) sc_law_trees_text.nd rfl (by first | exact .inl rfl | exact .inr rfl) f_str)
    (fs_cons (fs_for (passes_of rfl) rfl (fi_any (f_var 0)) (pg_name (i := 2) sc_law_trees_text.nd rfl (by first | exact .inl rfl | exact .inr rfl)) g_name
    (fs_cons (fs_set (i := 1) sc_law_trees_text.nd rfl (by first | exact .inl rfl | exact .inr rfl) (f_bin oo_add (k_add (m := false)) (f_var 1) f_str))
    (fs_cons (fs_for (passes_of rfl) rfl (fi_any (f_var 2)) (pg_name (i := 3) sc_law_trees_text.nd rfl (by first | exact .inl rfl | exact .inr rfl)) g_name
    (fs_one (fs_set (i := 1) sc_law_trees_text.nd rfl (by first | exact .inl rfl | exact .inr rfl) (f_bin oo_add (k_add (m := false)) (f_bin oo_add (k_add (m := false)) (f_var 1) f_str) (f_var 3)))))
    (fs_one (fs_set (i := 1) sc_law_trees_text.nd rfl (by first | exact .inl rfl | exact .inr rfl) (f_bin oo_add (k_add (m := false)) (f_var 1) f_str))))))
    (fs_one (fs_ret (f_var 1))))))
  exact h
theorem ok_lines_in (G : Gs K mg) : FnG P w K mg base 3 G.a_lines_in G.d_lines_in ["text"] f_lines_in := by
  have h := okG (P := P) (w := w) (mg := mg) (base := base) (k := 2) (mt := false) G.F_lines_in sc_lines_in (fun cdv A outer s H E room gd =>
  (fs_cons (fs_set (i := 1) sc_lines_in.nd rfl (by first | exact .inl rfl | exact .inr rfl) (f_bm PySem.F.plainAttrs_str PySem.F.slot_str_split PySem.F.type_str_split mt_split (k_split (m := false)) (f_var 0) (fa_cons f_str fa_nil)))
    (fs_cons (fs_if (ft_cmp (oo_ne room.units) k_ne (f_ix ix_seq k_ix (f_var 1) (f_un un_neg k_neg f_int)) f_str (nomark _))
    (fs_one (fs_raise rfl (L2N.takes_of rfl rfl rfl rfl) G.X_NoText G.q_NoText (by rfl)))
    fs_nil)
    (fs_one (fs_ret (f_lc (m := false) (own := [("line", 2)]) rfl sc_lines_in.nd (fi_any (f_sl (m := false) (f_var 1) fo_none (fo_some (f_un un_neg k_neg f_int)))) (blkOk_by (by kernel_rfl)) (fun _ _ _ _ _ => (pg_name (i := 2) sc_lines_in.nd rfl (by first | exact .inl rfl | exact .inr rfl))) g_name (fun _ _ _ _ _ => fts_nil) (fun _ _ _ _ _ => (f_bm PySem.F.plainAttrs_str PySem.F.slot_str_split PySem.F.type_str_split mt_split (k_split (m := false)) (f_var 2) (fa_cons f_str fa_nil)))))))))
  exact h
theorem ok_are_rising (G : Gs K mg) : FnG P w K mg base 1 G.a_are_rising G.d_are_rising ["names"] f_are_rising := by
  have h := okG (P := P) (w := w) (mg := mg) (base := base) (k := 0) (mt := false) G.F_are_rising sc_are_rising (fun cdv A outer s H E room gd =>
  (fs_one (fs_ret (f_callB (cr_all rfl) k_all (by rfl) G.n_all bo_all (fa_cons (f_lc (m := false) (own := [("one", 1), ("other", 2)]) rfl sc_are_rising.nd (fi_zip (by rfl) G.n_zip (fa_cons (f_var 0) (fa_cons (f_sl (m := false) (f_var 0) (fo_some f_int) fo_none) fa_nil))) (blkOk_by (by kernel_rfl)) (fun _ _ _ _ _ => (pg_tup (n := 2) rfl (pgs_cons (pg_name (i := 1) sc_are_rising.nd rfl (by first | exact .inl rfl | exact .inr rfl)) (pgs_cons (pg_name (i := 2) sc_are_rising.nd rfl (by first | exact .inl rfl | exact .inr rfl)) pgs_nil)))) (g_tup (gs_cons g_name (gs_cons g_name gs_nil))) (fun _ _ _ _ _ => fts_nil) (fun _ _ _ _ _ => (f_cmp (oo_lt room.units) k_ord (f_var 1) (f_var 2) (nomark _)))) fa_nil)))))
  exact h
theorem ok_is_name (G : Gs K mg) : FnG P w K mg base 1 G.a_is_name G.d_is_name ["thing"] f_is_name := by
  have h := okG (P := P) (w := w) (mg := mg) (base := base) (k := 0) (mt := false) G.F_is_name sc_is_name (fun cdv A outer s H E room gd =>
  (fs_cons (fs_if (ft_bool (fw_or (ft_not (ft_val (f_isi (T := "str") (by rfl) G.n_isinstance (f_var 0) (by rfl) G.n_str bo_str (by decide)))) (fw_one (ft_not (ft_chain (oo_le room.units) (oo_le room.units) k_ord k_ord f_int (f_callB cc_len k_len (by rfl) G.n_len bo_len (fa_cons (f_var 0) fa_nil)) (f_const (v := .int 8) (d := .int 8) (pe_glob (by rfl) G.c_MOST_LETTERS ⟨_, rfl⟩) fun _ _ => rfl))))))
    (fs_one (fs_ret f_bl))
    fs_nil)
    (fs_one (fs_ret (f_callB (cr_all rfl) k_all (by rfl) G.n_all bo_all (fa_cons (f_lc (m := false) (own := [("sign", 1)]) rfl sc_is_name.nd (fi_any (f_var 0)) (blkOk_by (by kernel_rfl)) (fun _ _ _ _ _ => (pg_name (i := 1) sc_is_name.nd rfl (by first | exact .inl rfl | exact .inr rfl))) g_name (fun _ _ _ _ _ => fts_nil) (fun _ _ _ _ _ => (f_cmp (oo_in room.units) k_in (f_var 1) (f_const (v := .str "abcdefghijklmnopqrstuvwxyz") (d := .str "abcdefghijklmnopqrstuvwxyz") (pe_glob (by rfl) G.c_LETTERS ⟨_, rfl⟩) fun _ _ => rfl) (by rfl)))) fa_nil))))))
  exact h
theorem ok_are_names (G : Gs K mg) : FnG P w K mg base 2 G.a_are_names G.d_are_names ["thing"] f_are_names := by
  have h := okG (P := P) (w := w) (mg := mg) (base := base) (k := 1) (mt := false) G.F_are_names sc_are_names (fun cdv A outer s H E room gd =>
  (fs_one (fs_ret (f_and (f_isi (T := "tuple") (by rfl) G.n_isinstance (f_var 0) (by rfl) G.n_tuple bo_tuple (by decide)) (f_and (f_callB (cr_all rfl) k_all (by rfl) G.n_all bo_all (fa_cons (f_lc (m := false) (own := [("one", 1)]) rfl sc_are_names.nd (fi_any (f_var 0)) (blkOk_by (by kernel_rfl)) (fun _ _ _ _ _ => (pg_name (i := 1) sc_are_names.nd rfl (by first | exact .inl rfl | exact .inr rfl))) g_name (fun _ _ _ _ _ => fts_nil) (fun _ _ _ _ _ => (f_call (ok_is_name G) (room.mono (by decide)) gd (by rfl) G.g_is_name G.F_is_name.kp G.b_is_name take0 (fa_cons (f_var 1) fa_nil)))) fa_nil)) (f_one (f_call (ok_are_rising G) (room.mono (by decide)) gd (by rfl) G.g_are_rising G.F_are_rising.kp G.b_are_rising (L2N.takes_of rfl rfl rfl rfl) (fa_cons (f_var 0) fa_nil))))))))
  exact h
theorem ok_is_tie (G : Gs K mg) : FnG P w K mg base 2 G.a_is_tie G.d_is_tie ["places", "thing"] f_is_tie := by
  have h := okG (P := P) (w := w) (mg := mg) (base := base) (k := 1) (mt := false) G.F_is_tie sc_is_tie (fun cdv A outer s H E room gd =>
  (fs_cons (fs_if (ft_bool (fw_or (ft_not (ft_val (f_isi (T := "tuple") (by rfl) G.n_isinstance (f_var 1) (by rfl) G.n_tuple bo_tuple (by decide)))) (fw_or (ft_cmp (oo_ne room.units) k_ne (f_callB cc_len k_len (by rfl) G.n_len bo_len (fa_cons (f_var 1) fa_nil)) f_int (nomark _)) (fw_one (ft_not (ft_val (f_callB (cr_all rfl) k_all (by rfl) G.n_all bo_all (fa_cons (f_lc (m := false) (own := [("one", 2)]) rfl sc_is_tie.nd (fi_any (f_var 1)) (blkOk_by (by kernel_rfl)) (fun _ _ _ _ _ => (pg_name (i := 2) sc_is_tie.nd rfl (by first | exact .inl rfl | exact .inr rfl))) g_name (fun _ _ _ _ _ => fts_nil) (fun _ _ _ _ _ => (f_call (ok_is_name G) (room.mono (by decide)) gd (by rfl) G.g_is_name G.F_is_name.kp G.b_is_name take0 (fa_cons (f_var 2) fa_nil)))) fa_nil))))))))
    (fs_one (fs_ret f_bl))
    fs_nil)
    (fs_one (fs_ret (f_and (f_cmp (oo_in room.units) k_in (f_ix ix_seq k_ix (f_var 1) f_int) (f_var 0) (by rfl)) (f_and (f_cmp (oo_in room.units) k_in (f_ix ix_seq k_ix (f_var 1) f_int) (f_var 0) (by rfl)) (f_one (f_cmp (oo_ne room.units) k_ne (f_ix ix_seq k_ix (f_var 1) f_int) (f_ix ix_seq k_ix (f_var 1) f_int) (nomark _)))))))))
  exact h
theorem ok_is_web (G : Gs K mg) : FnG P w K mg base 3 G.a_is_web G.d_is_web ["thing"] f_is_web := by
  have h := okG (P := P) (w := w) (mg := mg) (base := base) (k := 2) (mt := false) G.F_is_web sc_is_web (fun cdv A outer s H E room gd =>
  (fs_cons (fs_if (ft_bool (fw_or (ft_not (ft_val (f_isi (T := "tuple") (by rfl) G.n_isinstance (f_var 0) (by rfl) G.n_tuple bo_tuple (by decide)))) (fw_or (ft_cmp (oo_ne room.units) k_ne (f_callB cc_len k_len (by rfl) G.n_len bo_len (fa_cons (f_var 0) fa_nil)) f_int (nomark _)) (fw_or (ft_not (ft_val (f_call (ok_are_names G) (room.mono (by decide)) gd (by rfl) G.g_are_names G.F_are_names.kp G.b_are_names (L2N.takes_of rfl rfl rfl rfl) (fa_cons (f_ix ix_seq k_ix (f_var 0) f_int) fa_nil)))) (fw_one (ft_cmp (oo_eq room.units) k_eq (f_ix ix_seq k_ix (f_var 0) f_int) (f_tup fa_nil) (nomark _)))))))
    (fs_one (fs_ret f_bl))
    fs_nil)
    (fs_cons (fs_asg (f_var 0) (pg_tup (n := 2) rfl (pgs_cons (pg_name (i := 1) sc_is_web.nd rfl (by first | exact .inl rfl | exact .inr rfl)) (pgs_cons (pg_name (i := 2) sc_is_web.nd rfl (by first | exact .inl rfl | exact .inr rfl)) pgs_nil))) (g_tup (gs_cons g_name (gs_cons g_name gs_nil))))
    (fs_cons (fs_if (ft_bool (fw_or (ft_not (ft_val (f_isi (T := "tuple") (by rfl) G.n_isinstance (f_var 2) (by rfl) G.n_tuple bo_tuple (by decide)))) (fw_one (ft_not (ft_val (f_callB (cr_all rfl) k_all (by rfl) G.n_all bo_all (fa_cons (f_lc (m := false) (own := [("row", 3)]) rfl sc_is_web.nd (fi_any (f_var 2)) (blkOk_by (by kernel_rfl)) (fun _ _ _ _ _ => (pg_name (i := 3) sc_is_web.nd rfl (by first | exact .inl rfl | exact .inr rfl))) g_name (fun _ _ _ _ _ => fts_nil) (fun _ _ _ _ _ => (f_call (ok_is_tie G) (room.mono (by decide)) gd (by rfl) G.g_is_tie G.F_is_tie.kp G.b_is_tie take0 (fa_cons (f_var 1) (fa_cons (f_var 3) fa_nil))))) fa_nil)))))))
    (fs_one (fs_ret f_bl))
    fs_nil)
    (fs_one (fs_ret (f_call (ok_are_rising G) (room.mono (by decide)) gd (by rfl) G.g_are_rising G.F_are_rising.kp G.b_are_rising (L2N.takes_of rfl rfl rfl rfl) (fa_cons (f_lc (m := false) (own := [("row", 3)]) rfl sc_is_web.nd (fi_any (f_var 2)) (blkOk_by (by kernel_rfl)) (fun _ _ _ _ _ => (pg_name (i := 3) sc_is_web.nd rfl (by first | exact .inl rfl | exact .inr rfl))) g_name (fun _ _ _ _ _ => fts_nil) (fun _ _ _ _ _ => (f_ix ix_seq k_ix (f_var 3) f_int))) fa_nil))))))))
  exact h
theorem ok_read_web (G : Gs K mg) : FnG P w K mg base 4 G.a_read_web G.d_read_web ["text"] f_read_web := by
  have h := okG (P := P) (w := w) (mg := mg) (base := base) (k := 3) (mt := false) G.F_read_web sc_read_web (fun cdv A outer s H E room gd =>
  (fs_cons (fs_if (ft_not (ft_val (f_isi (T := "str") (by rfl) G.n_isinstance (f_var 0) (by rfl) G.n_str bo_str (by decide))))
    (fs_one (fs_raise rfl (L2N.takes_of rfl rfl rfl rfl) G.X_NoText G.q_NoText (by rfl)))
    fs_nil)
    (fs_cons (fs_set (i := 1) sc_read_web.nd rfl (by first | exact .inl rfl | exact .inr rfl) (f_call (ok_lines_in G) (room.mono (by decide)) gd (by rfl) G.g_lines_in G.F_lines_in.kp G.b_lines_in (L2N.takes_of rfl rfl rfl rfl) (fa_cons (f_var 0) fa_nil)))
    (fs_cons (fs_if (ft_bool (fw_or (ft_cmp (oo_eq room.units) k_eq (f_var 1) (f_lst (m := false) fa_nil) (nomark _)) (fw_or (ft_cmp (oo_ne room.units) k_ne (f_ix ix_seq k_ix (f_ix ix_seq k_ix (f_var 1) f_int) f_int) (f_const (v := .str "places") (d := .str "places") (pe_glob (by rfl) G.c_PLACES ⟨_, rfl⟩) fun _ _ => rfl) (nomark _)) (fw_one (ft_val (f_callB (cr_any rfl) k_any (by rfl) G.n_any bo_any (fa_cons (f_lc (m := false) (own := [("line", 2)]) rfl sc_read_web.nd (fi_any (f_sl (m := false) (f_var 1) (fo_some f_int) fo_none)) (blkOk_by (by kernel_rfl)) (fun _ _ _ _ _ => (pg_name (i := 2) sc_read_web.nd rfl (by first | exact .inl rfl | exact .inr rfl))) g_name (fun _ _ _ _ _ => fts_nil) (fun _ _ _ _ _ => (f_cmp (oo_ne room.units) k_ne (f_ix ix_seq k_ix (f_var 2) f_int) (f_const (v := .str "tie") (d := .str "tie") (pe_glob (by rfl) G.c_TIE ⟨_, rfl⟩) fun _ _ => rfl) (nomark _)))) fa_nil)))))))
    (fs_one (fs_raise rfl (L2N.takes_of rfl rfl rfl rfl) G.X_NoText G.q_NoText (by rfl)))
    fs_nil)
    (fs_cons (fs_set (i := 3) sc_read_web.nd rfl (by first | exact .inl rfl | exact .inr rfl) (f_tup (fa_cons (f_callT call_tuple_of k_tuple (by rfl) G.n_tuple bo_tuple (fa_cons (f_sl (m := false) (f_ix ix_seq k_ix (f_var 1) f_int) (fo_some f_int) fo_none) fa_nil)) (fa_cons (f_callT call_tuple_of k_tuple (by rfl) G.n_tuple bo_tuple (fa_cons (f_lc (m := false) (own := [("line", 2)]) rfl sc_read_web.nd (fi_any (f_sl (m := false) (f_var 1) (fo_some f_int) fo_none)) (blkOk_by (by kernel_rfl)) (fun _ _ _ _ _ => (pg_name (i := 2) sc_read_web.nd rfl (by first | exact .inl rfl | exact .inr rfl))) g_name (fun _ _ _ _ _ => fts_nil) (fun _ _ _ _ _ => (f_callT call_tuple_of k_tuple (by rfl) G.n_tuple bo_tuple (fa_cons (f_sl (m := false) (f_var 2) (fo_some f_int) fo_none) fa_nil)))) fa_nil)) fa_nil))))
    (fs_cons (fs_if (ft_not (ft_val (f_call (ok_is_web G) (room.mono (by decide)) gd (by rfl) G.g_is_web G.F_is_web.kp G.b_is_web (L2N.takes_of rfl rfl rfl rfl) (fa_cons (f_var 3) fa_nil))))
    (fs_one (fs_raise rfl (L2N.takes_of rfl rfl rfl rfl) G.X_NoText G.q_NoText (by rfl)))
    fs_nil)
    (fs_one (fs_ret (f_var 3)))))))))
  exact h
theorem ok_read_trees (G : Gs K mg) : FnG P w K mg base 4 G.a_read_trees G.d_read_trees ["text"] f_read_trees := by
  have h := okG (P := P) (w := w) (mg := mg) (base := base) (k := 3) (mt := false) G.F_read_trees sc_read_trees (fun cdv A outer s H E room gd =>
  (fs_cons (fs_if (ft_not (ft_val (f_isi (T := "str") (by rfl) G.n_isinstance (f_var 0) (by rfl) G.n_str bo_str (by decide))))
    (fs_one (fs_raise rfl (L2N.takes_of rfl rfl rfl rfl) G.X_NoText G.q_NoText (by rfl)))
    fs_nil)
    (fs_cons (fs_set (i := 1) sc_read_trees.nd rfl (by first | exact .inl rfl | exact .inr rfl) (f_call (ok_lines_in G) (room.mono (by decide)) gd (by rfl) G.g_lines_in G.F_lines_in.kp G.b_lines_in (L2N.takes_of rfl rfl rfl rfl) (fa_cons (f_var 0) fa_nil)))
    (fs_cons (fs_setLc (m := false) (own := [("line", 3)]) (j := 2) rfl sc_read_trees.nd rfl rfl (by rfl) (fi_any (f_var 1)) (blkOk_by (by kernel_rfl)) (fun _ _ _ _ _ => (pg_name (i := 3) sc_read_trees.nd rfl (by first | exact .inl rfl | exact .inr rfl))) g_name (fun _ _ _ _ _ => fts_nil) (fun _ _ _ _ _ => (f_callT call_tuple_of k_tuple (by rfl) G.n_tuple bo_tuple (fa_cons (f_sl (m := false) (f_var 3) (fo_some f_int) fo_none) fa_nil))))
    (fs_cons (fs_if (ft_bool (fw_or (ft_val (f_callB (cr_any rfl) k_any (by rfl) G.n_any bo_any (fa_cons (f_lc (m := false) (own := [("line", 3)]) rfl sc_read_trees.nd (fi_any (f_var 1)) (blkOk_by (by kernel_rfl)) (fun _ _ _ _ _ => (pg_name (i := 3) sc_read_trees.nd rfl (by first | exact .inl rfl | exact .inr rfl))) g_name (fun _ _ _ _ _ => fts_nil) (fun _ _ _ _ _ => (f_cmp (oo_ne room.units) k_ne (f_ix ix_seq k_ix (f_var 3) f_int) (f_const (v := .str "tree") (d := .str "tree") (pe_glob (by rfl) G.c_TREE ⟨_, rfl⟩) fun _ _ => rfl) (nomark _)))) fa_nil))) (fw_one (ft_not (ft_val (f_callB (cr_all rfl) k_all (by rfl) G.n_all bo_all (fa_cons (f_lc (m := false) (own := [("tree", 4)]) rfl sc_read_trees.nd (fi_any (f_var 2)) (blkOk_by (by kernel_rfl)) (fun _ _ _ _ _ => (pg_name (i := 4) sc_read_trees.nd rfl (by first | exact .inl rfl | exact .inr rfl))) g_name (fun _ _ _ _ _ => fts_nil) (fun _ _ _ _ _ => (f_call (ok_are_names G) (room.mono (by decide)) gd (by rfl) G.g_are_names G.F_are_names.kp G.b_are_names take0 (fa_cons (f_var 4) fa_nil)))) fa_nil)))))))
    (fs_one (fs_raise rfl (L2N.takes_of rfl rfl rfl rfl) G.X_NoText G.q_NoText (by rfl)))
    fs_nil)
    (fs_one (fs_ret (f_var 2))))))))
  exact h
theorem ok_law_is_other (G : Gs K mg) : FnW P w K mg base 1 G.a_law_is_other G.d_law_is_other ["_law_e"] f_law_is_other := by
  have h := okW (P := P) (w := w) (mg := mg) (base := base) (k := 0) (mt := false) G.F_law_is_other sc_law_is_other (fun cdv A outer s H E room gd hot =>
  (fs_cons (fs_set (i := 1) sc_law_is_other.nd rfl (by first | exact .inl rfl | exact .inr rfl) (f_lst (m := false) (fa_cons (f_isE G.askC G.k_NoCosts (by rfl) G.n_isinstance (f_var 0) (pe_glob (by rfl) G.X_NoCosts.gl (v := .ref G.x_NoCosts) rfl) (fun _ r => r)) (fa_cons (f_isE G.askC G.k_NoLot (by rfl) G.n_isinstance (f_var 0) (pe_glob (by rfl) G.X_NoLot.gl (v := .ref G.x_NoLot) rfl) (fun _ r => r)) (fa_cons (f_isE G.askC G.k_NoNumber (by rfl) G.n_isinstance (f_var 0) (pe_glob (by rfl) G.X_NoNumber.gl (v := .ref G.x_NoNumber) rfl) (fun _ r => r)) (fa_cons (f_isE G.askC G.k_NoPlace (by rfl) G.n_isinstance (f_var 0) (pe_glob (by rfl) G.X_NoPlace.gl (v := .ref G.x_NoPlace) rfl) (fun _ r => r)) fa_nil))))))
    (fs_cons (fs_set (i := 1) sc_law_is_other.nd rfl (by first | exact .inl rfl | exact .inr rfl) (f_bin oo_add (k_add (m := false)) (f_var 1) (f_lst (m := false) (fa_cons (f_isE G.askC G.k_NoRoots (by rfl) G.n_isinstance (f_var 0) (pe_glob (by rfl) G.X_NoRoots.gl (v := .ref G.x_NoRoots) rfl) (fun _ r => r)) (fa_cons (f_isE G.askC G.k_NoTie (by rfl) G.n_isinstance (f_var 0) (pe_glob (by rfl) G.X_NoTie.gl (v := .ref G.x_NoTie) rfl) (fun _ r => r)) (fa_cons (f_isE G.askC G.k_NoTree (by rfl) G.n_isinstance (f_var 0) (pe_glob (by rfl) G.X_NoTree.gl (v := .ref G.x_NoTree) rfl) (fun _ r => r)) (fa_cons (f_isE G.askC G.k_NoWeb (by rfl) G.n_isinstance (f_var 0) (pe_glob (by rfl) G.X_NoWeb.gl (v := .ref G.x_NoWeb) rfl) (fun _ r => r)) fa_nil)))))))
    (fs_one (fs_ret (f_callB (cr_anyH hot) k_any (by rfl) G.n_any bo_any (fa_cons (f_bin oo_add (k_add (m := false)) (f_var 1) (f_lst (m := false) (fa_cons (f_isE G.askC G.k_TooFew (by rfl) G.n_isinstance (f_var 0) (pe_glob (by rfl) G.X_TooFew.gl (v := .ref G.x_TooFew) rfl) (fun _ r => r)) (fa_cons (f_isE G.askC G.k_TooMany (by rfl) G.n_isinstance (f_var 0) (pe_glob (by rfl) G.X_TooMany.gl (v := .ref G.x_TooMany) rfl) (fun _ r => r)) fa_nil)))) fa_nil)))))))
  exact h
theorem ok_law_told (G : Gs K mg) : FnG P w K mg base 5 G.a_law_told G.d_law_told ["_law_thing", "_law_wants_web"] f_law_told := by
  have h := okG (P := P) (w := w) (mg := mg) (base := base) (k := 4) (mt := false) G.F_law_told sc_law_told (fun cdv A outer s H E room gd =>
  (fs_cons (fs_set (i := 2) sc_law_told.nd rfl (by first | exact .inl rfl | exact .inr rfl) f_non)
    (fs_cons (fs_tryCall (i := 3) (L := rsX) rfl rfl rfl sc_law_told.nd rfl rfl ⟨by rfl, by decide, .inl G.X_RootError.gl⟩ G.u_RootError (L2N.takes_of rfl rfl rfl rfl) (fun _ _ _ tk pas =>
    (fs_one (fs_set (i := 2) sc_law_told.nd rfl (by first | exact .inl rfl | exact .inr rfl) (f_tup (fa_cons f_str (fa_cons (f_if (ft_val (f_var 1)) (f_call (ok_read_web G) (room.mono (by decide)) gd (by rfl) G.g_read_web G.F_read_web.kp G.b_read_web tk (fa_cons (f_var 0) fa_nil)) (f_call (ok_read_trees G) (room.mono (by decide)) gd (by rfl) G.g_read_trees G.F_read_trees.kp G.b_read_trees tk (fa_cons (f_var 0) fa_nil))) fa_nil))))))
    (fun _ _ =>
    (ps_setKnow (i := 2) sc_law_told.nd rfl (by first | exact .inl rfl | exact .inr rfl) (know_tup (know_cons f_str (know_last (know_and (f_isE G.askC G.k_NoText (by rfl) G.n_isinstance (f_var 3) (pe_glob (by rfl) G.X_NoText.gl (v := .ref G.x_NoText) rfl) (fun _ r => r)) (know_and (f_isE G.askC G.k_ValueError (by rfl) G.n_isinstance (f_var 3) (pe_bltn (by rfl) G.n_ValueError boo_ValueError (v := .ty "ValueError") rfl) (fun _ r => r)) (know_one (know_not (pe_callW (ok_law_is_other G) ((roomHM room).mono (by decide)) gd (by rfl) G.g_law_is_other G.F_law_is_other.kp G.b_law_is_other take0 (fa_cons (f_var 3) fa_nil)))))) fa_nil))))))
    (fs_one (fs_ret (f_var 2))))))
  exact h
theorem ok_law_names (G : Gs K mg) : FnG P w K mg base 1 G.a_law_names G.d_law_names ["_law_words"] f_law_names := by
  have h := okG (P := P) (w := w) (mg := mg) (base := base) (k := 0) (mt := false) G.F_law_names sc_law_names (fun cdv A outer s H E room gd =>
  (fs_cons (fs_if (ft_not (ft_val (f_callB (cr_all rfl) k_all (by rfl) G.n_all bo_all (fa_cons (f_lc (m := false) (own := [("_law_word", 1)]) rfl sc_law_names.nd (fi_any (f_var 0)) (blkOk_by (by kernel_rfl)) (fun _ _ _ _ _ => (pg_name (i := 1) sc_law_names.nd rfl (by first | exact .inl rfl | exact .inr rfl))) g_name (fun _ _ _ _ _ => fts_nil) (fun _ _ _ _ _ => (f_and (f_chain (oo_le room.units) (oo_le room.units) k_ord k_ord f_int (f_callB cc_len k_len (by rfl) G.n_len bo_len (fa_cons (f_var 1) fa_nil)) f_int) (f_one (f_cmp (oo_eq room.units) k_eq (f_bm PySem.F.plainAttrs_str PySem.F.slot_str_strip PySem.F.type_str_strip mt_stripChars k_strip (f_var 1) (fa_cons f_str fa_nil)) f_str (nomark _)))))) fa_nil))))
    (fs_one (fs_ret f_non))
    fs_nil)
    (fs_one (fs_ret (f_var 0)))))
  exact h
theorem ok_law_rows (G : Gs K mg) : FnG P w K mg base 2 G.a_law_rows G.d_law_rows ["_law_thing", "_law_first"] f_law_rows := by
  have h := okG (P := P) (w := w) (mg := mg) (base := base) (k := 1) (mt := false) G.F_law_rows sc_law_rows (fun cdv A outer s H E room gd =>
  (fs_cons (fs_if (ft_bool (fw_or (ft_not (ft_val (f_isi (T := "str") (by rfl) G.n_isinstance (f_var 0) (by rfl) G.n_str bo_str (by decide)))) (fw_one (ft_bool (fw_and (ft_cmp (oo_ne room.units) k_ne (f_var 0) f_str (nomark _)) (fw_one (ft_cmp (oo_ne room.units) k_ne (f_ix ix_seq k_ix (f_var 0) (f_un un_neg k_neg f_int)) f_str (nomark _))))))))
    (fs_one (fs_ret f_non))
    fs_nil)
    (fs_cons (fs_set (i := 2) sc_law_rows.nd rfl (by first | exact .inl rfl | exact .inr rfl) (f_lst (m := true) fa_nil))
    (fs_cons (fs_for (passes_of rfl) rfl (fi_any (f_sl (m := false) (f_bm PySem.F.plainAttrs_str PySem.F.slot_str_split PySem.F.type_str_split mt_split (k_split (m := false)) (f_var 0) (fa_cons f_str fa_nil)) fo_none (fo_some (f_un un_neg k_neg f_int)))) (pg_name (i := 3) sc_law_rows.nd rfl (by first | exact .inl rfl | exact .inr rfl)) g_name
    (fs_cons (fs_set (i := 4) sc_law_rows.nd rfl (by first | exact .inl rfl | exact .inr rfl) (f_bm PySem.F.plainAttrs_str PySem.F.slot_str_split PySem.F.type_str_split mt_split (k_split (m := false)) (f_var 3) (fa_cons f_str fa_nil)))
    (fs_cons (fs_if (ft_bool (fw_or (ft_cmp oo_is k_is (f_call (ok_law_names G) (room.mono (by decide)) gd (by rfl) G.g_law_names G.F_law_names.kp G.b_law_names (L2N.takes_of rfl rfl rfl rfl) (fa_cons (f_var 4) fa_nil)) f_non (nomark _)) (fw_one (ft_bool (fw_and (ft_cmp (oo_ne room.units) k_ne (f_ix ix_seq k_ix (f_var 4) f_int) (f_if (ft_cmp (oo_eq room.units) k_eq (f_var 2) (f_lst (m := false) fa_nil) (nomark _)) (f_var 1) f_str) (nomark _)) (fw_one (ft_cmp (oo_ne room.units) k_ne (f_var 1) f_str (nomark _))))))))
    (fs_one (fs_ret f_non))
    fs_nil)
    (fs_cons (fs_if (ft_bool (fw_and (ft_cmp (oo_eq room.units) k_eq (f_var 1) f_str (nomark _)) (fw_one (ft_bool (fw_or (ft_cmp (oo_ne room.units) k_ne (f_ix ix_seq k_ix (f_var 4) f_int) (f_var 1) (nomark _)) (fw_one (ft_cmp (oo_ne room.units) k_ne (f_sl (m := false) (f_var 4) (fo_some f_int) fo_none) (f_sortSet (m := false) rfl room.units (by rfl) G.n_sorted (by rfl) G.n_set (f_sl (m := false) (f_var 4) (fo_some f_int) fo_none)) (nomark _))))))))
    (fs_one (fs_ret f_non))
    fs_nil)
    (fs_one (fs_expr (f_bm PySem.F.plainAttrs_list PySem.F.slot_list_append PySem.F.type_list_append mt_append k_append (f_var 2) (fa_cons (f_callT call_tuple_of k_tuple (by rfl) G.n_tuple bo_tuple (fa_cons (f_sl (m := false) (f_var 4) (fo_some f_int) fo_none) fa_nil)) fa_nil))))))))
    (fs_one (fs_ret (f_var 2)))))))
  exact h
theorem ok_law_web_of (G : Gs K mg) : FnG P w K mg base 3 G.a_law_web_of G.d_law_web_of ["_law_thing"] f_law_web_of := by
  have h := okG (P := P) (w := w) (mg := mg) (base := base) (k := 2) (mt := false) G.F_law_web_of sc_law_web_of (fun cdv A outer s H E room gd =>
  (fs_cons (fs_set (i := 1) sc_law_web_of.nd rfl (by first | exact .inl rfl | exact .inr rfl) (f_call (ok_law_rows G) (room.mono (by decide)) gd (by rfl) G.g_law_rows G.F_law_rows.kp G.b_law_rows (L2N.takes_of rfl rfl rfl rfl) (fa_cons (f_var 0) (fa_cons f_str fa_nil))))
    (fs_cons (fs_if (ft_bool (fw_or (ft_cmp oo_is k_is (f_var 1) f_non (nomark _)) (fw_or (ft_cmp (oo_eq room.units) k_eq (f_var 1) (f_lst (m := false) fa_nil) (nomark _)) (fw_or (ft_cmp (oo_eq room.units) k_eq (f_ix ix_seq k_ix (f_var 1) f_int) (f_tup fa_nil) (nomark _)) (fw_one (ft_cmp (oo_ne room.units) k_ne (f_callT call_list_of (k_list (m := false)) (by rfl) G.n_list bo_list (fa_cons (f_ix ix_seq k_ix (f_var 1) f_int) fa_nil)) (f_sortSet (m := false) rfl room.units (by rfl) G.n_sorted (by rfl) G.n_set (f_ix ix_seq k_ix (f_var 1) f_int)) (nomark _)))))))
    (fs_one (fs_ret f_non))
    fs_nil)
    (fs_cons (fs_setLc (m := false) (own := [("_law_row", 3)]) (j := 2) rfl sc_law_web_of.nd rfl rfl (by rfl) (fi_any (f_sl (m := false) (f_var 1) (fo_some f_int) fo_none)) (blkOk_by (by kernel_rfl)) (fun _ _ _ _ _ => (pg_name (i := 3) sc_law_web_of.nd rfl (by first | exact .inl rfl | exact .inr rfl))) g_name (fun _ _ _ _ _ => (fts_one (ft_bool (fw_and (ft_cmp (oo_eq room.units) k_eq (f_callB cc_len k_len (by rfl) G.n_len bo_len (fa_cons (f_var 3) fa_nil)) f_int (nomark _)) (fw_and (ft_cmp (oo_ne room.units) k_ne (f_ix ix_seq k_ix (f_var 3) f_int) (f_ix ix_seq k_ix (f_var 3) f_int) (nomark _)) (fw_and (ft_cmp (oo_in room.units) k_in (f_ix ix_seq k_ix (f_var 3) f_int) (f_ix ix_seq k_ix (f_var 1) f_int) (by rfl)) (fw_one (ft_cmp (oo_in room.units) k_in (f_ix ix_seq k_ix (f_var 3) f_int) (f_ix ix_seq k_ix (f_var 1) f_int) (by rfl))))))))) (fun _ _ _ _ _ => (f_var 3)))
    (fs_cons (fs_setLc (m := false) (own := [("_law_row", 3)]) (j := 4) rfl sc_law_web_of.nd rfl rfl (by rfl) (fi_any (f_var 2)) (blkOk_by (by kernel_rfl)) (fun _ _ _ _ _ => (pg_name (i := 3) sc_law_web_of.nd rfl (by first | exact .inl rfl | exact .inr rfl))) g_name (fun _ _ _ _ _ => fts_nil) (fun _ _ _ _ _ => (f_ix ix_seq k_ix (f_var 3) f_int)))
    (fs_cons (fs_if (ft_bool (fw_or (ft_cmp (oo_lt room.units) k_ord (f_callB cc_len k_len (by rfl) G.n_len bo_len (fa_cons (f_var 2) fa_nil)) (f_bin op_sub k_sub (f_callB cc_len k_len (by rfl) G.n_len bo_len (fa_cons (f_var 1) fa_nil)) f_int) (nomark _)) (fw_one (ft_cmp (oo_ne room.units) k_ne (f_var 4) (f_sortSet (m := false) rfl room.units (by rfl) G.n_sorted (by rfl) G.n_set (f_var 4)) (nomark _)))))
    (fs_one (fs_ret f_non))
    fs_nil)
    (fs_one (fs_ret (f_tup (fa_cons (f_ix ix_seq k_ix (f_var 1) f_int) (fa_cons (f_callT call_tuple_of k_tuple (by rfl) G.n_tuple bo_tuple (fa_cons (f_sl (m := false) (f_var 1) (fo_some f_int) fo_none) fa_nil)) fa_nil)))))))))))
  exact h
theorem ok_law_agrees (G : Gs K mg) : FnG P w K mg base 6 G.a_law_agrees G.d_law_agrees ["_law_thing"] f_law_agrees := by
  have h := okG (P := P) (w := w) (mg := mg) (base := base) (k := 5) (mt := false) G.F_law_agrees sc_law_agrees (fun cdv A outer s H E room gd =>
  (fs_cons (fs_for (passes_of rfl) rfl (fi_any (f_tup (fa_cons f_bl (fa_cons f_bl fa_nil)))) (pg_name (i := 1) sc_law_agrees.nd rfl (by first | exact .inl rfl | exact .inr rfl)) g_name
    (fs_cons (fs_set (i := 2) sc_law_agrees.nd rfl (by first | exact .inl rfl | exact .inr rfl) (f_if (ft_val (f_var 1)) (f_call (ok_law_web_of G) (room.mono (by decide)) gd (by rfl) G.g_law_web_of G.F_law_web_of.kp G.b_law_web_of (L2N.takes_of rfl rfl rfl rfl) (fa_cons (f_var 0) fa_nil)) (f_call (ok_law_rows G) (room.mono (by decide)) gd (by rfl) G.g_law_rows G.F_law_rows.kp G.b_law_rows (L2N.takes_of rfl rfl rfl rfl) (fa_cons (f_var 0) (fa_cons f_str fa_nil)))))
    (fs_cons (fs_set (i := 3) sc_law_agrees.nd rfl (by first | exact .inl rfl | exact .inr rfl) (f_call (ok_law_told G) (room.mono (by decide)) gd (by rfl) G.g_law_told G.F_law_told.kp G.b_law_told (L2N.takes_of rfl rfl rfl rfl) (fa_cons (f_var 0) (fa_cons (f_var 1) fa_nil))))
    (fs_one (fs_if (ft_bool (fw_or (ft_bool (fw_and (ft_cmp oo_is k_is (f_var 2) f_non (nomark _)) (fw_one (ft_cmp (oo_ne room.units) k_ne (f_var 3) (f_tup (fa_cons f_str (fa_cons f_bl fa_nil))) (nomark _))))) (fw_one (ft_bool (fw_and (ft_cmp oo_isNot k_is (f_var 2) f_non (nomark _)) (fw_one (ft_cmp (oo_ne room.units) k_ne (f_var 3) (f_tup (fa_cons f_str (fa_cons (f_var 2) fa_nil))) (nomark _))))))))
    (fs_one (fs_ret f_bl))
    fs_nil)))))
    (fs_one (fs_ret f_bl))))
  exact h
theorem ok_law_sign_spoilt (G : Gs K mg) : FnG P w K mg base 2 G.a_law_sign_spoilt G.d_law_sign_spoilt ["_law_pot_here", "_law_text"] f_law_sign_spoilt := by
  have h := okG (P := P) (w := w) (mg := mg) (base := base) (k := 1) (mt := false) G.F_law_sign_spoilt sc_law_sign_spoilt (fun cdv A outer s H E room gd =>
  (fs_cons (fs_set (i := 2) sc_law_sign_spoilt.nd rfl (by first | exact .inl rfl | exact .inr rfl) (f_call (ok_law_take G) (room.mono (by decide)) gd (by rfl) G.g_law_take G.F_law_take.kp G.b_law_take (L2N.takes_of rfl rfl rfl rfl) (fa_cons (f_var 0) (fa_cons (f_bin oo_add (k_add (m := false)) (f_callB cc_len k_len (by rfl) G.n_len bo_len (fa_cons (f_var 1) fa_nil)) f_int) fa_nil))))
    (fs_cons (fs_set (i := 3) sc_law_sign_spoilt.nd rfl (by first | exact .inl rfl | exact .inr rfl) f_str)
    (fs_cons (fs_set (i := 3) sc_law_sign_spoilt.nd rfl (by first | exact .inl rfl | exact .inr rfl) (f_bin oo_add (k_add (m := false)) (f_var 3) f_str))
    (fs_cons (fs_set (i := 4) sc_law_sign_spoilt.nd rfl (by first | exact .inl rfl | exact .inr rfl) (f_ix ix_seq k_ix (f_var 3) (f_call (ok_law_take G) (room.mono (by decide)) gd (by rfl) G.g_law_take G.F_law_take.kp G.b_law_take (L2N.takes_of rfl rfl rfl rfl) (fa_cons (f_var 0) (fa_cons (f_callB cc_len k_len (by rfl) G.n_len bo_len (fa_cons (f_var 3) fa_nil)) fa_nil)))))
    (fs_cons (fs_set (i := 5) sc_law_sign_spoilt.nd rfl (by first | exact .inl rfl | exact .inr rfl) (f_lst (m := false) (fa_cons (f_bin oo_add (k_add (m := false)) (f_bin oo_add (k_add (m := false)) (f_sl (m := false) (f_var 1) fo_none (fo_some (f_var 2))) (f_var 4)) (f_sl (m := false) (f_var 1) (fo_some (f_var 2)) fo_none)) (fa_cons (f_bin oo_add (k_add (m := false)) (f_sl (m := false) (f_var 1) fo_none (fo_some (f_var 2))) (f_sl (m := false) (f_var 1) (fo_some (f_bin oo_add (k_add (m := false)) (f_var 2) f_int)) fo_none)) (fa_cons (f_bin oo_add (k_add (m := false)) (f_bin oo_add (k_add (m := false)) (f_sl (m := false) (f_var 1) fo_none (fo_some (f_var 2))) (f_var 4)) (f_sl (m := false) (f_var 1) (fo_some (f_bin oo_add (k_add (m := false)) (f_var 2) f_int)) fo_none)) fa_nil)))))
    (fs_one (fs_ret (f_ix ix_seq k_ix (f_var 5) (f_call (ok_law_take G) (room.mono (by decide)) gd (by rfl) G.g_law_take G.F_law_take.kp G.b_law_take (L2N.takes_of rfl rfl rfl rfl) (fa_cons (f_var 0) (fa_cons f_int fa_nil))))))))))))
  exact h
theorem ok_law_lines_spoilt (G : Gs K mg) : FnG P w K mg base 2 G.a_law_lines_spoilt G.d_law_lines_spoilt ["_law_pot_here", "_law_text"] f_law_lines_spoilt := by
  have h := okG (P := P) (w := w) (mg := mg) (base := base) (k := 1) (mt := false) G.F_law_lines_spoilt sc_law_lines_spoilt (fun cdv A outer s H E room gd =>
  (fs_cons (fs_set (i := 2) sc_law_lines_spoilt.nd rfl (by first | exact .inl rfl | exact .inr rfl) (f_bm PySem.F.plainAttrs_str PySem.F.slot_str_split PySem.F.type_str_split mt_split (k_split (m := false)) (f_var 1) (fa_cons f_str fa_nil)))
    (fs_cons (fs_set (i := 3) sc_law_lines_spoilt.nd rfl (by first | exact .inl rfl | exact .inr rfl) (f_call (ok_law_take G) (room.mono (by decide)) gd (by rfl) G.g_law_take G.F_law_take.kp G.b_law_take (L2N.takes_of rfl rfl rfl rfl) (fa_cons (f_var 0) (fa_cons (f_callB cc_len k_len (by rfl) G.n_len bo_len (fa_cons (f_var 2) fa_nil)) fa_nil))))
    (fs_cons (fs_set (i := 4) sc_law_lines_spoilt.nd rfl (by first | exact .inl rfl | exact .inr rfl) (f_bm PySem.F.plainAttrs_str PySem.F.slot_str_split PySem.F.type_str_split mt_split (k_split (m := false)) (f_ix ix_seq k_ix (f_var 2) (f_var 3)) (fa_cons f_str fa_nil)))
    (fs_cons (fs_set (i := 5) sc_law_lines_spoilt.nd rfl (by first | exact .inl rfl | exact .inr rfl) (f_call (ok_law_take G) (room.mono (by decide)) gd (by rfl) G.g_law_take G.F_law_take.kp G.b_law_take (L2N.takes_of rfl rfl rfl rfl) (fa_cons (f_var 0) (fa_cons (f_callB cc_len k_len (by rfl) G.n_len bo_len (fa_cons (f_var 4) fa_nil)) fa_nil))))
    (fs_cons (fs_set (i := 6) sc_law_lines_spoilt.nd rfl (by first | exact .inl rfl | exact .inr rfl) (f_call (ok_law_take G) (room.mono (by decide)) gd (by rfl) G.g_law_take G.F_law_take.kp G.b_law_take (L2N.takes_of rfl rfl rfl rfl) (fa_cons (f_var 0) (fa_cons (f_callB cc_len k_len (by rfl) G.n_len bo_len (fa_cons (f_var 4) fa_nil)) fa_nil))))
    (fs_cons (fs_set (i := 7) sc_law_lines_spoilt.nd rfl (by first | exact .inl rfl | exact .inr rfl) (f_callT call_list_of (k_list (m := true)) (by rfl) G.n_list bo_list (fa_cons (f_var 4) fa_nil)))
    (fs_cons (fs_asg (f_tup (fa_cons (f_ix ix_seq k_ix (f_var 4) (f_var 6)) (fa_cons (f_ix ix_seq k_ix (f_var 4) (f_var 5)) fa_nil))) (pg_tup (n := 2) rfl (pgs_cons (pg_sub (f_var 7) (f_var 5) set_list) (pgs_cons (pg_sub (f_var 7) (f_var 6) set_list) pgs_nil))) (g_tup (gs_cons g_ix (gs_cons g_ix gs_nil))))
    (fs_cons (fs_set (i := 8) sc_law_lines_spoilt.nd rfl (by first | exact .inl rfl | exact .inr rfl) (f_lst (m := true) (fa_cons (f_bin oo_add (k_add (m := false)) (f_sl (m := false) (f_var 2) fo_none (fo_some (f_var 3))) (f_sl (m := false) (f_var 2) (fo_some (f_bin oo_add (k_add (m := false)) (f_var 3) f_int)) fo_none)) (fa_cons (f_bin oo_add (k_add (m := false)) (f_sl (m := false) (f_var 2) fo_none (fo_some (f_bin oo_add (k_add (m := false)) (f_var 3) f_int))) (f_sl (m := false) (f_var 2) (fo_some (f_var 3)) fo_none)) (fa_cons (f_bin oo_add (k_add (m := false)) (f_sl (m := false) (f_var 2) (fo_some (f_var 3)) fo_none) (f_sl (m := false) (f_var 2) fo_none (fo_some (f_var 3)))) fa_nil)))))
    (fs_cons (fs_for (passes_of rfl) rfl (fi_any (f_tup (fa_cons (f_bin oo_add (k_add (m := false)) (f_sl (m := false) (f_var 4) fo_none (fo_some (f_bin oo_add (k_add (m := false)) (f_var 5) f_int))) (f_sl (m := false) (f_var 4) (fo_some (f_var 5)) fo_none)) (fa_cons (f_bin oo_add (k_add (m := false)) (f_sl (m := false) (f_var 4) fo_none (fo_some (f_var 5))) (f_sl (m := false) (f_var 4) (fo_some (f_bin oo_add (k_add (m := false)) (f_var 5) f_int)) fo_none)) (fa_cons (f_var 7) fa_nil))))) (pg_name (i := 9) sc_law_lines_spoilt.nd rfl (by first | exact .inl rfl | exact .inr rfl)) g_name
    (fs_one (fs_expr (f_bm PySem.F.plainAttrs_list PySem.F.slot_list_append PySem.F.type_list_append mt_append k_append (f_var 8) (fa_cons (f_bin oo_add (k_add (m := false)) (f_bin oo_add (k_add (m := false)) (f_sl (m := false) (f_var 2) fo_none (fo_some (f_var 3))) (f_lst (m := false) (fa_cons (f_bm PySem.F.plainAttrs_str PySem.F.slot_str_join PySem.F.type_str_join mt_join k_join f_str (fa_cons (f_var 9) fa_nil)) fa_nil))) (f_sl (m := false) (f_var 2) (fo_some (f_bin oo_add (k_add (m := false)) (f_var 3) f_int)) fo_none)) fa_nil)))))
    (fs_one (fs_ret (f_bm PySem.F.plainAttrs_str PySem.F.slot_str_join PySem.F.type_str_join mt_join k_join f_str (fa_cons (f_ix ix_seq k_ix (f_var 8) (f_call (ok_law_take G) (room.mono (by decide)) gd (by rfl) G.g_law_take G.F_law_take.kp G.b_law_take (L2N.takes_of rfl rfl rfl rfl) (fa_cons (f_var 0) (fa_cons (f_callB cc_len k_len (by rfl) G.n_len bo_len (fa_cons (f_var 8) fa_nil)) fa_nil)))) fa_nil))))))))))))))
  exact h
theorem ok_law_spoilt (G : Gs K mg) : FnG P w K mg base 3 G.a_law_spoilt G.d_law_spoilt ["_law_pot_here", "_law_text"] f_law_spoilt := by
  have h := okG (P := P) (w := w) (mg := mg) (base := base) (k := 2) (mt := false) G.F_law_spoilt sc_law_spoilt (fun cdv A outer s H E room gd =>
  (fs_cons (fs_for (passes_of rfl) rfl (fi_range1 (by rfl) G.n_range (fa_cons (f_bin oo_add (k_add (m := false)) f_int (f_call (ok_law_take G) (room.mono (by decide)) gd (by rfl) G.g_law_take G.F_law_take.kp G.b_law_take (L2N.takes_of rfl rfl rfl rfl) (fa_cons (f_var 0) (fa_cons f_int fa_nil)))) fa_nil) len1) (pg_name (i := 2) sc_law_spoilt.nd rfl (by first | exact .inl rfl | exact .inr rfl)) g_name
    (fs_one (fs_if (ft_cmp (oo_eq room.units) k_eq (f_call (ok_law_take G) (room.mono (by decide)) gd (by rfl) G.g_law_take G.F_law_take.kp G.b_law_take (L2N.takes_of rfl rfl rfl rfl) (fa_cons (f_var 0) (fa_cons f_int fa_nil))) f_int (nomark _))
    (fs_one (fs_set (i := 1) sc_law_spoilt.nd rfl (by first | exact .inl rfl | exact .inr rfl) (f_call (ok_law_sign_spoilt G) (room.mono (by decide)) gd (by rfl) G.g_law_sign_spoilt G.F_law_sign_spoilt.kp G.b_law_sign_spoilt (L2N.takes_of rfl rfl rfl rfl) (fa_cons (f_var 0) (fa_cons (f_var 1) fa_nil)))))
    (fs_one (fs_set (i := 1) sc_law_spoilt.nd rfl (by first | exact .inl rfl | exact .inr rfl) (f_call (ok_law_lines_spoilt G) (room.mono (by decide)) gd (by rfl) G.g_law_lines_spoilt G.F_law_lines_spoilt.kp G.b_law_lines_spoilt (L2N.takes_of rfl rfl rfl rfl) (fa_cons (f_var 0) (fa_cons (f_var 1) fa_nil))))))))
    (fs_one (fs_ret (f_var 1)))))
  exact h
theorem ok_law (G : Gs K mg) : FnG P w K mg base 7 G.a_law G.d_law ["_law_script"] f_law := by
  have h := okG (P := P) (w := w) (mg := mg) (base := base) (k := 6) (mt := false) G.F_law sc_law (fun cdv A outer s H E room gd =>
  (fs_cons (fs_set (i := 1) sc_law.nd rfl (by first | exact .inl rfl | exact .inr rfl) (f_lst (m := false) (fa_cons f_non (fa_cons f_int (fa_cons f_bl (fa_cons (f_lst (m := false) fa_nil) (fa_cons (f_tup fa_nil) (fa_cons (f_dct (m := false)) (fa_cons (f_lst (m := false) (fa_cons f_str fa_nil)) (fa_cons (f_tup (fa_cons f_str fa_nil)) (fa_cons f_str (fa_cons f_str (fa_cons f_str (fa_cons f_str (fa_cons f_str (fa_cons f_str (fa_cons f_str fa_nil)))))))))))))))))
    (fs_cons (fs_set (i := 1) sc_law.nd rfl (by first | exact .inl rfl | exact .inr rfl) (f_bin oo_add (k_add (m := false)) (f_var 1) (f_lst (m := false) (fa_cons f_str (fa_cons f_str (fa_cons f_str (fa_cons f_str (fa_cons f_str (fa_cons f_str fa_nil)))))))))
    (fs_cons (fs_set (i := 1) sc_law.nd rfl (by first | exact .inl rfl | exact .inr rfl) (f_bin oo_add (k_add (m := false)) (f_var 1) (f_lst (m := false) (fa_cons f_str (fa_cons f_str (fa_cons f_str (fa_cons f_str (fa_cons f_str fa_nil))))))))
    (fs_cons (fs_set (i := 1) sc_law.nd rfl (by first | exact .inl rfl | exact .inr rfl) (f_bin oo_add (k_add (m := false)) (f_var 1) (f_lst (m := false) (fa_cons f_str (fa_cons f_str (fa_cons f_str fa_nil))))))
    (fs_cons (fs_for (passes_of rfl) rfl (fi_range1 (by rfl) G.n_range (fa_cons (f_callB (call_max2 rfl) k_2I (by rfl) G.n_max bo_max (fa_cons f_int (fa_cons (f_callB (call_min2 rfl) k_2I (by rfl) G.n_min bo_min (fa_cons (f_callB cc_len k_len (by rfl) G.n_len bo_len (fa_cons (f_var 0) fa_nil)) (fa_cons f_int fa_nil))) fa_nil))) fa_nil) len1) (pg_name (i := 2) sc_law.nd rfl (by first | exact .inl rfl | exact .inr rfl)) g_name
    (fs_cons (fs_set (i := 3) sc_law.nd rfl (by first | exact .inl rfl | exact .inr rfl) (f_call (ok_law_pot G) (room.mono (by decide)) gd (by rfl) G.g_law_pot G.F_law_pot.kp G.b_law_pot (L2N.takes_of rfl rfl rfl rfl) (fa_cons (f_var 0) (fa_cons (f_var 2) fa_nil))))
    (fs_cons (fs_asg (f_call (ok_law_web G) (room.mono (by decide)) gd (by rfl) G.g_law_web G.F_law_web.kp G.b_law_web (L2N.takes_of rfl rfl rfl rfl) (fa_cons (f_var 3) (fa_cons f_int (fa_cons f_int fa_nil)))) (pg_tup (n := 3) rfl (pgs_cons (pg_name (i := 4) sc_law.nd rfl (by first | exact .inl rfl | exact .inr rfl)) (pgs_cons (pg_name (i := 5) sc_law.nd rfl (by first | exact .inl rfl | exact .inr rfl)) (pgs_cons (pg_name (i := 6) sc_law.nd rfl (by first | exact .inl rfl | exact .inr rfl)) pgs_nil)))) (g_tup (gs_cons g_name (gs_cons g_name (gs_cons g_name gs_nil)))))
    (fs_cons (fs_set (i := 7) sc_law.nd rfl (by first | exact .inl rfl | exact .inr rfl) (f_lst (m := false) (fa_cons (f_call (ok_law_web_text G) (room.mono (by decide)) gd (by rfl) G.g_law_web_text G.F_law_web_text.kp G.b_law_web_text (L2N.takes_of rfl rfl rfl rfl) (fa_cons (f_var 4) fa_nil)) (fa_cons (f_call (ok_law_trees_text G) (room.mono (by decide)) gd (by rfl) G.g_law_trees_text G.F_law_trees_text.kp G.b_law_trees_text (L2N.takes_of rfl rfl rfl rfl) (fa_cons (f_var 6) fa_nil)) fa_nil))))
    (fs_cons (fs_for (passes_of rfl) rfl (fi_range1 (by rfl) G.n_range (fa_cons f_int fa_nil) len1) (pg_name (i := 8) sc_law.nd rfl (by first | exact .inl rfl | exact .inr rfl)) g_name
    (fs_one (fs_if (ft_not (ft_val (f_call (ok_law_agrees G) (room.mono (by decide)) gd (by rfl) G.g_law_agrees G.F_law_agrees.kp G.b_law_agrees (L2N.takes_of rfl rfl rfl rfl) (fa_cons (f_call (ok_law_spoilt G) (room.mono (by decide)) gd (by rfl) G.g_law_spoilt G.F_law_spoilt.kp G.b_law_spoilt (L2N.takes_of rfl rfl rfl rfl) (fa_cons (f_var 3) (fa_cons (f_ix ix_seq k_ix (f_var 7) (f_call (ok_law_take G) (room.mono (by decide)) gd (by rfl) G.g_law_take G.F_law_take.kp G.b_law_take (L2N.takes_of rfl rfl rfl rfl) (fa_cons (f_var 3) (fa_cons f_int fa_nil)))) fa_nil))) fa_nil))))
    (fs_one (fs_ret f_bl))
    fs_nil)))
    (fs_one (fs_if (ft_bool (fw_or (ft_not (ft_val (f_call (ok_law_agrees G) (room.mono (by decide)) gd (by rfl) G.g_law_agrees G.F_law_agrees.kp G.b_law_agrees (L2N.takes_of rfl rfl rfl rfl) (fa_cons (f_ix ix_seq k_ix (f_var 7) f_int) fa_nil)))) (fw_or (ft_not (ft_val (f_call (ok_law_agrees G) (room.mono (by decide)) gd (by rfl) G.g_law_agrees G.F_law_agrees.kp G.b_law_agrees (L2N.takes_of rfl rfl rfl rfl) (fa_cons (f_ix ix_seq k_ix (f_var 7) f_int) fa_nil)))) (fw_one (ft_not (ft_val (f_call (ok_law_agrees G) (room.mono (by decide)) gd (by rfl) G.g_law_agrees G.F_law_agrees.kp G.b_law_agrees (L2N.takes_of rfl rfl rfl rfl) (fa_cons (f_ix ix_seq k_ix (f_var 1) (f_call (ok_law_take G) (room.mono (by decide)) gd (by rfl) G.g_law_take G.F_law_take.kp G.b_law_take (L2N.takes_of rfl rfl rfl rfl) (fa_cons (f_var 3) (fa_cons (f_callB cc_len k_len (by rfl) G.n_len bo_len (fa_cons (f_var 1) fa_nil)) fa_nil)))) fa_nil))))))))
    (fs_one (fs_ret f_bl))
    fs_nil)))))))
    (fs_one (fs_ret f_bl))))))))
  exact h
end
theorem mk_all {l : PySem.W.OpenLaw} {w : World} {K : PySem.W.Frag} {h : Heap} {mg : Str → Option Value} {fa : Addr} {n : Nat} (ht : ∀ ns : List Int, ns.length ≤ n → f_law [.scr ns] [] = .ok (.bl true) []) (X : K.In h) (G : h.Ns mainGlobals mg) (hfa : mg "law" = some (.ref fa))
    {f0 : Addr} {od0 an0 : Option Addr} {sl0 : Array (Option Value)} {oc0 kV0 dc0 pm0 cd0 ct0 : Value}
    (a0 : PySem.W.nsIn K mainGlobals "_law_at" = some (some (.ref f0))) (l0 : K.lookup f0 = some ⟨oc0, od0, .func (PySem.W.fnOf "_law_at" "_law_at" (defArgs s_law_at) (defBody s_law_at) (defScope s_law_at) .none kV0 dc0 pm0 an0 cd0 ct0), sl0⟩) (c0 : PySem.W.codeIn K cd0 "_law_at" = true) (k0 : PySem.W.keepIn K (.ref f0) = true)
    {f1 : Addr} {od1 an1 : Option Addr} {sl1 : Array (Option Value)} {oc1 kV1 dc1 pm1 cd1 ct1 : Value}
    (a1 : PySem.W.nsIn K mainGlobals "_law_pot" = some (some (.ref f1))) (l1 : K.lookup f1 = some ⟨oc1, od1, .func (PySem.W.fnOf "_law_pot" "_law_pot" (defArgs s_law_pot) (defBody s_law_pot) (defScope s_law_pot) .none kV1 dc1 pm1 an1 cd1 ct1), sl1⟩) (c1 : PySem.W.codeIn K cd1 "_law_pot" = true) (k1 : PySem.W.keepIn K (.ref f1) = true)
    {f2 : Addr} {od2 an2 : Option Addr} {sl2 : Array (Option Value)} {oc2 kV2 dc2 pm2 cd2 ct2 : Value}
    (a2 : PySem.W.nsIn K mainGlobals "_law_take" = some (some (.ref f2))) (l2 : K.lookup f2 = some ⟨oc2, od2, .func (PySem.W.fnOf "_law_take" "_law_take" (defArgs s_law_take) (defBody s_law_take) (defScope s_law_take) .none kV2 dc2 pm2 an2 cd2 ct2), sl2⟩) (c2 : PySem.W.codeIn K cd2 "_law_take" = true) (k2 : PySem.W.keepIn K (.ref f2) = true)
    {f3 : Addr} {od3 an3 : Option Addr} {sl3 : Array (Option Value)} {oc3 kV3 dc3 pm3 cd3 ct3 : Value}
    (a3 : PySem.W.nsIn K mainGlobals "_law_name" = some (some (.ref f3))) (l3 : K.lookup f3 = some ⟨oc3, od3, .func (PySem.W.fnOf "_law_name" "_law_name" (defArgs s_law_name) (defBody s_law_name) (defScope s_law_name) .none kV3 dc3 pm3 an3 cd3 ct3), sl3⟩) (c3 : PySem.W.codeIn K cd3 "_law_name" = true) (k3 : PySem.W.keepIn K (.ref f3) = true)
    {f4 : Addr} {od4 an4 : Option Addr} {sl4 : Array (Option Value)} {oc4 kV4 dc4 pm4 cd4 ct4 : Value}
    (a4 : PySem.W.nsIn K mainGlobals "_law_places" = some (some (.ref f4))) (l4 : K.lookup f4 = some ⟨oc4, od4, .func (PySem.W.fnOf "_law_places" "_law_places" (defArgs s_law_places) (defBody s_law_places) (defScope s_law_places) .none kV4 dc4 pm4 an4 cd4 ct4), sl4⟩) (c4 : PySem.W.codeIn K cd4 "_law_places" = true) (k4 : PySem.W.keepIn K (.ref f4) = true)
    {f5 : Addr} {od5 an5 : Option Addr} {sl5 : Array (Option Value)} {oc5 kV5 dc5 pm5 cd5 ct5 : Value}
    (a5 : PySem.W.nsIn K mainGlobals "_law_more" = some (some (.ref f5))) (l5 : K.lookup f5 = some ⟨oc5, od5, .func (PySem.W.fnOf "_law_more" "_law_more" (defArgs s_law_more) (defBody s_law_more) (defScope s_law_more) .none kV5 dc5 pm5 an5 cd5 ct5), sl5⟩) (c5 : PySem.W.codeIn K cd5 "_law_more" = true) (k5 : PySem.W.keepIn K (.ref f5) = true)
    {f6 : Addr} {od6 an6 : Option Addr} {sl6 : Array (Option Value)} {oc6 kV6 dc6 pm6 cd6 ct6 : Value}
    (a6 : PySem.W.nsIn K mainGlobals "_law_grown" = some (some (.ref f6))) (l6 : K.lookup f6 = some ⟨oc6, od6, .func (PySem.W.fnOf "_law_grown" "_law_grown" (defArgs s_law_grown) (defBody s_law_grown) (defScope s_law_grown) .none kV6 dc6 pm6 an6 cd6 ct6), sl6⟩) (c6 : PySem.W.codeIn K cd6 "_law_grown" = true) (k6 : PySem.W.keepIn K (.ref f6) = true)
    {f7 : Addr} {od7 an7 : Option Addr} {sl7 : Array (Option Value)} {oc7 kV7 dc7 pm7 cd7 ct7 : Value}
    (a7 : PySem.W.nsIn K mainGlobals "_law_web" = some (some (.ref f7))) (l7 : K.lookup f7 = some ⟨oc7, od7, .func (PySem.W.fnOf "_law_web" "_law_web" (defArgs s_law_web) (defBody s_law_web) (defScope s_law_web) .none kV7 dc7 pm7 an7 cd7 ct7), sl7⟩) (c7 : PySem.W.codeIn K cd7 "_law_web" = true) (k7 : PySem.W.keepIn K (.ref f7) = true)
    {f8 : Addr} {od8 an8 : Option Addr} {sl8 : Array (Option Value)} {oc8 kV8 dc8 pm8 cd8 ct8 : Value}
    (a8 : PySem.W.nsIn K mainGlobals "_law_web_text" = some (some (.ref f8))) (l8 : K.lookup f8 = some ⟨oc8, od8, .func (PySem.W.fnOf "_law_web_text" "_law_web_text" (defArgs s_law_web_text) (defBody s_law_web_text) (defScope s_law_web_text) .none kV8 dc8 pm8 an8 cd8 ct8), sl8⟩) (c8 : PySem.W.codeIn K cd8 "_law_web_text" = true) (k8 : PySem.W.keepIn K (.ref f8) = true)
    {f9 : Addr} {od9 an9 : Option Addr} {sl9 : Array (Option Value)} {oc9 kV9 dc9 pm9 cd9 ct9 : Value}
    (a9 : PySem.W.nsIn K mainGlobals "_law_trees_text" = some (some (.ref f9))) (l9 : K.lookup f9 = some ⟨oc9, od9, .func (PySem.W.fnOf "_law_trees_text" "_law_trees_text" (defArgs s_law_trees_text) (defBody s_law_trees_text) (defScope s_law_trees_text) .none kV9 dc9 pm9 an9 cd9 ct9), sl9⟩) (c9 : PySem.W.codeIn K cd9 "_law_trees_text" = true) (k9 : PySem.W.keepIn K (.ref f9) = true)
    {f10 : Addr} {od10 an10 : Option Addr} {sl10 : Array (Option Value)} {oc10 kV10 dc10 pm10 cd10 ct10 : Value}
    (a10 : PySem.W.nsIn K mainGlobals "lines_in" = some (some (.ref f10))) (l10 : K.lookup f10 = some ⟨oc10, od10, .func (PySem.W.fnOf "lines_in" "lines_in" (defArgs s_lines_in) (defBody s_lines_in) (defScope s_lines_in) .none kV10 dc10 pm10 an10 cd10 ct10), sl10⟩) (c10 : PySem.W.codeIn K cd10 "lines_in" = true) (k10 : PySem.W.keepIn K (.ref f10) = true)
    {f11 : Addr} {od11 an11 : Option Addr} {sl11 : Array (Option Value)} {oc11 kV11 dc11 pm11 cd11 ct11 : Value}
    (a11 : PySem.W.nsIn K mainGlobals "are_rising" = some (some (.ref f11))) (l11 : K.lookup f11 = some ⟨oc11, od11, .func (PySem.W.fnOf "are_rising" "are_rising" (defArgs s_are_rising) (defBody s_are_rising) (defScope s_are_rising) .none kV11 dc11 pm11 an11 cd11 ct11), sl11⟩) (c11 : PySem.W.codeIn K cd11 "are_rising" = true) (k11 : PySem.W.keepIn K (.ref f11) = true)
    {f12 : Addr} {od12 an12 : Option Addr} {sl12 : Array (Option Value)} {oc12 kV12 dc12 pm12 cd12 ct12 : Value}
    (a12 : PySem.W.nsIn K mainGlobals "is_name" = some (some (.ref f12))) (l12 : K.lookup f12 = some ⟨oc12, od12, .func (PySem.W.fnOf "is_name" "is_name" (defArgs s_is_name) (defBody s_is_name) (defScope s_is_name) .none kV12 dc12 pm12 an12 cd12 ct12), sl12⟩) (c12 : PySem.W.codeIn K cd12 "is_name" = true) (k12 : PySem.W.keepIn K (.ref f12) = true)
    {f13 : Addr} {od13 an13 : Option Addr} {sl13 : Array (Option Value)} {oc13 kV13 dc13 pm13 cd13 ct13 : Value}
    (a13 : PySem.W.nsIn K mainGlobals "are_names" = some (some (.ref f13))) (l13 : K.lookup f13 = some ⟨oc13, od13, .func (PySem.W.fnOf "are_names" "are_names" (defArgs s_are_names) (defBody s_are_names) (defScope s_are_names) .none kV13 dc13 pm13 an13 cd13 ct13), sl13⟩) (c13 : PySem.W.codeIn K cd13 "are_names" = true) (k13 : PySem.W.keepIn K (.ref f13) = true)
    {f14 : Addr} {od14 an14 : Option Addr} {sl14 : Array (Option Value)} {oc14 kV14 dc14 pm14 cd14 ct14 : Value}
    (a14 : PySem.W.nsIn K mainGlobals "is_tie" = some (some (.ref f14))) (l14 : K.lookup f14 = some ⟨oc14, od14, .func (PySem.W.fnOf "is_tie" "is_tie" (defArgs s_is_tie) (defBody s_is_tie) (defScope s_is_tie) .none kV14 dc14 pm14 an14 cd14 ct14), sl14⟩) (c14 : PySem.W.codeIn K cd14 "is_tie" = true) (k14 : PySem.W.keepIn K (.ref f14) = true)
    {f15 : Addr} {od15 an15 : Option Addr} {sl15 : Array (Option Value)} {oc15 kV15 dc15 pm15 cd15 ct15 : Value}
    (a15 : PySem.W.nsIn K mainGlobals "is_web" = some (some (.ref f15))) (l15 : K.lookup f15 = some ⟨oc15, od15, .func (PySem.W.fnOf "is_web" "is_web" (defArgs s_is_web) (defBody s_is_web) (defScope s_is_web) .none kV15 dc15 pm15 an15 cd15 ct15), sl15⟩) (c15 : PySem.W.codeIn K cd15 "is_web" = true) (k15 : PySem.W.keepIn K (.ref f15) = true)
    {f16 : Addr} {od16 an16 : Option Addr} {sl16 : Array (Option Value)} {oc16 kV16 dc16 pm16 cd16 ct16 : Value}
    (a16 : PySem.W.nsIn K mainGlobals "read_web" = some (some (.ref f16))) (l16 : K.lookup f16 = some ⟨oc16, od16, .func (PySem.W.fnOf "read_web" "read_web" (defArgs s_read_web) (defBody s_read_web) (defScope s_read_web) .none kV16 dc16 pm16 an16 cd16 ct16), sl16⟩) (c16 : PySem.W.codeIn K cd16 "read_web" = true) (k16 : PySem.W.keepIn K (.ref f16) = true)
    {f17 : Addr} {od17 an17 : Option Addr} {sl17 : Array (Option Value)} {oc17 kV17 dc17 pm17 cd17 ct17 : Value}
    (a17 : PySem.W.nsIn K mainGlobals "read_trees" = some (some (.ref f17))) (l17 : K.lookup f17 = some ⟨oc17, od17, .func (PySem.W.fnOf "read_trees" "read_trees" (defArgs s_read_trees) (defBody s_read_trees) (defScope s_read_trees) .none kV17 dc17 pm17 an17 cd17 ct17), sl17⟩) (c17 : PySem.W.codeIn K cd17 "read_trees" = true) (k17 : PySem.W.keepIn K (.ref f17) = true)
    {f18 : Addr} {od18 an18 : Option Addr} {sl18 : Array (Option Value)} {oc18 kV18 dc18 pm18 cd18 ct18 : Value}
    (a18 : PySem.W.nsIn K mainGlobals "_law_is_other" = some (some (.ref f18))) (l18 : K.lookup f18 = some ⟨oc18, od18, .func (PySem.W.fnOf "_law_is_other" "_law_is_other" (defArgs s_law_is_other) (defBody s_law_is_other) (defScope s_law_is_other) .none kV18 dc18 pm18 an18 cd18 ct18), sl18⟩) (c18 : PySem.W.codeIn K cd18 "_law_is_other" = true) (k18 : PySem.W.keepIn K (.ref f18) = true)
    {f19 : Addr} {od19 an19 : Option Addr} {sl19 : Array (Option Value)} {oc19 kV19 dc19 pm19 cd19 ct19 : Value}
    (a19 : PySem.W.nsIn K mainGlobals "_law_told" = some (some (.ref f19))) (l19 : K.lookup f19 = some ⟨oc19, od19, .func (PySem.W.fnOf "_law_told" "_law_told" (defArgs s_law_told) (defBody s_law_told) (defScope s_law_told) .none kV19 dc19 pm19 an19 cd19 ct19), sl19⟩) (c19 : PySem.W.codeIn K cd19 "_law_told" = true) (k19 : PySem.W.keepIn K (.ref f19) = true)
    {f20 : Addr} {od20 an20 : Option Addr} {sl20 : Array (Option Value)} {oc20 kV20 dc20 pm20 cd20 ct20 : Value}
    (a20 : PySem.W.nsIn K mainGlobals "_law_names" = some (some (.ref f20))) (l20 : K.lookup f20 = some ⟨oc20, od20, .func (PySem.W.fnOf "_law_names" "_law_names" (defArgs s_law_names) (defBody s_law_names) (defScope s_law_names) .none kV20 dc20 pm20 an20 cd20 ct20), sl20⟩) (c20 : PySem.W.codeIn K cd20 "_law_names" = true) (k20 : PySem.W.keepIn K (.ref f20) = true)
    {f21 : Addr} {od21 an21 : Option Addr} {sl21 : Array (Option Value)} {oc21 kV21 dc21 pm21 cd21 ct21 : Value}
    (a21 : PySem.W.nsIn K mainGlobals "_law_rows" = some (some (.ref f21))) (l21 : K.lookup f21 = some ⟨oc21, od21, .func (PySem.W.fnOf "_law_rows" "_law_rows" (defArgs s_law_rows) (defBody s_law_rows) (defScope s_law_rows) .none kV21 dc21 pm21 an21 cd21 ct21), sl21⟩) (c21 : PySem.W.codeIn K cd21 "_law_rows" = true) (k21 : PySem.W.keepIn K (.ref f21) = true)
    {f22 : Addr} {od22 an22 : Option Addr} {sl22 : Array (Option Value)} {oc22 kV22 dc22 pm22 cd22 ct22 : Value}
    (a22 : PySem.W.nsIn K mainGlobals "_law_web_of" = some (some (.ref f22))) (l22 : K.lookup f22 = some ⟨oc22, od22, .func (PySem.W.fnOf "_law_web_of" "_law_web_of" (defArgs s_law_web_of) (defBody s_law_web_of) (defScope s_law_web_of) .none kV22 dc22 pm22 an22 cd22 ct22), sl22⟩) (c22 : PySem.W.codeIn K cd22 "_law_web_of" = true) (k22 : PySem.W.keepIn K (.ref f22) = true)
    {f23 : Addr} {od23 an23 : Option Addr} {sl23 : Array (Option Value)} {oc23 kV23 dc23 pm23 cd23 ct23 : Value}
    (a23 : PySem.W.nsIn K mainGlobals "_law_agrees" = some (some (.ref f23))) (l23 : K.lookup f23 = some ⟨oc23, od23, .func (PySem.W.fnOf "_law_agrees" "_law_agrees" (defArgs s_law_agrees) (defBody s_law_agrees) (defScope s_law_agrees) .none kV23 dc23 pm23 an23 cd23 ct23), sl23⟩) (c23 : PySem.W.codeIn K cd23 "_law_agrees" = true) (k23 : PySem.W.keepIn K (.ref f23) = true)
    {f24 : Addr} {od24 an24 : Option Addr} {sl24 : Array (Option Value)} {oc24 kV24 dc24 pm24 cd24 ct24 : Value}
    (a24 : PySem.W.nsIn K mainGlobals "_law_sign_spoilt" = some (some (.ref f24))) (l24 : K.lookup f24 = some ⟨oc24, od24, .func (PySem.W.fnOf "_law_sign_spoilt" "_law_sign_spoilt" (defArgs s_law_sign_spoilt) (defBody s_law_sign_spoilt) (defScope s_law_sign_spoilt) .none kV24 dc24 pm24 an24 cd24 ct24), sl24⟩) (c24 : PySem.W.codeIn K cd24 "_law_sign_spoilt" = true) (k24 : PySem.W.keepIn K (.ref f24) = true)
    {f25 : Addr} {od25 an25 : Option Addr} {sl25 : Array (Option Value)} {oc25 kV25 dc25 pm25 cd25 ct25 : Value}
    (a25 : PySem.W.nsIn K mainGlobals "_law_lines_spoilt" = some (some (.ref f25))) (l25 : K.lookup f25 = some ⟨oc25, od25, .func (PySem.W.fnOf "_law_lines_spoilt" "_law_lines_spoilt" (defArgs s_law_lines_spoilt) (defBody s_law_lines_spoilt) (defScope s_law_lines_spoilt) .none kV25 dc25 pm25 an25 cd25 ct25), sl25⟩) (c25 : PySem.W.codeIn K cd25 "_law_lines_spoilt" = true) (k25 : PySem.W.keepIn K (.ref f25) = true)
    {f26 : Addr} {od26 an26 : Option Addr} {sl26 : Array (Option Value)} {oc26 kV26 dc26 pm26 cd26 ct26 : Value}
    (a26 : PySem.W.nsIn K mainGlobals "_law_spoilt" = some (some (.ref f26))) (l26 : K.lookup f26 = some ⟨oc26, od26, .func (PySem.W.fnOf "_law_spoilt" "_law_spoilt" (defArgs s_law_spoilt) (defBody s_law_spoilt) (defScope s_law_spoilt) .none kV26 dc26 pm26 an26 cd26 ct26), sl26⟩) (c26 : PySem.W.codeIn K cd26 "_law_spoilt" = true) (k26 : PySem.W.keepIn K (.ref f26) = true)
    {f27 : Addr} {od27 an27 : Option Addr} {sl27 : Array (Option Value)} {oc27 kV27 dc27 pm27 cd27 ct27 : Value}
    (a27 : PySem.W.nsIn K mainGlobals "law" = some (some (.ref f27))) (l27 : K.lookup f27 = some ⟨oc27, od27, .func (PySem.W.fnOf "law" "law" (defArgs s_law) (defBody s_law) (defScope s_law) .none kV27 dc27 pm27 an27 cd27 ct27), sl27⟩) (c27 : PySem.W.codeIn K cd27 "law" = true) (k27 : PySem.W.keepIn K (.ref f27) = true)
    {t0 : Nat} (u0 : PySem.W.nsIn K mainGlobals "LETTERS" = some (some (.str "abcdefghijklmnopqrstuvwxyz" t0)))
    {t1 : Nat} (u1 : PySem.W.nsIn K mainGlobals "MOST_LETTERS" = some (some (.int 8 t1)))
    {t2 : Nat} (u2 : PySem.W.nsIn K mainGlobals "PLACES" = some (some (.str "places" t2)))
    {t3 : Nat} (u3 : PySem.W.nsIn K mainGlobals "TIE" = some (some (.str "tie" t3)))
    {t4 : Nat} (u4 : PySem.W.nsIn K mainGlobals "TREE" = some (some (.str "tree" t4)))
    (z0 : PySem.W.nsIn K mainGlobals "ValueError" = some none)
    (z1 : PySem.W.nsIn K mainGlobals "all" = some none)
    (z2 : PySem.W.nsIn K mainGlobals "any" = some none)
    (z3 : PySem.W.nsIn K mainGlobals "int" = some none)
    (z4 : PySem.W.nsIn K mainGlobals "isinstance" = some none)
    (z5 : PySem.W.nsIn K mainGlobals "len" = some none)
    (z6 : PySem.W.nsIn K mainGlobals "list" = some none)
    (z7 : PySem.W.nsIn K mainGlobals "max" = some none)
    (z8 : PySem.W.nsIn K mainGlobals "min" = some none)
    (z9 : PySem.W.nsIn K mainGlobals "range" = some none)
    (z10 : PySem.W.nsIn K mainGlobals "set" = some none)
    (z11 : PySem.W.nsIn K mainGlobals "sorted" = some none)
    (z12 : PySem.W.nsIn K mainGlobals "str" = some none)
    (z13 : PySem.W.nsIn K mainGlobals "tuple" = some none)
    (z14 : PySem.W.nsIn K mainGlobals "zip" = some none)
    {x0 : Addr}
    {x1 : Addr}
    {x2 : Addr}
    {x3 : Addr}
    {x4 : Addr}
    {x5 : Addr}
    {x6 : Addr}
    {x7 : Addr}
    {x8 : Addr}
    {x9 : Addr}
    {x10 : Addr}
    {x11 : Addr}
    (xn0 : PySem.W.nsIn K mainGlobals "NoText" = some (some (.ref x0)))
    (xk0 : PySem.W.keepIn K (.ref x0) = true)
    (xb0 : PySem.W.subIn K (.ref x0) (.type "BaseException") = some true)
    (xt0 : PySem.W.typeIn K (.ref x0) = some (.type "type"))
    (xd0 : PySem.W.hasDictIn K x0 = true)
    (xn1 : PySem.W.nsIn K mainGlobals "RootError" = some (some (.ref x1)))
    (xk1 : PySem.W.keepIn K (.ref x1) = true)
    (xb1 : PySem.W.subIn K (.ref x1) (.type "BaseException") = some true)
    (xt1 : PySem.W.typeIn K (.ref x1) = some (.type "type"))
    (xd1 : PySem.W.hasDictIn K x1 = true)
    (xn2 : PySem.W.nsIn K mainGlobals "NoCosts" = some (some (.ref x2)))
    (xk2 : PySem.W.keepIn K (.ref x2) = true)
    (xb2 : PySem.W.subIn K (.ref x2) (.type "BaseException") = some true)
    (xt2 : PySem.W.typeIn K (.ref x2) = some (.type "type"))
    (xd2 : PySem.W.hasDictIn K x2 = true)
    (xn3 : PySem.W.nsIn K mainGlobals "NoLot" = some (some (.ref x3)))
    (xk3 : PySem.W.keepIn K (.ref x3) = true)
    (xb3 : PySem.W.subIn K (.ref x3) (.type "BaseException") = some true)
    (xt3 : PySem.W.typeIn K (.ref x3) = some (.type "type"))
    (xd3 : PySem.W.hasDictIn K x3 = true)
    (xn4 : PySem.W.nsIn K mainGlobals "NoNumber" = some (some (.ref x4)))
    (xk4 : PySem.W.keepIn K (.ref x4) = true)
    (xb4 : PySem.W.subIn K (.ref x4) (.type "BaseException") = some true)
    (xt4 : PySem.W.typeIn K (.ref x4) = some (.type "type"))
    (xd4 : PySem.W.hasDictIn K x4 = true)
    (xn5 : PySem.W.nsIn K mainGlobals "NoPlace" = some (some (.ref x5)))
    (xk5 : PySem.W.keepIn K (.ref x5) = true)
    (xb5 : PySem.W.subIn K (.ref x5) (.type "BaseException") = some true)
    (xt5 : PySem.W.typeIn K (.ref x5) = some (.type "type"))
    (xd5 : PySem.W.hasDictIn K x5 = true)
    (xn6 : PySem.W.nsIn K mainGlobals "NoRoots" = some (some (.ref x6)))
    (xk6 : PySem.W.keepIn K (.ref x6) = true)
    (xb6 : PySem.W.subIn K (.ref x6) (.type "BaseException") = some true)
    (xt6 : PySem.W.typeIn K (.ref x6) = some (.type "type"))
    (xd6 : PySem.W.hasDictIn K x6 = true)
    (xn7 : PySem.W.nsIn K mainGlobals "NoTie" = some (some (.ref x7)))
    (xk7 : PySem.W.keepIn K (.ref x7) = true)
    (xb7 : PySem.W.subIn K (.ref x7) (.type "BaseException") = some true)
    (xt7 : PySem.W.typeIn K (.ref x7) = some (.type "type"))
    (xd7 : PySem.W.hasDictIn K x7 = true)
    (xn8 : PySem.W.nsIn K mainGlobals "NoTree" = some (some (.ref x8)))
    (xk8 : PySem.W.keepIn K (.ref x8) = true)
    (xb8 : PySem.W.subIn K (.ref x8) (.type "BaseException") = some true)
    (xt8 : PySem.W.typeIn K (.ref x8) = some (.type "type"))
    (xd8 : PySem.W.hasDictIn K x8 = true)
    (xn9 : PySem.W.nsIn K mainGlobals "NoWeb" = some (some (.ref x9)))
    (xk9 : PySem.W.keepIn K (.ref x9) = true)
    (xb9 : PySem.W.subIn K (.ref x9) (.type "BaseException") = some true)
    (xt9 : PySem.W.typeIn K (.ref x9) = some (.type "type"))
    (xd9 : PySem.W.hasDictIn K x9 = true)
    (xn10 : PySem.W.nsIn K mainGlobals "TooFew" = some (some (.ref x10)))
    (xk10 : PySem.W.keepIn K (.ref x10) = true)
    (xb10 : PySem.W.subIn K (.ref x10) (.type "BaseException") = some true)
    (xt10 : PySem.W.typeIn K (.ref x10) = some (.type "type"))
    (xd10 : PySem.W.hasDictIn K x10 = true)
    (xn11 : PySem.W.nsIn K mainGlobals "TooMany" = some (some (.ref x11)))
    (xk11 : PySem.W.keepIn K (.ref x11) = true)
    (xb11 : PySem.W.subIn K (.ref x11) (.type "BaseException") = some true)
    (xt11 : PySem.W.typeIn K (.ref x11) = some (.type "type"))
    (xd11 : PySem.W.hasDictIn K x11 = true)
    (xq0 : PySem.W.excIn K x0 PySem.HandSPX.veTail "ValueError.__new__" = true)
    (ya0 : PySem.W.findIn K (.ref x0) "__getattribute__" = some (some (.builtin "BaseException.__getattribute__")))
    (yb0 : PySem.W.findIn K (.ref x0) "__getattr__" = some none)
    (yc0 : PySem.W.findIn K (.ref x0) "__class__" = some (some (.builtin "object.__class__")))
    (ym0 : PySem.W.mroIn K x0 (.type "object") = some true)
    (yv0 : PySem.W.subIn K (.ref x0) (.type "ValueError") = some true)
    (ys0 : PySem.W.subIn K (.ref x0) (.ref x0) = some true)
    (yp : PySem.W.specialIn K (.builtin "object.__class__") "__get__" = some (some (.builtin "getset_descriptor.__get__")))
    (yt : PySem.W.takesIn K (.builtin "object.__class__") = some true)
    (xx0_1 : PySem.W.subIn K (.ref x0) (.ref x1) = some true)
    (xx0_2 : PySem.W.subIn K (.ref x0) (.ref x2) = some false)
    (xx0_3 : PySem.W.subIn K (.ref x0) (.ref x3) = some false)
    (xx0_4 : PySem.W.subIn K (.ref x0) (.ref x4) = some false)
    (xx0_5 : PySem.W.subIn K (.ref x0) (.ref x5) = some false)
    (xx0_6 : PySem.W.subIn K (.ref x0) (.ref x6) = some false)
    (xx0_7 : PySem.W.subIn K (.ref x0) (.ref x7) = some false)
    (xx0_8 : PySem.W.subIn K (.ref x0) (.ref x8) = some false)
    (xx0_9 : PySem.W.subIn K (.ref x0) (.ref x9) = some false)
    (xx0_10 : PySem.W.subIn K (.ref x0) (.ref x10) = some false)
    (xx0_11 : PySem.W.subIn K (.ref x0) (.ref x11) = some false)
    (xx0_0 : PySem.W.subIn K (.ref x0) (.ref x0) = some true)
    : ∃ fd : FuncData, (∀ (s : Shared) (u : Value), BindsTo s fd ⟨[u], []⟩ [("_law_script", u)]) ∧ (∀ base : Heap, K.In base → base.Ns mainGlobals mg → FnG l.prog w K mg base 7 fa fd ["_law_script"] f_law) ∧ ∀ ns : List Int, ns.length ≤ n → f_law [.scr ns] [] = .ok (.bl true) [] := by
  have e := hfa.symm.trans (PySem.W.mg_of X G a27)
  cases e
  let Gx : Gs K mg := {
    n_ValueError := PySem.W.mg_none_of X G z0
    n_all := PySem.W.mg_none_of X G z1
    n_any := PySem.W.mg_none_of X G z2
    n_int := PySem.W.mg_none_of X G z3
    n_isinstance := PySem.W.mg_none_of X G z4
    n_len := PySem.W.mg_none_of X G z5
    n_list := PySem.W.mg_none_of X G z6
    n_max := PySem.W.mg_none_of X G z7
    n_min := PySem.W.mg_none_of X G z8
    n_range := PySem.W.mg_none_of X G z9
    n_set := PySem.W.mg_none_of X G z10
    n_sorted := PySem.W.mg_none_of X G z11
    n_str := PySem.W.mg_none_of X G z12
    n_tuple := PySem.W.mg_none_of X G z13
    n_zip := PySem.W.mg_none_of X G z14
    t_LETTERS := t0
    c_LETTERS := PySem.W.mg_of X G u0
    t_MOST_LETTERS := t1
    c_MOST_LETTERS := PySem.W.mg_of X G u1
    t_PLACES := t2
    c_PLACES := PySem.W.mg_of X G u2
    t_TIE := t3
    c_TIE := PySem.W.mg_of X G u3
    t_TREE := t4
    c_TREE := PySem.W.mg_of X G u4
    a_law_at := f0
    d_law_at := _
    F_law_at := fun_mk (st := s_law_at) l0 c0 k0
    g_law_at := PySem.W.mg_of X G a0
    b_law_at := (fun_mk (st := s_law_at) l0 c0 k0).binds (ps := ["_law_script", "_law_k"]) (fun _ _ _ _ _ _ us hl => match us, hl with | [_, _], _ => rfl)
    a_law_pot := f1
    d_law_pot := _
    F_law_pot := fun_mk (st := s_law_pot) l1 c1 k1
    g_law_pot := PySem.W.mg_of X G a1
    b_law_pot := (fun_mk (st := s_law_pot) l1 c1 k1).binds (ps := ["_law_script", "_law_k"]) (fun _ _ _ _ _ _ us hl => match us, hl with | [_, _], _ => rfl)
    a_law_take := f2
    d_law_take := _
    F_law_take := fun_mk (st := s_law_take) l2 c2 k2
    g_law_take := PySem.W.mg_of X G a2
    b_law_take := (fun_mk (st := s_law_take) l2 c2 k2).binds (ps := ["_law_pot_here", "_law_many"]) (fun _ _ _ _ _ _ us hl => match us, hl with | [_, _], _ => rfl)
    a_law_name := f3
    d_law_name := _
    F_law_name := fun_mk (st := s_law_name) l3 c3 k3
    g_law_name := PySem.W.mg_of X G a3
    b_law_name := (fun_mk (st := s_law_name) l3 c3 k3).binds (ps := ["_law_pot_here", "_law_taken"]) (fun _ _ _ _ _ _ us hl => match us, hl with | [_, _], _ => rfl)
    a_law_places := f4
    d_law_places := _
    F_law_places := fun_mk (st := s_law_places) l4 c4 k4
    g_law_places := PySem.W.mg_of X G a4
    b_law_places := (fun_mk (st := s_law_places) l4 c4 k4).binds (ps := ["_law_pot_here", "_law_most"]) (fun _ _ _ _ _ _ us hl => match us, hl with | [_, _], _ => rfl)
    a_law_more := f5
    d_law_more := _
    F_law_more := fun_mk (st := s_law_more) l5 c5 k5
    g_law_more := PySem.W.mg_of X G a5
    b_law_more := (fun_mk (st := s_law_more) l5 c5 k5).binds (ps := ["_law_pot_here", "_law_places_here", "_law_rows_here", "_law_taken", "_law_many"]) (fun _ _ _ _ _ _ us hl => match us, hl with | [_, _, _, _, _], _ => rfl)
    a_law_grown := f6
    d_law_grown := _
    F_law_grown := fun_mk (st := s_law_grown) l6 c6 k6
    g_law_grown := PySem.W.mg_of X G a6
    b_law_grown := (fun_mk (st := s_law_grown) l6 c6 k6).binds (ps := ["_law_pot_here", "_law_places_here", "_law_root", "_law_rows_here", "_law_taken"]) (fun _ _ _ _ _ _ us hl => match us, hl with | [_, _, _, _, _], _ => rfl)
    a_law_web := f7
    d_law_web := _
    F_law_web := fun_mk (st := s_law_web) l7 c7 k7
    g_law_web := PySem.W.mg_of X G a7
    b_law_web := (fun_mk (st := s_law_web) l7 c7 k7).binds (ps := ["_law_pot_here", "_law_most_places", "_law_most_more"]) (fun _ _ _ _ _ _ us hl => match us, hl with | [_, _, _], _ => rfl)
    a_law_web_text := f8
    d_law_web_text := _
    F_law_web_text := fun_mk (st := s_law_web_text) l8 c8 k8
    g_law_web_text := PySem.W.mg_of X G a8
    b_law_web_text := (fun_mk (st := s_law_web_text) l8 c8 k8).binds (ps := ["_law_web_here"]) (fun _ _ _ _ _ _ us hl => match us, hl with | [_], _ => rfl)
    a_law_trees_text := f9
    d_law_trees_text := _
    F_law_trees_text := fun_mk (st := s_law_trees_text) l9 c9 k9
    g_law_trees_text := PySem.W.mg_of X G a9
    b_law_trees_text := (fun_mk (st := s_law_trees_text) l9 c9 k9).binds (ps := ["_law_trees"]) (fun _ _ _ _ _ _ us hl => match us, hl with | [_], _ => rfl)
    a_lines_in := f10
    d_lines_in := _
    F_lines_in := fun_mk (st := s_lines_in) l10 c10 k10
    g_lines_in := PySem.W.mg_of X G a10
    b_lines_in := (fun_mk (st := s_lines_in) l10 c10 k10).binds (ps := ["text"]) (fun _ _ _ _ _ _ us hl => match us, hl with | [_], _ => rfl)
    a_are_rising := f11
    d_are_rising := _
    F_are_rising := fun_mk (st := s_are_rising) l11 c11 k11
    g_are_rising := PySem.W.mg_of X G a11
    b_are_rising := (fun_mk (st := s_are_rising) l11 c11 k11).binds (ps := ["names"]) (fun _ _ _ _ _ _ us hl => match us, hl with | [_], _ => rfl)
    a_is_name := f12
    d_is_name := _
    F_is_name := fun_mk (st := s_is_name) l12 c12 k12
    g_is_name := PySem.W.mg_of X G a12
    b_is_name := (fun_mk (st := s_is_name) l12 c12 k12).binds (ps := ["thing"]) (fun _ _ _ _ _ _ us hl => match us, hl with | [_], _ => rfl)
    a_are_names := f13
    d_are_names := _
    F_are_names := fun_mk (st := s_are_names) l13 c13 k13
    g_are_names := PySem.W.mg_of X G a13
    b_are_names := (fun_mk (st := s_are_names) l13 c13 k13).binds (ps := ["thing"]) (fun _ _ _ _ _ _ us hl => match us, hl with | [_], _ => rfl)
    a_is_tie := f14
    d_is_tie := _
    F_is_tie := fun_mk (st := s_is_tie) l14 c14 k14
    g_is_tie := PySem.W.mg_of X G a14
    b_is_tie := (fun_mk (st := s_is_tie) l14 c14 k14).binds (ps := ["places", "thing"]) (fun _ _ _ _ _ _ us hl => match us, hl with | [_, _], _ => rfl)
    a_is_web := f15
    d_is_web := _
    F_is_web := fun_mk (st := s_is_web) l15 c15 k15
    g_is_web := PySem.W.mg_of X G a15
    b_is_web := (fun_mk (st := s_is_web) l15 c15 k15).binds (ps := ["thing"]) (fun _ _ _ _ _ _ us hl => match us, hl with | [_], _ => rfl)
    a_read_web := f16
    d_read_web := _
    F_read_web := fun_mk (st := s_read_web) l16 c16 k16
    g_read_web := PySem.W.mg_of X G a16
    b_read_web := (fun_mk (st := s_read_web) l16 c16 k16).binds (ps := ["text"]) (fun _ _ _ _ _ _ us hl => match us, hl with | [_], _ => rfl)
    a_read_trees := f17
    d_read_trees := _
    F_read_trees := fun_mk (st := s_read_trees) l17 c17 k17
    g_read_trees := PySem.W.mg_of X G a17
    b_read_trees := (fun_mk (st := s_read_trees) l17 c17 k17).binds (ps := ["text"]) (fun _ _ _ _ _ _ us hl => match us, hl with | [_], _ => rfl)
    a_law_is_other := f18
    d_law_is_other := _
    F_law_is_other := fun_mk (st := s_law_is_other) l18 c18 k18
    g_law_is_other := PySem.W.mg_of X G a18
    b_law_is_other := (fun_mk (st := s_law_is_other) l18 c18 k18).binds (ps := ["_law_e"]) (fun _ _ _ _ _ _ us hl => match us, hl with | [_], _ => rfl)
    a_law_told := f19
    d_law_told := _
    F_law_told := fun_mk (st := s_law_told) l19 c19 k19
    g_law_told := PySem.W.mg_of X G a19
    b_law_told := (fun_mk (st := s_law_told) l19 c19 k19).binds (ps := ["_law_thing", "_law_wants_web"]) (fun _ _ _ _ _ _ us hl => match us, hl with | [_, _], _ => rfl)
    a_law_names := f20
    d_law_names := _
    F_law_names := fun_mk (st := s_law_names) l20 c20 k20
    g_law_names := PySem.W.mg_of X G a20
    b_law_names := (fun_mk (st := s_law_names) l20 c20 k20).binds (ps := ["_law_words"]) (fun _ _ _ _ _ _ us hl => match us, hl with | [_], _ => rfl)
    a_law_rows := f21
    d_law_rows := _
    F_law_rows := fun_mk (st := s_law_rows) l21 c21 k21
    g_law_rows := PySem.W.mg_of X G a21
    b_law_rows := (fun_mk (st := s_law_rows) l21 c21 k21).binds (ps := ["_law_thing", "_law_first"]) (fun _ _ _ _ _ _ us hl => match us, hl with | [_, _], _ => rfl)
    a_law_web_of := f22
    d_law_web_of := _
    F_law_web_of := fun_mk (st := s_law_web_of) l22 c22 k22
    g_law_web_of := PySem.W.mg_of X G a22
    b_law_web_of := (fun_mk (st := s_law_web_of) l22 c22 k22).binds (ps := ["_law_thing"]) (fun _ _ _ _ _ _ us hl => match us, hl with | [_], _ => rfl)
    a_law_agrees := f23
    d_law_agrees := _
    F_law_agrees := fun_mk (st := s_law_agrees) l23 c23 k23
    g_law_agrees := PySem.W.mg_of X G a23
    b_law_agrees := (fun_mk (st := s_law_agrees) l23 c23 k23).binds (ps := ["_law_thing"]) (fun _ _ _ _ _ _ us hl => match us, hl with | [_], _ => rfl)
    a_law_sign_spoilt := f24
    d_law_sign_spoilt := _
    F_law_sign_spoilt := fun_mk (st := s_law_sign_spoilt) l24 c24 k24
    g_law_sign_spoilt := PySem.W.mg_of X G a24
    b_law_sign_spoilt := (fun_mk (st := s_law_sign_spoilt) l24 c24 k24).binds (ps := ["_law_pot_here", "_law_text"]) (fun _ _ _ _ _ _ us hl => match us, hl with | [_, _], _ => rfl)
    a_law_lines_spoilt := f25
    d_law_lines_spoilt := _
    F_law_lines_spoilt := fun_mk (st := s_law_lines_spoilt) l25 c25 k25
    g_law_lines_spoilt := PySem.W.mg_of X G a25
    b_law_lines_spoilt := (fun_mk (st := s_law_lines_spoilt) l25 c25 k25).binds (ps := ["_law_pot_here", "_law_text"]) (fun _ _ _ _ _ _ us hl => match us, hl with | [_, _], _ => rfl)
    a_law_spoilt := f26
    d_law_spoilt := _
    F_law_spoilt := fun_mk (st := s_law_spoilt) l26 c26 k26
    g_law_spoilt := PySem.W.mg_of X G a26
    b_law_spoilt := (fun_mk (st := s_law_spoilt) l26 c26 k26).binds (ps := ["_law_pot_here", "_law_text"]) (fun _ _ _ _ _ _ us hl => match us, hl with | [_, _], _ => rfl)
    a_law := fa
    d_law := _
    F_law := fun_mk (st := s_law) l27 c27 k27
    g_law := PySem.W.mg_of X G a27
    b_law := (fun_mk (st := s_law) l27 c27 k27).binds (ps := ["_law_script"]) (fun _ _ _ _ _ _ us hl => match us, hl with | [_], _ => rfl)
    x_NoText := x0
    X_NoText := ⟨xn0, PySem.W.mg_of X G xn0, xk0, xb0, xt0⟩
    x_RootError := x1
    X_RootError := ⟨xn1, PySem.W.mg_of X G xn1, xk1, xb1, xt1⟩
    x_NoCosts := x2
    X_NoCosts := ⟨xn2, PySem.W.mg_of X G xn2, xk2, xb2, xt2⟩
    x_NoLot := x3
    X_NoLot := ⟨xn3, PySem.W.mg_of X G xn3, xk3, xb3, xt3⟩
    x_NoNumber := x4
    X_NoNumber := ⟨xn4, PySem.W.mg_of X G xn4, xk4, xb4, xt4⟩
    x_NoPlace := x5
    X_NoPlace := ⟨xn5, PySem.W.mg_of X G xn5, xk5, xb5, xt5⟩
    x_NoRoots := x6
    X_NoRoots := ⟨xn6, PySem.W.mg_of X G xn6, xk6, xb6, xt6⟩
    x_NoTie := x7
    X_NoTie := ⟨xn7, PySem.W.mg_of X G xn7, xk7, xb7, xt7⟩
    x_NoTree := x8
    X_NoTree := ⟨xn8, PySem.W.mg_of X G xn8, xk8, xb8, xt8⟩
    x_NoWeb := x9
    X_NoWeb := ⟨xn9, PySem.W.mg_of X G xn9, xk9, xb9, xt9⟩
    x_TooFew := x10
    X_TooFew := ⟨xn10, PySem.W.mg_of X G xn10, xk10, xb10, xt10⟩
    x_TooMany := x11
    X_TooMany := ⟨xn11, PySem.W.mg_of X G xn11, xk11, xb11, xt11⟩
    q_NoText := xq0
    askC := (askC_cons xn0 ⟨ya0, yb0, xb0, xd0, yc0, yp, yt, ym0⟩ askC_nil)
    u_RootError := (under_cons xb1 xd1 xt1 xn0 xx0_1 under_nil)
    k_NoCosts := (askT_cons xn0 (kit_ref xd2 xt2 ys0 xx0_2) askT_nil)
    k_NoLot := (askT_cons xn0 (kit_ref xd3 xt3 ys0 xx0_3) askT_nil)
    k_NoNumber := (askT_cons xn0 (kit_ref xd4 xt4 ys0 xx0_4) askT_nil)
    k_NoPlace := (askT_cons xn0 (kit_ref xd5 xt5 ys0 xx0_5) askT_nil)
    k_NoRoots := (askT_cons xn0 (kit_ref xd6 xt6 ys0 xx0_6) askT_nil)
    k_NoTie := (askT_cons xn0 (kit_ref xd7 xt7 ys0 xx0_7) askT_nil)
    k_NoTree := (askT_cons xn0 (kit_ref xd8 xt8 ys0 xx0_8) askT_nil)
    k_NoWeb := (askT_cons xn0 (kit_ref xd9 xt9 ys0 xx0_9) askT_nil)
    k_TooFew := (askT_cons xn0 (kit_ref xd10 xt10 ys0 xx0_10) askT_nil)
    k_TooMany := (askT_cons xn0 (kit_ref xd11 xt11 ys0 xx0_11) askT_nil)
    k_NoText := (askT_cons xn0 (kit_ref xd0 xt0 ys0 xx0_0) askT_nil)
    k_ValueError := (askT_cons xn0 (kit_ve yv0) askT_nil) }
  exact ⟨Gx.d_law, fun s v => .of_eq rfl, fun base _ _ => ok_law Gx, ht⟩

end FL

namespace FL
open PySem PySem.Spec PyProof.Rows L2
/-! ### names and webs: what the program's own looks say, of anything -/
def nameB (s : Str) : Bool := decide (1 ≤ s.length) && decide (s.length ≤ 8) && (cpl s).all fun c => decide (c ∈ cpl abc)
@[simp] theorem in_abc {S : Store} (c : Nat) : dIn false (.str ⟨#[c]⟩) (.str (Str.ofString "abcdefghijklmnopqrstuvwxyz")) S = .ok (.bl (decide (c ∈ cpl abc))) S := by
  show R.ok (D.bl (xor false (if (⟨#[c]⟩ : Str).length = 1 then decide ((⟨#[c]⟩ : Str).cps.getD 0 0 ∈ abc.cps.toList) else _))) S = _
  have h1 : ({ cps := #[c] } : Str).length = 1 := rfl
  rw [if_pos h1, Bool.false_xor]
  rfl
def isNameD : D → Bool
  | .str s => nameB s
  | _ => false
mutual
/-- plain things of no great size -/
def fine : D → Prop
  | .str s => s.length ≤ 16777216
  | .tup ds => ds.length ≤ 1000000 ∧ fines ds
  | .lst _ => True
  | .dct _ => True
  | .non => True
  | .bl _ => True
  | .int _ => True
  | .scr _ => True
  | _ => False
def fines : List D → Prop
  | [] => True
  | d :: ds => fine d ∧ fines ds
end
theorem fines_mem : ∀ {ds : List D}, fines ds → ∀ d ∈ ds, fine d
  | [], _, d, h => by simp at h
  | x :: ds, k, d, h => by
    rcases List.mem_cons.mp h with rfl | h
    · exact k.1
    · exact fines_mem k.2 d h
theorem fines_of : ∀ {ds : List D}, (∀ d ∈ ds, fine d) → fines ds
  | [], _ => trivial
  | x :: ds, k => ⟨k x List.mem_cons_self, fines_of fun d h => k d (List.mem_cons_of_mem _ h)⟩
theorem is_name_str {S : Store} {s : Str} (h : s.length ≤ 16777216) : f_is_name [.str s] S = .ok (.bl (nameB s)) S := by
  simp [u_is_name, b_is_name, isTy, h, cpl_length, nameB]
  rw [Bool.eq_iff_iff]
  simp only [Bool.and_eq_true, Bool.not_eq_true', decide_eq_true_eq, decide_eq_false_iff_not]
  constructor
  · rintro ⟨⟨h1, h2⟩, h3⟩
    exact ⟨⟨by omega, by omega⟩, h3⟩
  · rintro ⟨⟨h1, h2⟩, h3⟩
    exact ⟨⟨by omega, by omega⟩, h3⟩
theorem is_name_any {S : Store} {d : D} (h : fine d) : f_is_name [d] S = .ok (.bl (isNameD d)) S := by
  cases d with
  | str s => exact is_name_str h
  | ty n => exact h.elim
  | ref n => exact h.elim
  | exc _ _ => exact h.elim
  | _ => simp [u_is_name, b_is_name, isTy, isNameD]

def risingB (xs : List Str) : Bool := (xs.zip (tlL xs)).all fun p => ltB p.1 p.2
theorem rising_t {S : Store} {xs : List Str} (h : xs.length ≤ 1000000) : f_are_rising [.tup (xs.map .str)] S = .ok (.bl (risingB xs)) S := by
  have h2 : ¬ 16777217 < xs.length := by omega
  simp [u_are_rising, b_are_rising, h2, risingB]
theorem rising_l {S : Store} {xs : List Str} (h : xs.length ≤ 1000000) : f_are_rising [.lst (xs.map .str)] S = .ok (.bl (risingB xs)) S := by
  have h2 : ¬ 16777217 < xs.length := by omega
  simp [u_are_rising, b_are_rising, h2, risingB]
theorem names_of : ∀ {ds : List D}, ds.all isNameD = true → ∃ xs : List Str, ds = xs.map D.str ∧ ∀ x ∈ xs, nameB x = true
  | [], _ => ⟨[], rfl, fun x h => by simp at h⟩
  | d :: ds, h => by
    simp only [List.all_cons, Bool.and_eq_true] at h
    obtain ⟨xs, rfl, h2⟩ := names_of h.2
    cases d with
    | str s => exact ⟨s :: xs, rfl, fun x hx => by
        rcases List.mem_cons.mp hx with rfl | hx
        · exact h.1
        · exact h2 x hx⟩
    | _ => simp [isNameD] at h
def strsOf : List D → List Str
  | .str s :: r => s :: strsOf r
  | _ :: r => strsOf r
  | [] => []
@[simp] theorem strsOf_map (xs : List Str) : strsOf (xs.map D.str) = xs := by induction xs <;> simp_all [strsOf]
@[simp] theorem all_names (xs : List Str) : (xs.map D.str).all isNameD = xs.all nameB := by rw [List.all_map]; rfl
def areNamesD : D → Bool
  | .tup ds => ds.all isNameD && risingB (strsOf ds)
  | _ => false
theorem are_names_any {S : Store} {d : D} (h : fine d) : f_are_names [d] S = .ok (.bl (areNamesD d)) S := by
  cases d with
  | tup ds =>
    have hl := h.1
    have h2 : ds.length ≤ 16777216 := by omega
    have lc : lcM (fun d S => (f_is_name [d] S).noex.bind fun y S3 => R.ok (some y) S3) ds S = .ok (ds.map fun d => .bl (isNameD d)) S := lcM_map _ fun d hd => by simp [is_name_any (fines_mem h.2 d hd)]
    by_cases k : ds.all isNameD = true
    · obtain ⟨xs, rfl, h3⟩ := names_of k
      simp at hl h2
      have h4 : ∀ x ∈ xs, f_is_name [.str x] S = .ok (.bl true) S := fun x hx => by
        have := is_name_any (S := S) (fines_mem h.2 (.str x) (List.mem_map_of_mem hx))
        rwa [show isNameD (.str x) = true from h3 x hx] at this
      have lc : lcM (fun x S => (f_is_name [D.str x] S).noex.bind fun y S3 => R.ok (some y) S3) xs S = .ok (xs.map fun _ => .bl true) S := lcM_map _ fun x hx => by simp [-List.all_eq_true, -List.any_eq_true, -List.map_tail, -List.drop_one, -List.map_drop, -List.map_reverse, -List.map_map, -List.map_append, -List.map_take, -List.filterMap_map, -getElem?_pos, -Int.neg_ofNat_le_natCast, h4 x hx]
      have h5 : xs.all nameB = true := List.all_eq_true.mpr h3
      simp [-List.all_eq_true, -List.any_eq_true, -List.map_tail, -List.drop_one, -List.map_drop, -List.map_reverse, -List.map_map, -List.map_append, -List.map_take, -List.filterMap_map, -getElem?_pos, -Int.neg_ofNat_le_natCast, u_are_names, b_are_names, isTy, h2, lc, k, rising_t hl, areNamesD, h5]
    · simp [-List.all_eq_true, -List.any_eq_true, -List.map_tail, -List.drop_one, -List.map_drop, -List.map_reverse, -List.map_map, -List.map_append, -List.map_take, -List.filterMap_map, -getElem?_pos, -Int.neg_ofNat_le_natCast, u_are_names, b_are_names, isTy, h2, lc, k, areNamesD]
  | ty n => exact h.elim
  | ref n => exact h.elim
  | exc _ _ => exact h.elim
  | _ => simp [u_are_names, b_are_names, isTy, areNamesD]

/-- ties and webs, of anything -/
def isTieD (ns : List Str) : D → Bool
  | .tup [.str t, .str a, .str b] => nameB t && nameB a && nameB b && decide (a ∈ ns) && decide (b ∈ ns) && !decide (a = b)
  | _ => false
theorem isTieD_no {ns : List Str} {ds : List D} (h : ds.length = 3) (k : ¬ ds.all isNameD = true) : isTieD ns (.tup ds) = false := by
  unfold isTieD
  split
  · rename_i t a b e
    cases e
    simp [isNameD] at k
    simp
    grind
  · rfl
theorem isTieD_len {ns : List Str} {ds : List D} (h : ¬ ds.length = 3) : isTieD ns (.tup ds) = false := by
  unfold isTieD
  split
  · rename_i t a b e
    cases e
    exact absurd rfl h
  · rfl
theorem is_tie_any {S : Store} {ns : List Str} {d : D} (h : fine d) : f_is_tie [.tup (ns.map .str), d] S = .ok (.bl (isTieD ns d)) S := by
  cases d with
  | tup ds =>
    have hl := h.1
    have h2 : ds.length ≤ 16777216 := by omega
    have lc : lcM (fun d S => (f_is_name [d] S).noex.bind fun y S3 => R.ok (some y) S3) ds S = .ok (ds.map fun d => .bl (isNameD d)) S := lcM_map _ fun d hd => by simp [-List.all_eq_true, -List.any_eq_true, -List.map_tail, -List.drop_one, -List.map_drop, -List.map_reverse, -List.map_map, -List.map_append, -List.map_take, -List.filterMap_map, -getElem?_pos, -Int.neg_ofNat_le_natCast, is_name_any (fines_mem h.2 d hd)]
    by_cases h3 : ds.length = 3
    · have hno := isTieD_no (ns := ns) h3
      match ds, h3 with
      | [x, y, z], _ =>
        by_cases k : [x, y, z].all isNameD = true
        · obtain ⟨xs, e, h3⟩ := names_of k
          match xs, e with
          | [t, a, b], e =>
            cases e
            simp only [List.mem_cons, List.not_mem_nil, or_false, forall_eq_or_imp, forall_eq] at h3
            obtain ⟨k1, k2, k3⟩ := h3
            simp [-List.all_eq_true, -List.any_eq_true, -List.map_tail, -List.drop_one, -List.map_drop, -List.map_reverse, -List.map_map, -List.map_append, -List.map_take, -List.filterMap_map, -getElem?_pos, -Int.neg_ofNat_le_natCast, u_is_tie, b_is_tie, isTy, lc, isTieD, isNameD, k1, k2, k3, Bool.and_assoc]
        · rw [hno k]
          simp only [List.all_cons, List.all_nil, Bool.and_true, Bool.not_eq_true] at k
          simp [-List.all_eq_true, -List.any_eq_true, -List.map_tail, -List.drop_one, -List.map_drop, -List.map_reverse, -List.map_map, -List.map_append, -List.map_take, -List.filterMap_map, -getElem?_pos, -Int.neg_ofNat_le_natCast, u_is_tie, b_is_tie, isTy, lc, k]
    · rw [isTieD_len h3]
      have h4 : ¬ (ds.length : Int) = 3 := by omega
      simp [-List.all_eq_true, -List.any_eq_true, -List.map_tail, -List.drop_one, -List.map_drop, -List.map_reverse, -List.map_map, -List.map_append, -List.map_take, -List.filterMap_map, -getElem?_pos, -Int.neg_ofNat_le_natCast, u_is_tie, b_is_tie, isTy, h2, lc, h4]
  | ty n => exact h.elim
  | ref n => exact h.elim
  | exc _ _ => exact h.elim
  | _ => simp [-List.all_eq_true, -List.any_eq_true, -List.map_tail, -List.drop_one, -List.map_drop, -List.map_reverse, -List.map_map, -List.map_append, -List.map_take, -List.filterMap_map, -getElem?_pos, -Int.neg_ofNat_le_natCast, u_is_tie, b_is_tie, isTy, isTieD]

def firstOf : D → Str
  | .tup (.str t :: _) => t
  | _ => ""
def isWebD : D → Bool
  | .tup [ns, .tup rs] => areNamesD ns && match ns with
    | .tup ns => !ns.isEmpty && rs.all (isTieD (strsOf ns)) && risingB (rs.map firstOf)
    | _ => false
  | _ => false
theorem isTieD_row {ns : List Str} {d : D} (h : isTieD ns d = true) : ∃ t a b : Str, d = .tup [.str t, .str a, .str b] ∧ nameB t = true ∧ nameB a = true ∧ nameB b = true ∧ a ∈ ns ∧ b ∈ ns ∧ a ≠ b := by
  unfold isTieD at h
  split at h
  · rename_i t a b
    simp at h
    exact ⟨t, a, b, rfl, h.1.1.1.1.1, h.1.1.1.1.2, h.1.1.1.2, h.1.1.2, h.1.2, h.2⟩
  · cases h
theorem rows_of {ns : List Str} : ∀ {rs : List D}, rs.all (isTieD ns) = true → ∃ rows : List Row, rs = rows.map rw3 ∧ ∀ r ∈ rows, nameB r.1 = true ∧ r.2.1 ∈ ns ∧ r.2.2 ∈ ns ∧ r.2.1 ≠ r.2.2
  | [], _ => ⟨[], rfl, fun r h => by simp at h⟩
  | d :: rs, h => by
    simp only [List.all_cons, Bool.and_eq_true] at h
    obtain ⟨rows, rfl, h2⟩ := rows_of h.2
    obtain ⟨t, a, b, rfl, h3, h4, h5, h6⟩ := isTieD_row h.1
    exact ⟨(t, a, b) :: rows, rfl, fun r hr => by
      rcases List.mem_cons.mp hr with rfl | hr
      · exact ⟨h3, h6⟩
      · exact h2 r hr⟩

theorem isWebD_names {ns : List D} {r : D} (h : ¬ areNamesD (.tup ns) = true) : isWebD (.tup [.tup ns, r]) = false := by
  cases r <;> simp [isWebD, h]
theorem fine_name {s : Str} (h : nameB s = true) : fine (.str s) := by
  simp [nameB] at h
  show s.length ≤ 16777216
  omega
theorem is_web_any {S : Store} {d : D} (h : fine d) : f_is_web [d] S = .ok (.bl (isWebD d)) S := by
  cases d with
  | tup ds =>
    have hl := h.1
    by_cases h3 : ds.length = 2
    · match ds, h3 with
      | [x, y], _ =>
        have hx : fine x := fines_mem h.2 x (by simp)
        have hy : fine y := fines_mem h.2 y (by simp)
        by_cases k : areNamesD x = true
        · cases x with
          | tup ns =>
            obtain ⟨xs, rfl, h5⟩ := names_of (ds := ns) (by
              unfold areNamesD at k
              rw [Bool.and_eq_true] at k
              exact k.1)
            have e1 : f_are_names [.tup (xs.map .str)] S = .ok (.bl true) S := by rw [are_names_any hx, k]
            by_cases k0 : xs.isEmpty = true
            · simp [-List.all_eq_true, -List.any_eq_true, -List.map_tail, -List.drop_one, -List.map_drop, -List.map_reverse, -List.map_map, -List.map_append, -List.map_take, -List.filterMap_map, -getElem?_pos, -Int.neg_ofNat_le_natCast, u_is_web, b_is_web, isTy, e1, k0]
              cases y <;> simp [isWebD, k0]
            · cases y with
              | tup rs =>
                have hr := hy.1
                have hr2 : rs.length ≤ 16777216 := by omega
                have lc : lcM (fun d S => (f_is_tie [.tup (xs.map .str), d] S).noex.bind fun y S3 => R.ok (some y) S3) rs S = .ok (rs.map fun d => .bl (isTieD xs d)) S := lcM_map _ fun d hd => by simp [-List.all_eq_true, -List.any_eq_true, -List.map_tail, -List.drop_one, -List.map_drop, -List.map_reverse, -List.map_map, -List.map_append, -List.map_take, -List.filterMap_map, -getElem?_pos, -Int.neg_ofNat_le_natCast, is_tie_any (fines_mem hy.2 d hd)]
                by_cases k2 : rs.all (isTieD xs) = true
                · obtain ⟨rows, rfl, k3⟩ := rows_of k2
                  have k5 := k2
                  rw [List.all_map] at k5
                  have k5 : rows.all (fun x => isTieD xs (rw3 x)) = true := k5
                  simp at hr hr2
                  have k4 := rising_l (S := S) (xs := rows.map Prod.fst) (by simpa using hr)
                  have lc : lcM (fun d S => (f_is_tie [.tup (xs.map .str), rw3 d] S).noex.bind fun y S3 => R.ok (some y) S3) rows S = .ok (rows.map fun d => .bl (isTieD xs (rw3 d))) S := lcM_map _ fun d hd => by simp [-List.all_eq_true, -List.any_eq_true, -List.map_tail, -List.drop_one, -List.map_drop, -List.map_reverse, -List.map_map, -List.map_append, -List.map_take, -List.filterMap_map, -getElem?_pos, -Int.neg_ofNat_le_natCast, is_tie_any (fines_mem hy.2 (rw3 d) (List.mem_map_of_mem hd))]
                  simp [-List.all_eq_true, -List.any_eq_true, -List.map_tail, -List.drop_one, -List.map_drop, -List.map_reverse, -List.map_map, -List.map_append, -List.map_take, -List.filterMap_map, -getElem?_pos, -Int.neg_ofNat_le_natCast, u_is_web, b_is_web, isTy, e1, k, k0, lc, hr2, k4, k5, k2]
                  simp only [isWebD, k, strsOf_map, k2, List.isEmpty_map, k0, List.map_map]
                  rfl
                · simp [-List.all_eq_true, -List.any_eq_true, -List.map_tail, -List.drop_one, -List.map_drop, -List.map_reverse, -List.map_map, -List.map_append, -List.map_take, -List.filterMap_map, -getElem?_pos, -Int.neg_ofNat_le_natCast, u_is_web, b_is_web, isTy, e1, k0, lc, hr2, k2]
                  simp [isWebD, k2]
              | ty _ => exact hy.elim
              | ref _ => exact hy.elim
              | exc _ _ => exact hy.elim
              | _ => simp [-List.all_eq_true, -List.any_eq_true, -List.map_tail, -List.drop_one, -List.map_drop, -List.map_reverse, -List.map_map, -List.map_append, -List.map_take, -List.filterMap_map, -getElem?_pos, -Int.neg_ofNat_le_natCast, u_is_web, b_is_web, isTy, e1, k0, isWebD]
          | _ => simp [areNamesD] at k
        · simp [-List.all_eq_true, -List.any_eq_true, -List.map_tail, -List.drop_one, -List.map_drop, -List.map_reverse, -List.map_map, -List.map_append, -List.map_take, -List.filterMap_map, -getElem?_pos, -Int.neg_ofNat_le_natCast, u_is_web, b_is_web, isTy, are_names_any hx, k]
          cases x with
          | tup ns => rw [isWebD_names k]
          | _ => cases y <;> simp [isWebD, areNamesD]
    · have h4 : ¬ (ds.length : Int) = 2 := by omega
      simp [-List.all_eq_true, -List.any_eq_true, -List.map_tail, -List.drop_one, -List.map_drop, -List.map_reverse, -List.map_map, -List.map_append, -List.map_take, -List.filterMap_map, -getElem?_pos, -Int.neg_ofNat_le_natCast, u_is_web, b_is_web, isTy, h4]
      unfold isWebD
      split
      · rename_i e; cases e; exact absurd rfl h3
      · rfl
  | ty n => exact h.elim
  | ref n => exact h.elim
  | exc _ _ => exact h.elim
  | _ => simp [-List.all_eq_true, -List.any_eq_true, -List.map_tail, -List.drop_one, -List.map_drop, -List.map_reverse, -List.map_map, -List.map_append, -List.map_take, -List.filterMap_map, -getElem?_pos, -Int.neg_ofNat_le_natCast, u_is_web, b_is_web, isTy, isWebD]
/-! ### good webs -/
theorem nameB_iff {s : Str} : nameB s = true ↔ nameOk s := by
  unfold nameB nameOk lower
  simp only [Bool.and_eq_true, decide_eq_true_eq, List.all_eq_true, abc_mem, and_assoc]
theorem nameB_ok {s : Str} (h : nameOk s) : nameB s = true := nameB_iff.mpr h
theorem ltB_iff {a b : Str} : ltB a b = true ↔ ltS a b := by
  unfold ltB ltS
  exact decide_eq_true_iff
theorem ltS.trans {a b c : Str} (h : ltS a b) (k : ltS b c) : ltS a c := List.lt_trans h k
theorem ltS.irrefl {a : Str} (h : ltS a a) : False := List.lt_irrefl _ h
theorem rising_iff : ∀ {xs : List Str}, risingB xs = true ↔ xs.Pairwise ltS
  | [] => by simp [risingB]
  | [x] => by simp [risingB]
  | x :: y :: xs => by
    have ih := rising_iff (xs := y :: xs)
    have e : risingB (x :: y :: xs) = (ltB x y && risingB (y :: xs)) := rfl
    rw [e, Bool.and_eq_true, ltB_iff, ih, List.pairwise_cons (l := y :: xs)]
    constructor
    · rintro ⟨h1, h2⟩
      refine ⟨fun z hz => ?_, h2⟩
      rcases List.mem_cons.mp hz with rfl | hz
      · exact h1
      · exact h1.trans ((List.pairwise_cons.mp h2).1 z hz)
    · rintro ⟨h1, h2⟩
      exact ⟨h1 y List.mem_cons_self, h2⟩
theorem rise_nodup {xs : List Str} (h : xs.Pairwise ltS) : xs.Nodup := h.imp fun h e => by
  subst e
  exact h.irrefl
structure WebOk (ns : List Str) (rs : List Row) : Prop where
  ne : ns ≠ []
  rise : ns.Pairwise ltS
  nm : ∀ s ∈ ns, nameOk s
  len : ns.length ≤ 1000
  rrise : (rs.map Prod.fst).Pairwise ltS
  rlen : rs.length ≤ 1000
  row : ∀ r ∈ rs, nameOk r.1 ∧ r.2.1 ∈ ns ∧ r.2.2 ∈ ns ∧ r.2.1 ≠ r.2.2
theorem fine_name' {s : Str} (h : nameOk s) : fine (.str s) := fine_name (nameB_ok h)
theorem fine_strs {xs : List Str} (hl : xs.length ≤ 1000000) (h : ∀ s ∈ xs, nameOk s) : fine (.tup (xs.map .str)) := ⟨by simpa using hl, fines_of fun d hd => by
  obtain ⟨s, hs, rfl⟩ := List.mem_map.mp hd
  exact fine_name' (h s hs)⟩
theorem names_good {xs : List Str} (h : xs.Pairwise ltS) (hn : ∀ s ∈ xs, nameOk s) : areNamesD (.tup (xs.map .str)) = true := by
  have h1 : xs.all nameB = true := List.all_eq_true.mpr fun s hs => nameB_ok (hn s hs)
  simp only [areNamesD, all_names, strsOf_map, h1, rising_iff.mpr h, Bool.and_self]
theorem WebOk.good {ns : List Str} {rs : List Row} (W : WebOk ns rs) : isWebD (web ns rs) = true := by
  have h1 : ns.all nameB = true := List.all_eq_true.mpr fun s hs => nameB_ok (W.nm s hs)
  have h2 : (rs.map rw3).all (isTieD ns) = true := by
    rw [List.all_map, List.all_eq_true]
    intro r hr
    obtain ⟨a, b, c, d⟩ := W.row r hr
    show isTieD ns (rw3 r) = true
    simp [isTieD, rw3, nameB_ok a, nameB_ok (W.nm _ b), nameB_ok (W.nm _ c), b, c, d]
  have h3 : (rs.map rw3).map firstOf = rs.map Prod.fst := by rw [List.map_map]; rfl
  have h4 : ns.isEmpty = false := by simpa using W.ne
  simp only [isWebD, web, names_good W.rise W.nm, strsOf_map, h2, h3, rising_iff.mpr W.rrise, List.isEmpty_map, h4, Bool.and_self, Bool.not_false]
theorem WebOk.fine {ns : List Str} {rs : List Row} (W : WebOk ns rs) : fine (web ns rs) := by
  have h1 := W.len
  have h2 := W.rlen
  refine ⟨by simp, fine_strs (by omega) W.nm, ⟨by simp; omega, fines_of fun d hd => ?_⟩, trivial⟩
  obtain ⟨r, hr, rfl⟩ := List.mem_map.mp hd
  obtain ⟨a, b, c, _⟩ := W.row r hr
  exact ⟨by simp, fine_name' a, fine_name' (W.nm _ b), fine_name' (W.nm _ c), trivial⟩
theorem is_web_ok {S : Store} {ns : List Str} {rs : List Row} (W : WebOk ns rs) : f_is_web [web ns rs] S = .ok (.bl true) S := by rw [is_web_any W.fine, W.good]
def endsOf (rs : List Row) : List (Key × D) := rs.map fun r => (Sum.inr r.1, D.tup [.str r.2.1, .str r.2.2])
theorem endsOf_any {rs : List Row} {t : Str} (h : t ∉ rs.map Prod.fst) : ((endsOf rs).any fun kv => decide (kv.1 = Sum.inr t)) = false := by
  rw [List.any_eq_false]
  intro kv hkv
  obtain ⟨r, hr, rfl⟩ := List.mem_map.mp hkv
  have : r.1 ≠ t := fun e => h (e ▸ List.mem_map_of_mem hr)
  simp [this]
theorem endsOf_put {rs : List Row} {r : Row} (h : r.1 ∉ rs.map Prod.fst) : putD (endsOf rs) (.inr r.1) (.tup [.str r.2.1, .str r.2.2]) = endsOf (rs ++ [r]) := by
  unfold putD
  rw [endsOf_any h]
  simp [endsOf]
theorem endsOf_len (rs : List Row) : (endsOf rs).length = rs.length := by simp [endsOf]
theorem endsOf_low {n : Nat} (rs : List Row) : lowk n (endsOf rs) = true := by
  induction rs with
  | nil => rfl
  | cons r rs ih => show (low n (.tup [.str r.2.1, .str r.2.2]) && lowk n (endsOf rs)) = true; rw [ih]; rfl
theorem endsOf_val {rs : List Row} (hn : (rs.map Prod.fst).Nodup) {r : Row} (hr : r ∈ rs) : valD (endsOf rs) (.inr r.1) = some (.tup [.str r.2.1, .str r.2.2]) := by
  induction rs with
  | nil => simp at hr
  | cons x rs ih =>
    rw [List.map_cons, List.nodup_cons] at hn
    unfold valD at *
    rcases List.mem_cons.mp hr with rfl | hr
    · simp [endsOf]
    · have : x.1 ≠ r.1 := fun e => hn.1 (e ▸ List.mem_map_of_mem hr)
      have h2 := ih hn.2 hr
      simp only [endsOf, List.map_cons, List.find?_cons] at h2 ⊢
      rw [show decide ((Sum.inr x.1 : Key) = Sum.inr r.1) = false by simp [this]]
      exact h2
theorem endsOf_none {rs : List Row} {t : Str} (h : t ∉ rs.map Prod.fst) : valD (endsOf rs) (.inr t) = none := by
  unfold valD
  rw [Option.map_eq_none_iff, List.find?_eq_none]
  intro kv hkv
  obtain ⟨r, hr, rfl⟩ := List.mem_map.mp hkv
  have : r.1 ≠ t := fun e => h (e ▸ List.mem_map_of_mem hr)
  simp [this]
end FL

namespace FL
open PySem PySem.Spec PyProof.Rows L2
/-! ### the first maker of webs -/
theorem at_ok {S : Store} {ns : List Int} {k : Int} (h0 : 0 ≤ k) : ∃ c : Int, f_law_at [.scr ns, .int k] S = .ok (.int c) S := by
  by_cases c : k < (ns.length : Int)
  · exact ⟨_, by simp [-List.all_eq_true, -List.any_eq_true, -List.map_tail, -List.drop_one, -List.map_drop, -List.map_reverse, -List.map_map, -List.map_append, -List.map_take, -List.filterMap_map, -getElem?_pos, -Int.neg_ofNat_le_natCast, u_law_at, b_law_at, c, ixScr h0 (show k.toNat < ns.length by omega)]; rfl⟩
  · exact ⟨0, by simp [-List.all_eq_true, -List.any_eq_true, -List.map_tail, -List.drop_one, -List.map_drop, -List.map_reverse, -List.map_map, -List.map_append, -List.map_take, -List.filterMap_map, -getElem?_pos, -Int.neg_ofNat_le_natCast, u_law_at, b_law_at, c]⟩
theorem pot_wp {S : Store} {ns : List Int} {i : Int} {Q : D → Store → Prop} {X : Xc → Store → Prop} (h0 : 0 ≤ i) (k : ∀ a b, 0 ≤ a → 0 ≤ b → b < 2 ^ 62 → Q (.ref S.length) (S ++ [.lst [.int a, .int b]])) : @wp _ (f_law_pot [.scr ns, .int i] S) ⟨Q, X⟩ := by
  obtain ⟨c, hc⟩ := at_ok (S := S) (ns := ns) h0
  rw [u_law_pot, wp_gc]
  have hm : (-(2 ^ 64) < (48271 : Int) ∧ (48271 : Int) < 2 ^ 64) := by decide
  simp [-List.all_eq_true, -List.any_eq_true, -List.map_tail, -List.drop_one, -List.map_drop, -List.map_reverse, -List.map_map, -List.map_append, -List.map_take, -List.filterMap_map, -getElem?_pos, -Int.neg_ofNat_le_natCast, b_law_pot, hc, o_modI, o_mul (.inl hm)]
  rw [gcD_new ((KeepS.refl S).app _) (Nat.le_refl _) st_at0 (by rfl)]
  simp [-List.all_eq_true, -List.any_eq_true, -List.map_tail, -List.drop_one, -List.map_drop, -List.map_reverse, -List.map_map, -List.map_append, -List.map_take, -List.filterMap_map, -getElem?_pos, -Int.neg_ofNat_le_natCast]
  exact k _ _ (by omega) (by omega) (by omega)
theorem take_wp {S : Store} {p : Nat} {many : Int} {Q : D → Store → Prop} {X : Xc → Store → Prop} (hp : PotS S p) (h1 : 0 < many) (h2 : many < 1000000) (k : ∀ r S', Step p S S' → PotS S' p → 0 ≤ r → r < many → Q (.int r) S') : @wp _ (f_law_take [.ref p, .int many] S) ⟨Q, X⟩ := by
  have pl := hp.lt
  obtain ⟨a, b, h, ha, hb, hc⟩ := hp
  have fin : ∀ {r a' b' : Int}, 0 ≤ r → r < many → 0 ≤ a' → 0 ≤ b' → b' < 2 ^ 62 → @wp _ (gcD false S (.int r) (S.set p (.lst [.int a', .int b']))) ⟨Q, X⟩ := fun {r a' b'} r0 r1 a0 b0 b1 => by
    have st := Step.setPot pl a0 b0 b1
    exact wp_step st (by simp [-List.all_eq_true, -List.any_eq_true, -List.map_tail, -List.drop_one, -List.map_drop, -List.map_reverse, -List.map_map, -List.map_append, -List.map_take, -List.filterMap_map, -getElem?_pos, -Int.neg_ofNat_le_natCast]) (k r _ st st.pot r0 r1)
  rw [u_law_take, wp_gc]
  by_cases c : 0 < a
  · have e1 := Int.emod_nonneg a (show many ≠ 0 by omega)
    have e2 := Int.emod_lt_of_pos a h1
    have e3 := Int.ediv_nonneg ha (show 0 ≤ many by omega)
    simp [-List.all_eq_true, -List.any_eq_true, -List.map_tail, -List.drop_one, -List.map_drop, -List.map_reverse, -List.map_map, -List.map_append, -List.map_take, -List.filterMap_map, -getElem?_pos, -Int.neg_ofNat_le_natCast, b_law_take, h, c, o_modI h1, o_divI h1 (show many < 1073741824 by omega)]
    exact fin e1 e2 e3 hb hc
  · have m0 := Int.emod_nonneg (b * 39373 + 7919) (show (2147483629 : Int) ≠ 0 by decide)
    have m1 := Int.emod_lt_of_pos (b * 39373 + 7919) (show (0 : Int) < 2147483629 by decide)
    have hm : (-(2 ^ 64) < (39373 : Int) ∧ (39373 : Int) < 2 ^ 64) := by decide
    have hs : (S.set p (.lst [.int a, .int ((b * 39373 + 7919) % 2147483629)]))[p]? = some (.lst [.int a, .int ((b * 39373 + 7919) % 2147483629)]) := by rw [List.getElem?_set_self pl]
    generalize hx : (b * 39373 + 7919) % 2147483629 = x at *
    have hm2 : (-(2 ^ 64) < x ∧ x < 2 ^ 64) := by omega
    simp [-List.all_eq_true, -List.any_eq_true, -List.map_tail, -List.drop_one, -List.map_drop, -List.map_reverse, -List.map_map, -List.map_append, -List.map_take, -List.filterMap_map, -getElem?_pos, -Int.neg_ofNat_le_natCast, b_law_take, h, c, o_modI, o_divI, h1, o_mul (.inr hm), hx, hs, o_mul (.inl hm2)]
    exact fin (Int.emod_nonneg _ (by omega)) (Int.emod_lt_of_pos _ h1) ha m0 (by omega)
theorem take_wpE {S : Store} {p : Nat} {a0 b0 many : Int} {t : Store} {Q : D → Store → Prop} {X : Xc → Store → Prop} (hp : p < S.length) (ha : 0 ≤ a0) (hb : 0 ≤ b0) (hc : b0 < 2 ^ 62) (h1 : 0 < many) (h2 : many < 1000000) (k : ∀ r a b, 0 ≤ a → 0 ≤ b → b < 2 ^ 62 → 0 ≤ r → r < many → Q (.int r) (potAt S p a b ++ t)) : @wp _ (f_law_take [.ref p, .int many] (potAt S p a0 b0 ++ t)) ⟨Q, X⟩ := by
  refine take_wp (potAt_pot hp ha hb hc) h1 h2 fun r S' s' _ r0 r1 => ?_
  obtain ⟨a, b, h3, h4, h5, rfl⟩ := s'.isPotApp hp
  exact k r a b h3 h4 h5 r0 r1
theorem wp_lcMmap {α : Type} {b : α → Store → R (Option D)} (h : α → D) {xs : List α} {S : Store} {Q : List D → Store → Prop} {X : Xc → Store → Prop} (hs : ∀ x ∈ xs, @wp _ (b x S) ⟨(fun o S' => o = some (h x) ∧ S' = S), XF⟩) (k : Q (xs.map h) S) : @wp _ (lcM b xs S) ⟨Q, X⟩ :=
  wp.of_eq (lcM_map h fun x hx => wp.eq (hs x hx)) k
theorem wp_lcMfilt {α : Type} {b : α → Store → R (Option D)} (p : α → Bool) (h : α → D) {xs : List α} {S : Store} {Q : List D → Store → Prop} {X : Xc → Store → Prop} (hs : ∀ x ∈ xs, @wp _ (b x S) ⟨(fun o S' => o = (if p x = true then some (h x) else none) ∧ S' = S), XF⟩) (k : Q ((xs.filter p).map h) S) : @wp _ (lcM b xs S) ⟨Q, X⟩ := by
  refine wp.of_eq (lcM_of (fun x => if p x = true then some (h x) else none) fun x hx => wp.eq (hs x hx)) ?_
  have e : xs.filterMap (fun x => if p x = true then some (h x) else none) = (xs.filter p).map h := by
    clear hs k
    induction xs with
    | nil => rfl
    | cons x xs ih =>
      rw [List.filterMap_cons, List.filter_cons]
      by_cases c : p x = true
      · rw [if_pos c, if_pos c, List.map_cons, ih]
      · rw [if_neg c, if_neg c, ih]
  rw [e]
  exact k
theorem take_at' {α : Type} {xs : List α} {r : Int} (h0 : 0 ≤ r) (h1 : r < xs.length) : ∃ x, x ∈ xs ∧ xs[r.toNat]? = some x := ⟨xs[r.toNat]'(by omega), List.getElem_mem _, List.getElem?_eq_getElem _⟩
theorem ixs {α : Type} {f : α → D} {S : Store} {xs : List α} {r : Int} {x : α} (h0 : 0 ≤ r) (h : xs[r.toNat]? = some x) : dIx (.lst (xs.map f)) (.int r) S = .ok (f x) S := ix_lst h0 (by rw [List.getElem?_map, h]; rfl)
theorem ixsT {α : Type} {f : α → D} {S : Store} {xs : List α} {r : Int} {x : α} (h0 : 0 ≤ r) (h : xs[r.toNat]? = some x) : dIx (.tup (xs.map f)) (.int r) S = .ok (f x) S := ix_tup h0 (by rw [List.getElem?_map, h]; rfl)
theorem erase_map {α β : Type} (f : α → β) : ∀ (xs : List α) (i : Nat), (xs.map f).eraseIdx i = (xs.eraseIdx i).map f
  | [], _ => rfl
  | _ :: _, 0 => rfl
  | x :: xs, i + 1 => by simp [erase_map f xs i]
theorem nodup_erase {α : Type} : ∀ {xs : List α} {i : Nat}, xs.Nodup → (h : i < xs.length) → xs[i] ∉ xs.eraseIdx i
  | x :: xs, 0, hn, _ => by
    rw [List.nodup_cons] at hn
    exact hn.1
  | x :: xs, i + 1, hn, h => by
    rw [List.nodup_cons] at hn
    simp only [List.eraseIdx_cons_succ, List.getElem_cons_succ, List.mem_cons, not_or]
    exact ⟨fun e => hn.1 (e ▸ List.getElem_mem _), nodup_erase hn.2 (by simpa using h)⟩
theorem abc_at' {S : Store} {i : Int} (h0 : 0 ≤ i) (h1 : i < 26) : dIx (.str (Str.ofString "abcdefghijklmnopqrstuvwxyz")) (.int i) S = .ok (.str ⟨#[97 + i.toNat]⟩) S := abc_ix h0 h1
/-- single signs put together -/
theorem join_ones : ∀ {ys : List Str}, (∀ y ∈ ys, ∃ c, y = ⟨#[c]⟩ ∧ 97 ≤ c ∧ c ≤ 122) → (cpl (Txt.join "" ys)).length = ys.length ∧ lower (Txt.join "" ys) ∧ (ys.map Str.length).sum = ys.length := by
  intro ys h
  rw [cpl_join]
  have key : ∀ {ys : List Str}, (∀ y ∈ ys, ∃ c, y = ⟨#[c]⟩ ∧ 97 ≤ c ∧ c ≤ 122) → ((ys.map cpl).flatten).length = ys.length ∧ (∀ c ∈ (ys.map cpl).flatten, 97 ≤ c ∧ c ≤ 122) ∧ (ys.map Str.length).sum = ys.length := by
    intro ys h
    induction ys with
    | nil => exact ⟨rfl, fun c hc => by simp at hc, rfl⟩
    | cons y ys ih =>
      obtain ⟨c, rfl, h1⟩ := h y List.mem_cons_self
      obtain ⟨i1, i2, i3⟩ := ih fun z hz => h z (List.mem_cons_of_mem _ hz)
      refine ⟨?_, fun d hd => ?_, ?_⟩
      · rw [List.map_cons, List.flatten_cons, List.length_append, i1]
        show 1 + ys.length = _
        simp
        omega
      · rw [List.map_cons, List.flatten_cons, List.mem_append] at hd
        rcases hd with hd | hd
        · have : d = c := by simpa [cpl] using hd
          rw [this]; exact h1
        · exact i2 d hd
      · rw [List.map_cons, List.sum_cons, i3]
        show 1 + ys.length = _
        simp
        omega
  obtain ⟨k1, k2, k3⟩ := key h
  refine ⟨k1, fun c hc => ?_, k3⟩
  rw [cpl_join] at hc
  exact k2 c hc
/-- a name that is not taken: of a row of more different names than are taken -/
def alt (nm : Str) (k : Nat) : Str := cutS nm none (some 6) ++ ⟨#[97 + k / 26]⟩ ++ ⟨#[97 + k % 26]⟩
theorem alt_cpl (nm : Str) (k : Nat) : cpl (alt nm k) = cpl (cutS nm none (some 6)) ++ [97 + k / 26] ++ [97 + k % 26] := by
  unfold alt
  rw [cpl_append, cpl_append]
  rfl
theorem alt_inj {nm : Str} {i j : Nat} (h : alt nm i = alt nm j) : i = j := by
  have h1 : cpl (alt nm i) = cpl (alt nm j) := by rw [h]
  rw [alt_cpl, alt_cpl] at h1
  obtain ⟨h2, h3⟩ := List.append_inj' h1 rfl
  obtain ⟨_, h4⟩ := List.append_inj' h2 rfl
  have e1 := (List.cons.inj h3).1
  have e2 := (List.cons.inj h4).1
  omega
theorem cut6 (nm : Str) : (cutS nm none (some 6)).length ≤ 6 := by
  rw [← cpl_length, cpl_cut, List.length_take]
  have : HT.sIx nm.length nm.length (some 6) = min 6 nm.length := HT.sIx_nat nm.length nm.length 6
  rw [this]
  omega
theorem alt_ok {nm : Str} {k : Nat} (h : lower nm) (hk : k < 676) : nameOk (alt nm k) := by
  have hl : (alt nm k).length = (cutS nm none (some 6)).length + 2 := by rw [← cpl_length, alt_cpl, List.length_append, List.length_append, cpl_length]; rfl
  have := cut6 nm
  exact ⟨by omega, by omega, lower_append (lower_append (lower_cut h) (lower_one (by omega))) (lower_one (by omega))⟩
theorem alts_free {nm : Str} {tk : List Str} : ∃ s rest, (((List.range (tk.length + 1)).map (alt nm)).filter fun s => !decide (s ∈ tk)) = s :: rest ∧ s ∉ tk ∧ ∃ k, k < tk.length + 1 ∧ s = alt nm k := by
  cases q : (((List.range (tk.length + 1)).map (alt nm)).filter fun s => !decide (s ∈ tk)) with
  | nil =>
    have hn : ((List.range (tk.length + 1)).map (alt nm)).Nodup := by
      rw [List.Nodup, List.pairwise_map]
      exact (List.nodup_range (n := tk.length + 1)).imp fun h z => h (alt_inj z)
    have hs : ∀ x ∈ (List.range (tk.length + 1)).map (alt nm), x ∈ tk := fun x hx => by
      have := List.filter_eq_nil_iff.mp q x hx
      simpa using this
    have := nodup_sub hn hs
    rw [List.length_map, List.length_range] at this
    omega
  | cons s rest =>
    have hm : s ∈ (((List.range (tk.length + 1)).map (alt nm)).filter fun s => !decide (s ∈ tk)) := by rw [q]; exact List.mem_cons_self
    obtain ⟨h1, h2⟩ := List.mem_filter.mp hm
    obtain ⟨k, hk, rfl⟩ := List.mem_map.mp h1
    exact ⟨_, rest, rfl, by simpa using h2, k, List.mem_range.mp hk, rfl⟩
theorem name_tail {S S4 : Store} {p t : Nat} {tk : List Str} {n0 : Str} {z : Option D} {Q : D → Store → Prop} {X : Xc → Store → Prop} (hpt : p ≠ t) (ht : S[t]? = some (MO.lst (tk.map D.str))) (hl : tk.length ≤ 600) (st : Step p S S4) (h0 : nameOk n0)
    (k : ∀ s S4, Step p S S4 → s ∉ tk → nameOk s → Q (.str s) (S4.set t (.lst ((tk ++ [s]).map .str)))) :
    @wpS (((evSeq (evIfS (evT (ev2 (dIn false) (evVar 3) (evVar 1))) (evSeq (evSet 5 (evLc false [4] (evRange (evCons (ev2 (dAdd' false) (evN dLen (evCons (evVar 1) evNil)) (evC (.int 1))) evNil)) (evgName 4) evYes (ev2 (dAdd' false) (ev2 (dAdd' false) (evSl false (evVar 3) evNoP (evP (evC (.int 6)))) (ev2 dIx (evVar 2) (ev2 dDiv (evVar 4) (evC (.int 26))))) (ev2 dIx (evVar 2) (ev2 dMod (evVar 4) (evC (.int 26))))))) (evSet 3 (ev2 dIx (evLc false [6] (evIter (evVar 5)) (evgName 6) (evT (ev2 (dIn true) (evVar 6) (evVar 1))) (evVar 6)) (evC (.int 0))))) evNext) (evSeq (evDrop (evM "list" mAppend (evVar 1) (evCons (evVar 3) evNil))) (evRet (evVar 3))))) [some (.ref p), some (.ref t), some (.str (Str.ofString "abcdefghijklmnopqrstuvwxyz")), some (.str n0), z, none, none] S4) ⟨fun _ S' => @wp _ (gcD false S .non S') ⟨Q, X⟩, fun d S' => @wp _ (gcD false S d S') ⟨Q, X⟩, fun _ _ => False, fun _ _ => False, fun c e S' => @wp _ (gc false S (.ex c e S')) ⟨Q, X⟩⟩ := by
  have pl := st.pot.lt
  have tl : t < S.length := (List.getElem?_eq_some_iff.mp ht).1
  have h4 : S4[t]? = some (MO.lst (tk.map D.str)) := by rw [st.other t (fun e => hpt e.symm)]; exact ht
  have tk1 : tk.length ≤ 16777215 := by omega
  have fin : ∀ s, s ∉ tk → nameOk s → @wp _ (gcD false S (.str s) (S4.set t (.lst ((tk ++ [s]).map .str)))) ⟨Q, X⟩ := fun s hs ho => by
    refine wp_low ((st.grow.keeps).set t (by simp [-List.all_eq_true, -List.any_eq_true, -List.map_tail, -List.drop_one, -List.map_drop, -List.map_reverse, -List.map_map, -List.map_append, -List.map_take, -List.filterMap_map, -getElem?_pos, -Int.neg_ofNat_le_natCast, lowO])) (by simp [-List.all_eq_true, -List.any_eq_true, -List.map_tail, -List.drop_one, -List.map_drop, -List.map_reverse, -List.map_map, -List.map_append, -List.map_take, -List.filterMap_map, -getElem?_pos, -Int.neg_ofNat_le_natCast]) ?_
    have e : (S4.set t (.lst ((tk ++ [s]).map .str))).take S.length = S4.set t (.lst ((tk ++ [s]).map .str)) := List.take_of_length_le (by rw [List.length_set, st.len]; exact Nat.le_refl _)
    rw [e]
    exact k s S4 st hs ho
  by_cases c : n0 ∈ tk
  · have hz : n0.length ≤ 16777216 := by have := h0.2.1; omega
    have lc : lcM (fun x S => (dSl false (.str n0) none (some 6) S).noex.bind fun a S => (dDiv (.int x) (.int 26) S).noex.bind fun b S => (dIx (.str (Str.ofString "abcdefghijklmnopqrstuvwxyz")) b S).noex.bind fun b S => (dAdd' false a b S).noex.bind fun a S => (dMod (.int x) (.int 26) S).noex.bind fun b S => (dIx (.str (Str.ofString "abcdefghijklmnopqrstuvwxyz")) b S).noex.bind fun b S => (dAdd' false a b S).noex.bind fun y S => R.ok (some y) S) (rangeI 0 (tk.length + 1)) S4 = .ok ((rangeI 0 (tk.length + 1)).map fun x => .str (alt n0 x.toNat)) S4 := lcM_map _ fun x hx => by
      have hx := rangeI_mem.mp hx
      have e1 : 0 ≤ x / 26 := Int.ediv_nonneg hx.1 (by decide)
      have e2 : x / 26 < 26 := by omega
      have e3 := Int.emod_nonneg x (show (26 : Int) ≠ 0 by decide)
      have e4 := Int.emod_lt_of_pos x (show (0 : Int) < 26 by decide)
      have l6 := cut6 n0
      have a1 : ∀ {S : Store}, dAdd' false (.str (cutS n0 none (some 6))) (.str ⟨#[97 + (x / 26).toNat]⟩) S = .ok (.str (cutS n0 none (some 6) ++ ⟨#[97 + (x / 26).toNat]⟩)) S := fun {S} => addS (by
        show (cutS n0 none (some 6)).length + 1 ≤ _
        omega)
      have a2 : ∀ {S : Store}, dAdd' false (.str (cutS n0 none (some 6) ++ ⟨#[97 + (x / 26).toNat]⟩)) (.str ⟨#[97 + (x % 26).toNat]⟩) S = .ok (.str (cutS n0 none (some 6) ++ ⟨#[97 + (x / 26).toNat]⟩ ++ ⟨#[97 + (x % 26).toNat]⟩)) S := fun {S} => addS (by
        rw [strLen_append]
        show (cutS n0 none (some 6)).length + 1 + 1 ≤ _
        omega)
      have e5 : (x / 26).toNat = x.toNat / 26 := by omega
      have e6 : (x % 26).toNat = x.toNat % 26 := by omega
      simp [-List.all_eq_true, -List.any_eq_true, -List.map_tail, -List.drop_one, -List.map_drop, -List.map_reverse, -List.map_map, -List.map_append, -List.map_take, -List.filterMap_map, -getElem?_pos, -Int.neg_ofNat_le_natCast, sl_str hz, o_divI, o_modI, abc_at' e1 e2, abc_at' e3 e4, a1, a2]
      rw [alt, e5, e6]
    obtain ⟨s, rest, e, hs, j, hj, rfl⟩ := alts_free (nm := n0) (tk := tk)
    have el : ((rangeI 0 (tk.length + 1)).map fun x => D.str (alt n0 x.toNat)) = ((List.range (tk.length + 1)).map (alt n0)).map D.str := by
      unfold rangeI
      rw [List.map_map, List.map_map]
      have : ((tk.length : Int) + 1 - 0).toNat = tk.length + 1 := by omega
      rw [this]
      refine List.map_congr_left fun q _ => ?_
      show D.str (alt n0 (0 + (q : Int)).toNat) = D.str (alt n0 q)
      congr 2
      omega
    simp [-List.all_eq_true, -List.any_eq_true, -List.map_tail, -List.drop_one, -List.map_drop, -List.map_reverse, -List.map_map, -List.map_append, -List.map_take, -List.filterMap_map, -getElem?_pos, -Int.neg_ofNat_le_natCast, h4, c]
    refine ⟨by omega, ?_⟩
    rw [lc]
    have e' : (tk.map D.str).length = tk.length := by simp
    have hfl : (List.map (alt n0) (List.range (tk.length + 1))).length ≤ 16777216 := by simp; omega
    have h4' : ∀ x : Str, (if x ∈ tk then none else some (D.str x)) = if x ∈ tk then none else some (D.str x) := fun _ => rfl
    rw [el]
    have lc2 : lcM (fun x S => (onObj S[t]? (fun ds => dIn true (D.str (alt n0 x)) (D.lst ds) S) fun kvs => R.ok (D.bl (valD kvs (Sum.inr (alt n0 x))).isNone) S).noex.bind fun a S => (asB a S).noex.bind fun b S2 => R.ok (if b = true then some (D.str (alt n0 x)) else none) S2) (List.range (tk.length + 1)) S4 = .ok (((List.range (tk.length + 1)).filter fun x => !decide (alt n0 x ∈ tk)).map fun x => .str (alt n0 x)) S4 := by
      rw [lcM_of (fun x => if alt n0 x ∈ tk then none else some (D.str (alt n0 x))) fun x _ => by simp [-List.all_eq_true, -List.any_eq_true, -List.map_tail, -List.drop_one, -List.map_drop, -List.map_reverse, -List.map_map, -List.map_append, -List.map_take, -List.filterMap_map, -getElem?_pos, -Int.neg_ofNat_le_natCast, h4]]
      rw [fm_ite2]
    have e8 : (((List.range (tk.length + 1)).filter fun x => !decide (alt n0 x ∈ tk)).map fun x => D.str (alt n0 x)) = .str (alt n0 j) :: rest.map .str := by
      rw [List.filter_map] at e
      have e9 := congrArg (List.map D.str) e
      rw [List.map_map] at e9
      exact e9
    simp [-List.all_eq_true, -List.any_eq_true, -List.map_tail, -List.drop_one, -List.map_drop, -List.map_reverse, -List.map_map, -List.map_append, -List.map_take, -List.filterMap_map, -getElem?_pos, -Int.neg_ofNat_le_natCast, hfl, lc2, e8, h4, tk1]
    exact fin _ hs (alt_ok h0.2.2 (by omega))
  · simp [-List.all_eq_true, -List.any_eq_true, -List.map_tail, -List.drop_one, -List.map_drop, -List.map_reverse, -List.map_map, -List.map_append, -List.map_take, -List.filterMap_map, -getElem?_pos, -Int.neg_ofNat_le_natCast, h4, c, tk1]
    exact fin n0 c h0
theorem words_ok : ∀ s ∈ ["tie", "places", "tree", "ties", "place"].map Str.ofString, nameOk s := by
  intro s hs
  simp only [List.map_cons, List.map_nil, List.mem_cons, List.not_mem_nil, or_false] at hs
  have h : ∀ t : Str, nameB t = true → nameOk t := fun t => nameB_iff.mp
  rcases hs with rfl | rfl | rfl | rfl | rfl
  · exact h _ (by decide +kernel)
  · exact h _ (by decide +kernel)
  · exact h _ (by decide +kernel)
  · exact h _ (by decide +kernel)
  · exact h _ (by decide +kernel)
theorem name_wp {S : Store} {p t : Nat} {tk : List Str} {Q : D → Store → Prop} {X : Xc → Store → Prop} (hp : PotS S p) (hpt : p ≠ t) (ht : S[t]? = some (MO.lst (tk.map D.str))) (hl : tk.length ≤ 600)
    (k : ∀ s S4, Step p S S4 → s ∉ tk → nameOk s → Q (.str s) (S4.set t (.lst ((tk ++ [s]).map .str)))) : @wp _ (f_law_name [.ref p, .ref t] S) ⟨Q, X⟩ := by
  rw [u_law_name, wp_gc]
  simp [-List.all_eq_true, -List.any_eq_true, -List.map_tail, -List.drop_one, -List.map_drop, -List.map_reverse, -List.map_map, -List.map_append, -List.map_take, -List.filterMap_map, -getElem?_pos, -Int.neg_ofNat_le_natCast, b_law_name]
  refine take_wp hp (by omega) (by omega) fun r1 S1 s1 p1 r10 r11 => ?_
  simp [-List.all_eq_true, -List.any_eq_true, -List.map_tail, -List.drop_one, -List.map_drop, -List.map_reverse, -List.map_map, -List.map_append, -List.map_take, -List.filterMap_map, -getElem?_pos, -Int.neg_ofNat_le_natCast]
  refine take_wp p1 (by omega) (by omega) fun r2 S2 s2 p2 r20 r21 => ?_
  have hm : (-(2 ^ 64) < r1 ∧ r1 < 2 ^ 64) := by omega
  have hm8 : 1 ≤ 1 + r1 * r2 ∧ 1 + r1 * r2 ≤ 8 := by
    have : r1 = 0 ∨ r1 = 1 := by omega
    rcases this with rfl | rfl <;> omega
  simp [-List.all_eq_true, -List.any_eq_true, -List.map_tail, -List.drop_one, -List.map_drop, -List.map_reverse, -List.map_map, -List.map_append, -List.map_take, -List.filterMap_map, -getElem?_pos, -Int.neg_ofNat_le_natCast, o_mul (.inl hm)]
  generalize hmm : 1 + r1 * r2 = m at *
  refine ⟨by omega, by omega, ?_⟩
  refine wp_lcMall (f := D.str) (P := fun _ y => ∃ c, y = ⟨#[c]⟩ ∧ 97 ≤ c ∧ c ≤ 122) (I := fun S' => Step p S2 S') (Step.refl p2) (fun x hx S3 s3 => ?_) fun ys S3 s3 hy hys => ?_
  · simp [-List.all_eq_true, -List.any_eq_true, -List.map_tail, -List.drop_one, -List.map_drop, -List.map_reverse, -List.map_map, -List.map_append, -List.map_take, -List.filterMap_map, -getElem?_pos, -Int.neg_ofNat_le_natCast]
    refine take_wp s3.pot (by omega) (by omega) fun r3 S4 s4 p4 r30 r31 => ?_
    simp [-List.all_eq_true, -List.any_eq_true, -List.map_tail, -List.drop_one, -List.map_drop, -List.map_reverse, -List.map_map, -List.map_append, -List.map_take, -List.filterMap_map, -getElem?_pos, -Int.neg_ofNat_le_natCast, abc_at' r30 r31]
    exact ⟨s3.trans s4, by omega⟩
  have hys' : ∀ y ∈ ys, ∃ c, y = ⟨#[c]⟩ ∧ 97 ≤ c ∧ c ≤ 122 := fun y hm => by
    obtain ⟨i, hi, rfl⟩ := List.getElem_of_mem hm
    exact hys i _ _ (List.getElem?_eq_getElem (by rw [hy] at hi; exact hi)) (List.getElem?_eq_getElem hi)
  obtain ⟨j1, j2, j3⟩ := join_ones hys'
  have hyl : ys.length = m.toNat := by rw [hy]; simp
  have jo : mJoin (.str (Str.ofString "")) [.lst (ys.map .str)] S3 = .ok (.str (Txt.join "" ys)) S3 := join_ok rfl (by omega)
  rw [cpl_length] at j1
  have h0 : nameOk (Txt.join "" ys) := ⟨by omega, by omega, j2⟩
  have st := (s1.trans s2).trans s3
  simp [-List.all_eq_true, -List.any_eq_true, -List.map_tail, -List.drop_one, -List.map_drop, -List.map_reverse, -List.map_map, -List.map_append, -List.map_take, -List.filterMap_map, -getElem?_pos, -Int.neg_ofNat_le_natCast, jo]
  refine take_wp st.pot (by omega) (by omega) fun r5 S5 s5 p5 r50 r51 => ?_
  simp [-List.all_eq_true, -List.any_eq_true, -List.map_tail, -List.drop_one, -List.map_drop, -List.map_reverse, -List.map_map, -List.map_append, -List.map_take, -List.filterMap_map, -getElem?_pos, -Int.neg_ofNat_le_natCast]
  split
  · refine take_wp p5 (by omega) (by omega) fun r6 S6 s6 p6 r60 r61 => ?_
    obtain ⟨w, hw, ew⟩ := take_at' (xs := ["tie", "places", "tree", "ties", "place"].map Str.ofString) r60 (by simpa using r61)
    have iw := ixs (f := D.str) (S := S6) r60 ew
    have := name_tail (z := none) (Q := Q) (X := X) hpt ht hl ((st.trans s5).trans s6) (words_ok w hw) k
    simp only [List.map_cons, List.map_nil] at iw
    simp [-List.all_eq_true, -List.any_eq_true, -List.map_tail, -List.drop_one, -List.map_drop, -List.map_reverse, -List.map_map, -List.map_append, -List.map_take, -List.filterMap_map, -getElem?_pos, -Int.neg_ofNat_le_natCast, iw]
    simp [-List.all_eq_true, -List.any_eq_true, -List.map_tail, -List.drop_one, -List.map_drop, -List.map_reverse, -List.map_map, -List.map_append, -List.map_take, -List.filterMap_map, -getElem?_pos, -Int.neg_ofNat_le_natCast] at this
    exact this
  · have := name_tail (z := none) (Q := Q) (X := X) hpt ht hl (st.trans s5) h0 k
    simp [-List.all_eq_true, -List.any_eq_true, -List.map_tail, -List.drop_one, -List.map_drop, -List.map_reverse, -List.map_map, -List.map_append, -List.map_take, -List.filterMap_map, -getElem?_pos, -Int.neg_ofNat_le_natCast] at this
    exact this
/-- the pot, the rows, the names that are taken -/
def st3 (S : Store) (p r t : Nat) (a b : Int) (rs : List Row) (tk : List Str) : Store := ((S.set p (.lst [.int a, .int b])).set r (.lst (rs.map rw3))).set t (.lst (tk.map .str))
structure Pl (S : Store) (p r t : Nat) : Prop where
  pr : p ≠ r
  pt : p ≠ t
  rt : r ≠ t
  p : p < S.length
  r : r < S.length
  t : t < S.length
@[simp] theorem st3_len {S : Store} {p r t : Nat} {a b : Int} {rs : List Row} {tk : List Str} : (st3 S p r t a b rs tk).length = S.length := by simp [st3]
theorem st3_p {S : Store} {p r t : Nat} {a b : Int} {rs : List Row} {tk : List Str} {u : Store} (h : Pl S p r t) : (st3 S p r t a b rs tk ++ u)[p]? = some (.lst [.int a, .int b]) := by
  rw [st_old (by simpa using h.p)]
  unfold st3
  rw [List.getElem?_set_ne (fun e => h.pt e.symm), List.getElem?_set_ne (fun e => h.pr e.symm), List.getElem?_set_self h.p]
theorem st3_r {S : Store} {p r t : Nat} {a b : Int} {rs : List Row} {tk : List Str} {u : Store} (h : Pl S p r t) : (st3 S p r t a b rs tk ++ u)[r]? = some (.lst (rs.map rw3)) := by
  rw [st_old (by simpa using h.r)]
  unfold st3
  rw [List.getElem?_set_ne (fun e => h.rt e.symm), List.getElem?_set_self (by simpa using h.r)]
theorem st3_t {S : Store} {p r t : Nat} {a b : Int} {rs : List Row} {tk : List Str} {u : Store} (h : Pl S p r t) : (st3 S p r t a b rs tk ++ u)[t]? = some (.lst (tk.map .str)) := by
  rw [st_old (by simpa using h.t)]
  unfold st3
  rw [List.getElem?_set_self (by simpa using h.t)]
theorem st3_setp {S : Store} {p r t : Nat} {a b a' b' : Int} {rs : List Row} {tk : List Str} {u : Store} (h : Pl S p r t) : (st3 S p r t a b rs tk ++ u).set p (.lst [.int a', .int b']) = st3 S p r t a' b' rs tk ++ u := by
  rw [st_setold (by simpa using h.p)]
  unfold st3
  rw [List.set_comm _ _ (fun e => h.pt e.symm), List.set_comm _ _ (fun e => h.pr e.symm), List.set_set]
theorem st3_setr {S : Store} {p r t : Nat} {a b : Int} {rs rs' : List Row} {tk : List Str} {u : Store} (h : Pl S p r t) : (st3 S p r t a b rs tk ++ u).set r (.lst (rs'.map rw3)) = st3 S p r t a b rs' tk ++ u := by
  rw [st_setold (by simpa using h.r)]
  unfold st3
  rw [List.set_comm _ _ (fun e => h.rt e.symm), List.set_set]
theorem st3_sett {S : Store} {p r t : Nat} {a b : Int} {rs : List Row} {tk tk' : List Str} {u : Store} (h : Pl S p r t) : (st3 S p r t a b rs tk ++ u).set t (.lst (tk'.map .str)) = st3 S p r t a b rs tk' ++ u := by
  rw [st_setold (by simpa using h.t)]
  unfold st3
  rw [List.set_set]
theorem st3_pot {S : Store} {p r t : Nat} {a b : Int} {rs : List Row} {tk : List Str} {u : Store} (h : Pl S p r t) (ha : 0 ≤ a) (hb : 0 ≤ b) (hc : b < 2 ^ 62) : PotS (st3 S p r t a b rs tk ++ u) p := ⟨a, b, st3_p h, ha, hb, hc⟩
theorem st3_step {S S' : Store} {p r t : Nat} {a b : Int} {rs : List Row} {tk : List Str} {u : Store} (h : Pl S p r t) (s : Step p (st3 S p r t a b rs tk ++ u) S') : ∃ a b, 0 ≤ a ∧ 0 ≤ b ∧ b < 2 ^ 62 ∧ S' = st3 S p r t a b rs tk ++ u := by
  obtain ⟨a', b', h1, h2, h3, rfl⟩ := s.isPot
  exact ⟨a', b', h1, h2, h3, st3_setp h⟩
theorem take3 {S : Store} {p r t : Nat} {a0 b0 many : Int} {rs : List Row} {tk : List Str} {u : Store} {Q : D → Store → Prop} {X : Xc → Store → Prop} (h : Pl S p r t) (ha : 0 ≤ a0) (hb : 0 ≤ b0) (hc : b0 < 2 ^ 62) (h1 : 0 < many) (h2 : many < 1000000) (k : ∀ v a b, 0 ≤ a → 0 ≤ b → b < 2 ^ 62 → 0 ≤ v → v < many → Q (.int v) (st3 S p r t a b rs tk ++ u)) : @wp _ (f_law_take [.ref p, .int many] (st3 S p r t a0 b0 rs tk ++ u)) ⟨Q, X⟩ := by
  refine take_wp (st3_pot h ha hb hc) h1 h2 fun v S' s' _ r0 r1 => ?_
  obtain ⟨a, b, h3, h4, h5, rfl⟩ := st3_step h s'
  exact k v a b h3 h4 h5 r0 r1
theorem name3 {S : Store} {p r t : Nat} {a0 b0 : Int} {rs : List Row} {tk : List Str} {u : Store} {Q : D → Store → Prop} {X : Xc → Store → Prop} (h : Pl S p r t) (ha : 0 ≤ a0) (hb : 0 ≤ b0) (hc : b0 < 2 ^ 62) (hl : tk.length ≤ 600) (k : ∀ s a b, 0 ≤ a → 0 ≤ b → b < 2 ^ 62 → s ∉ tk → nameOk s → Q (.str s) (st3 S p r t a b rs (tk ++ [s]) ++ u)) : @wp _ (f_law_name [.ref p, .ref t] (st3 S p r t a0 b0 rs tk ++ u)) ⟨Q, X⟩ := by
  refine name_wp (st3_pot h ha hb hc) h.pt (st3_t h) hl fun s S4 s4 h6 h7 => ?_
  obtain ⟨a, b, h3, h4, h5, rfl⟩ := st3_step h s4
  rw [st3_sett h]
  exact k s a b h3 h4 h5 h6 h7
theorem st3_keeps {S : Store} {p r t : Nat} {a b : Int} {rs : List Row} {tk : List Str} {u : Store} : KeepS S (st3 S p r t a b rs tk ++ u) := ((((KeepS.refl S).set p (by rfl)).set r (by simp [-List.all_eq_true, -List.any_eq_true, -List.map_tail, -List.drop_one, -List.map_drop, -List.map_reverse, -List.map_map, -List.map_append, -List.map_take, -List.filterMap_map, -getElem?_pos, -Int.neg_ofNat_le_natCast, lowO])).set t (by simp [-List.all_eq_true, -List.any_eq_true, -List.map_tail, -List.drop_one, -List.map_drop, -List.map_reverse, -List.map_map, -List.map_append, -List.map_take, -List.filterMap_map, -getElem?_pos, -Int.neg_ofNat_le_natCast, lowO])).app u
theorem st3_keeps' {S : Store} {p r t : Nat} {a0 b0 a b : Int} {rs0 rs : List Row} {tk0 tk : List Str} {u : Store} (h : Pl S p r t) : KeepS (st3 S p r t a0 b0 rs0 tk0) (st3 S p r t a b rs tk ++ u) := by
  have h1 := st3_setp (u := []) (a := a0) (b := b0) (a' := a) (b' := b) (rs := rs0) (tk := tk0) h
  have h2 := st3_setr (u := []) (a := a) (b := b) (rs := rs0) (rs' := rs) (tk := tk0) h
  have h3 := st3_sett (u := []) (a := a) (b := b) (rs := rs) (tk := tk0) (tk' := tk) h
  simp only [List.append_nil] at h1 h2 h3
  rw [← h3, ← h2, ← h1]
  exact ((((KeepS.refl _).set p (by rfl)).set r (by simp [-List.all_eq_true, -List.any_eq_true, -List.map_tail, -List.drop_one, -List.map_drop, -List.map_reverse, -List.map_map, -List.map_append, -List.map_take, -List.filterMap_map, -getElem?_pos, -Int.neg_ofNat_le_natCast, lowO])).set t (by simp [-List.all_eq_true, -List.any_eq_true, -List.map_tail, -List.drop_one, -List.map_drop, -List.map_reverse, -List.map_map, -List.map_append, -List.map_take, -List.filterMap_map, -getElem?_pos, -Int.neg_ofNat_le_natCast, lowO])).app u
theorem filter_ne_len : ∀ {xs : List Str} {x : Str}, xs.Nodup → x ∈ xs → (xs.filter fun y => !decide (y = x)).length + 1 = xs.length
  | y :: ys, x, hn, hx => by
    rw [List.nodup_cons] at hn
    by_cases c : y = x
    · subst c
      have : ys.filter (fun z => !decide (z = y)) = ys := by
        rw [List.filter_eq_self]
        intro z hz
        have : z ≠ y := fun e => hn.1 (e ▸ hz)
        simp [this]
      simp [this]
    · have hx' : x ∈ ys := by
        rcases List.mem_cons.mp hx with e | hx
        · exact absurd e.symm c
        · exact hx
      have ih := filter_ne_len hn.2 hx'
      simp [c]
      exact ih
theorem row_app {xs : List Row} {a b c : Str} : xs.map rw3 ++ [D.tup [.str a, .str b, .str c]] = (xs ++ [(a, b, c)]).map rw3 := by rw [List.map_append]; rfl
/-- rows between places; their names -/
structure RowsOk (places : List Str) (rs : List Row) : Prop where
  nd : (rs.map Prod.fst).Nodup
  row : ∀ r ∈ rs, nameOk r.1 ∧ r.2.1 ∈ places ∧ r.2.2 ∈ places ∧ r.2.1 ≠ r.2.2
theorem RowsOk.add {places : List Str} {rs : List Row} (h : RowsOk places rs) {s a b : Str} (hs : s ∉ rs.map Prod.fst) (ho : nameOk s) (ha : a ∈ places) (hb : b ∈ places) (hab : a ≠ b) : RowsOk places (rs ++ [(s, a, b)]) := by
  refine ⟨?_, fun r hr => ?_⟩
  · rw [List.map_append, List.nodup_append]
    refine ⟨h.nd, by simp, fun x hx y hy e => ?_⟩
    simp at hy
    subst e hy
    exact hs hx
  · rcases List.mem_append.mp hr with hr | hr
    · exact h.row r hr
    · simp at hr
      subst hr
      exact ⟨ho, ha, hb, hab⟩
/-- rows in the order in which a tree grew from a root -/
inductive Grew (places : List Str) (root : Str) : List Row → Prop where
  | nil : Grew places root []
  | snoc {gs : List Row} {s a b : Str} : Grew places root gs → (a = root ∨ a ∈ gs.map fun r => r.2.2) → b ∈ places → b ≠ root → b ∉ (gs.map fun r => r.2.2) → Grew places root (gs ++ [(s, a, b)])
/-- a grown tree: its ties, sorted, of rows that grew, one to each place but the root -/
def IsGrown (places : List Str) (root : Str) (rs : List Row) (tree : List Str) : Prop := ∃ gs : List Row, Grew places root gs ∧ gs.length + 1 = places.length ∧ (∀ g ∈ gs, g ∈ rs) ∧ tree = (gs.map Prod.fst).mergeSort leS
theorem grown_wp {S : Store} {p r t : Nat} {places : List Str} {root : Str} {a0 b0 : Int} {rs0 : List Row} {Q : D → Store → Prop} {X : Xc → Store → Prop} (h : Pl S p r t) (ha : 0 ≤ a0) (hb : 0 ≤ b0) (hc : b0 < 2 ^ 62) (hnd : places.Nodup) (hl : places.length ≤ 20) (hroot : root ∈ places) (ho : RowsOk places rs0) (hrl : rs0.length ≤ 100)
    (k : ∀ tree rs a b, 0 ≤ a → 0 ≤ b → b < 2 ^ 62 → RowsOk places (rs0 ++ rs) → rs.length + 1 = places.length → IsGrown places root (rs0 ++ rs) tree → Q (.tup (tree.map .str)) (st3 S p r t a b (rs0 ++ rs) ((rs0 ++ rs).map Prod.fst))) :
    @wp _ (f_law_grown [.ref p, .lst (places.map .str), .str root, .ref r, .ref t] (st3 S p r t a0 b0 rs0 (rs0.map Prod.fst))) ⟨Q, X⟩ := by
  have hl2 : places.length ≤ 16777216 := by omega
  generalize hS3 : st3 S p r t a0 b0 rs0 (rs0.map Prod.fst) = S3
  rw [u_law_grown, wp_gc]
  simp [-List.all_eq_true, -List.any_eq_true, -List.map_tail, -List.drop_one, -List.map_drop, -List.map_reverse, -List.map_map, -List.map_append, -List.map_take, -List.filterMap_map, -getElem?_pos, -Int.neg_ofNat_le_natCast, b_law_grown, hl2]
  have S3l : S3.length = S.length := by rw [← hS3]; simp
  have fl : (places.filter fun x => !decide (x = root)).length + 1 = places.length := filter_ne_len hnd hroot
  refine wpS_while (fun n e S' => ∃ (a b : Int) (lf dn : List Str) (gs : List Row), 0 ≤ a ∧ 0 ≤ b ∧ b < 2 ^ 62 ∧ S' = st3 S p r t a b (rs0 ++ gs) ((rs0 ++ gs).map Prod.fst) ++ [.lst (dn.map .str), .lst (lf.map .str), .lst ((gs.map Prod.fst).map .str)] ∧ n = lf.length ∧ lf.length + dn.length = places.length ∧ (∀ x ∈ lf, x ∈ places ∧ x ∉ dn) ∧ lf.Nodup ∧ (∀ x ∈ dn, x ∈ places) ∧ dn = root :: gs.map (fun r => r.2.2) ∧ RowsOk places (rs0 ++ gs) ∧ Grew places root gs ∧
    ∃ z1, e = [some (.ref p), some (.lst (places.map .str)), some (.str root), some (.ref r), some (.ref t), some (.ref S.length), some (.ref (S.length + 1)), none, some (.ref (S.length + 2)), z1]) (n := (places.filter fun x => !decide (x = root)).length) ?_ ?_
  · refine ⟨a0, b0, places.filter fun x => !decide (x = root), [root], [], ha, hb, hc, ?_, rfl, by simp; omega, fun x hx => ?_, hnd.filter _, by simpa using hroot, rfl, by simpa using ho, .nil, ?_⟩
    · rw [← hS3]
      simp
    · have := List.mem_filter.mp hx
      exact ⟨this.1, by simpa using this.2⟩
    · rw [S3l]
      exact ⟨_, rfl⟩
  · rintro n e S1 ⟨a, b, lf, dn, gs, j1, j2, j3, rfl, rfl, j4, j5, j6, j7, j8, j9, j10, z1, rfl⟩
    simp [-List.all_eq_true, -List.any_eq_true, -List.map_tail, -List.drop_one, -List.map_drop, -List.map_reverse, -List.map_map, -List.map_append, -List.map_take, -List.filterMap_map, -getElem?_pos, -Int.neg_ofNat_le_natCast, sa0, sa1, sa2, sa3, ss0, ss1, ss2, ss3, stake, S3l]
    split
    · rename_i he
      subst he
      have e1 : (st3 S p r t a b (rs0 ++ gs) ((rs0 ++ gs).map Prod.fst) ++ [MO.lst (dn.map .str), MO.lst (([] : List Str).map .str), MO.lst ((gs.map Prod.fst).map .str)]).take S3.length = st3 S p r t a b (rs0 ++ gs) ((rs0 ++ gs).map Prod.fst) := stake (by simp [S3l])
      refine wp_low (by rw [← hS3]; exact st3_keeps' h) (by simp [-List.all_eq_true, -List.any_eq_true, -List.map_tail, -List.drop_one, -List.map_drop, -List.map_reverse, -List.map_map, -List.map_append, -List.map_take, -List.filterMap_map, -getElem?_pos, -Int.neg_ofNat_le_natCast]) ?_
      rw [e1]
      have hg : gs.length + 1 = places.length := by
        rw [j8] at j4
        simp at j4
        omega
      exact k _ gs a b j1 j2 j3 j9 hg ⟨gs, j10, hg, fun g hg => List.mem_append_right _ hg, rfl⟩
    · rename_i hne
      have q2 : 0 < lf.length := List.length_pos_iff.mpr hne
      have dl : dn.length = gs.length + 1 := by rw [j8]; simp
      refine take3 h j1 j2 j3 (by omega) (by omega) fun v a1 b1 k1 k2 k3 v0 v1 => ?_
      obtain ⟨g, hg, eg⟩ := take_at' v0 v1
      have lg : v.toNat < lf.length := by omega
      simp [-List.all_eq_true, -List.any_eq_true, -List.map_tail, -List.drop_one, -List.map_drop, -List.map_reverse, -List.map_map, -List.map_append, -List.map_take, -List.filterMap_map, -getElem?_pos, -Int.neg_ofNat_le_natCast, sa0, sa1, sa2, sa3, ss0, ss1, ss2, ss3, stake, S3l, popAt_ok' v0 (show v < 2 ^ 63 by omega) (show (lf.map D.str)[v.toNat]? = some (.str g) by rw [List.getElem?_map, eg]; rfl), erase_map, st3_r h]
      refine name3 h k1 k2 k3 (by rw [List.length_map, List.length_append]; omega) fun s a2 b2 l1 l2 l3 hs hno => ?_
      simp [-List.all_eq_true, -List.any_eq_true, -List.map_tail, -List.drop_one, -List.map_drop, -List.map_reverse, -List.map_map, -List.map_append, -List.map_take, -List.filterMap_map, -getElem?_pos, -Int.neg_ofNat_le_natCast, sa0, sa1, sa2, sa3, ss0, ss1, ss2, ss3, stake, S3l]
      refine take3 h l1 l2 l3 (by omega) (by omega) fun w a3 b3 m1 m2 m3 w0 w1 => ?_
      obtain ⟨x, hx, ex⟩ := take_at' w0 w1
      have q3 : (rs0 ++ gs).length ≤ 16777215 := by rw [List.length_append]; omega
      have q4 : gs.length ≤ 16777215 := by omega
      have q5 : dn.length ≤ 16777215 := by omega
      have e3 : ((rs0 ++ gs).map rw3 ++ [D.tup [.str s, .str x, .str g]]) = ((rs0 ++ gs) ++ [(s, x, g)]).map rw3 := row_app
      have gx : g ≠ x := fun e => (j5 g hg).2 (e ▸ hx)
      have q6 : rs0.length + gs.length ≤ 16777215 := by omega
      have q7 : (gs.map Prod.fst).map D.str ++ [D.str s] = ((gs ++ [(s, x, g)]).map Prod.fst).map D.str := by rw [List.map_append, List.map_append]; rfl
      simp [-List.all_eq_true, -List.any_eq_true, -List.map_tail, -List.drop_one, -List.map_drop, -List.map_reverse, -List.map_map, -List.map_append, -List.map_take, -List.filterMap_map, -getElem?_pos, -Int.neg_ofNat_le_natCast, sa0, sa1, sa2, sa3, ss0, ss1, ss2, ss3, stake, S3l, ixs w0 ex, st3_r h, st3_setr h, q6, e3, o_last, o_last2, q4, q5, q7]
      have q8 : (lf.eraseIdx v.toNat).length = lf.length - 1 := List.length_eraseIdx_of_lt lg
      have hxs : x = root ∨ x ∈ gs.map fun r => r.2.2 := by
        rw [j8] at hx
        exact List.mem_cons.mp hx
      have gn := (j5 g hg).2
      rw [j8, List.mem_cons, not_or] at gn
      refine ⟨_, by rw [q8]; omega, a3, m1, b3, m2, by omega, lf.eraseIdx v.toNat, dn ++ [g], gs ++ [(s, x, g)], ?_, rfl, ?_, fun z hz => ?_, j6.eraseIdx _, fun z hz => ?_, ?_, ?_, j10.snoc hxs (j5 g hg).1 gn.1 gn.2⟩
      · rw [← List.append_assoc, List.map_append (l₁ := rs0 ++ gs)]
        rfl
      · rw [q8, List.length_append]
        simp only [List.length_cons, List.length_nil]
        omega
      · have hz' := List.mem_of_mem_eraseIdx hz
        refine ⟨(j5 z hz').1, fun hm => ?_⟩
        rcases List.mem_append.mp hm with hm | hm
        · exact (j5 z hz').2 hm
        · simp at hm
          subst hm
          rw [List.getElem?_eq_getElem lg] at eg
          cases eg
          exact absurd hz (nodup_erase j6 lg)
      · rcases List.mem_append.mp hz with hz | hz
        · exact j7 z hz
        · simp at hz
          subst hz
          exact (j5 z hg).1
      · rw [j8, List.map_append]
        rfl
      · rw [← List.append_assoc]
        exact j9.add hs hno (j7 x hx) (j5 g hg).1 (fun e => gx e.symm)
theorem more_wp {S : Store} {p r t : Nat} {places : List Str} {a0 b0 many : Int} {rs0 : List Row} {Q : D → Store → Prop} {X : Xc → Store → Prop} (h : Pl S p r t) (ha : 0 ≤ a0) (hb : 0 ≤ b0) (hc : b0 < 2 ^ 62) (hnd : places.Nodup) (hl : places.length ≤ 20) (ho : RowsOk places rs0) (hrl : rs0.length ≤ 100) (m0 : 0 ≤ many) (m1 : many ≤ 100)
    (k : ∀ rs a b, 0 ≤ a → 0 ≤ b → b < 2 ^ 62 → RowsOk places (rs0 ++ rs) → (rs.length : Int) ≤ many → Q .non (st3 S p r t a b (rs0 ++ rs) ((rs0 ++ rs).map Prod.fst))) :
    @wp _ (f_law_more [.ref p, .lst (places.map .str), .ref r, .ref t, .int many] (st3 S p r t a0 b0 rs0 (rs0.map Prod.fst))) ⟨Q, X⟩ := by
  generalize hS3 : st3 S p r t a0 b0 rs0 (rs0.map Prod.fst) = S3
  have S3l : S3.length = S.length := by rw [← hS3]; simp
  have hm : (-(2 ^ 64) < many ∧ many < 2 ^ 64) := by omega
  rw [u_law_more, wp_gc]
  simp [-List.all_eq_true, -List.any_eq_true, -List.map_tail, -List.drop_one, -List.map_drop, -List.map_reverse, -List.map_map, -List.map_append, -List.map_take, -List.filterMap_map, -getElem?_pos, -Int.neg_ofNat_le_natCast, b_law_more, o_mul (.inl hm)]
  generalize hn : many * (if 1 < (places.length : Int) then 1 else 0) = n
  have n01 : n = 0 ∨ (n = many ∧ 1 < (places.length : Int)) := by
    split at hn
    · rename_i c
      exact .inr ⟨by omega, c⟩
    · exact .inl (by omega)
  refine ⟨by omega, ?_⟩
  refine wpS_for (α := Int) (f := D.int) (fun pre e S' => ∃ (a b : Int) (rs : List Row), 0 ≤ a ∧ 0 ≤ b ∧ b < 2 ^ 62 ∧ S' = st3 S p r t a b (rs0 ++ rs) ((rs0 ++ rs).map Prod.fst) ∧ RowsOk places (rs0 ++ rs) ∧ rs.length = pre.length ∧ ∃ z1 z2 z3, e = [some (.ref p), some (.lst (places.map .str)), some (.ref r), some (.ref t), some (.int many), z1, z2, z3]) ?_ ?_ ?_
  · exact ⟨a0, b0, [], ha, hb, hc, by simpa using hS3.symm, by simpa using ho, rfl, _, _, _, rfl⟩
  · rintro pre x post e S1 hx ⟨a, b, rs, j1, j2, j3, rfl, j4, j5, z1, z2, z3, rfl⟩
    have hpre : pre.length < 100 := by
      have := congrArg List.length hx
      simp at this
      omega
    have hpl : 1 < (places.length : Int) := by
      rcases n01 with h0 | h0
      · have := congrArg List.length hx
        simp [h0] at this
      · exact h0.2
    have q1 : rs0.length + rs.length ≤ 16777215 := by omega
    have un : ∀ {a b : Int} {rs : List Row} {tk : List Str}, st3 S p r t a b rs tk = st3 S p r t a b rs tk ++ [] := fun {a b rs tk} => (List.append_nil _).symm
    simp [-List.all_eq_true, -List.any_eq_true, -List.map_tail, -List.drop_one, -List.map_drop, -List.map_reverse, -List.map_map, -List.map_append, -List.map_take, -List.filterMap_map, -getElem?_pos, -Int.neg_ofNat_le_natCast]
    rw [un]
    refine take3 h j1 j2 j3 (by omega) (by omega) fun v a1 b1 k1 k2 k3 v0 v1 => ?_
    obtain ⟨x1, hx1, ex1⟩ := take_at' v0 v1
    simp [-List.all_eq_true, -List.any_eq_true, -List.map_tail, -List.drop_one, -List.map_drop, -List.map_reverse, -List.map_map, -List.map_append, -List.map_take, -List.filterMap_map, -getElem?_pos, -Int.neg_ofNat_le_natCast]
    rw [un]
    refine take3 h k1 k2 k3 (by omega) (by omega) fun w a2 b2 l1 l2 l3 w0 w1 => ?_
    have m0 := Int.emod_nonneg (v + 1 + w) (show (places.length : Int) ≠ 0 by omega)
    have m1 := Int.emod_lt_of_pos (v + 1 + w) (show 0 < (places.length : Int) by omega)
    obtain ⟨x2, hx2, ex2⟩ := take_at' m0 m1
    have hne : x1 ≠ x2 := fun e => by
      subst e
      have i1 : v.toNat < places.length := by omega
      have i2 : ((v + 1 + w) % (places.length : Int)).toNat < places.length := by omega
      rw [List.getElem?_eq_getElem i1] at ex1
      rw [List.getElem?_eq_getElem i2] at ex2
      have e2 : places[v.toNat] = places[((v + 1 + w) % (places.length : Int)).toNat] := (Option.some.inj ex1).trans (Option.some.inj ex2).symm
      have := nodup_at hnd i1 i2 e2
      have h0 : (v + (1 + w)) % (places.length : Int) ≠ v := emod_shift v0 v1 (by omega) (by omega)
      rw [← Int.add_assoc] at h0
      omega
    have r1 := st3_r (a := a2) (b := b2) (rs := rs0 ++ rs) (tk := (rs0 ++ rs).map Prod.fst) (u := []) h
    rw [List.append_nil] at r1
    simp [-List.all_eq_true, -List.any_eq_true, -List.map_tail, -List.drop_one, -List.map_drop, -List.map_reverse, -List.map_map, -List.map_append, -List.map_take, -List.filterMap_map, -getElem?_pos, -Int.neg_ofNat_le_natCast, o_modI (show 0 < (places.length : Int) by omega), r1]
    rw [un]
    refine name3 h l1 l2 l3 (by rw [List.length_map, List.length_append]; omega) fun s a3 b3 o1 o2 o3 hs hno => ?_
    have r2 := st3_r (a := a3) (b := b3) (rs := rs0 ++ rs) (tk := (rs0 ++ rs).map Prod.fst ++ [s]) (u := []) h
    have r3 := st3_setr (a := a3) (b := b3) (rs := rs0 ++ rs) (rs' := rs0 ++ (rs ++ [(s, x1, x2)])) (tk := (rs0 ++ rs).map Prod.fst ++ [s]) (u := []) h
    rw [List.append_nil] at r2 r3
    simp [-List.all_eq_true, -List.any_eq_true, -List.map_tail, -List.drop_one, -List.map_drop, -List.map_reverse, -List.map_map, -List.map_append, -List.map_take, -List.filterMap_map, -getElem?_pos, -Int.neg_ofNat_le_natCast, ixs v0 ex1, ixs m0 ex2, r2, row_app, r3, q1]
    refine ⟨a3, o1, b3, o2, by omega, rs ++ [(s, x1, x2)], ?_, ?_, by simp [j5]⟩
    · congr 1
      rw [← List.append_assoc, List.map_append (l₁ := rs0 ++ rs)]
      rfl
    · rw [← List.append_assoc]
      exact j4.add hs hno hx1 hx2 hne
  · rintro e S1 ⟨a, b, rs, j1, j2, j3, rfl, j4, j5, z1, z2, z3, rfl⟩
    have kp := st3_keeps' (a0 := a0) (b0 := b0) (a := a) (b := b) (rs0 := rs0) (rs := rs0 ++ rs) (tk0 := rs0.map Prod.fst) (tk := (rs0 ++ rs).map Prod.fst) (u := []) h
    rw [List.append_nil, hS3] at kp
    refine wp_low kp (by simp [-List.all_eq_true, -List.any_eq_true, -List.map_tail, -List.drop_one, -List.map_drop, -List.map_reverse, -List.map_map, -List.map_append, -List.map_take, -List.filterMap_map, -getElem?_pos, -Int.neg_ofNat_le_natCast]) ?_
    rw [List.take_of_length_le (by rw [S3l]; simp)]
    refine k rs a b j1 j2 j3 j4 ?_
    simp at j5
    omega
theorem places_wp {S : Store} {p : Nat} {most : Int} {Q : D → Store → Prop} {X : Xc → Store → Prop} (hp : PotS S p) (h0 : 1 ≤ most) (h1 : most ≤ 20) (k : ∀ ns S', Step p S S' → ns ≠ [] → ns.Pairwise ltS → (∀ s ∈ ns, nameOk s) → (ns.length : Int) ≤ most → Q (.lst (ns.map .str)) S') : @wp _ (f_law_places [.ref p, .int most] S) ⟨Q, X⟩ := by
  have pl := hp.lt
  obtain ⟨a0, b0, i1, i2, i3, hS⟩ := hp.isPotAt
  rw [u_law_places, wp_gc]
  simp [-List.all_eq_true, -List.any_eq_true, -List.map_tail, -List.drop_one, -List.map_drop, -List.map_reverse, -List.map_map, -List.map_append, -List.map_take, -List.filterMap_map, -getElem?_pos, -Int.neg_ofNat_le_natCast, b_law_places]
  have hp1 : PotS (S ++ [.lst []]) p := (Grow.refl hp).push _ |>.pot
  refine take_wp hp1 (by omega) (by omega) fun r S1 s1 p1 r0 r1 => ?_
  simp [-List.all_eq_true, -List.any_eq_true, -List.map_tail, -List.drop_one, -List.map_drop, -List.map_reverse, -List.map_map, -List.map_append, -List.map_take, -List.filterMap_map, -getElem?_pos, -Int.neg_ofNat_le_natCast]
  refine ⟨by omega, ?_⟩
  obtain ⟨a1, b1, j1, j2, j3, e1⟩ : ∃ a b, 0 ≤ a ∧ 0 ≤ b ∧ b < 2 ^ 62 ∧ S1 = potAt S p a b ++ [.lst []] := by
    obtain ⟨a, b, h1, h2, h3, rfl⟩ := s1.isPot
    exact ⟨a, b, h1, h2, h3, potAt_app pl⟩
  subst e1
  have hpt : p ≠ S.length := by omega
  refine wpS_for (α := Int) (f := D.int) (fun pre e S' => ∃ (a b : Int) (tk : List Str), 0 ≤ a ∧ 0 ≤ b ∧ b < 2 ^ 62 ∧ S' = potAt S p a b ++ [.lst (tk.map .str)] ∧ tk.length = pre.length ∧ tk.Nodup ∧ (∀ s ∈ tk, nameOk s) ∧ ∃ z1, e = [some (.ref p), some (.int most), some (.ref S.length), z1]) ?_ ?_ ?_
  · exact ⟨a1, b1, [], j1, j2, j3, rfl, rfl, List.nodup_nil, fun s hs => by simp at hs, _, rfl⟩
  · rintro pre x post e S2 hx ⟨a, b, tk, k1, k2, k3, rfl, k4, k5, k6, z1, rfl⟩
    have hpre : pre.length < 100 := by
      have := congrArg List.length hx
      simp at this
      omega
    simp [-List.all_eq_true, -List.any_eq_true, -List.map_tail, -List.drop_one, -List.map_drop, -List.map_reverse, -List.map_map, -List.map_append, -List.map_take, -List.filterMap_map, -getElem?_pos, -Int.neg_ofNat_le_natCast]
    refine name_wp (potAt_pot pl k1 k2 k3) hpt (sa0 (by simp)) (by omega) fun s S4 s4 hs hno => ?_
    obtain ⟨a', b', l1, l2, l3, rfl⟩ := s4.isPotApp pl
    simp [-List.all_eq_true, -List.any_eq_true, -List.map_tail, -List.drop_one, -List.map_drop, -List.map_reverse, -List.map_map, -List.map_append, -List.map_take, -List.filterMap_map, -getElem?_pos, -Int.neg_ofNat_le_natCast, sa0, sa1, sa2, sa3, ss0, ss1, ss2, ss3, stake]
    refine ⟨a', l1, b', l2, by omega, tk ++ [s], ⟨rfl, rfl⟩, by simp [k4], ?_, fun z hz => ?_⟩
    · rw [List.nodup_append]
      refine ⟨k5, by simp, fun x hx y hy e => ?_⟩
      simp at hy
      subst e hy
      exact hs hx
    · rcases List.mem_append.mp hz with hz | hz
      · exact k6 z hz
      · simp at hz
        subst hz
        exact hno
  · rintro e S2 ⟨a, b, tk, k1, k2, k3, rfl, k4, k5, k6, z1, rfl⟩
    simp [-List.all_eq_true, -List.any_eq_true, -List.map_tail, -List.drop_one, -List.map_drop, -List.map_reverse, -List.map_map, -List.map_append, -List.map_take, -List.filterMap_map, -getElem?_pos, -Int.neg_ofNat_le_natCast, sa0, sa1, sa2, sa3, ss0, ss1, ss2, ss3, stake]
    refine wp_low potAt_keeps (by simp [-List.all_eq_true, -List.any_eq_true, -List.map_tail, -List.drop_one, -List.map_drop, -List.map_reverse, -List.map_map, -List.map_append, -List.map_take, -List.filterMap_map, -getElem?_pos, -Int.neg_ofNat_le_natCast]) ?_
    rw [stake (by simp)]
    simp at k4
    refine k _ _ (potAt_step pl k1 k2 k3) (fun e => ?_) (sorted_rising k5) (fun s hs => k6 s ((List.mergeSort_perm _ _).mem_iff.mp hs)) (by rw [List.length_mergeSort]; omega)
    have := congrArg List.length e
    rw [List.length_mergeSort] at this
    simp at this
    rw [this] at k4
    simp at k4
    omega
theorem web_wpB {S : Store} {p : Nat} {mp mm : Int} {Q : D → Store → Prop} {X : Xc → Store → Prop} (hp : PotS S p) (h0 : 1 ≤ mp) (h1 : mp ≤ 8) (m0 : 0 ≤ mm) (m1 : mm ≤ 40)
    (k : ∀ ns rs root (trees : List (List Str)) S', Step p S S' → WebOk ns rs → (ns.length : Int) ≤ mp → ((rs.length : Int) ≤ 37 ∨ (rs.length : Int) ≤ 24 + mm) → root ∈ ns → (∀ t ∈ trees, IsGrown ns root rs t) → trees.length ≤ 3 → Q (.tup [web ns rs, .str root, .lst (trees.map fun t => .tup (t.map .str))]) S') : @wp _ (f_law_web [.ref p, .int mp, .int mm] S) ⟨Q, X⟩ := by
  have pl := hp.lt
  rw [u_law_web, wp_gc]
  simp [-List.all_eq_true, -List.any_eq_true, -List.map_tail, -List.drop_one, -List.map_drop, -List.map_reverse, -List.map_map, -List.map_append, -List.map_take, -List.filterMap_map, -getElem?_pos, -Int.neg_ofNat_le_natCast, b_law_web]
  refine places_wp hp h0 (by omega) fun ns S1 s1 w1 w2 w3 w4 => ?_
  have nl := List.length_pos_iff.mpr w1
  simp [-List.all_eq_true, -List.any_eq_true, -List.map_tail, -List.drop_one, -List.map_drop, -List.map_reverse, -List.map_map, -List.map_append, -List.map_take, -List.filterMap_map, -getElem?_pos, -Int.neg_ofNat_le_natCast]
  refine take_wp s1.pot (by omega) (by omega) fun v S2 s2 p2 v0 v1 => ?_
  obtain ⟨root, hroot, eroot⟩ := take_at' v0 v1
  have s12 := s1.trans s2
  have l2 : S2.length = S.length := s12.len
  simp [-List.all_eq_true, -List.any_eq_true, -List.map_tail, -List.drop_one, -List.map_drop, -List.map_reverse, -List.map_map, -List.map_append, -List.map_take, -List.filterMap_map, -getElem?_pos, -Int.neg_ofNat_le_natCast, ixs v0 eroot]
  have h : Pl (S2 ++ [.lst [], .lst []]) p S2.length (S2.length + 1) := ⟨by omega, by omega, by omega, by simp; omega, by simp, by simp⟩
  have g2 : Grow p S (S2 ++ [.lst [], .lst []]) := by
    have := (s12.grow.push (.lst [])).push (.lst [])
    simpa using this
  have un : ∀ {B : Store} {p r t : Nat} {a b : Int} {rs : List Row} {tk : List Str}, st3 B p r t a b rs tk = st3 B p r t a b rs tk ++ [] := fun {B p r t a b rs tk} => (List.append_nil _).symm
  have gro : ∀ {a b : Int} {rs : List Row} {tk : List Str}, 0 ≤ a → 0 ≤ b → b < 2 ^ 62 → Grow p S (st3 (S2 ++ [.lst [], .lst []]) p S2.length (S2.length + 1) a b rs tk) := fun {a b rs tk} ha hb hc => by
    have hpot := st3_pot (u := []) (rs := rs) (tk := tk) h ha hb hc
    rw [List.append_nil] at hpot
    refine ⟨by simp; omega, hpot, fun q hq hqp => ?_⟩
    unfold st3
    rw [List.getElem?_set_ne (by omega), List.getElem?_set_ne (by omega), List.getElem?_set_ne (by omega)]
    exact g2.other q hq hqp
  refine take_wp g2.pot (by omega) (by omega) fun q S3 s3 p3 q0 q1 => ?_
  obtain ⟨a, b, i1, i2, i3, e3⟩ := s3.isPot
  have e3' : S3 = st3 (S2 ++ [.lst [], .lst []]) p S2.length (S2.length + 1) a b [] [] := by
    rw [e3, potAt_app (by omega)]
    unfold st3
    rw [List.set_append_left p _ (by omega)]
    have hl : (S2.set p (.lst [.int a, .int b])).length = S2.length := by simp
    rw [show potAt S2 p a b = S2.set p (.lst [.int a, .int b]) from rfl]
    rw [ss0 hl.symm, ss1 (by rw [hl])]
    rfl
  clear e3
  subst e3'
  simp [-List.all_eq_true, -List.any_eq_true, -List.map_tail, -List.drop_one, -List.map_drop, -List.map_reverse, -List.map_map, -List.map_append, -List.map_take, -List.filterMap_map, -getElem?_pos, -Int.neg_ofNat_le_natCast]
  refine ⟨by omega, by omega, ?_⟩
  refine wp_lcMJ (f := fun t : List Str => .tup (t.map .str)) (fun pre ys S' => ∃ (a b : Int) (rs : List Row), 0 ≤ a ∧ 0 ≤ b ∧ b < 2 ^ 62 ∧ S' = st3 (S2 ++ [.lst [], .lst []]) p S2.length (S2.length + 1) a b rs (rs.map Prod.fst) ∧ RowsOk ns rs ∧ rs.length ≤ 8 * pre.length ∧ (∀ t ∈ ys, IsGrown ns root rs t) ∧ ys.length = pre.length) ?_ ?_ ?_
  · exact ⟨a, b, [], i1, i2, i3, rfl, ⟨List.nodup_nil, fun r hr => by simp at hr⟩, by simp, fun t ht => by simp at ht, rfl⟩
  · rintro pre x post ys S4 hx ⟨a, b, rs, j1, j2, j3, rfl, j4, j5, j6, j7⟩
    have hpre : pre.length < 3 := by
      have := congrArg List.length hx
      simp at this
      omega
    simp [-List.all_eq_true, -List.any_eq_true, -List.map_tail, -List.drop_one, -List.map_drop, -List.map_reverse, -List.map_map, -List.map_append, -List.map_take, -List.filterMap_map, -getElem?_pos, -Int.neg_ofNat_le_natCast]
    refine grown_wp h j1 j2 j3 (rise_nodup w2) (by omega) hroot j4 (by omega) fun tree rs' a' b' k1 k2 k3 k4 k5 k6 => ?_
    simp [-List.all_eq_true, -List.any_eq_true, -List.map_tail, -List.drop_one, -List.map_drop, -List.map_reverse, -List.map_map, -List.map_append, -List.map_take, -List.filterMap_map, -getElem?_pos, -Int.neg_ofNat_le_natCast]
    refine ⟨tree, rfl, a', k1, b', k2, by omega, rs ++ rs', rfl, k4, by simp; omega, fun t ht => ?_, by simp [j7]⟩
    rcases ht with ht | ht
    · obtain ⟨gs, g1, g2, g3, g4⟩ := j6 t ht
      exact ⟨gs, g1, g2, fun g hg => List.mem_append_left _ (g3 g hg), g4⟩
    · subst ht
      exact k6
  rintro trees S4 ⟨a, b, rs, j1, j2, j3, rfl, j4, j5, j6, j7⟩
  have j5' : rs.length ≤ 24 := by simp at j5; omega
  have j7' : trees.length ≤ 3 := by simp at j7; omega
  simp [-List.all_eq_true, -List.any_eq_true, -List.map_tail, -List.drop_one, -List.map_drop, -List.map_reverse, -List.map_map, -List.map_append, -List.map_take, -List.filterMap_map, -getElem?_pos, -Int.neg_ofNat_le_natCast]
  rw [un]
  refine take3 h j1 j2 j3 (by omega) (by omega) fun many a1 b1 k1 k2 k3 many0 many1 => ?_
  simp [-List.all_eq_true, -List.any_eq_true, -List.map_tail, -List.drop_one, -List.map_drop, -List.map_reverse, -List.map_map, -List.map_append, -List.map_take, -List.filterMap_map, -getElem?_pos, -Int.neg_ofNat_le_natCast]
  rw [un]
  refine take3 h k1 k2 k3 (by omega) (by omega) fun w a2 b2 l1 l2 l3 wv0 wv1 => ?_
  have r1 := st3_r (a := a2) (b := b2) (rs := rs) (tk := rs.map Prod.fst) (u := []) h
  rw [List.append_nil] at r1 ⊢
  simp [-List.all_eq_true, -List.any_eq_true, -List.map_tail, -List.drop_one, -List.map_drop, -List.map_reverse, -List.map_map, -List.map_append, -List.map_take, -List.filterMap_map, -getElem?_pos, -Int.neg_ofNat_le_natCast, r1]
  split
  · refine more_wp h l1 l2 l3 (rise_nodup w2) (by omega) j4 (by omega) (by omega) (by omega) fun rs' a3 b3 m1 m2 m3 m4 m5 => ?_
    have r2 := st3_r (a := a3) (b := b3) (rs := rs ++ rs') (tk := (rs ++ rs').map Prod.fst) (u := []) h
    rw [List.append_nil] at r2
    have hl : (rs ++ rs').length ≤ 100 := by rw [List.length_append]; omega
    have W : WebOk ns ((rs ++ rs').mergeSort leR) := ⟨w1, w2, w3, by omega, rows_rising m4.nd, by rw [List.length_mergeSort]; omega, fun r hr => m4.row r ((List.mergeSort_perm _ _).mem_iff.mp hr)⟩
    simp [-List.all_eq_true, -List.any_eq_true, -List.map_tail, -List.drop_one, -List.map_drop, -List.map_reverse, -List.map_map, -List.map_append, -List.map_take, -List.filterMap_map, -getElem?_pos, -Int.neg_ofNat_le_natCast, r2, sortL_rows m4.nd, web_fold]
    refine wp_cut (gro m1 m2 m3) pl (by simp [-List.all_eq_true, -List.any_eq_true, -List.map_tail, -List.drop_one, -List.map_drop, -List.map_reverse, -List.map_map, -List.map_append, -List.map_take, -List.filterMap_map, -getElem?_pos, -Int.neg_ofNat_le_natCast]) fun S9 s9 => k ns _ root trees S9 s9 W w4 (by rw [List.length_mergeSort, List.length_append]; omega) hroot (fun t ht => ?_) j7'
    obtain ⟨gs, g1, g2, g3, g4⟩ := j6 t ht
    exact ⟨gs, g1, g2, fun g hg => (List.mergeSort_perm _ _).mem_iff.mpr (List.mem_append_left _ (g3 g hg)), g4⟩
  · refine more_wp h l1 l2 l3 (rise_nodup w2) (by omega) j4 (by omega) (by omega) (by omega) fun rs' a3 b3 m1 m2 m3 m4 m5 => ?_
    have r2 := st3_r (a := a3) (b := b3) (rs := rs ++ rs') (tk := (rs ++ rs').map Prod.fst) (u := []) h
    rw [List.append_nil] at r2
    have hl : (rs ++ rs').length ≤ 100 := by rw [List.length_append]; omega
    have W : WebOk ns ((rs ++ rs').mergeSort leR) := ⟨w1, w2, w3, by omega, rows_rising m4.nd, by rw [List.length_mergeSort]; omega, fun r hr => m4.row r ((List.mergeSort_perm _ _).mem_iff.mp hr)⟩
    simp [-List.all_eq_true, -List.any_eq_true, -List.map_tail, -List.drop_one, -List.map_drop, -List.map_reverse, -List.map_map, -List.map_append, -List.map_take, -List.filterMap_map, -getElem?_pos, -Int.neg_ofNat_le_natCast, r2, sortL_rows m4.nd, web_fold]
    refine wp_cut (gro m1 m2 m3) pl (by simp [-List.all_eq_true, -List.any_eq_true, -List.map_tail, -List.drop_one, -List.map_drop, -List.map_reverse, -List.map_map, -List.map_append, -List.map_take, -List.filterMap_map, -getElem?_pos, -Int.neg_ofNat_le_natCast]) fun S9 s9 => k ns _ root trees S9 s9 W w4 (by rw [List.length_mergeSort, List.length_append]; omega) hroot (fun t ht => ?_) j7'
    obtain ⟨gs, g1, g2, g3, g4⟩ := j6 t ht
    exact ⟨gs, g1, g2, fun g hg => (List.mergeSort_perm _ _).mem_iff.mpr (List.mem_append_left _ (g3 g hg)), g4⟩
theorem web_wp {S : Store} {p : Nat} {mp mm : Int} {Q : D → Store → Prop} {X : Xc → Store → Prop} (hp : PotS S p) (h0 : 1 ≤ mp) (h1 : mp ≤ 8) (m0 : 0 ≤ mm) (m1 : mm ≤ 40)
    (k : ∀ ns rs root (trees : List (List Str)) S', Step p S S' → WebOk ns rs → (ns.length : Int) ≤ mp → rs.length ≤ 100 → root ∈ ns → (∀ t ∈ trees, IsGrown ns root rs t) → trees.length ≤ 3 → Q (.tup [web ns rs, .str root, .lst (trees.map fun t => .tup (t.map .str))]) S') : @wp _ (f_law_web [.ref p, .int mp, .int mm] S) ⟨Q, X⟩ :=
  web_wpB hp h0 h1 m0 m1 fun ns rs root trees S' a b c d e f g => k ns rs root trees S' a b c (by omega) e f g
end FL

namespace FL
open PySem PySem.Spec PyProof.Rows L2
/-! ### texts by their lines -/
open TL in
theorem joinL_inj {c : Nat} : ∀ {ws vs : List (List Nat)}, ws ≠ [] → vs ≠ [] → (∀ w ∈ ws, c ∉ w) → (∀ v ∈ vs, c ∉ v) → joinL [c] ws = joinL [c] vs → ws = vs
  | [], _, h, _, _, _, _ => absurd rfl h
  | _, [], _, h, _, _, _ => absurd rfl h
  | [w], [v], _, _, _, _, e => by rw [show w = v from e]
  | [w], v :: v2 :: vs, _, _, hw, _, e => by
    have e : w = v ++ ([c] ++ joinL [c] (v2 :: vs)) := e
    exact absurd (by rw [e]; simp) (hw w List.mem_cons_self)
  | w :: w2 :: ws, [v], _, _, _, hv, e => by
    have e : w ++ ([c] ++ joinL [c] (w2 :: ws)) = v := e
    exact absurd (by rw [← e]; simp) (hv v List.mem_cons_self)
  | w :: w2 :: ws, v :: v2 :: vs, _, _, hw, hv, e => by
    have e : w ++ (c :: joinL [c] (w2 :: ws)) = v ++ (c :: joinL [c] (v2 :: vs)) := e
    have key : ∀ {w v r q : List Nat}, c ∉ w → c ∉ v → w ++ c :: r = v ++ c :: q → w = v ∧ r = q := by
      intro w
      induction w with
      | nil =>
        intro v r q _ hv e
        cases v with
        | nil => exact ⟨rfl, by simpa using e⟩
        | cons a v =>
          simp at e
          exact absurd (by rw [e.1]; simp) hv
      | cons a w ih =>
        intro v r q hw hv e
        cases v with
        | nil =>
          simp at e
          exact absurd (by rw [← e.1]; simp) hw
        | cons b v =>
          simp at e
          obtain ⟨h1, h2⟩ := ih (fun h => hw (List.mem_cons_of_mem _ h)) (fun h => hv (List.mem_cons_of_mem _ h)) e.2
          exact ⟨by rw [e.1, h1], h2⟩
    obtain ⟨h1, h2⟩ := key (hw w List.mem_cons_self) (hv v List.mem_cons_self) e
    rw [h1, joinL_inj (by simp) (by simp) (fun z hz => hw z (List.mem_cons_of_mem _ hz)) (fun z hz => hv z (List.mem_cons_of_mem _ hz)) h2]
theorem map_cpl_inj {ws vs : List Str} (h : ws.map cpl = vs.map cpl) : ws = vs := by
  induction ws generalizing vs with
  | nil => cases vs with
    | nil => rfl
    | cons _ _ => simp at h
  | cons w ws ih => cases vs with
    | nil => simp at h
    | cons v vs =>
      simp at h
      rw [cpl_inj h.1, ih (by simpa using h.2)]
theorem cpl_joinL (y : Str) (ws : List Str) : cpl (Txt.join y ws) = TL.joinL (cpl y) (ws.map cpl) := by
  rw [TL.join_eq]
  exact TL.tl_join y ws
/-- a text that was put together is taken apart again -/
theorem split_join {x : Str} {c : Nat} {ws : List Str} (h0 : ws ≠ []) (hx : cpl x = TL.joinL [c] (ws.map cpl)) (hw : ∀ w ∈ ws, c ∉ cpl w) : Txt.split x ⟨#[c]⟩ = ws := by
  have h1 := StrLaws.join_split x ⟨#[c]⟩
  have h2 := congrArg cpl h1
  rw [← TL.join_eq, cpl_joinL, hx] at h2
  have h3 : Txt.split x ⟨#[c]⟩ ≠ [] := fun e => by
    have := split_pos x ⟨#[c]⟩
    rw [e] at this
    simp at this
  refine map_cpl_inj (joinL_inj (by simpa using h3) (by simpa using h0) (fun w hw' => ?_) (fun w hw' => ?_) h2)
  · obtain ⟨z, hz, rfl⟩ := List.mem_map.mp hw'
    exact StrLaws.split_free x c z hz
  · obtain ⟨z, hz, rfl⟩ := List.mem_map.mp hw'
    exact hw z hz
/-- words of a line: letters alone, few and short -/
structure Words (ws : List Str) : Prop where
  ne : ws ≠ []
  low : ∀ w ∈ ws, lower w
  len : ws.length ≤ 1000
  short : ∀ w ∈ ws, w.length ≤ 8
def lineS (ws : List Str) : Str := ⟨(TL.joinL [32] (ws.map cpl) ++ [10]).toArray⟩
theorem lineS_cpl (ws : List Str) : cpl (lineS ws) = TL.joinL [32] (ws.map cpl) ++ [10] := by simp [lineS, cpl]
def textS (wss : List (List Str)) : Str := ⟨((wss.map fun ws => cpl (lineS ws)).flatten).toArray⟩
theorem textS_cpl (wss : List (List Str)) : cpl (textS wss) = (wss.map fun ws => cpl (lineS ws)).flatten := by simp [textS, cpl]
theorem sum_short {ws : List Str} (h : ∀ w ∈ ws, w.length ≤ 8) : (ws.map Str.length).sum ≤ ws.length * 8 := by
  induction ws with
  | nil => simp
  | cons w ws ih =>
    have h1 := h w List.mem_cons_self
    have h2 := ih fun z hz => h z (List.mem_cons_of_mem _ hz)
    rw [List.map_cons, List.sum_cons, List.length_cons]
    omega
theorem joinL_len (ws : List (List Nat)) (n : Nat) (h : ∀ w ∈ ws, w.length ≤ n) : (TL.joinL [32] ws).length ≤ ws.length * (n + 1) := by
  induction ws with
  | nil => simp [TL.joinL]
  | cons w ws ih =>
    have h1 := h w List.mem_cons_self
    have h2 := ih fun z hz => h z (List.mem_cons_of_mem _ hz)
    cases ws with
    | nil => show w.length ≤ _; simp; omega
    | cons v vs =>
      show (w ++ ([32] ++ TL.joinL [32] (v :: vs))).length ≤ _
      rw [List.length_append, List.length_append, List.length_cons (as := v :: vs), Nat.add_mul]
      simp only [List.length_cons, List.length_nil] at *
      omega
theorem lineS_len {ws : List Str} (W : Words ws) : (lineS ws).length ≤ 9001 := by
  rw [← cpl_length, lineS_cpl, List.length_append]
  have := joinL_len (ws.map cpl) 8 (fun w hw => by
    obtain ⟨z, hz, rfl⟩ := List.mem_map.mp hw
    rw [cpl_length]
    exact W.short z hz)
  have h2 := W.len
  simp only [List.length_map, List.length_cons, List.length_nil] at *
  omega
theorem newline_free {w : Str} (h : lower w) : 10 ∉ cpl w ∧ 32 ∉ cpl w := ⟨fun k => by have := h 10 k; omega, fun k => by have := h 32 k; omega⟩
theorem joinL_mem {c : Nat} {x : Nat} : ∀ {ws : List (List Nat)}, x ∈ TL.joinL [c] ws → x = c ∨ ∃ w ∈ ws, x ∈ w
  | [], h => by simp [TL.joinL] at h
  | [w], h => .inr ⟨w, List.mem_cons_self, h⟩
  | w :: v :: ws, h => by
    have h : x ∈ w ++ ([c] ++ TL.joinL [c] (v :: ws)) := h
    rcases List.mem_append.mp h with h | h
    · exact .inr ⟨w, List.mem_cons_self, h⟩
    · rcases List.mem_append.mp h with h | h
      · simp at h; exact .inl h
      · rcases joinL_mem h with h | ⟨z, hz, h⟩
        · exact .inl h
        · exact .inr ⟨z, List.mem_cons_of_mem _ hz, h⟩
def wordsS (ws : List Str) : Str := ⟨(TL.joinL [32] (ws.map cpl)).toArray⟩
theorem wordsS_cpl (ws : List Str) : cpl (wordsS ws) = TL.joinL [32] (ws.map cpl) := by simp [wordsS, cpl]
theorem wordsS_free {ws : List Str} (W : Words ws) : 10 ∉ cpl (wordsS ws) := by
  rw [wordsS_cpl]
  intro h
  rcases joinL_mem h with h | ⟨w, hw, h⟩
  · omega
  · obtain ⟨z, hz, rfl⟩ := List.mem_map.mp hw
    exact (newline_free (W.low z hz)).1 h
theorem text_joinL : ∀ (wss : List (List Str)), cpl (textS wss) = TL.joinL [10] ((wss.map fun ws => cpl (wordsS ws)) ++ [[]])
  | [] => rfl
  | ws :: wss => by
    have ih := text_joinL wss
    rw [textS_cpl] at ih ⊢
    rw [List.map_cons, List.flatten_cons, ih, lineS_cpl, ← wordsS_cpl, List.map_cons, List.cons_append]
    cases q : (wss.map fun ws => cpl (wordsS ws)) ++ [[]] with
    | nil => simp at q
    | cons z zs =>
      show _ = cpl (wordsS ws) ++ ([10] ++ TL.joinL [10] (z :: zs))
      rw [List.append_assoc]
theorem split_text {wss : List (List Str)} (h : ∀ ws ∈ wss, Words ws) : Txt.split (textS wss) (Str.ofString "\n") = wss.map wordsS ++ [Str.ofString ""] := by
  refine split_join (c := 10) (by simp) ?_ fun w hw => ?_
  · rw [text_joinL, List.map_append, List.map_map]
    rfl
  · rcases List.mem_append.mp hw with hw | hw
    · obtain ⟨ws, h1, rfl⟩ := List.mem_map.mp hw
      exact wordsS_free (h ws h1)
    · simp at hw
      subst hw
      exact fun h => by cases h
theorem split_words {ws : List Str} (W : Words ws) : Txt.split (wordsS ws) (Str.ofString " ") = ws := split_join (c := 32) W.ne (wordsS_cpl ws) fun w hw => (newline_free (W.low w hw)).2
theorem wordsS_len {ws : List Str} (W : Words ws) : (wordsS ws).length ≤ 9000 := by
  rw [← cpl_length, wordsS_cpl]
  have := joinL_len (ws.map cpl) 8 (fun w hw => by
    obtain ⟨z, hz, rfl⟩ := List.mem_map.mp hw
    rw [cpl_length]
    exact W.short z hz)
  have h2 := W.len
  rw [List.length_map] at this
  omega
theorem flat_len {wss : List (List Str)} (h : ∀ ws ∈ wss, Words ws) : (textS wss).length ≤ wss.length * 9001 := by
  rw [← cpl_length, textS_cpl]
  induction wss with
  | nil => simp
  | cons ws wss ih =>
    have h1 := lineS_len (h ws List.mem_cons_self)
    have h2 := ih fun z hz => h z (List.mem_cons_of_mem _ hz)
    rw [List.map_cons, List.flatten_cons, List.length_append, cpl_length, List.length_cons]
    omega
theorem cutM1' {α : Type} {xs : List α} {x : α} : cutD (xs ++ [x]) none (some (-1)) = xs := by
  unfold cutD
  have h : HT.sIx (xs ++ [x]).length (xs ++ [x]).length (some (-1)) = xs.length := by
    show (if (-1 : Int) < 0 then ((-1 : Int) + ((xs ++ [x]).length : Int)).toNat else min (-1 : Int).toNat (xs ++ [x]).length) = _
    rw [if_pos (by decide)]
    simp
    omega
  rw [h, HT.sIx_none, List.drop_zero, Nat.sub_zero]
  simp
def ll2 (ws : List Str) : D := .lst (ws.map .str)
instance ll2R : Rep ll2 := lstR (f := D.str)
theorem lines_in_ok {S : Store} {wss : List (List Str)} (h : ∀ ws ∈ wss, Words ws) (hl : wss.length ≤ 1500) : f_lines_in [.str (textS wss)] S = .ok (.lst (wss.map ll2)) S := by
  have h1 := flat_len h
  have h2 : (textS wss).length ≤ 16777214 := by omega
  have hn : (Str.ofString "\n").length = 1 := rfl
  have hb : (Str.ofString " ").length = 1 := rfl
  have h3 : wss.length ≤ 16777216 := by omega
  have ec : cutD ((wss.map wordsS ++ [Str.ofString ""]).map D.str) none (some (-1)) = (wss.map wordsS).map D.str := by rw [List.map_append]; exact cutM1'
  simp [-List.all_eq_true, -List.any_eq_true, -List.map_tail, -List.drop_one, -List.map_drop, -List.map_reverse, -List.map_map, -List.map_append, -List.map_take, -List.filterMap_map, -getElem?_pos, -Int.neg_ofNat_le_natCast, u_lines_in, b_lines_in, hn, h2, split_text h, ec, h3]
  rw [lcM_map (fun ws => ll2 ws) fun ws hw => ?_]
  · simp [-List.all_eq_true, -List.any_eq_true, -List.map_tail, -List.drop_one, -List.map_drop, -List.map_reverse, -List.map_map, -List.map_append, -List.map_take, -List.filterMap_map, -getElem?_pos, -Int.neg_ofNat_le_natCast, ll2]
  · have h4 := wordsS_len (h ws hw)
    have h5 : (wordsS ws).length ≤ 16777214 := by omega
    simp [-List.all_eq_true, -List.any_eq_true, -List.map_tail, -List.drop_one, -List.map_drop, -List.map_reverse, -List.map_map, -List.map_append, -List.map_take, -List.filterMap_map, -getElem?_pos, -Int.neg_ofNat_le_natCast, hb, h5, split_words (h ws hw), ll2]
def webLines (ns : List Str) (rs : List Row) : List (List Str) := (Str.ofString "places" :: ns) :: rs.map fun r => [Str.ofString "tie", r.1, r.2.1, r.2.2]
theorem word_ok {w : Str} (h : nameOk w) : lower w ∧ w.length ≤ 8 := ⟨h.2.2, h.2.1⟩
theorem fixed_word : nameOk (Str.ofString "places") ∧ nameOk (Str.ofString "tie") ∧ nameOk (Str.ofString "tree") := ⟨nameB_iff.mp (by decide +kernel), nameB_iff.mp (by decide +kernel), nameB_iff.mp (by decide +kernel)⟩
theorem words_of {w : Str} {ws : List Str} (hw : nameOk w) (h : ∀ x ∈ ws, nameOk x) (hl : ws.length ≤ 999) : Words (w :: ws) := ⟨by simp, fun x hx => by
  rcases List.mem_cons.mp hx with rfl | hx
  · exact hw.2.2
  · exact (h x hx).2.2, by simp; omega, fun x hx => by
  rcases List.mem_cons.mp hx with rfl | hx
  · exact hw.2.1
  · exact (h x hx).2.1⟩
theorem row_words {ns : List Str} {rs : List Row} (W : WebOk ns rs) {r : Row} (hr : r ∈ rs) : Words [Str.ofString "tie", r.1, r.2.1, r.2.2] := words_of fixed_word.2.1 (fun x hx => by
  obtain ⟨i1, i2, i3, _⟩ := W.row r hr
  simp at hx
  rcases hx with rfl | rfl | rfl
  · exact i1
  · exact W.nm _ i2
  · exact W.nm _ i3) (by simp)
theorem webLines_ok {ns : List Str} {rs : List Row} (W : WebOk ns rs) (hl : ns.length ≤ 999) : ∀ ws ∈ webLines ns rs, Words ws := fun ws hw => by
  rcases List.mem_cons.mp hw with rfl | hw
  · exact words_of fixed_word.1 W.nm hl
  · obtain ⟨r, hr, rfl⟩ := List.mem_map.mp hw
    exact row_words W hr
theorem textS_app {wss : List (List Str)} {ws : List Str} : textS wss ++ lineS ws = textS (wss ++ [ws]) := by
  refine cpl_inj ?_
  rw [cpl_append, textS_cpl, textS_cpl, List.map_append, List.flatten_append]
  simp
theorem textS_one {ws : List Str} : lineS ws = textS [ws] := by
  refine cpl_inj ?_
  rw [textS_cpl]
  simp
def treeLines (ts : List (List Str)) : List (List Str) := ts.map fun t => Str.ofString "tree" :: t
structure TreesOk (ts : List (List Str)) : Prop where
  len : ts.length ≤ 100
  one : ∀ t ∈ ts, t.Pairwise ltS ∧ (∀ s ∈ t, nameOk s) ∧ t.length ≤ 100
def tts (t : List Str) : D := .tup (t.map .str)
instance ttsR : Rep tts := tupR (f := D.str)
theorem tree_words {ts : List (List Str)} (T : TreesOk ts) {t : List Str} (h : t ∈ ts) : Words (Str.ofString "tree" :: t) := words_of fixed_word.2.2 (T.one t h).2.1 (by have := (T.one t h).2.2; omega)
theorem treeLines_ok {ts : List (List Str)} (T : TreesOk ts) : ∀ ws ∈ treeLines ts, Words ws := fun ws hw => by
  obtain ⟨t, ht, rfl⟩ := List.mem_map.mp hw
  exact tree_words T ht
theorem join_lines (wss : List (List Str)) : Txt.join (Str.ofString "") (wss.map lineS) = textS wss := by
  refine cpl_inj ?_
  rw [textS_cpl]
  have := cpl_join (wss.map lineS)
  rw [List.map_map] at this
  exact this
theorem lines_sum {wss : List (List Str)} (h : ∀ ws ∈ wss, Words ws) : ((wss.map lineS).map Str.length).sum ≤ wss.length * 9001 := by
  induction wss with
  | nil => simp
  | cons ws wss ih =>
    have h1 := lineS_len (h ws List.mem_cons_self)
    have h2 := ih fun z hz => h z (List.mem_cons_of_mem _ hz)
    rw [List.map_cons, List.map_cons, List.sum_cons, List.length_cons]
    omega
end FL

namespace FL
open PySem PySem.Spec PyProof.Rows L2
/-! ### any text, taken apart -/
def nl : Str := Str.ofString "\n"
def spc : Str := Str.ofString " "
theorem split_ne (x : Str) (c : Nat) : Txt.split x ⟨#[c]⟩ ≠ [] := fun e => by
  have := split_pos x ⟨#[c]⟩
  rw [e] at this
  simp at this
theorem split_cpl (x : Str) (c : Nat) : cpl x = TL.joinL [c] ((Txt.split x ⟨#[c]⟩).map cpl) := by
  have h1 := StrLaws.join_split x ⟨#[c]⟩
  have h2 := congrArg cpl h1
  rw [← TL.join_eq, cpl_joinL] at h2
  exact h2.symm
def sumL (ws : List (List Nat)) : Nat := (ws.map fun w => w.length + 1).sum
theorem joinL_sum {c : Nat} : ∀ {ws : List (List Nat)}, ws ≠ [] → (TL.joinL [c] ws).length + 1 = sumL ws
  | [], h => absurd rfl h
  | [w], _ => by
    show w.length + 1 = _
    simp [sumL]
  | w :: v :: ws, _ => by
    have ih := joinL_sum (c := c) (ws := v :: ws) (by simp)
    show (w ++ ([c] ++ TL.joinL [c] (v :: ws))).length + 1 = _
    unfold sumL at *
    rw [List.map_cons, List.sum_cons, ← ih]
    simp
    omega
theorem split_sum (x : Str) (c : Nat) : x.length + 1 = sumL ((Txt.split x ⟨#[c]⟩).map cpl) := by
  rw [← joinL_sum (c := c) (by simpa using split_ne x c), ← split_cpl, cpl_length]
theorem sumL_mem {ws : List (List Nat)} {w : List Nat} (h : w ∈ ws) : w.length + 1 ≤ sumL ws := by
  induction ws with
  | nil => cases h
  | cons v ws ih =>
    unfold sumL at *
    rw [List.map_cons, List.sum_cons]
    rcases List.mem_cons.mp h with e | h
    · rw [e]; omega
    · have := ih h; omega
theorem sumL_len (ws : List (List Nat)) : ws.length ≤ sumL ws := by
  induction ws with
  | nil => exact Nat.zero_le _
  | cons v ws ih =>
    unfold sumL at *
    rw [List.map_cons, List.sum_cons, List.length_cons]
    omega
theorem split_mem {x w : Str} {c : Nat} (h : w ∈ Txt.split x ⟨#[c]⟩) : w.length ≤ x.length := by
  have h1 := split_sum x c
  have h2 := sumL_mem (List.mem_map_of_mem (f := cpl) h)
  rw [cpl_length] at h2
  omega
theorem split_many (x : Str) (c : Nat) : (Txt.split x ⟨#[c]⟩).length ≤ x.length + 1 := by
  have h1 := split_sum x c
  have h2 := sumL_len ((Txt.split x ⟨#[c]⟩).map cpl)
  rw [List.length_map] at h2
  omega
theorem split_last (x : Str) (c : Nat) : ∃ L0 last, Txt.split x ⟨#[c]⟩ = L0 ++ [last] := ⟨_, _, (List.dropLast_concat_getLast (split_ne x c)).symm⟩
/-- the words of a line: the first and the others -/
theorem words_at (l : Str) : ∃ q : Str × List Str, Txt.split l spc = q.1 :: q.2 := by
  have h := split_ne l 32
  cases e : Txt.split l spc with
  | nil => exact absurd e h
  | cons w ws => exact ⟨(w, ws), rfl⟩
def lnD (q : Str × List Str) : D := .lst ((q.1 :: q.2).map .str)
def tlT (q : Str × List Str) : D := .tup (q.2.map .str)
def qOf (l : Str) : Str × List Str := match Txt.split l spc with
  | [] => (Str.ofString "", [])
  | w :: ws => (w, ws)
theorem qOf_split (l : Str) : Txt.split l spc = (qOf l).1 :: (qOf l).2 := by
  obtain ⟨q, e⟩ := words_at l
  unfold qOf
  rw [e]
structure Lines (x : Str) (L0 : List Str) (last : Str) (qs : List (Str × List Str)) : Prop where
  cut : Txt.split x nl = L0 ++ [last]
  eq : qs = L0.map qOf
theorem lines_of (x : Str) : ∃ L0 last qs, Lines x L0 last qs := by
  obtain ⟨L0, last, h⟩ := split_last x 10
  exact ⟨L0, last, _, h, rfl⟩
theorem Lines.row {x last : Str} {L0 : List Str} {qs : List (Str × List Str)} (h : Lines x L0 last qs) : L0.map (fun l => Txt.split l spc) = qs.map fun q => q.1 :: q.2 := by
  rw [h.eq, List.map_map]
  exact List.map_congr_left fun l _ => qOf_split l
section
variable {x last : Str} {L0 : List Str} {qs : List (Str × List Str)}
theorem Lines.len (h : Lines x L0 last qs) : qs.length = L0.length := by
  have := congrArg List.length h.row
  rw [List.length_map, List.length_map] at this
  exact this.symm
theorem Lines.few (h : Lines x L0 last qs) : qs.length ≤ x.length := by
  have h1 := split_many x 10
  have h2 : Txt.split x ⟨#[10]⟩ = L0 ++ [last] := h.cut
  rw [h2, List.length_append, List.length_singleton, ← h.len] at h1
  omega
theorem Lines.word (h : Lines x L0 last qs) {q : Str × List Str} (hq : q ∈ qs) : q.2.length ≤ x.length ∧ ∀ w ∈ q.1 :: q.2, w.length ≤ x.length := by
  have h1 : (q.1 :: q.2) ∈ L0.map (fun l => Txt.split l spc) := by rw [h.row]; exact List.mem_map.mpr ⟨q, hq, rfl⟩
  obtain ⟨l, hl, e⟩ := List.mem_map.mp h1
  have hc : Txt.split x ⟨#[10]⟩ = L0 ++ [last] := h.cut
  have h2 : l.length ≤ x.length := split_mem (c := 10) (by rw [hc]; exact List.mem_append_left _ hl)
  have h3 := split_many l 32
  have e' : Txt.split l ⟨#[32]⟩ = q.1 :: q.2 := e
  rw [e', List.length_cons] at h3
  exact ⟨by omega, fun w hw => Nat.le_trans (split_mem (c := 32) (by rw [e']; exact hw)) h2⟩
theorem str_nil' {s : Str} : s = Str.ofString "" ↔ cpl s = [] := by
  constructor
  · intro e; rw [e]; rfl
  · intro e; exact str_cps e
end
theorem lnD_low {n : Nat} {qs : List (Str × List Str)} : low n (.lst (qs.map lnD)) = true := lows_mem fun d hd => by
  obtain ⟨q, _, rfl⟩ := List.mem_map.mp hd
  exact lows_mem fun d hd => by
    obtain ⟨w, _, rfl⟩ := List.mem_map.mp hd
    rfl
theorem lines_in_any {S : Store} {x last : Str} {L0 : List Str} {qs : List (Str × List Str)} (h : Lines x L0 last qs) (hl : x.length ≤ 100000) : f_lines_in [.str x] S = if last = Str.ofString "" then .ok (.lst (qs.map lnD)) S else .ex ⟨"NoText", none⟩ S := by
  have hn : (Str.ofString "\n").length = 1 := rfl
  have hb : (Str.ofString " ").length = 1 := rfl
  have h2 : x.length ≤ 16777214 := by omega
  have h3 : L0.length ≤ 16777216 := by have := h.few; have := h.len; omega
  have hc : Txt.split x (Str.ofString "\n") = L0 ++ [last] := h.cut
  have ec : cutD ((L0 ++ [last]).map D.str) none (some (-1)) = L0.map D.str := by rw [List.map_append]; exact cutM1'
  have il : ∀ S : Store, dIx (.lst ((L0 ++ [last]).map D.str)) (.int (-1)) S = .ok (.str last) S := fun S => by
    exact o_last
  rw [u_lines_in]
  simp [-List.all_eq_true, -List.any_eq_true, -List.map_tail, -List.drop_one, -List.map_drop, -List.map_reverse, -List.map_map, -List.map_append, -List.map_take, -List.filterMap_map, -getElem?_pos, -Int.neg_ofNat_le_natCast, b_lines_in, hn, h2, hc, ec, h3, il]
  by_cases c : last = Str.ofString ""
  · rw [if_pos c, if_pos c, lcM_map (fun l => D.lst ((Txt.split l spc).map .str)) fun l hl' => ?_]
    · have e := congrArg (List.map fun ws : List Str => D.lst (ws.map .str)) h.row
      rw [List.map_map, List.map_map] at e
      have e' : L0.map (fun l => D.lst ((Txt.split l spc).map .str)) = qs.map lnD := e
      rw [e']
      simp [-List.all_eq_true, -List.any_eq_true, -List.map_tail, -List.drop_one, -List.map_drop, -List.map_reverse, -List.map_map, -List.map_append, -List.map_take, -List.filterMap_map, -getElem?_pos, -Int.neg_ofNat_le_natCast]
      rw [gcD_low (KeepS.refl S) lnD_low, List.take_length]
    · have h4 : l.length ≤ x.length := split_mem (c := 10) (by rw [show Txt.split x ⟨#[10]⟩ = L0 ++ [last] from h.cut]; exact List.mem_append_left _ hl')
      have h5 : l.length ≤ 16777214 := by omega
      simp [-List.all_eq_true, -List.any_eq_true, -List.map_tail, -List.drop_one, -List.map_drop, -List.map_reverse, -List.map_map, -List.map_append, -List.map_take, -List.filterMap_map, -getElem?_pos, -Int.neg_ofNat_le_natCast, hb, h5]
      rfl
  · rw [if_neg c, if_neg c]
    exact gcx0
def places : Str := Str.ofString "places"
def tieW : Str := Str.ofString "tie"
def treeW : Str := Str.ofString "tree"
def wdW : List (Str × List Str) → D
  | [] => .non
  | q :: r => .tup [tlT q, .tup (r.map tlT)]
def okWb : List (Str × List Str) → Bool
  | [] => false
  | q :: r => decide (q.1 = places) && r.all (fun p => decide (p.1 = tieW)) && isWebD (.tup [tlT q, .tup (r.map tlT)])
def okTr (qs : List (Str × List Str)) : Bool := qs.all fun q => decide (q.1 = treeW) && (q.2.all nameB && risingB q.2)
theorem tlT_fine {x last : Str} {L0 : List Str} {qs : List (Str × List Str)} (h : Lines x L0 last qs) (hl : x.length ≤ 100000) {q : Str × List Str} (hq : q ∈ qs) : fine (tlT q) := by
  have h1 := h.word hq
  refine ⟨by rw [List.length_map]; omega, fines_of fun d hd => ?_⟩
  obtain ⟨w, hw, rfl⟩ := List.mem_map.mp hd
  have := h1.2 w (List.mem_cons_of_mem _ hw)
  show w.length ≤ 16777216
  omega
theorem web_fine {x last : Str} {L0 : List Str} {q : Str × List Str} {r : List (Str × List Str)} (h : Lines x L0 last (q :: r)) (hl : x.length ≤ 100000) : fine (.tup [tlT q, .tup (r.map tlT)]) := by
  have h1 := h.few
  rw [List.length_cons] at h1
  refine ⟨by simp, tlT_fine h hl List.mem_cons_self, ⟨by rw [List.length_map]; omega, fines_of fun d hd => ?_⟩, trivial⟩
  obtain ⟨p, hp, rfl⟩ := List.mem_map.mp hd
  exact tlT_fine h hl (List.mem_cons_of_mem _ hp)
theorem ln_0 {S : Store} {q : Str × List Str} : dIx (lnD q) (.int 0) S = .ok (.str q.1) S := ix_lst (by decide) rfl
theorem ln_tl {m : Bool} {S : Store} {q : Str × List Str} : dSl m (lnD q) (some 1) none S = mkL m (q.2.map .str) S := by
  show dSl m (.lst ((q.1 :: q.2).map .str)) (some 1) none S = _
  rw [dSl_lst, cut1]
  rfl
theorem read_web_any {S : Store} {x last : Str} {L0 : List Str} {qs : List (Str × List Str)} (h : Lines x L0 last qs) (hl : x.length ≤ 100000) : f_read_web [.str x] S = if last = Str.ofString "" ∧ okWb qs = true then .ok (wdW qs) S else .ex ⟨"NoText", none⟩ S := by
  have li := fun S : Store => lines_in_any (S := S) h hl
  have qf := h.few
  rw [u_read_web]
  by_cases c : last = Str.ofString ""
  · cases qs with
    | nil =>
      rw [if_neg (fun k => Bool.noConfusion k.2)]
      have e0 : ∀ S : Store, dEq' (.lst []) (.lst []) S = .ok (.bl true) S := fun S => eqRepNilL (S := S) ll2 (by decide) []
      simp [-List.all_eq_true, -List.any_eq_true, -List.map_tail, -List.drop_one, -List.map_drop, -List.map_reverse, -List.map_map, -List.map_append, -List.map_take, -List.filterMap_map, -getElem?_pos, -Int.neg_ofNat_le_natCast, b_read_web, isTy, kindOf, li, c, e0]
      exact gcx0
    | cons q r =>
      have e0 : ∀ S : Store, dEq' (.lst (lnD q :: r.map lnD)) (.lst []) S = .ok (.bl false) S := fun S => by
        have := eqRepNilL (S := S) ll2 (by decide) ((q :: r).map fun q => q.1 :: q.2)
        rw [List.map_map] at this
        exact this
      have ct : cutD (lnD q :: r.map lnD) (some 1) none = r.map lnD := by rw [cutD_1]; rfl
      have rl : r.length ≤ 16777216 := by rw [List.length_cons] at qf; omega
      have iw : ∀ S : Store, f_is_web [.tup [.tup (q.2.map .str), .tup (r.map fun p => .tup (p.2.map .str))]] S = .ok (.bl (isWebD (.tup [tlT q, .tup (r.map tlT)]))) S := fun S => is_web_any (web_fine h hl)
      simp [-List.all_eq_true, -List.any_eq_true, -List.map_tail, -List.drop_one, -List.map_drop, -List.map_reverse, -List.map_map, -List.map_append, -List.map_take, -List.filterMap_map, -getElem?_pos, -Int.neg_ofNat_le_natCast, b_read_web, isTy, kindOf, li, c, e0, ct, ln_0, ln_tl, rl, iw]
      rw [gcx0, gcx0]
      have e1 : okWb (q :: r) = (decide (q.1 = places) && r.all (fun p => decide (p.1 = tieW)) && isWebD (.tup [tlT q, .tup (r.map tlT)])) := rfl
      have e2 : wdW (q :: r) = .tup [.tup (q.2.map .str), .tup (r.map fun p => .tup (p.2.map .str))] := rfl
      rw [e1, e2]
      by_cases a1 : q.1 = places
      · by_cases a2 : (r.all fun p => decide (p.1 = tieW)) = true
        · have a3 : ¬ (r.any fun p => !decide (p.1 = Str.ofString "tie")) = true := fun k => by
            obtain ⟨p, hp, k⟩ := List.any_eq_true.mp k
            have := List.all_eq_true.mp a2 p hp
            rw [show decide (p.1 = Str.ofString "tie") = true from this] at k
            cases k
          rw [if_neg (fun k => k.elim (fun k => k a1) a3), a2, decide_eq_true a1]
          cases isWebD (.tup [tlT q, .tup (r.map tlT)]) <;> rfl
        · have a3 : (r.any fun p => !decide (p.1 = Str.ofString "tie")) = true := by
            cases k : (r.any fun p => !decide (p.1 = Str.ofString "tie")) with
            | true => rfl
            | false =>
              refine absurd (List.all_eq_true.mpr fun p hp => ?_) a2
              have := List.any_eq_false.mp k p hp
              rw [Bool.not_eq_true, Bool.not_eq_false'] at this
              exact this
          rw [if_pos (.inr a3), Bool.eq_false_iff.mpr a2, Bool.and_false, Bool.false_and]
          rfl
      · rw [if_pos (.inl a1), decide_eq_false a1]
        rfl
  · rw [if_neg (fun k => c k.1)]
    simp [-List.all_eq_true, -List.any_eq_true, -List.map_tail, -List.drop_one, -List.map_drop, -List.map_reverse, -List.map_map, -List.map_append, -List.map_take, -List.filterMap_map, -getElem?_pos, -Int.neg_ofNat_le_natCast, b_read_web, isTy, kindOf, li, c]
    exact gcx0
theorem read_trees_any {S : Store} {x last : Str} {L0 : List Str} {qs : List (Str × List Str)} (h : Lines x L0 last qs) (hl : x.length ≤ 100000) : f_read_trees [.str x] S = if last = Str.ofString "" ∧ okTr qs = true then .ok (.lst (qs.map tlT)) S else .ex ⟨"NoText", none⟩ S := by
  have li := fun S : Store => lines_in_any (S := S) h hl
  have qf := h.few
  have ql : qs.length ≤ 16777216 := by omega
  have an : ∀ q ∈ qs, ∀ S : Store, f_are_names [.tup (q.2.map .str)] S = .ok (.bl (q.2.all nameB && risingB q.2)) S := fun q hq S => by
    show f_are_names [tlT q] S = _
    rw [are_names_any (tlT_fine h hl hq)]
    unfold tlT
    simp only [areNamesD, all_names, strsOf_map]
  rw [u_read_trees]
  by_cases c : last = Str.ofString ""
  · have tt : ∀ q : Str × List Str, tlT q = .tup (q.2.map .str) := fun _ => rfl
    simp [-List.all_eq_true, -List.any_eq_true, -List.map_tail, -List.drop_one, -List.map_drop, -List.map_reverse, -List.map_map, -List.map_append, -List.map_take, -List.filterMap_map, -getElem?_pos, -Int.neg_ofNat_le_natCast, b_read_trees, isTy, kindOf, li, c, ln_0, ln_tl, ql]
    rw [gcx0]
    cases a : (qs.any fun x => !decide (x.1 = Str.ofString "tree")) with
    | true =>
      rw [if_pos rfl, if_neg]
      intro k
      obtain ⟨q, hq, e⟩ := List.any_eq_true.mp a
      have := List.all_eq_true.mp k q hq
      rw [Bool.and_eq_true] at this
      rw [show decide (q.1 = Str.ofString "tree") = true from this.1] at e
      cases e
    | false =>
      have a' : ∀ q ∈ qs, decide (q.1 = treeW) = true := fun q hq => by
        have := List.any_eq_false.mp a q hq
        rw [Bool.not_eq_true, Bool.not_eq_false'] at this
        exact this
      have ek : okTr qs = qs.all fun q => q.2.all nameB && risingB q.2 := by
        unfold okTr
        rw [Bool.eq_iff_iff, List.all_eq_true, List.all_eq_true]
        refine forall_congr' fun q => forall_congr' fun hq => ?_
        rw [a' q hq, Bool.true_and]
      rw [if_neg Bool.false_ne_true, lcM_map (fun q : Str × List Str => D.bl (q.2.all nameB && risingB q.2)) fun q hq => ?_]
      · rw [ek]
        simp [-List.all_eq_true, -List.any_eq_true, -List.map_tail, -List.drop_one, -List.map_drop, -List.map_reverse, -List.map_map, -List.map_append, -List.map_take, -List.filterMap_map, -getElem?_pos, -Int.neg_ofNat_le_natCast]
        rw [gcx0]
        cases (qs.all fun q : Str × List Str => q.2.all nameB && risingB q.2) <;> rfl
      · simp [-List.all_eq_true, -List.any_eq_true, -List.map_tail, -List.drop_one, -List.map_drop, -List.map_reverse, -List.map_map, -List.map_append, -List.map_take, -List.filterMap_map, -getElem?_pos, -Int.neg_ofNat_le_natCast, an q hq]
  · rw [if_neg (fun k => c k.1)]
    simp [-List.all_eq_true, -List.any_eq_true, -List.map_tail, -List.drop_one, -List.map_drop, -List.map_reverse, -List.map_map, -List.map_append, -List.map_take, -List.filterMap_map, -getElem?_pos, -Int.neg_ofNat_le_natCast, b_read_trees, isTy, kindOf, li, c]
    exact gcx0
theorem str_nil {x : Str} : x = (Str.ofString "") ↔ x.length = 0 := by
  constructor
  · rintro rfl
    rfl
  · intro h
    refine cpl_inj ?_
    have : (cpl x).length = 0 := by rw [cpl_length]; exact h
    rw [List.eq_nil_of_length_eq_zero this]
    rfl
theorem strip_nil {x y : Str} : (Txt.stripChars x y).length = 0 ↔ ∀ c ∈ cpl x, c ∈ cpl y := by
  have hg : ∀ c, y.cps.contains c = true ↔ c ∈ cpl y := fun c => by simp [cpl]
  have at_ : ∀ k, k < x.length → x.cps.getD k 0 ∈ cpl x := fun k hk => by
    have hk : k < x.cps.size := hk
    have : x.cps.getD k 0 = x.cps[k] := by simp [Array.getD, hk]
    rw [this]
    unfold cpl
    exact Array.mem_toList_iff.mpr (Array.getElem_mem hk)
  unfold Txt.stripChars
  rw [PyProof.Rows.stripBy_eq]
  obtain ⟨a1, a2, a3⟩ := PyProof.Rows.lo_facts y.cps.contains x
  generalize stripLo y.cps.contains true x = lo at a1 a2 a3 ⊢
  obtain ⟨b1, b2, b3, b4⟩ := PyProof.Rows.hi_facts y.cps.contains x lo a1
  generalize stripHi y.cps.contains true x lo = hi at b1 b2 b3 b4 ⊢
  rw [size_strSub x lo hi b2]
  constructor
  · intro h c hc
    obtain ⟨k, hk, ek⟩ := List.getElem_of_mem hc
    have hk2 : k < x.length := by rw [← cpl_length]; exact hk
    have e : c = x.cps.getD k 0 := by
      have hk : k < x.cps.size := hk2
      rw [← ek]
      simp [cpl, Array.getD, hk]
    rw [e, ← hg]
    rcases Nat.lt_or_ge k lo with q | q
    · exact a2 k q
    · exact b3 k (by omega) hk2
  · intro h
    rcases a3 with a3 | a3
    · omega
    · rcases Nat.lt_or_ge lo x.length with q | q
      · have := (hg _).mpr (h _ (at_ lo q))
        rw [this] at a3
        cases a3
      · omega
@[simp] theorem o_strip {S : Store} {a b : Str} (h : a.length ≤ 16777216) : mStrip (.str a) [.str b] S = .ok (.str (Txt.stripChars a b)) S := by
  show (if fit a.length = true then _ else _) = _
  rw [if_pos (by rw [fit_le]; exact h)]
theorem strip_eq {w : Str} : (Txt.stripChars w (Str.ofString "abcdefghijklmnopqrstuvwxyz") = Str.ofString "") ↔ (cpl w).all (fun c => decide (c ∈ cpl abc)) = true := by
  rw [str_nil, strip_nil, List.all_eq_true]
  simp only [decide_eq_true_eq]
  rfl
theorem law_names_ok {S : Store} {ws : List Str} (h1 : ws.length ≤ 1000000) (h2 : ∀ w ∈ ws, w.length ≤ 16777216) : f_law_names [.lst (ws.map .str)] S = .ok (if ws.all nameB = true then .lst (ws.map .str) else .non) S := by
  have l1 : ws.length ≤ 16777216 := by omega
  rw [u_law_names]
  simp [-List.all_eq_true, -List.any_eq_true, -List.map_tail, -List.drop_one, -List.map_drop, -List.map_reverse, -List.map_map, -List.map_append, -List.map_take, -List.filterMap_map, -getElem?_pos, -Int.neg_ofNat_le_natCast, b_law_names, l1]
  rw [lcM_map (fun w : Str => D.bl (nameB w)) fun w hw => ?_]
  · simp [-List.all_eq_true, -List.any_eq_true, -List.map_tail, -List.drop_one, -List.map_drop, -List.map_reverse, -List.map_map, -List.map_append, -List.map_take, -List.filterMap_map, -getElem?_pos, -Int.neg_ofNat_le_natCast]
    by_cases c : ws.all nameB = true
    · rw [if_pos c, if_neg]
      rintro ⟨w, hw, e⟩
      rw [List.all_eq_true.mp c w hw] at e
      cases e
    · rw [if_neg c, if_pos]
      refine Classical.byContradiction fun k => c (List.all_eq_true.mpr fun w hw => ?_)
      cases e : nameB w with
      | true => rfl
      | false => exact absurd ⟨w, hw, e⟩ k
  · have l2 := h2 w hw
    simp [-List.all_eq_true, -List.any_eq_true, -List.map_tail, -List.drop_one, -List.map_drop, -List.map_reverse, -List.map_map, -List.map_append, -List.map_take, -List.filterMap_map, -getElem?_pos, -Int.neg_ofNat_le_natCast, l2]
    unfold nameB
    by_cases a1 : 1 ≤ w.length
    · by_cases a2 : w.length ≤ 8
      · rw [if_pos (by omega), if_pos (by omega), decide_eq_true a1, decide_eq_true a2, Bool.true_and, Bool.true_and]
        congr 2
        rw [Bool.eq_iff_iff, decide_eq_true_iff]
        exact strip_eq
      · rw [if_pos (by omega), if_neg (by omega), decide_eq_false a2, Bool.and_false, Bool.false_and]
    · rw [if_neg (by omega), decide_eq_false a1, Bool.false_and, Bool.false_and]
def lineOk (first : Str) (start : Bool) (q : Str × List Str) : Bool := (q.1 :: q.2).all nameB && (if first = treeW then decide (q.1 = treeW) && decide (q.2 = setL q.2) else decide (q.1 = if start then first else tieW))
def rowsG (first : Str) : List (Str × List Str) → Bool
  | [] => true
  | q :: r => lineOk first true q && r.all (lineOk first false)
theorem rowsG_app {first : Str} {q : Str × List Str} {r : List (Str × List Str)} : ∀ {p : List (Str × List Str)}, rowsG first (p ++ q :: r) = (rowsG first p && lineOk first p.isEmpty q && r.all (lineOk first false))
  | [] => by simp [rowsG]
  | a :: p => by
    show (lineOk first true a && (p ++ q :: r).all (lineOk first false)) = (lineOk first true a && p.all (lineOk first false) && lineOk first false q && r.all (lineOk first false))
    rw [List.all_append, List.all_cons]
    simp only [Bool.and_assoc]
theorem few_words {l : Str} {q : Str × List Str} (h : Txt.split l spc = q.1 :: q.2) (hn : (q.1 :: q.2).all nameB = true) : 2 * q.2.length ≤ l.length + 1 := by
  have h1 := split_sum l 32
  have h' : Txt.split l ⟨#[32]⟩ = q.1 :: q.2 := h
  rw [h'] at h1
  have key : ∀ ws : List Str, ws.all nameB = true → 2 * ws.length ≤ sumL (ws.map cpl) := by
    intro ws
    induction ws with
    | nil => intro _; exact Nat.zero_le _
    | cons w ws ih =>
      intro h
      rw [List.all_cons, Bool.and_eq_true] at h
      have h1 := ih h.2
      have h2 := (nameB_iff.mp h.1).1
      unfold sumL at *
      rw [List.map_cons, List.map_cons, List.sum_cons, cpl_length, List.length_cons]
      omega
  have := key _ hn
  rw [List.length_cons] at this
  omega
theorem ix_lastS {S : Store} {x : Str} {l : List Nat} {c : Nat} (h : cpl x = l ++ [c]) (hf : x.length ≤ 16777216) : dIx (.str x) (.int (-1)) S = .ok (.str ⟨#[c]⟩) S := by
  have e : L2.atI x.cps.toList (-1) = some c := by
    have h : x.cps.toList = l ++ [c] := h
    rw [h]
    unfold L2.atI ixN
    have hl : (l ++ [c]).length = l.length + 1 := by simp
    rw [hl, if_neg (by decide), if_pos (by omega)]
    show (l ++ [c])[((-1 : Int) + ((l.length + 1 : Nat) : Int)).toNat]? = _
    rw [show ((-1 : Int) + ((l.length + 1 : Nat) : Int)).toNat = l.length by omega]
    simp
  show (if fit x.length = true then match L2.atI x.cps.toList (-1) with
    | some c => R.ok (D.str ⟨#[c]⟩) S
    | none => .bad
    else .bad) = _
  rw [if_pos (fit_le.mpr hf), e]
theorem Lines.end_ {x last : Str} {L0 : List Str} {qs : List (Str × List Str)} (h : Lines x L0 last qs) : (x = Str.ofString "" ∧ last = Str.ofString "") ∨ ∃ l c, cpl x = l ++ [c] ∧ (c = 10 ↔ last = Str.ofString "") := by
  have hj := split_cpl x 10
  rw [show Txt.split x ⟨#[10]⟩ = L0 ++ [last] from h.cut] at hj
  have key : ∀ (ws : List (List Nat)) (v : List Nat), ws ≠ [] → ∃ l, TL.joinL [10] (ws ++ [v]) = l ++ (10 :: v) := by
    intro ws v
    induction ws with
    | nil => intro h; exact absurd rfl h
    | cons w ws ih =>
      intro _
      cases ws with
      | nil => exact ⟨w, rfl⟩
      | cons u ws =>
        obtain ⟨l, e⟩ := ih (by simp)
        refine ⟨w ++ ([10] ++ l), ?_⟩
        show w ++ ([10] ++ TL.joinL [10] (u :: ws ++ [v])) = _
        rw [e]
        simp
  have free : ∀ c ∈ cpl last, c ≠ 10 := fun c hc e => by
    have := StrLaws.split_free x 10 last (by rw [show Txt.split x ⟨#[10]⟩ = L0 ++ [last] from h.cut]; simp)
    exact this (e ▸ hc)
  rcases List.eq_nil_or_concat (cpl last) with e | ⟨l, c, e⟩
  · have hl : last = Str.ofString "" := str_nil'.mpr e
    cases L0 with
    | nil =>
      refine .inl ⟨str_nil'.mpr ?_, hl⟩
      rw [hj]
      show cpl last = []
      exact e
    | cons a L0 =>
      obtain ⟨l, e2⟩ := key ((a :: L0).map cpl) (cpl last) (by simp)
      refine .inr ⟨l, 10, ?_, ⟨fun _ => hl, fun _ => rfl⟩⟩
      rw [hj, List.map_append]
      show TL.joinL [10] ((a :: L0).map cpl ++ [cpl last]) = _
      rw [e2, e]
  · have hne : c ≠ 10 := free c (by rw [e]; simp)
    have hl : last ≠ Str.ofString "" := fun k => by
      rw [str_nil'.mp k] at e
      simp at e
    refine .inr (?_ : ∃ l c, _)
    cases L0 with
    | nil =>
      refine ⟨l, c, ?_, ⟨fun k => absurd k hne, fun k => absurd k hl⟩⟩
      rw [hj]
      show cpl last = _
      rw [e]
      simp
    | cons a L0 =>
      obtain ⟨l2, e2⟩ := key ((a :: L0).map cpl) (cpl last) (by simp)
      refine ⟨l2 ++ (10 :: l), c, ?_, ⟨fun k => absurd k hne, fun k => absurd k hl⟩⟩
      rw [hj, List.map_append]
      show TL.joinL [10] ((a :: L0).map cpl ++ [cpl last]) = _
      rw [e2, e]
      simp
theorem lineOk_named {first : Str} {start : Bool} {q : Str × List Str} (cn : (q.1 :: q.2).all nameB = true) : lineOk first start q = if first = treeW then (decide (q.1 = treeW) && decide (q.2 = setL q.2)) else decide (q.1 = if start then first else tieW) := by
  unfold lineOk
  rw [cn, Bool.true_and]
theorem lineOk_bad {first : Str} {start : Bool} {q : Str × List Str} (cn : ¬ (q.1 :: q.2).all nameB = true) : lineOk first start q = false := by
  unfold lineOk
  rw [Bool.eq_false_iff.mpr cn]
  rfl
theorem law_rows_any {S : Store} {x last first : Str} {L0 : List Str} {qs : List (Str × List Str)} (h : Lines x L0 last qs) (hl : x.length ≤ 7990) (hf : first = places ∨ first = treeW) : f_law_rows [.str x, .str first] S = .ok (if last = Str.ofString "" ∧ rowsG first qs = true then .lst (qs.map tlT) else .non) S := by
  have hn : (Str.ofString "\n").length = 1 := rfl
  have hb : (Str.ofString " ").length = 1 := rfl
  have h2 : x.length ≤ 16777214 := by omega
  have hc : Txt.split x (Str.ofString "\n") = L0 ++ [last] := h.cut
  have ec : cutD ((L0 ++ [last]).map D.str) none (some (-1)) = L0.map D.str := by rw [List.map_append]; exact cutM1'
  have l0 : L0.length ≤ 16777216 := by have := h.few; have := h.len; omega
  have tq : ∀ (ps : List (Str × List Str)) (S : Store), dEq' (.lst (ps.map tlT)) (.lst []) S = .ok (.bl ps.isEmpty) S := fun ps S => by
    have := eqRepNilL (S := S) (fun xs : List Str => D.tup (xs.map D.str)) (by decide) (ps.map Prod.snd)
    rw [List.map_map] at this
    have e : (ps.map Prod.snd).isEmpty = ps.isEmpty := by cases ps <;> rfl
    rw [e] at this
    exact this
  refine wp.eq ?_
  rw [u_law_rows, wp_gc]
  by_cases cl : last = Str.ofString ""
  · rcases h.end_ with ⟨e1, e2⟩ | ⟨l, c, e1, e2⟩
    case' inl => simp [-List.all_eq_true, -List.any_eq_true, -List.map_tail, -List.drop_one, -List.map_drop, -List.map_reverse, -List.map_map, -List.map_append, -List.map_take, -List.filterMap_map, -getElem?_pos, -Int.neg_ofNat_le_natCast, b_law_rows, isTy, kindOf, eq_true e1, hn, h2, hc, ec]
    case' inr =>
      obtain rfl := e2.mpr cl
      have il : ∀ S : Store, dIx (.str x) (.int (-1)) S = .ok (.str (Str.ofString "\n")) S := fun S => ix_lastS (S := S) e1 (by omega)
      simp [-List.all_eq_true, -List.any_eq_true, -List.map_tail, -List.drop_one, -List.map_drop, -List.map_reverse, -List.map_map, -List.map_append, -List.map_take, -List.filterMap_map, -getElem?_pos, -Int.neg_ofNat_le_natCast, b_law_rows, isTy, kindOf, il, hn, h2, hc, ec]
    all_goals
      refine wpS_for (α := Str) (f := D.str) (fun p e S' => rowsG first (p.map qOf) = true ∧ S' = S ++ [.lst ((p.map qOf).map tlT)] ∧ ∃ z3 z4, e = [some (.str x), some (.str first), some (.ref S.length), z3, z4]) ?_ ?_ ?_
      · exact ⟨rfl, rfl, _, _, rfl⟩
      · rintro p w r e S1 hw ⟨hp, rfl, z3, z4, rfl⟩
        have hqs : qs = p.map qOf ++ qOf w :: r.map qOf := by rw [h.eq, hw, List.map_append, List.map_cons]
        have hq : qOf w ∈ qs := by rw [hqs]; simp
        have hwd := h.word hq
        have hs := qOf_split w
        have hs' : Txt.split w (Str.ofString " ") = (qOf w).1 :: (qOf w).2 := hs
        have wl : w.length ≤ x.length := split_mem (c := 10) (by rw [show Txt.split x ⟨#[10]⟩ = L0 ++ [last] from h.cut, hw]; simp)
        have wl2 : w.length ≤ 16777214 := by omega
        have app := rowsG_app (first := first) (q := qOf w) (r := r.map qOf) (p := p.map qOf)
        rw [hp, Bool.true_and] at app
        have nm := fun S : Store => law_names_ok (S := S) (ws := (qOf w).1 :: (qOf w).2) (by rw [List.length_cons]; omega) (fun v hv => by have := hwd.2 v hv; omega)
        generalize hqw : qOf w = q at *
        by_cases cn : (q.1 :: q.2).all nameB = true
        · have sl := few_words hs cn
          have sl2 : q.2.length ≤ 3999 := by omega
          have nm1 : ∀ S : Store, f_law_names [.lst (.str q.1 :: q.2.map .str)] S = .ok (.lst (.str q.1 :: q.2.map .str)) S := fun S => by
            have := nm S
            rw [if_pos cn] at this
            exact this
          have isn : ∀ (ds : List D) (S : Store), dIs false (.lst ds) .non S = .ok (.bl false) S := fun ds S => rfl
          have ix0 : ∀ S : Store, dIx (.lst (.str q.1 :: q.2.map .str)) (.int 0) S = .ok (.str q.1) S := fun S => ix_lst (by decide) rfl
          have ct : cutD (D.str q.1 :: q.2.map .str) (some 1) none = q.2.map .str := by rw [cutD_1]; rfl
          have ns : ∀ S : Store, dNe' (.lst (q.2.map .str)) (.lst ((setL q.2).map .str)) S = .ok (.bl (!decide (q.2 = setL q.2))) S := fun S => neRep (S := S) ll2 (by decide) q.2 (setL q.2)
          simp [-List.all_eq_true, -List.any_eq_true, -List.map_tail, -List.drop_one, -List.map_drop, -List.map_reverse, -List.map_map, -List.map_append, -List.map_take, -List.filterMap_map, -getElem?_pos, -Int.neg_ofNat_le_natCast, hb, wl2, hs', nm1, tq, isn, ix0, ct, ns, sl2]
          have bad : lineOk first (p.map qOf).isEmpty q = false → last = Str.ofString "" → rowsG first qs = false := fun k _ => by
            rw [hqs, app, k]
            rfl
          have good : lineOk first (p.map qOf).isEmpty q = true → p.length ≤ 16777215 ∧ rowsG first ((p ++ [w]).map qOf) = true ∧ (p.map qOf).map tlT ++ [D.tup (q.2.map D.str)] = ((p ++ [w]).map qOf).map tlT := fun k => by
            have hlen := congrArg List.length hw
            rw [List.length_append, List.length_cons] at hlen
            refine ⟨by omega, ?_, ?_⟩
            · rw [List.map_append, List.map_cons, List.map_nil, hqw, rowsG_app, hp, k]
              rfl
            · rw [List.map_append, List.map_cons, List.map_nil, hqw, List.map_append]
              rfl
          rw [lineOk_named cn] at bad good
          have hst : ((p.map qOf).isEmpty = true) = (p = []) := by cases p <;> simp
          by_cases ft : first = treeW
          · rw [if_pos ft] at bad good
            rw [if_neg (fun k => k.2 ft)]
            by_cases c2 : q.1 = first ∧ q.2 = setL q.2
            · rw [if_neg (fun k => k.2.elim (fun k => k c2.1) fun k => k c2.2)]
              exact good (by rw [decide_eq_true (c2.1.trans ft), decide_eq_true c2.2]; rfl)
            · rw [if_pos ⟨ft, Classical.not_and_iff_not_or_not.mp c2⟩]
              refine bad (Bool.eq_false_iff.mpr fun k => c2 ?_)
              rw [Bool.and_eq_true] at k
              exact ⟨(of_decide_eq_true k.1).trans ft.symm, of_decide_eq_true k.2⟩
          · rw [if_neg ft] at bad good
            simp only [hst] at bad good
            by_cases c1 : q.1 = if p = [] then first else tieW
            · rw [if_neg (fun k => k.1 c1), if_neg (fun k => ft k.1)]
              exact good (decide_eq_true c1)
            · rw [if_pos ⟨c1, ft⟩]
              exact bad (decide_eq_false c1)
        · have nm1 : ∀ S : Store, f_law_names [.lst (.str q.1 :: q.2.map .str)] S = .ok .non S := fun S => by
            have := nm S
            rw [if_neg cn] at this
            exact this
          have isn : ∀ S : Store, dIs false .non .non S = .ok (.bl true) S := fun S => rfl
          simp [-List.all_eq_true, -List.any_eq_true, -List.map_tail, -List.drop_one, -List.map_drop, -List.map_reverse, -List.map_map, -List.map_append, -List.map_take, -List.filterMap_map, -getElem?_pos, -Int.neg_ofNat_le_natCast, hb, wl2, hs', nm1, isn]
          exact fun _ => by
            rw [hqs, app, lineOk_bad cn]
            rfl
      · rintro e S1 ⟨hp, rfl, z3, z4, rfl⟩
        simp [-List.all_eq_true, -List.any_eq_true, -List.map_tail, -List.drop_one, -List.map_drop, -List.map_reverse, -List.map_map, -List.map_append, -List.map_take, -List.filterMap_map, -getElem?_pos, -Int.neg_ofNat_le_natCast]
        rw [gcD_own ((KeepS.refl S).app _) (Nat.le_refl _) st_at0 (lows_mem fun d hd => by
          obtain ⟨q, _, rfl⟩ := List.mem_map.mp hd
          exact lows_mem fun d hd => by
            obtain ⟨w, _, rfl⟩ := List.mem_map.mp hd
            rfl), List.take_left]
        rw [← h.eq] at hp ⊢
        exact ⟨by rw [if_pos ⟨cl, hp⟩], rfl⟩
  · rcases h.end_ with ⟨e1, e2⟩ | ⟨l, c, e1, e2⟩
    · exact absurd e2 cl
    · have il := fun S : Store => ix_lastS (S := S) e1 (by omega)
      have x0 : ¬ x = Str.ofString "" := fun k => by
        rw [str_nil'.mp k] at e1
        simp at e1
      have c0 : ¬ (⟨#[c]⟩ : Str) = Str.ofString "\n" := fun k => cl (e2.mp (by
        have := congrArg cpl k
        injection this))
      simp [-List.all_eq_true, -List.any_eq_true, -List.map_tail, -List.drop_one, -List.map_drop, -List.map_reverse, -List.map_map, -List.map_append, -List.map_take, -List.filterMap_map, -getElem?_pos, -Int.neg_ofNat_le_natCast, b_law_rows, isTy, kindOf, il, x0, c0, cl]
def rowOk (ns : List Str) (p : Str × List Str) : Bool := match p.2 with
  | [_, a, b] => !decide (a = b) && (decide (a ∈ ns) && decide (b ∈ ns))
  | _ => false
def headOf (p : Str × List Str) : Str := p.2.headD (Str.ofString "")
theorem rowOk_at {ns : List Str} {p : Str × List Str} (h : rowOk ns p = true) : ∃ t a b, p.2 = [t, a, b] := by
  unfold rowOk at h
  split at h
  · rename_i t a b e
    exact ⟨t, a, b, e⟩
  · cases h
theorem tie_row {ns : List Str} {p : Str × List Str} (hn : p.2.all nameB = true) : isTieD ns (tlT p) = rowOk ns p := by
  unfold rowOk
  split
  · rename_i t a b e
    unfold tlT
    rw [e] at hn ⊢
    simp at hn
    simp [isTieD, hn]
    rw [Bool.and_comm]
  · rename_i k
    cases e : isTieD ns (tlT p) with
    | false => rfl
    | true =>
      obtain ⟨t, a, b, e2, _⟩ := isTieD_row e
      unfold tlT at e2
      have e3 : p.2.map D.str = [t, a, b].map D.str := by injection e2
      have e4 := congrArg strsOf e3
      rw [strsOf_map, strsOf_map] at e4
      exact absurd e4 (k t a b)
theorem word_names : nameB places = true ∧ nameB tieW = true ∧ nameB treeW = true ∧ places ≠ treeW := ⟨by decide +kernel, by decide +kernel, by decide +kernel, by decide +kernel⟩
theorem rowsG_cons {q : Str × List Str} {r : List (Str × List Str)} : rowsG places (q :: r) = true ↔ (q.2.all nameB = true ∧ q.1 = places) ∧ ∀ p ∈ r, p.2.all nameB = true ∧ p.1 = tieW := by
  have one : ∀ (b : Bool) (p : Str × List Str), lineOk places b p = true ↔ p.2.all nameB = true ∧ p.1 = if b then places else tieW := fun b p => by
    by_cases cn : (p.1 :: p.2).all nameB = true
    · rw [lineOk_named cn, if_neg word_names.2.2.2, decide_eq_true_iff]
      rw [List.all_cons, Bool.and_eq_true] at cn
      exact ⟨fun k => ⟨cn.2, k⟩, fun k => k.2⟩
    · rw [lineOk_bad cn]
      refine ⟨fun k => Bool.noConfusion k, fun k => absurd ?_ cn⟩
      rw [List.all_cons, k.1, k.2, Bool.and_true]
      cases b
      · exact word_names.2.1
      · exact word_names.1
  show (lineOk places true q && r.all (lineOk places false)) = true ↔ _
  rw [Bool.and_eq_true, one]
  exact ⟨fun k => ⟨k.1, fun p hp => (one false p).mp (List.all_eq_true.mp k.2 p hp)⟩, fun k => ⟨k.1, List.all_eq_true.mpr fun p hp => (one false p).mpr (k.2 p hp)⟩⟩
theorem isWeb_rows {q : Str × List Str} {r : List (Str × List Str)} : isWebD (.tup [tlT q, .tup (r.map tlT)]) = (q.2.all nameB && risingB q.2 && (!q.2.isEmpty && (r.map tlT).all (isTieD q.2) && risingB ((r.map tlT).map firstOf))) := by
  show (areNamesD (.tup (q.2.map .str)) && (!(q.2.map D.str).isEmpty && (r.map tlT).all (isTieD (strsOf (q.2.map .str))) && risingB ((r.map tlT).map firstOf))) = _
  simp only [areNamesD, all_names, strsOf_map, List.isEmpty_map]
theorem tlT_low {n : Nat} {q : Str × List Str} : low n (tlT q) = true := lows_mem fun d hd => by
  obtain ⟨w, _, rfl⟩ := List.mem_map.mp hd
  rfl
theorem tlTs_low {n : Nat} {qs : List (Str × List Str)} : lows n (qs.map tlT) = true := lows_mem fun d hd => by
  obtain ⟨q, _, rfl⟩ := List.mem_map.mp hd
  exact tlT_low
theorem webT_low {n : Nat} {q : Str × List Str} {r : List (Str × List Str)} : low n (.tup [tlT q, .tup (r.map tlT)]) = true := by
  show (low n (tlT q) && (lows n (r.map tlT) && true)) = true
  rw [tlT_low, tlTs_low]
  rfl
theorem okWb_cons {q : Str × List Str} {r : List (Str × List Str)} : okWb (q :: r) = (decide (q.1 = places) && r.all (fun p => decide (p.1 = tieW)) && isWebD (.tup [tlT q, .tup (r.map tlT)])) := rfl
theorem okWb_rows : ∀ {qs : List (Str × List Str)}, okWb qs = true → rowsG places qs = true
  | [], h => rfl
  | q :: r, h => by
    rw [okWb_cons, isWeb_rows] at h
    simp only [Bool.and_eq_true] at h
    obtain ⟨⟨h1, h2⟩, ⟨h3, h4⟩, ⟨h5, h6⟩, h7⟩ := h
    refine rowsG_cons.mpr ⟨⟨h3, of_decide_eq_true h1⟩, fun p hp => ⟨?_, of_decide_eq_true (List.all_eq_true.mp h2 p hp)⟩⟩
    have := List.all_eq_true.mp h6 (tlT p) (List.mem_map_of_mem hp)
    obtain ⟨t, a, b, e, n1, n2, n3, _⟩ := isTieD_row this
    have e3 : p.2.map D.str = [t, a, b].map D.str := by
      unfold tlT at e
      injection e
    have e4 := congrArg strsOf e3
    rw [strsOf_map, strsOf_map] at e4
    rw [e4]
    simp [n1, n2, n3]
theorem okWb_law {q : Str × List Str} {r : List (Str × List Str)} (h : rowsG places (q :: r) = true) : okWb (q :: r) = true ↔ q.2 ≠ [] ∧ q.2 = setL q.2 ∧ r.all (rowOk q.2) = true ∧ r.map headOf = setL (r.map headOf) := by
  obtain ⟨⟨h1, h2⟩, h3⟩ := rowsG_cons.mp h
  have e1 : (r.map tlT).all (isTieD q.2) = r.all (rowOk q.2) := by
    rw [List.all_map, Bool.eq_iff_iff, List.all_eq_true, List.all_eq_true]
    refine forall_congr' fun p => forall_congr' fun hp => ?_
    rw [Function.comp, tie_row (h3 p hp).1]
  have e2 : r.all (rowOk q.2) = true → (r.map tlT).map firstOf = r.map headOf := fun k => by
    rw [List.map_map]
    refine List.map_congr_left fun p hp => ?_
    obtain ⟨t, a, b, e⟩ := rowOk_at (List.all_eq_true.mp k p hp)
    show firstOf (.tup (p.2.map .str)) = p.2.headD _
    rw [e]
    rfl
  rw [okWb_cons, isWeb_rows, e1, decide_eq_true h2, List.all_eq_true.mpr fun p hp => decide_eq_true (h3 p hp).2, h1]
  simp only [Bool.and_eq_true, Bool.true_and, setL_eq, rising_iff, Bool.not_eq_true', List.isEmpty_eq_false_iff]
  constructor
  · rintro ⟨a, ⟨b, c⟩, d⟩
    rw [e2 c] at d
    exact ⟨b, a, c, d⟩
  · rintro ⟨b, a, c, d⟩
    rw [e2 c]
    exact ⟨a, ⟨b, c⟩, d⟩
theorem few_lines {x last : Str} {L0 : List Str} {qs : List (Str × List Str)} (h : Lines x L0 last qs) (hn : ∀ q ∈ qs, nameB q.1 = true) : 2 * qs.length ≤ x.length + 1 := by
  have h1 := split_sum x 10
  rw [show Txt.split x ⟨#[10]⟩ = L0 ++ [last] from h.cut] at h1
  have key : ∀ ls : List Str, (∀ l ∈ ls, 1 ≤ l.length) → 2 * ls.length ≤ sumL ((ls ++ [last]).map cpl) := by
    intro ls
    induction ls with
    | nil => intro _; exact Nat.zero_le _
    | cons l ls ih =>
      intro k
      have k1 := ih fun l hl => k l (List.mem_cons_of_mem _ hl)
      have k2 := k l List.mem_cons_self
      unfold sumL at *
      rw [List.cons_append, List.map_cons, List.map_cons, List.sum_cons, cpl_length, List.length_cons]
      omega
  have k := key L0 fun l hl => by
    have hq : qOf l ∈ qs := by rw [h.eq]; exact List.mem_map_of_mem hl
    have a := (nameB_iff.mp (hn _ hq)).1
    have b : (qOf l).1.length ≤ l.length := split_mem (c := 32) (by rw [show Txt.split l ⟨#[32]⟩ = _ from qOf_split l]; exact List.mem_cons_self)
    omega
  rw [h.len]
  omega
theorem law_web_of_any {S : Store} {x last : Str} {L0 : List Str} {qs : List (Str × List Str)} (h : Lines x L0 last qs) (hl : x.length ≤ 7990) : f_law_web_of [.str x] S = .ok (if last = Str.ofString "" ∧ okWb qs = true then wdW qs else .non) S := by
  have lr := fun S : Store => law_rows_any (S := S) h hl (.inl rfl)
  refine wp.eq ?_
  rw [u_law_web_of, wp_gc]
  by_cases A : last = Str.ofString "" ∧ rowsG places qs = true
  · simp only [if_pos A] at lr
    have lr : ∀ S : Store, f_law_rows [.str x, .str (Str.ofString "places")] S = .ok (.lst (qs.map tlT)) S := lr
    obtain ⟨cl, hr⟩ := A
    have isn : ∀ (ds : List D) (S : Store), dIs false (.lst ds) .non S = .ok (.bl false) S := fun ds S => rfl
    cases qs with
    | nil =>
      have e0 : ∀ S : Store, dEq' (.lst []) (.lst []) S = .ok (.bl true) S := fun S => eqRepNilL (S := S) ll2 (by decide) []
      simp [-List.all_eq_true, -List.any_eq_true, -List.map_tail, -List.drop_one, -List.map_drop, -List.map_reverse, -List.map_map, -List.map_append, -List.map_take, -List.filterMap_map, -getElem?_pos, -Int.neg_ofNat_le_natCast, b_law_web_of, lr, isn, e0]
      exact fun _ k => Bool.noConfusion k
    | cons q r =>
      have tt : (fun q : Str × List Str => D.tup (q.2.map .str)) = tlT := rfl
      have e0 : ∀ S : Store, dEq' (.lst (tlT q :: r.map tlT)) (.lst []) S = .ok (.bl false) S := fun S => by
        have := eqRepNilL (S := S) (fun xs : List Str => D.tup (xs.map D.str)) (by decide) ((q :: r).map Prod.snd)
        rw [List.map_map] at this
        exact this
      have ix0 : ∀ S : Store, dIx (.lst (tlT q :: r.map tlT)) (.int 0) S = .ok (tlT q) S := fun S => ix_lst (by decide) rfl
      have qn : ∀ S : Store, dEq' (tlT q) (.tup []) S = .ok (.bl q.2.isEmpty) S := fun S => eqRepNil (S := S) D.str (by decide) q.2
      have ns : ∀ S : Store, dNe' (.lst (q.2.map .str)) (.lst ((setL q.2).map .str)) S = .ok (.bl (!decide (q.2 = setL q.2))) S := fun S => neRep (S := S) ll2 (by decide) q.2 (setL q.2)
      have ct : cutD (tlT q :: r.map tlT) (some 1) none = r.map tlT := by rw [cutD_1]; rfl
      obtain ⟨⟨h1, h2⟩, h3⟩ := rowsG_cons.mp hr
      have lw : q.2.length ≤ 3999 := by
        have hq : q ∈ L0.map qOf := by rw [← h.eq]; exact List.mem_cons_self
        obtain ⟨l, hl', e⟩ := List.mem_map.mp hq
        have a := few_words (l := l) (q := q) (by rw [← e]; exact qOf_split l) (by rw [List.all_cons, h1, h2, word_names.1]; rfl)
        have b : l.length ≤ x.length := split_mem (c := 10) (by rw [show Txt.split x ⟨#[10]⟩ = L0 ++ [last] from h.cut]; exact List.mem_append_left _ hl')
        omega
      have lrows := few_lines h (fun p hp => by
        rcases List.mem_cons.mp hp with e | e
        · rw [e, h2]; exact word_names.1
        · rw [(h3 p e).2]; exact word_names.2.1)
      rw [List.length_cons] at lrows
      have rl : r.length ≤ 16777216 := by omega
      have due := okWb_law hr
      have lt : ∀ S : Store, dList false [tlT q] S = .ok (.lst (q.2.map .str)) S := fun S => rfl
      have ss : ∀ S : Store, dSortSet false (tlT q) S = .ok (.lst ((setL q.2).map .str)) S := fun S => o_sortSetT lw
      simp [-List.all_eq_true, -List.any_eq_true, -List.map_tail, -List.drop_one, -List.map_drop, -List.map_reverse, -List.map_map, -List.map_append, -List.map_take, -List.filterMap_map, -getElem?_pos, -Int.neg_ofNat_le_natCast, b_law_web_of, lr, isn, e0, ix0, qn, ns, ct, rl, lt, ss]
      by_cases cA : q.2 = [] ∨ ¬ q.2 = setL q.2
      · rw [if_pos cA]
        refine fun _ k => ?_
        obtain ⟨d1, d2, _⟩ := due.mp k
        exact (cA.elim (fun k => d1 k) fun k => k d2).elim
      · rw [if_neg cA]
        obtain ⟨n1, n2⟩ := not_or.mp cA
        have n2 := Classical.not_not.mp n2
        refine wp_lcMfilt (rowOk q.2) tlT (fun p hp => ?_) ?_
        · obtain ⟨w, l⟩ := p
          rcases l with _ | ⟨t, _ | ⟨a, _ | ⟨b, _ | ⟨c, l⟩⟩⟩⟩
          · simp [-List.all_eq_true, -List.any_eq_true, -List.map_tail, -List.drop_one, -List.map_drop, -List.map_reverse, -List.map_map, -List.map_append, -List.map_take, -List.filterMap_map, -getElem?_pos, -Int.neg_ofNat_le_natCast, tlT, rowOk]
          · simp [-List.all_eq_true, -List.any_eq_true, -List.map_tail, -List.drop_one, -List.map_drop, -List.map_reverse, -List.map_map, -List.map_append, -List.map_take, -List.filterMap_map, -getElem?_pos, -Int.neg_ofNat_le_natCast, tlT, rowOk]
          · simp [-List.all_eq_true, -List.any_eq_true, -List.map_tail, -List.drop_one, -List.map_drop, -List.map_reverse, -List.map_map, -List.map_append, -List.map_take, -List.filterMap_map, -getElem?_pos, -Int.neg_ofNat_le_natCast, tlT, rowOk]
          · simp [-List.all_eq_true, -List.any_eq_true, -List.map_tail, -List.drop_one, -List.map_drop, -List.map_reverse, -List.map_map, -List.map_append, -List.map_take, -List.filterMap_map, -getElem?_pos, -Int.neg_ofNat_le_natCast, tlT, rowOk]
            by_cases k1 : a = b
            · simp [k1]
            · by_cases k2 : a ∈ q.2
              · by_cases k3 : b ∈ q.2
                · simp [k1, k2, k3]
                · simp [k1, k2, k3]
              · simp [k1, k2]
          · simp [-List.all_eq_true, -List.any_eq_true, -List.map_tail, -List.drop_one, -List.map_drop, -List.map_reverse, -List.map_map, -List.map_append, -List.map_take, -List.filterMap_map, -getElem?_pos, -Int.neg_ofNat_le_natCast, tlT, rowOk]
            intro k
            omega
        · have fl := List.length_filter_le (rowOk q.2) r
          by_cases cR : r.all (rowOk q.2) = true
          · have e1 : r.filter (rowOk q.2) = r := List.filter_eq_self.mpr fun p hp => List.all_eq_true.mp cR p hp
            rw [e1]
            simp [-List.all_eq_true, -List.any_eq_true, -List.map_tail, -List.drop_one, -List.map_drop, -List.map_reverse, -List.map_map, -List.map_append, -List.map_take, -List.filterMap_map, -getElem?_pos, -Int.neg_ofNat_le_natCast, rl]
            refine wp.of_eq (lcM_map (fun p => .str (headOf p)) fun p hp => ?_) ?_
            · obtain ⟨t, a, b, e⟩ := rowOk_at (List.all_eq_true.mp cR p hp)
              simp [-List.all_eq_true, -List.any_eq_true, -List.map_tail, -List.drop_one, -List.map_drop, -List.map_reverse, -List.map_map, -List.map_append, -List.map_take, -List.filterMap_map, -getElem?_pos, -Int.neg_ofNat_le_natCast, tlT, headOf, e]
            · have em : r.map (fun p => D.str (headOf p)) = (r.map headOf).map .str := by rw [List.map_map]; rfl
              have n3 : ∀ S : Store, dSortSet false (.lst ((r.map headOf).map .str)) S = .ok (.lst ((setL (r.map headOf)).map .str)) S := fun S => o_sortSetL (by rw [List.length_map]; omega)
              have n4 : ∀ S : Store, dNe' (.lst ((r.map headOf).map .str)) (.lst ((setL (r.map headOf)).map .str)) S = .ok (.bl (!decide (r.map headOf = setL (r.map headOf)))) S := fun S => neRep (S := S) ll2 (by decide) _ _
              rw [em]
              generalize hR : r.map headOf = R at *
              simp [-List.all_eq_true, -List.any_eq_true, -List.map_tail, -List.drop_one, -List.map_drop, -List.map_reverse, -List.map_map, -List.map_append, -List.map_take, -List.filterMap_map, -getElem?_pos, -Int.neg_ofNat_le_natCast, n3, n4]
              by_cases cS : R = setL R
              · rw [if_pos cS]
                refine wp_low (KeepS.refl S) webT_low ?_
                rw [List.take_length, if_pos ⟨cl, due.mpr ⟨n1, n2, cR, cS⟩⟩]
                exact ⟨rfl, rfl⟩
              · rw [if_neg cS]
                exact fun _ k => absurd (due.mp k).2.2.2 cS
          · have lt2 : (r.filter (rowOk q.2)).length < r.length := by
              refine List.length_filter_lt_length_iff_exists.mpr (Classical.byContradiction fun k => cR (List.all_eq_true.mpr fun p hp => ?_))
              cases e : rowOk q.2 p with
              | true => rfl
              | false => exact absurd ⟨p, hp, by rw [e]; exact Bool.false_ne_true⟩ k
            have fl2 : (r.filter (rowOk q.2)).length ≤ 16777216 := by omega
            have al : ∀ p ∈ r.filter (rowOk q.2), rowOk q.2 p = true := fun p hp => (List.mem_filter.mp hp).2
            generalize r.filter (rowOk q.2) = G at *
            simp [-List.all_eq_true, -List.any_eq_true, -List.map_tail, -List.drop_one, -List.map_drop, -List.map_reverse, -List.map_map, -List.map_append, -List.map_take, -List.filterMap_map, -getElem?_pos, -Int.neg_ofNat_le_natCast, fl2]
            refine wp.of_eq (lcM_map (fun p => .str (headOf p)) fun p hp => ?_) ?_
            · obtain ⟨t, a, b, e⟩ := rowOk_at (al p hp)
              simp [-List.all_eq_true, -List.any_eq_true, -List.map_tail, -List.drop_one, -List.map_drop, -List.map_reverse, -List.map_map, -List.map_append, -List.map_take, -List.filterMap_map, -getElem?_pos, -Int.neg_ofNat_le_natCast, tlT, headOf, e]
            · simp [-List.all_eq_true, -List.any_eq_true, -List.map_tail, -List.drop_one, -List.map_drop, -List.map_reverse, -List.map_map, -List.map_append, -List.map_take, -List.filterMap_map, -getElem?_pos, -Int.neg_ofNat_le_natCast, lt2]
              exact fun _ k => absurd (due.mp k).2.2.1 cR
  · simp only [if_neg A] at lr
    have lr : ∀ S : Store, f_law_rows [.str x, .str (Str.ofString "places")] S = .ok .non S := lr
    have isn : ∀ S : Store, dIs false .non .non S = .ok (.bl true) S := fun S => rfl
    simp [-List.all_eq_true, -List.any_eq_true, -List.map_tail, -List.drop_one, -List.map_drop, -List.map_reverse, -List.map_map, -List.map_append, -List.map_take, -List.filterMap_map, -getElem?_pos, -Int.neg_ofNat_le_natCast, b_law_web_of, lr, isn]
    exact fun k1 k2 => absurd ⟨k1, okWb_rows k2⟩ A
theorem okTr_rows (qs : List (Str × List Str)) : rowsG treeW qs = okTr qs := by
  have one : ∀ (b : Bool) (q : Str × List Str), lineOk treeW b q = (decide (q.1 = treeW) && (q.2.all nameB && risingB q.2)) := fun b q => by
    by_cases cn : (q.1 :: q.2).all nameB = true
    · rw [lineOk_named cn, if_pos rfl]
      rw [List.all_cons, Bool.and_eq_true] at cn
      rw [cn.2, Bool.true_and]
      congr 1
      rw [Bool.eq_iff_iff, decide_eq_true_iff, setL_eq, rising_iff]
    · rw [lineOk_bad cn]
      symm
      refine Bool.eq_false_iff.mpr fun k => cn ?_
      simp only [Bool.and_eq_true] at k
      rw [List.all_cons, k.2.1, Bool.and_true, of_decide_eq_true k.1]
      exact word_names.2.2.1
  have e : ∀ b, lineOk treeW b = fun q => (decide (q.1 = treeW) && (q.2.all nameB && risingB q.2)) := fun b => funext (one b)
  cases qs with
  | nil => rfl
  | cons q r =>
    show (lineOk treeW true q && r.all (lineOk treeW false)) = _
    rw [e, e]
    rfl
theorem no_other {S : Store} : f_law_is_other [.exc "NoText" []] S = .ok (.bl false) S := by
  have inR : (Str.ofString "NoText") ∈ rsX := by decide
  rw [u_law_is_other]
  have f0 : isSubX (Str.ofString "NoText") (Str.ofString "NoCosts") = false := rfl
  have f1 : isSubX (Str.ofString "NoText") (Str.ofString "NoLot") = false := rfl
  have f2 : isSubX (Str.ofString "NoText") (Str.ofString "NoNumber") = false := rfl
  have f3 : isSubX (Str.ofString "NoText") (Str.ofString "NoPlace") = false := rfl
  have f4 : isSubX (Str.ofString "NoText") (Str.ofString "NoRoots") = false := rfl
  have f5 : isSubX (Str.ofString "NoText") (Str.ofString "NoTie") = false := rfl
  have f6 : isSubX (Str.ofString "NoText") (Str.ofString "NoTree") = false := rfl
  have f7 : isSubX (Str.ofString "NoText") (Str.ofString "NoWeb") = false := rfl
  have f8 : isSubX (Str.ofString "NoText") (Str.ofString "TooFew") = false := rfl
  have f9 : isSubX (Str.ofString "NoText") (Str.ofString "TooMany") = false := rfl
  have da : ∀ S : Store, dAny [.lst [.bl false, .bl false, .bl false, .bl false, .bl false, .bl false, .bl false, .bl false, .bl false, .bl false]] S = .ok (.bl false) S := fun S => rfl
  simp [-List.all_eq_true, -List.any_eq_true, -List.map_tail, -List.drop_one, -List.map_drop, -List.map_reverse, -List.map_map, -List.map_append, -List.map_take, -List.filterMap_map, -getElem?_pos, -Int.neg_ofNat_le_natCast, b_law_is_other, isEK_ok inR, f0, f1, f2, f3, f4, f5, f6, f7, f8, f9, da]
theorem told_low {n : Nat} {s : Str} {d : D} (h : low n d = true) : low n (.tup [.str s, d]) = true := by
  show (true && (low n d && true)) = true
  rw [h]
  rfl
theorem wdW_low {n : Nat} : ∀ {qs : List (Str × List Str)}, low n (wdW qs) = true
  | [] => rfl
  | q :: r => webT_low
theorem told_web {S : Store} {x last : Str} {L0 : List Str} {qs : List (Str × List Str)} (h : Lines x L0 last qs) (hl : x.length ≤ 7990) : f_law_told [.str x, .bl true] S = .ok (if last = Str.ofString "" ∧ okWb qs = true then .tup [.str (Str.ofString "told"), wdW qs] else .tup [.str (Str.ofString "refused"), .bl true]) S := by
  have rd := fun S : Store => read_web_any (S := S) h (by omega)
  have inR : (Str.ofString "NoText") ∈ rsX := by decide
  refine wp.eq ?_
  rw [u_law_told, wp_gc]
  by_cases A : last = Str.ofString "" ∧ okWb qs = true
  · simp only [if_pos A] at rd
    simp [-List.all_eq_true, -List.any_eq_true, -List.map_tail, -List.drop_one, -List.map_drop, -List.map_reverse, -List.map_map, -List.map_append, -List.map_take, -List.filterMap_map, -getElem?_pos, -Int.neg_ofNat_le_natCast, b_law_told, rd]
    refine wp_low (KeepS.refl S) (told_low wdW_low) ?_
    rw [List.take_length, if_pos A]
    exact ⟨rfl, rfl⟩
  · simp only [if_neg A] at rd
    have e1 : isSubX (Str.ofString "NoText") (Str.ofString "RootError") = true := rfl
    have e2 : isSubX (Str.ofString "NoText") (Str.ofString "NoText") = true := rfl
    have e3 : isSubX (Str.ofString "NoText") (Str.ofString "ValueError") = true := rfl
    simp [-List.all_eq_true, -List.any_eq_true, -List.map_tail, -List.drop_one, -List.map_drop, -List.map_reverse, -List.map_map, -List.map_append, -List.map_take, -List.filterMap_map, -getElem?_pos, -Int.neg_ofNat_le_natCast, b_law_told, rd, e1, e2, e3, isEK_ok inR, no_other]
    exact ⟨inR, fun k1 k2 => absurd ⟨k1, k2⟩ A⟩
theorem told_trees {S : Store} {x last : Str} {L0 : List Str} {qs : List (Str × List Str)} (h : Lines x L0 last qs) (hl : x.length ≤ 7990) : f_law_told [.str x, .bl false] S = .ok (if last = Str.ofString "" ∧ okTr qs = true then .tup [.str (Str.ofString "told"), .lst (qs.map tlT)] else .tup [.str (Str.ofString "refused"), .bl true]) S := by
  have rd := fun S : Store => read_trees_any (S := S) h (by omega)
  have inR : (Str.ofString "NoText") ∈ rsX := by decide
  refine wp.eq ?_
  rw [u_law_told, wp_gc]
  by_cases A : last = Str.ofString "" ∧ okTr qs = true
  · simp only [if_pos A] at rd
    simp [-List.all_eq_true, -List.any_eq_true, -List.map_tail, -List.drop_one, -List.map_drop, -List.map_reverse, -List.map_map, -List.map_append, -List.map_take, -List.filterMap_map, -getElem?_pos, -Int.neg_ofNat_le_natCast, b_law_told, rd]
    refine wp_low (KeepS.refl S) (told_low tlTs_low) ?_
    rw [List.take_length, if_pos A]
    exact ⟨rfl, rfl⟩
  · simp only [if_neg A] at rd
    have e1 : isSubX (Str.ofString "NoText") (Str.ofString "RootError") = true := rfl
    have e2 : isSubX (Str.ofString "NoText") (Str.ofString "NoText") = true := rfl
    have e3 : isSubX (Str.ofString "NoText") (Str.ofString "ValueError") = true := rfl
    simp [-List.all_eq_true, -List.any_eq_true, -List.map_tail, -List.drop_one, -List.map_drop, -List.map_reverse, -List.map_map, -List.map_append, -List.map_take, -List.filterMap_map, -getElem?_pos, -Int.neg_ofNat_le_natCast, b_law_told, rd, e1, e2, e3, isEK_ok inR, no_other]
    exact ⟨inR, fun k1 => Bool.eq_false_iff.mpr fun k2 => A ⟨k1, k2⟩⟩
def tsT (xs : List Str) : D := D.tup (xs.map D.str)
instance tsTR : Rep tsT := tupR (f := D.str)
def wT (p : List Str × List (List Str)) : D := D.tup [tsT p.1, D.tup (p.2.map tsT)]
instance wTR : Rep wT := pairR (f := tsT) (h := fun xss : List (List Str) => D.tup (xss.map tsT))
instance toldWR : Rep (fun p : Str × (List Str × List (List Str)) => D.tup [D.str p.1, wT p.2]) := pairR (f := D.str) (h := wT)
instance toldTR : Rep (fun p : Str × List (List Str) => D.tup [D.str p.1, D.lst (p.2.map tsT)]) := pairR (f := D.str) (h := fun xss : List (List Str) => D.lst (xss.map tsT))
instance refR : Rep (fun p : Str × Bool => D.tup [.str p.1, .bl p.2]) := pairR (f := D.str) (h := D.bl)
theorem same_web {S : Store} {s : Str} {qs : List (Str × List Str)} (h : okWb qs = true) : dNe' (.tup [.str s, wdW qs]) (.tup [.str s, wdW qs]) S = .ok (.bl false) S := by
  cases qs with
  | nil => cases h
  | cons q r =>
    have := neRep (S := S) (fun p : Str × (List Str × List (List Str)) => D.tup [D.str p.1, wT p.2]) (by decide) (s, q.2, r.map Prod.snd) (s, q.2, r.map Prod.snd)
    rw [decide_eq_true rfl] at this
    have e : wT (q.2, r.map Prod.snd) = wdW (q :: r) := by
      unfold wT
      rw [List.map_map]
      rfl
    simp only [e] at this
    exact this
theorem same_trees {S : Store} {s : Str} {qs : List (Str × List Str)} : dNe' (.tup [.str s, .lst (qs.map tlT)]) (.tup [.str s, .lst (qs.map tlT)]) S = .ok (.bl false) S := by
  have := neRep (S := S) (fun p : Str × List (List Str) => D.tup [D.str p.1, D.lst (p.2.map tsT)]) (by decide) (s, qs.map Prod.snd) (s, qs.map Prod.snd)
  rw [decide_eq_true rfl] at this
  have e : (qs.map Prod.snd).map tsT = qs.map tlT := by
    rw [List.map_map]
    rfl
  simp only [e] at this
  exact this
theorem same_ref {S : Store} {s : Str} {b : Bool} : dNe' (.tup [.str s, .bl b]) (.tup [.str s, .bl b]) S = .ok (.bl false) S := by
  have := neRep (S := S) (fun p : Str × Bool => D.tup [.str p.1, .bl p.2]) (by decide) (s, b) (s, b)
  rw [decide_eq_true rfl] at this
  exact this
theorem agrees_text {S : Store} {x : Str} (hl : x.length ≤ 7990) : f_law_agrees [.str x] S = .ok (.bl true) S := by
  obtain ⟨L0, last, qs, h⟩ := lines_of x
  have w1 := fun S : Store => law_web_of_any (S := S) h hl
  have w2 : ∀ S : Store, f_law_rows [.str x, .str (Str.ofString "tree")] S = .ok (if last = Str.ofString "" ∧ rowsG treeW qs = true then .lst (qs.map tlT) else .non) S := fun S => law_rows_any (S := S) h hl (.inr rfl)
  rw [okTr_rows] at w2
  have t1 := fun S : Store => told_web (S := S) h hl
  have t2 := fun S : Store => told_trees (S := S) h hl
  have isn1 : ∀ (b : Bool) (S : Store), dIs b .non .non S = .ok (.bl (!b)) S := fun b S => by cases b <;> rfl
  have isl : ∀ (b : Bool) (ds : List D) (S : Store), dIs b (.lst ds) .non S = .ok (.bl b) S := fun b ds S => by cases b <;> rfl
  have isw : ∀ (b : Bool) (S : Store), okWb qs = true → dIs b (wdW qs) .non S = .ok (.bl b) S := fun b S hk => by
    cases qs with
    | nil => cases hk
    | cons q r => cases b <;> rfl
  refine wp.eq ?_
  rw [u_law_agrees, wp_gc]
  simp [-List.all_eq_true, -List.any_eq_true, -List.map_tail, -List.drop_one, -List.map_drop, -List.map_reverse, -List.map_map, -List.map_append, -List.map_take, -List.filterMap_map, -getElem?_pos, -Int.neg_ofNat_le_natCast, b_law_agrees]
  have e : [D.bl true, D.bl false] = [true, false].map D.bl := rfl
  rw [e]
  refine wpS_for (α := Bool) (f := D.bl) (fun _ e S' => S' = S ∧ ∃ z1 z2 z3, e = [some (.str x), z1, z2, z3]) ?_ ?_ ?_
  · exact ⟨rfl, _, _, _, rfl⟩
  · rintro _ b _ e S1 _ ⟨rfl, z1, z2, z3, rfl⟩
    cases b with
    | true =>
      by_cases A : last = Str.ofString "" ∧ okWb qs = true
      · simp only [if_pos A] at w1 t1
        have k1 := fun (b : Bool) (S : Store) => isw b S A.2
        have k2 := fun (S : Store) => same_web (S := S) (s := Str.ofString "told") A.2
        simp [-List.all_eq_true, -List.any_eq_true, -List.map_tail, -List.drop_one, -List.map_drop, -List.map_reverse, -List.map_map, -List.map_append, -List.map_take, -List.filterMap_map, -getElem?_pos, -Int.neg_ofNat_le_natCast, w1, t1, k1, k2]
      · simp only [if_neg A] at w1 t1
        simp [-List.all_eq_true, -List.any_eq_true, -List.map_tail, -List.drop_one, -List.map_drop, -List.map_reverse, -List.map_map, -List.map_append, -List.map_take, -List.filterMap_map, -getElem?_pos, -Int.neg_ofNat_le_natCast, w1, t1, isn1, same_ref]
    | false =>
      by_cases A : last = Str.ofString "" ∧ okTr qs = true
      · simp only [if_pos A] at w2 t2
        have k2 := fun (S : Store) => same_trees (S := S) (s := Str.ofString "told") (qs := qs)
        simp [-List.all_eq_true, -List.any_eq_true, -List.map_tail, -List.drop_one, -List.map_drop, -List.map_reverse, -List.map_map, -List.map_append, -List.map_take, -List.filterMap_map, -getElem?_pos, -Int.neg_ofNat_le_natCast, w2, t2, isl, k2]
      · simp only [if_neg A] at w2 t2
        simp [-List.all_eq_true, -List.any_eq_true, -List.map_tail, -List.drop_one, -List.map_drop, -List.map_reverse, -List.map_map, -List.map_append, -List.map_take, -List.filterMap_map, -getElem?_pos, -Int.neg_ofNat_le_natCast, w2, t2, isn1, same_ref]
  · rintro e S1 ⟨rfl, z1, z2, z3, rfl⟩
    simp [-List.all_eq_true, -List.any_eq_true, -List.map_tail, -List.drop_one, -List.map_drop, -List.map_reverse, -List.map_map, -List.map_append, -List.map_take, -List.filterMap_map, -getElem?_pos, -Int.neg_ofNat_le_natCast]
theorem agrees_other {S : Store} {d : D} (h : ∀ S : Store, ∃ k, kindOf S d = some k ∧ ¬ "str" = k) : f_law_agrees [d] S = .ok (.bl true) S := by
  have inR : (Str.ofString "NoText") ∈ rsX := by decide
  have e1 : isSubX (Str.ofString "NoText") (Str.ofString "RootError") = true := rfl
  have e2 : isSubX (Str.ofString "NoText") (Str.ofString "NoText") = true := rfl
  have e3 : isSubX (Str.ofString "NoText") (Str.ofString "ValueError") = true := rfl
  have isn1 : ∀ (b : Bool) (S : Store), dIs b .non .non S = .ok (.bl (!b)) S := fun b S => by cases b <;> rfl
  have w2 : ∀ (y : D) (S : Store), f_law_rows [d, y] S = .ok .non S := fun y S => by
    obtain ⟨k, k1, k2⟩ := h S
    rw [u_law_rows]
    simp [-List.all_eq_true, -List.any_eq_true, -List.map_tail, -List.drop_one, -List.map_drop, -List.map_reverse, -List.map_map, -List.map_append, -List.map_take, -List.filterMap_map, -getElem?_pos, -Int.neg_ofNat_le_natCast, b_law_rows, k1, k2]
  have w1 : ∀ S : Store, f_law_web_of [d] S = .ok .non S := fun S => by
    rw [u_law_web_of]
    simp [-List.all_eq_true, -List.any_eq_true, -List.map_tail, -List.drop_one, -List.map_drop, -List.map_reverse, -List.map_map, -List.map_append, -List.map_take, -List.filterMap_map, -getElem?_pos, -Int.neg_ofNat_le_natCast, b_law_web_of, w2, isn1]
  have r1 : ∀ S : Store, f_read_web [d] S = .ex ⟨"NoText", none⟩ S := fun S => by
    obtain ⟨k, k1, k2⟩ := h S
    rw [u_read_web]
    simp [-List.all_eq_true, -List.any_eq_true, -List.map_tail, -List.drop_one, -List.map_drop, -List.map_reverse, -List.map_map, -List.map_append, -List.map_take, -List.filterMap_map, -getElem?_pos, -Int.neg_ofNat_le_natCast, b_read_web, k1, k2]
    exact gcx0
  have r2 : ∀ S : Store, f_read_trees [d] S = .ex ⟨"NoText", none⟩ S := fun S => by
    obtain ⟨k, k1, k2⟩ := h S
    rw [u_read_trees]
    simp [-List.all_eq_true, -List.any_eq_true, -List.map_tail, -List.drop_one, -List.map_drop, -List.map_reverse, -List.map_map, -List.map_append, -List.map_take, -List.filterMap_map, -getElem?_pos, -Int.neg_ofNat_le_natCast, b_read_trees, k1, k2]
    exact gcx0
  have t1 : ∀ (b : Bool) (S : Store), f_law_told [d, .bl b] S = .ok (.tup [.str (Str.ofString "refused"), .bl true]) S := fun b S => by
    refine wp.eq ?_
    rw [u_law_told, wp_gc]
    cases b
    · simp [-List.all_eq_true, -List.any_eq_true, -List.map_tail, -List.drop_one, -List.map_drop, -List.map_reverse, -List.map_map, -List.map_append, -List.map_take, -List.filterMap_map, -getElem?_pos, -Int.neg_ofNat_le_natCast, b_law_told, r2, e1, e2, e3, isEK_ok inR, no_other]
      exact inR
    · simp [-List.all_eq_true, -List.any_eq_true, -List.map_tail, -List.drop_one, -List.map_drop, -List.map_reverse, -List.map_map, -List.map_append, -List.map_take, -List.filterMap_map, -getElem?_pos, -Int.neg_ofNat_le_natCast, b_law_told, r1, e1, e2, e3, isEK_ok inR, no_other]
      exact inR
  refine wp.eq ?_
  rw [u_law_agrees, wp_gc]
  simp [-List.all_eq_true, -List.any_eq_true, -List.map_tail, -List.drop_one, -List.map_drop, -List.map_reverse, -List.map_map, -List.map_append, -List.map_take, -List.filterMap_map, -getElem?_pos, -Int.neg_ofNat_le_natCast, b_law_agrees]
  have e : [D.bl true, D.bl false] = [true, false].map D.bl := rfl
  rw [e]
  refine wpS_for (α := Bool) (f := D.bl) (fun _ e S' => S' = S ∧ ∃ z1 z2 z3, e = [some d, z1, z2, z3]) ?_ ?_ ?_
  · exact ⟨rfl, _, _, _, rfl⟩
  · rintro _ b _ e S1 _ ⟨rfl, z1, z2, z3, rfl⟩
    cases b with
    | true => simp [-List.all_eq_true, -List.any_eq_true, -List.map_tail, -List.drop_one, -List.map_drop, -List.map_reverse, -List.map_map, -List.map_append, -List.map_take, -List.filterMap_map, -getElem?_pos, -Int.neg_ofNat_le_natCast, w1, t1, isn1, same_ref]
    | false => simp [-List.all_eq_true, -List.any_eq_true, -List.map_tail, -List.drop_one, -List.map_drop, -List.map_reverse, -List.map_map, -List.map_append, -List.map_take, -List.filterMap_map, -getElem?_pos, -Int.neg_ofNat_le_natCast, w2, t1, isn1, same_ref]
  · rintro e S1 ⟨rfl, z1, z2, z3, rfl⟩
    simp [-List.all_eq_true, -List.any_eq_true, -List.map_tail, -List.drop_one, -List.map_drop, -List.map_reverse, -List.map_map, -List.map_append, -List.map_take, -List.filterMap_map, -getElem?_pos, -Int.neg_ofNat_le_natCast]
end FL

namespace FL
open PySem PySem.Spec PyProof.Rows L2
theorem law_web_text_ok {S : Store} {ns : List Str} {rs : List Row} (W : WebOk ns rs) (hl : ns.length ≤ 499) : f_law_web_text [web ns rs] S = .ok (.str (textS (webLines ns rs))) S := by
  have h1 : 1 + ns.length ≤ 16777216 := by omega
  have hrl := W.rlen
  have e0 : D.lst (.str (Str.ofString "places") :: ns.map .str) = ll2 (Str.ofString "places" :: ns) := rfl
  refine wp.eq ?_
  rw [u_law_web_text, wp_gc]
  simp [-List.all_eq_true, -List.any_eq_true, -List.map_tail, -List.drop_one, -List.map_drop, -List.map_reverse, -List.map_map, -List.map_append, -List.map_take, -List.filterMap_map, -getElem?_pos, -Int.neg_ofNat_le_natCast, b_law_web_text, h1, e0]
  refine wpS_for (α := Row) (f := rw3) (fun p e S' => S' = S ++ [.lst ((webLines ns p).map ll2)] ∧ ∃ z1 z2, e = [some (web ns rs), some (.ref S.length), z1, z2]) ?_ ?_ ?_
  · exact ⟨rfl, _, _, rfl⟩
  · rintro p r q e S1 hr ⟨rfl, z1, z2, rfl⟩
    have wl : (webLines ns p).length ≤ 16777215 := by
      have := congrArg List.length hr
      simp at this
      simp [webLines]
      omega
    have lr : ∀ {S1 : Store}, dList false [rw3 r] S1 = .ok (.lst [.str r.1, .str r.2.1, .str r.2.2]) S1 := rfl
    have e2 : (webLines ns p).map ll2 ++ [D.lst [.str (Str.ofString "tie"), .str r.1, .str r.2.1, .str r.2.2]] = (webLines ns (p ++ [r])).map ll2 := by
      simp only [webLines, List.map_append, List.map_cons, List.cons_append]
      rfl
    simp [-List.all_eq_true, -List.any_eq_true, -List.map_tail, -List.drop_one, -List.map_drop, -List.map_reverse, -List.map_map, -List.map_append, -List.map_take, -List.filterMap_map, -getElem?_pos, -Int.neg_ofNat_le_natCast, lr, wl, e2]
  · rintro e S1 ⟨rfl, z1, z2, rfl⟩
    have WL := webLines_ok W (by omega)
    have wl : (webLines ns rs).length ≤ 1001 := by simp [webLines]; omega
    have wl2 : (webLines ns rs).length ≤ 16777216 := by omega
    have hb : (Str.ofString " ").length = 1 := rfl
    have h0 : (Str.ofString "").length = 0 := rfl
    have hn : (Str.ofString "\n").length = 1 := rfl
    simp [-List.all_eq_true, -List.any_eq_true, -List.map_tail, -List.drop_one, -List.map_drop, -List.map_reverse, -List.map_map, -List.map_append, -List.map_take, -List.filterMap_map, -getElem?_pos, -Int.neg_ofNat_le_natCast, wl2]
    rw [lcL_ref (chk_ref st_at0) (fun ws => some (D.str (lineS ws))) fun ws hw => ?_]
    · have e3 : ((webLines ns rs).map fun ws => D.str (lineS ws)) = ((webLines ns rs).map lineS).map D.str := by rw [List.map_map]; rfl
      have hs := lines_sum WL
      have hs2 : (((webLines ns rs).map lineS).map Str.length).sum ≤ 16777216 := by omega
      simp [-List.all_eq_true, -List.any_eq_true, -List.map_tail, -List.drop_one, -List.map_drop, -List.map_reverse, -List.map_map, -List.map_append, -List.map_take, -List.filterMap_map, -getElem?_pos, -Int.neg_ofNat_le_natCast, e3, h0, hs2, join_lines]
    · have Wd := WL ws hw
      have h1 := sum_short Wd.short
      have h2 := Wd.len
      have h3 : (ws.map Str.length).sum + ws.length ≤ 16777216 := by omega
      have hj : (Txt.join (Str.ofString " ") ws).length ≤ 16777215 := by
        rw [← cpl_length, cpl_joinL]
        have := joinL_len (ws.map cpl) 8 (fun w hw => by
          obtain ⟨z, hz, rfl⟩ := List.mem_map.mp hw
          rw [cpl_length]
          exact Wd.short z hz)
        rw [List.length_map] at this
        show (TL.joinL [32] (ws.map cpl)).length ≤ _
        omega
      have e : Txt.join (Str.ofString " ") ws ++ Str.ofString "\n" = lineS ws := by
        refine cpl_inj ?_
        rw [cpl_append, cpl_joinL, lineS_cpl]
        rfl
      simp [-List.all_eq_true, -List.any_eq_true, -List.map_tail, -List.drop_one, -List.map_drop, -List.map_reverse, -List.map_map, -List.map_append, -List.map_take, -List.filterMap_map, -getElem?_pos, -Int.neg_ofNat_le_natCast, ll2, hb, hn, h3, hj, e]
theorem wordsS_app {ws : List Str} {w : Str} (h : ws ≠ []) : wordsS ws ++ Str.ofString " " ++ w = wordsS (ws ++ [w]) := by
  refine cpl_inj ?_
  rw [cpl_append, cpl_append, wordsS_cpl, wordsS_cpl, List.map_append]
  have key : ∀ (xs : List (List Nat)) (x : List Nat), xs ≠ [] → TL.joinL [32] xs ++ [32] ++ x = TL.joinL [32] (xs ++ [x]) := by
    intro xs x hx
    induction xs with
    | nil => exact absurd rfl hx
    | cons y ys ih =>
      cases ys with
      | nil => show y ++ [32] ++ x = y ++ ([32] ++ x); simp
      | cons z zs =>
        have := ih (by simp)
        show (y ++ ([32] ++ TL.joinL [32] (z :: zs))) ++ [32] ++ x = y ++ ([32] ++ TL.joinL [32] ((z :: zs) ++ [x]))
        rw [← this]
        simp
  exact key (ws.map cpl) (cpl w) (by simpa using h)
theorem wordsS_line {ws : List Str} : wordsS ws ++ Str.ofString "\n" = lineS ws := by
  refine cpl_inj ?_
  rw [cpl_append, wordsS_cpl, lineS_cpl]
  rfl
theorem law_trees_text_ok {S : Store} {ts : List (List Str)} (T : TreesOk ts) : f_law_trees_text [.lst (ts.map tts)] S = .ok (.str (textS (treeLines ts))) S := by
  have tl := T.len
  refine wp.eq ?_
  rw [u_law_trees_text, wp_gc]
  simp [-List.all_eq_true, -List.any_eq_true, -List.map_tail, -List.drop_one, -List.map_drop, -List.map_reverse, -List.map_map, -List.map_append, -List.map_take, -List.filterMap_map, -getElem?_pos, -Int.neg_ofNat_le_natCast, b_law_trees_text]
  refine wpS_for (α := List Str) (f := tts) (fun p e S' => S' = S ∧ ∃ z1 z2, e = [some (.lst (ts.map tts)), some (.str (textS (treeLines p))), z1, z2]) ?_ ?_ ?_
  · exact ⟨rfl, _, _, rfl⟩
  · rintro p t q e S1 hr ⟨rfl, z1, z2, rfl⟩
    have htm : t ∈ ts := by rw [hr]; simp
    have hp : ∀ x ∈ p, x ∈ ts := fun x hx => by rw [hr]; simp [hx]
    have hpl : p.length ≤ 100 := by
      have := congrArg List.length hr
      simp at this
      omega
    have fl := flat_len (wss := treeLines p) fun ws hw => by
      obtain ⟨x, hx, rfl⟩ := List.mem_map.mp hw
      exact tree_words T (hp x hx)
    have pl : (treeLines p).length = p.length := by simp [treeLines]
    have tw := tree_words T htm
    have four : (Str.ofString "tree").length = 4 := rfl
    have one1 : (Str.ofString " ").length = 1 := rfl
    have hn : (Str.ofString "\n").length = 1 := rfl
    have q1 : (textS (treeLines p)).length ≤ 16777212 := by omega
    have e0 : textS (treeLines p) ++ Str.ofString "tree" = textS (treeLines p) ++ wordsS [Str.ofString "tree"] := rfl
    have so : srcOf S1 (tts t) = some ⟨t.map .str, []⟩ := rfl
    simp [-List.all_eq_true, -List.any_eq_true, -List.map_tail, -List.drop_one, -List.map_drop, -List.map_reverse, -List.map_map, -List.map_append, -List.map_take, -List.filterMap_map, -getElem?_pos, -Int.neg_ofNat_le_natCast, four, q1, e0, so]
    refine wpS_for (α := Str) (f := D.str) (fun q e S' => S' = S1 ∧ ∃ z1, e = [some (.lst (ts.map tts)), some (.str (textS (treeLines p) ++ wordsS (Str.ofString "tree" :: q))), some (tts t), z1]) ?_ ?_ ?_
    · exact ⟨rfl, _, rfl⟩
    · rintro q' w r' e S2 hw ⟨rfl, z1, rfl⟩
      have hwm : w ∈ t := by rw [hw]; simp
      have Wq : Words (Str.ofString "tree" :: q') := words_of fixed_word.2.2 (fun x hx => (T.one t htm).2.1 x (by rw [hw]; simp [hx])) (by
        have := (T.one t htm).2.2
        have := congrArg List.length hw
        simp at this
        omega)
      have wl := wordsS_len Wq
      have w8 := ((T.one t htm).2.1 w hwm).2.1
      have q2 : (textS (treeLines p)).length + (wordsS (Str.ofString "tree" :: q')).length ≤ 16777215 := by omega
      have q3 : (textS (treeLines p)).length + (wordsS (Str.ofString "tree" :: q')).length + 1 + w.length ≤ 16777216 := by omega
      have e3 : textS (treeLines p) ++ wordsS (Str.ofString "tree" :: q') ++ Str.ofString " " ++ w = textS (treeLines p) ++ wordsS (Str.ofString "tree" :: (q' ++ [w])) := by
        have := wordsS_app (ws := Str.ofString "tree" :: q') (w := w) (by simp)
        refine cpl_inj ?_
        have h2 := congrArg cpl this
        simp only [cpl_append, List.append_assoc, List.cons_append] at h2 ⊢
        rw [h2]
      simp [-List.all_eq_true, -List.any_eq_true, -List.map_tail, -List.drop_one, -List.map_drop, -List.map_reverse, -List.map_map, -List.map_append, -List.map_take, -List.filterMap_map, -getElem?_pos, -Int.neg_ofNat_le_natCast, one1, strLen_append, q2, q3, e3]
    · rintro e S2 ⟨rfl, z1, rfl⟩
      have wl := wordsS_len tw
      have q2 : (textS (treeLines p)).length + (wordsS (Str.ofString "tree" :: t)).length ≤ 16777215 := by omega
      have e4 : textS (treeLines p) ++ wordsS (Str.ofString "tree" :: t) ++ Str.ofString "\n" = textS (treeLines (p ++ [t])) := by
        have h2 := congrArg cpl (wordsS_line (ws := Str.ofString "tree" :: t))
        have h3 := congrArg cpl (textS_app (wss := treeLines p) (ws := Str.ofString "tree" :: t))
        refine cpl_inj ?_
        simp only [cpl_append, List.append_assoc] at h2 h3 ⊢
        rw [h2, h3]
        simp [treeLines]
      simp [-List.all_eq_true, -List.any_eq_true, -List.map_tail, -List.drop_one, -List.map_drop, -List.map_reverse, -List.map_map, -List.map_append, -List.map_take, -List.filterMap_map, -getElem?_pos, -Int.neg_ofNat_le_natCast, hn, strLen_append, q2, e4]
  · rintro e S1 ⟨rfl, z1, z2, rfl⟩
    simp [-List.all_eq_true, -List.any_eq_true, -List.map_tail, -List.drop_one, -List.map_drop, -List.map_reverse, -List.map_map, -List.map_append, -List.map_take, -List.filterMap_map, -getElem?_pos, -Int.neg_ofNat_le_natCast]
theorem grown_trees {ns : List Str} {rs : List Row} {root : Str} {t : List Str} (W : WebOk ns rs) (h : IsGrown ns root rs t) (hl : ns.length ≤ 90) : t.Pairwise ltS ∧ (∀ s ∈ t, nameOk s) ∧ t.length ≤ 100 := by
  obtain ⟨gs, g1, g2, g3, rfl⟩ := h
  have hd : (gs.map fun r : Row => r.2.2).Nodup := by
    clear g2 g3
    induction g1 with
    | nil => exact List.nodup_nil
    | snoc g h1 h2 h3 h4 ih =>
      rw [List.map_append, List.nodup_append]
      refine ⟨ih, by simp, fun x hx y hy e => ?_⟩
      simp at hy
      subst e hy
      exact h4 hx
  have hn : (gs.map Prod.fst).Nodup := by
    rw [List.nodup_iff_pairwise_ne, List.pairwise_iff_getElem]
    intro i j hi hj hij e
    rw [List.getElem_map, List.getElem_map] at e
    rw [List.length_map] at hi hj
    have m1 := g3 _ (List.getElem_mem hi)
    have m2 := g3 _ (List.getElem_mem hj)
    obtain ⟨a, ha, ea⟩ := List.getElem_of_mem m1
    obtain ⟨b, hb, eb⟩ := List.getElem_of_mem m2
    have : a = b := nodup_at (rise_nodup W.rrise) (by simpa using ha) (by simpa using hb) (by rw [List.getElem_map, List.getElem_map, ea, eb, e])
    subst this
    have e2 : gs[i] = gs[j] := ea.symm.trans eb
    have := nodup_at hd (i := i) (j := j) (by simpa using hi) (by simpa using hj) (by rw [List.getElem_map, List.getElem_map, e2])
    omega
  refine ⟨sorted_rising hn, fun s hs => ?_, by rw [List.length_mergeSort, List.length_map]; omega⟩
  have hs := (List.mergeSort_perm _ _).mem_iff.mp hs
  obtain ⟨r, hr, rfl⟩ := List.mem_map.mp hs
  exact (W.row r (g3 r hr)).1
theorem cutFromN {α : Type} {xs : List α} {n : Nat} : cutD xs (some (n : Int)) none = xs.drop n := by
  by_cases h : n ≤ xs.length
  · exact cutD_from h
  · have h1 : HT.sIx xs.length 0 (some (n : Int)) = xs.length := by
      unfold HT.sIx
      simp
      rw [if_neg (by omega)]
      omega
    unfold cutD
    rw [h1, List.drop_of_length_le (Nat.le_refl _), List.drop_of_length_le (by omega), List.take_nil]
theorem pick_s {S : Store} {ds : List D} {c : Int} {e : Fenv} {f : D → Store → SR} {V : PS} (h0 : 0 ≤ c) (h1 : c < ds.length) (k : ∀ d ∈ ds, @wpS (f d S) V) : @wpS ((dIx (.lst ds) (.int c) S).bindS e f) V := by
  obtain ⟨i, rfl⟩ := Int.eq_ofNat_of_zero_le h0
  have hi : i < ds.length := by omega
  rw [ix_lst (S := S) (by omega) (List.getElem?_eq_getElem (by simpa using hi))]
  exact k _ (List.getElem_mem _)
theorem pick_q {S : Store} {ds : List D} {c : Int} {Q : D → Store → Prop} {X : Xc → Store → Prop} (h0 : 0 ≤ c) (h1 : c < ds.length) (k : ∀ d ∈ ds, Q d S) : @wp _ (dIx (.lst ds) (.int c) S) ⟨Q, X⟩ := by
  obtain ⟨i, rfl⟩ := Int.eq_ofNat_of_zero_le h0
  have hi : i < ds.length := by omega
  refine wp.of_eq (ix_lst (by omega) (List.getElem?_eq_getElem (by simpa using hi))) (k _ (List.getElem_mem _))
theorem cut_cpl {x : Str} {lo hi : Option Int} : cpl (cutS x lo hi) = cutD (cpl x) lo hi := by
  rw [cpl_cut, ← cpl_length]
  rfl
theorem cut_to {x : Str} {n : Nat} : cpl (cutS x none (some (n : Int))) = (cpl x).take n := by
  rw [cut_cpl, cutD_to]
theorem cut_from {x : Str} {n : Nat} : cpl (cutS x (some (n : Int)) none) = (cpl x).drop n := by
  rw [cut_cpl]
  exact cutFromN
theorem app_len {a b : Str} : (a ++ b).length = a.length + b.length := by
  rw [← cpl_length, cpl_append, List.length_append, cpl_length, cpl_length]
theorem cut_to_len {x : Str} {n : Nat} : (cutS x none (some (n : Int))).length = min n x.length := by
  rw [← cpl_length, cut_to, List.length_take, cpl_length]
theorem cut_from_len {x : Str} {n : Nat} : (cutS x (some (n : Int)) none).length = x.length - n := by
  rw [← cpl_length, cut_from, List.length_drop, cpl_length]
theorem sign_spoilt_wp {S : Store} {p : Nat} {x : Str} {Q : D → Store → Prop} {X : Xc → Store → Prop} (hp : PotS S p) (hl : x.length ≤ 100000) (k : ∀ y S', Step p S S' → y.length ≤ x.length + 1 → Q (.str y) S') : @wp _ (f_law_sign_spoilt [.ref p, .str x] S) ⟨Q, X⟩ := by
  have xl : x.length ≤ 16777216 := by omega
  rw [u_law_sign_spoilt, wp_gc]
  simp [-List.all_eq_true, -List.any_eq_true, -List.map_tail, -List.drop_one, -List.map_drop, -List.map_reverse, -List.map_map, -List.map_append, -List.map_take, -List.filterMap_map, -getElem?_pos, -Int.neg_ofNat_le_natCast, b_law_sign_spoilt, xl]
  refine take_wp hp (by omega) (by omega) fun a S1 s1 p1 a0 a1 => ?_
  obtain ⟨n, rfl⟩ := Int.eq_ofNat_of_zero_le a0
  obtain ⟨A, hA, lA⟩ : ∃ A : Str, A = Str.ofString " !\"#$&'()*+,-./0123456789:;<=>?@ABCDEFGHIJKLMNOPQRSTUVWXYZ[\\]^_`" ∧ A.length ≤ 200 := ⟨_, rfl, by decide⟩
  obtain ⟨B, hB, lB, lB0⟩ : ∃ B : Str, B = Str.ofString "abcdefghijklmnopqrstuvwxyz{|}~  \n\n" ∧ B.length ≤ 200 ∧ 0 < B.length := ⟨_, rfl, by decide, by decide⟩
  have lAB : (A ++ B).length = A.length + B.length := app_len
  simp [-List.all_eq_true, -List.any_eq_true, -List.map_tail, -List.drop_one, -List.map_drop, -List.map_reverse, -List.map_map, -List.map_append, -List.map_take, -List.filterMap_map, -getElem?_pos, -Int.neg_ofNat_le_natCast]
  rw [← hA, ← hB]
  refine ⟨by omega, by omega, ?_⟩
  refine take_wp p1 (by omega) (by omega) fun c S2 s2 p2 c0 c1 => ?_
  obtain ⟨m, rfl⟩ := Int.eq_ofNat_of_zero_le c0
  obtain ⟨ch, hch⟩ : ∃ ch, (cpl (A ++ B))[m]? = some ch := ⟨_, List.getElem?_eq_getElem (by rw [cpl_length]; omega)⟩
  have ix : ∀ S : Store, dIx (.str (A ++ B)) (.int (m : Int)) S = .ok (.str ⟨#[ch]⟩) S := fun S => ixStr (Int.natCast_nonneg m) (by rw [Int.toNat_natCast]; exact hch) (by omega)
  have one : (⟨#[ch]⟩ : Str).length = 1 := rfl
  obtain ⟨u, hu, lu⟩ : ∃ u, cutS x none (some (n : Int)) = u ∧ u.length = min n x.length := ⟨_, rfl, cut_to_len⟩
  obtain ⟨v, hv, lv⟩ : ∃ v, cutS x (some (n : Int)) none = v ∧ v.length = x.length - n := ⟨_, rfl, cut_from_len⟩
  obtain ⟨w, hw, lw⟩ : ∃ w, cutS x (some ((n : Int) + 1)) none = w ∧ w.length = x.length - (n + 1) := ⟨_, rfl, cut_from_len (n := n + 1)⟩
  have su : ∀ S : Store, dSl false (.str x) none (some (n : Int)) S = .ok (.str u) S := fun S => by rw [← hu]; exact sl_str xl
  have sv : ∀ S : Store, dSl false (.str x) (some (n : Int)) none S = .ok (.str v) S := fun S => by rw [← hv]; exact sl_str xl
  have sw : ∀ S : Store, dSl false (.str x) (some ((n : Int) + 1)) none S = .ok (.str w) S := fun S => by rw [← hw]; exact sl_str xl
  obtain ⟨C, hC⟩ : ∃ C : Str, C = ⟨#[ch]⟩ := ⟨_, rfl⟩
  rw [← hC] at ix one
  have a1 : ∀ S : Store, dAdd' false (.str u) (.str C) S = .ok (.str (u ++ C)) S := fun S => addS (by omega)
  have a2 : ∀ S : Store, dAdd' false (.str (u ++ C)) (.str v) S = .ok (.str (u ++ C ++ v)) S := fun S => addS (by rw [app_len]; omega)
  have a3 : ∀ S : Store, dAdd' false (.str u) (.str w) S = .ok (.str (u ++ w)) S := fun S => addS (by omega)
  have a4 : ∀ S : Store, dAdd' false (.str (u ++ C)) (.str w) S = .ok (.str (u ++ C ++ w)) S := fun S => addS (by rw [app_len]; omega)
  simp [-List.all_eq_true, -List.any_eq_true, -List.map_tail, -List.drop_one, -List.map_drop, -List.map_reverse, -List.map_map, -List.map_append, -List.map_take, -List.filterMap_map, -getElem?_pos, -Int.neg_ofNat_le_natCast, ix, su, sv, sw, a1, a2, a3, a4]
  refine take_wp p2 (by omega) (by omega) fun z S3 s3 p3 z0 z1 => ?_
  refine pick_s (ds := [.str (u ++ C ++ v), .str (u ++ w), .str (u ++ C ++ w)]) z0 (by show z < 3; omega) fun d hd => ?_
  have st := (s1.trans s2).trans s3
  simp only [List.mem_cons, List.not_mem_nil, or_false] at hd
  rcases hd with rfl | rfl | rfl
  · exact wp_step st rfl (k _ S3 st (by rw [app_len, app_len]; omega))
  · exact wp_step st rfl (k _ S3 st (by rw [app_len]; omega))
  · exact wp_step st rfl (k _ S3 st (by rw [app_len, app_len]; omega))
theorem putAt_ok {n i : Nat} {ds : List D} {x : Int} {d : D} {e : Fenv} {S : Store} (hx : x = (i : Int)) (h : i < ds.length) : putAt n ds (.int x) d e S = .ok e (S.set n (.lst (ds.set i d))) := by
  subst hx
  show (match ixN ds.length (i : Int) with
    | some j => R.ok e (S.set n (.lst (ds.set j d)))
    | none => .bad) = _
  have : ixN ds.length (i : Int) = some i := by
    unfold ixN
    rw [if_pos (by omega)]
    simp [h]
  rw [this]
def sL (ys : List Str) : Nat := sumL (ys.map cpl)
theorem sL_nil : sL [] = 0 := rfl
theorem sL_cons {y : Str} {ys : List Str} : sL (y :: ys) = y.length + 1 + sL ys := by
  unfold sL sumL
  rw [List.map_cons, List.map_cons, List.sum_cons, cpl_length]
theorem sL_app {a b : List Str} : sL (a ++ b) = sL a + sL b := by
  unfold sL sumL
  rw [List.map_append, List.map_append, List.sum_append]
theorem sL_set : ∀ {ws : List Str} {i : Nat} {v : Str} (h : i < ws.length), sL (ws.set i v) + (ws[i].length + 1) = sL ws + (v.length + 1)
  | w :: ws, 0, v, _ => by
    rw [List.set_cons_zero, sL_cons, sL_cons, List.getElem_cons_zero]
    omega
  | w :: ws, i + 1, v, h => by
    have ih := sL_set (ws := ws) (i := i) (v := v) (by simpa using h)
    rw [List.set_cons_succ, sL_cons, sL_cons, List.getElem_cons_succ]
    omega
theorem sL_swap {ws : List Str} {i j : Nat} (hi : i < ws.length) (hj : j < ws.length) : sL ((ws.set i ws[j]).set j ws[i]) = sL ws := by
  have h1 := sL_set (ws := ws) (i := i) (v := ws[j]) hi
  have h2 := sL_set (ws := ws.set i ws[j]) (i := j) (v := ws[i]) (by rw [List.length_set]; exact hj)
  rw [List.getElem_set] at h2
  split at h2
  · rename_i e
    subst e
    omega
  · omega
theorem sL_len (ys : List Str) : (ys.map Str.length).sum + ys.length = sL ys := by
  induction ys with
  | nil => rfl
  | cons y ys ih =>
    rw [sL_cons, List.map_cons, List.sum_cons, List.length_cons]
    omega
theorem sL_at {ws : List Str} {i : Nat} {v : Str} (h : ws[i]? = some v) : ws.drop i = v :: ws.drop (i + 1) ∧ ws.take (i + 1) = ws.take i ++ [v] ∧ sL ws = sL (ws.take i) + (v.length + 1 + sL (ws.drop (i + 1))) := by
  obtain ⟨hi, e⟩ := List.getElem?_eq_some_iff.mp h
  have e1 : ws.drop i = v :: ws.drop (i + 1) := by rw [List.drop_eq_getElem_cons hi, e]
  refine ⟨e1, by rw [List.take_succ, h]; rfl, ?_⟩
  conv => lhs; rw [← List.take_append_drop i ws]
  rw [sL_app, e1, sL_cons]
theorem joinS_len {c : Nat} {ys : List Str} : (Txt.join ⟨#[c]⟩ ys).length + 1 ≤ max 1 (sL ys) := by
  rw [← cpl_length, cpl_joinL]
  cases ys with
  | nil =>
    show (TL.joinL _ []).length + 1 ≤ _
    simp [TL.joinL]
    omega
  | cons y ys =>
    have h := joinL_sum (c := c) (ws := (y :: ys).map cpl) (by simp)
    have h : (TL.joinL (cpl ⟨#[c]⟩) ((y :: ys).map cpl)).length + 1 = sL (y :: ys) := h
    omega
theorem lines_spoilt_wp {S : Store} {p M : Nat} {x : Str} {Q : D → Store → Prop} {X : Xc → Store → Prop} (hp : PotS S p) (hl : x.length ≤ 100000) (hM : ∀ l ∈ Txt.split x nl, l.length ≤ M) (mx : M ≤ x.length) (k : ∀ y S', Step p S S' → y.length ≤ x.length + M + 1 → Q (.str y) S') : @wp _ (f_law_lines_spoilt [.ref p, .str x] S) ⟨Q, X⟩ := by
  have xl : x.length ≤ 16777214 := by omega
  have hn : (Str.ofString "\n").length = 1 := rfl
  have hb : (Str.ofString " ").length = 1 := rfl
  have hL := split_ne x 10
  have hLn := split_many x 10
  have hsum := split_sum x 10
  rw [u_law_lines_spoilt, wp_gc]
  obtain ⟨L, hLe⟩ : ∃ L, Txt.split x (Str.ofString "\n") = L := ⟨_, rfl⟩
  have hLe' : Txt.split x ⟨#[10]⟩ = L := hLe
  have hLe2 : Txt.split x nl = L := hLe
  rw [hLe'] at hL hLn hsum
  rw [hLe2] at hM
  have lpos := List.length_pos_iff.mpr hL
  simp [-List.all_eq_true, -List.any_eq_true, -List.map_tail, -List.drop_one, -List.map_drop, -List.map_reverse, -List.map_map, -List.map_append, -List.map_take, -List.filterMap_map, -getElem?_pos, -Int.neg_ofNat_le_natCast, b_law_lines_spoilt, xl, hn, hLe]
  refine take_wp hp (by omega) (by omega) fun a S1 s1 p1 a0 a1 => ?_
  obtain ⟨n, rfl⟩ := Int.eq_ofNat_of_zero_le a0
  have hnL : n < L.length := by omega
  obtain ⟨l, hl⟩ : ∃ l, L[n]? = some l := ⟨_, List.getElem?_eq_getElem hnL⟩
  have lm : l ∈ L := List.mem_of_getElem? hl
  have il : ∀ S : Store, dIx (.lst (L.map .str)) (.int (n : Int)) S = .ok (.str l) S := fun S => ixs (Int.natCast_nonneg n) (by rw [Int.toNat_natCast]; exact hl)
  have ll : l.length ≤ 16777214 := by have := hM l lm; omega
  obtain ⟨W, hW⟩ : ∃ W, Txt.split l (Str.ofString " ") = W := ⟨_, rfl⟩
  have hW' : Txt.split l ⟨#[32]⟩ = W := hW
  have wne := split_ne l 32
  have wsum := split_sum l 32
  rw [hW'] at wne wsum
  have wpos := List.length_pos_iff.mpr wne
  have wlen := sumL_len (W.map cpl)
  rw [List.length_map] at wlen
  have hMl := hM l lm
  simp [-List.all_eq_true, -List.any_eq_true, -List.map_tail, -List.drop_one, -List.map_drop, -List.map_reverse, -List.map_map, -List.map_append, -List.map_take, -List.filterMap_map, -getElem?_pos, -Int.neg_ofNat_le_natCast, il, ll, hb, hW]
  refine take_wp p1 (by omega) (by omega) fun b S2 s2 p2 b0 b1 => ?_
  simp [-List.all_eq_true, -List.any_eq_true, -List.map_tail, -List.drop_one, -List.map_drop, -List.map_reverse, -List.map_map, -List.map_append, -List.map_take, -List.filterMap_map, -getElem?_pos, -Int.neg_ofNat_le_natCast]
  refine take_wp p2 (by omega) (by omega) fun c S3 s3 p3 c0 c1 => ?_
  obtain ⟨i, rfl⟩ := Int.eq_ofNat_of_zero_le b0
  obtain ⟨j, rfl⟩ := Int.eq_ofNat_of_zero_le c0
  have hi : i < W.length := by omega
  have hj : j < W.length := by omega
  have ii : ∀ S : Store, dIx (.lst (W.map .str)) (.int (i : Int)) S = .ok (.str W[i]) S := fun S => ixs (Int.natCast_nonneg i) (by rw [Int.toNat_natCast]; exact List.getElem?_eq_getElem hi)
  have ij : ∀ S : Store, dIx (.lst (W.map .str)) (.int (j : Int)) S = .ok (.str W[j]) S := fun S => ixs (Int.natCast_nonneg j) (by rw [Int.toNat_natCast]; exact List.getElem?_eq_getElem hj)
  have pa : ∀ (e : Fenv) (S : Store) (n : Nat), putAt n (W.map D.str) (.int (i : Int)) (D.str W[j]) e S = .ok e (S.set n (.lst ((W.map D.str).set i (D.str W[j])))) := fun e S n => putAt_ok rfl (by rw [List.length_map]; exact hi)
  have pb : ∀ (e : Fenv) (S : Store) (n : Nat), putAt n ((W.map D.str).set i (D.str W[j])) (.int (j : Int)) (D.str W[i]) e S = .ok e (S.set n (.lst (((W.map D.str).set i (D.str W[j])).set j (D.str W[i])))) := fun e S n => putAt_ok rfl (by rw [List.length_set, List.length_map]; exact hj)
  simp [-List.all_eq_true, -List.any_eq_true, -List.map_tail, -List.drop_one, -List.map_drop, -List.map_reverse, -List.map_map, -List.map_append, -List.map_take, -List.filterMap_map, -getElem?_pos, -Int.neg_ofNat_le_natCast, ii, ij, pa, sa0, sa1, sa2, sa3, ss0, ss1, ss2, ss3, stake, pb]
  rw [← List.map_set, ← List.map_set]
  obtain ⟨d1, d2, d3⟩ := sL_at hl
  obtain ⟨w1, w2, w3⟩ := sL_at (List.getElem?_eq_getElem hi)
  have hwi : W[i].length ≤ l.length := split_mem (c := 32) (by rw [hW']; exact List.getElem_mem hi)
  have sLL : sL L = x.length + 1 := hsum.symm
  have sLW : sL W = l.length + 1 := wsum.symm
  have sV := sL_swap hi hj
  have k1 : cutD (L.map D.str) none (some (n : Int)) = (L.take n).map .str := cutTo
  have k2 : cutD (L.map D.str) (some ((n : Int) + 1)) none = (L.drop (n + 1)).map .str := by rw [List.map_drop]; exact cutFromN (n := n + 1)
  have k3 : cutD (L.map D.str) (some (n : Int)) none = (L.drop n).map .str := by rw [List.map_drop]; exact cutFromN
  have k4 : cutD (L.map D.str) none (some ((n : Int) + 1)) = (L.take (n + 1)).map .str := cutTo (n := n + 1)
  have m1 : cutD (W.map D.str) none (some (i : Int)) = (W.take i).map .str := cutTo
  have m2 : cutD (W.map D.str) (some ((i : Int) + 1)) none = (W.drop (i + 1)).map .str := by rw [List.map_drop]; exact cutFromN (n := i + 1)
  have m3 : cutD (W.map D.str) (some (i : Int)) none = (W.drop i).map .str := by rw [List.map_drop]; exact cutFromN
  have m4 : cutD (W.map D.str) none (some ((i : Int) + 1)) = (W.take (i + 1)).map .str := cutTo (n := i + 1)
  rw [k1, k2, k3, k4, m1, m2, m3, m4]
  have lt1 : (L.take n).length ≤ L.length := by rw [List.length_take]; omega
  have lt2 : (L.take (n + 1)).length ≤ L.length := by rw [List.length_take]; omega
  have ld1 : (L.drop n).length ≤ L.length := by rw [List.length_drop]; omega
  have ld2 : (L.drop (n + 1)).length ≤ L.length := by rw [List.length_drop]; omega
  have wt1 : (W.take i).length ≤ W.length := by rw [List.length_take]; omega
  have wt2 : (W.take (i + 1)).length ≤ W.length := by rw [List.length_take]; omega
  have wd1 : (W.drop i).length ≤ W.length := by rw [List.length_drop]; omega
  have wd2 : (W.drop (i + 1)).length ≤ W.length := by rw [List.length_drop]; omega
  simp only [List.length_map]
  refine ⟨by omega, by omega, by omega, by omega, by omega, ?_⟩
  obtain ⟨V, hV⟩ : ∃ V, V = (W.set i W[j]).set j W[i] := ⟨_, rfl⟩
  rw [← hV] at sV ⊢
  obtain ⟨R1, hR1⟩ : ∃ R1, R1 = W.take (i + 1) ++ W.drop i := ⟨_, rfl⟩
  obtain ⟨R2, hR2⟩ : ∃ R2, R2 = W.take i ++ W.drop (i + 1) := ⟨_, rfl⟩
  have sR1 : sL R1 ≤ l.length + 1 + (M + 1) := by
    rw [hR1, w2, sL_app, sL_app, w1, sL_cons, sL_cons, sL_nil]
    omega
  have sR2 : sL R2 ≤ l.length + 1 + (M + 1) := by
    rw [hR2, sL_app]
    omega
  have f1 : (W.take (i + 1)).map D.str ++ (W.drop i).map .str = R1.map .str := by rw [hR1, List.map_append]
  have f2 : (W.take i).map D.str ++ (W.drop (i + 1)).map .str = R2.map .str := by rw [hR2, List.map_append]
  rw [f1, f2]
  obtain ⟨Ls, hLs, sLs⟩ : ∃ Ls : List (List Str), [D.lst ((L.take n).map D.str ++ (L.drop (n + 1)).map .str), D.lst ((L.take (n + 1)).map .str ++ (L.drop n).map .str), D.lst ((L.drop n).map .str ++ (L.take n).map .str)] = Ls.map ll2 ∧ (∀ Li ∈ Ls, sL Li ≤ x.length + 1 + (M + 1)) ∧ Ls.length = 3 := by
    refine ⟨[L.take n ++ L.drop (n + 1), L.take (n + 1) ++ L.drop n, L.drop n ++ L.take n], ?_, ?_, rfl⟩
    · simp [ll2]
    · intro Li hLi
      simp only [List.mem_cons, List.not_mem_nil, or_false] at hLi
      rcases hLi with rfl | rfl | rfl
      · rw [sL_app]; omega
      · rw [d2, sL_app, sL_app, d1, sL_cons, sL_cons, sL_nil]; omega
      · rw [sL_app, d1, sL_cons]; omega
  rw [hLs]
  obtain ⟨fR, hfR⟩ : ∃ fR : Option (List Str) → D, fR = fun o => match o with | some r => .lst (r.map .str) | none => .ref S3.length := ⟨_, rfl⟩
  have e3 : [D.lst (R1.map .str), D.lst (R2.map .str), D.ref S3.length] = [some R1, some R2, none].map fR := by rw [hfR]; rfl
  rw [e3]
  refine wpS_for (α := Option (List Str)) (f := fR) (fun pre e S' => ∃ Ls : List (List Str), (∀ Li ∈ Ls, sL Li ≤ x.length + 1 + (M + 1)) ∧ Ls.length = 3 + pre.length ∧ S' = S3 ++ [.lst (V.map .str), .lst (Ls.map ll2)] ∧ ∃ z9, e = [some (.ref p), some (.str x), some (.lst (L.map .str)), some (.int (n : Int)), some (.lst (W.map .str)), some (.int (i : Int)), some (.int (j : Int)), some (.ref S3.length), some (.ref (S3.length + 1)), z9]) ?_ ?_ ?_
  · exact ⟨Ls, sLs.1, sLs.2, rfl, _, rfl⟩
  · rintro pre o post e S4 ho ⟨Ls, h1, h2, rfl, z9, rfl⟩
    have om : o ∈ [some R1, some R2, none] := by rw [ho]; simp
    have plen : pre.length < 3 := by
      have := congrArg List.length ho
      simp at this
      omega
    have one : ∀ (R : List Str) (S : Store), sL R ≤ l.length + 1 + (M + 1) → mJoin (.str (Str.ofString " ")) [.lst (R.map .str)] S = .ok (.str (Txt.join (Str.ofString " ") R)) S := fun R S hR => by
      have := sL_len R
      rw [o_join, if_pos (by rw [hb]; omega)]
    obtain ⟨J, jn, jl⟩ : ∃ J, mJoin (.str (Str.ofString " ")) [fR o] (S3 ++ [.lst (V.map .str), .lst (Ls.map ll2)]) = .ok (.str J) (S3 ++ [.lst (V.map .str), .lst (Ls.map ll2)]) ∧ J.length + 1 ≤ l.length + 1 + (M + 1) := by
      have jl : ∀ R : List Str, sL R ≤ l.length + 1 + (M + 1) → (Txt.join (Str.ofString " ") R).length + 1 ≤ l.length + 1 + (M + 1) := fun R hR => by
        have : (Txt.join (Str.ofString " ") R).length + 1 ≤ max 1 (sL R) := joinS_len
        omega
      simp only [List.mem_cons, List.not_mem_nil, or_false] at om
      rcases om with rfl | rfl | rfl
      · rw [hfR]
        exact ⟨_, one R1 _ sR1, jl R1 sR1⟩
      · rw [hfR]
        exact ⟨_, one R2 _ sR2, jl R2 sR2⟩
      · rw [hfR]
        have hs : (S3 ++ [MO.lst (V.map .str), MO.lst (Ls.map ll2)])[S3.length]? = some (.lst (V.map .str)) := sa0 rfl
        refine ⟨_, ?_, jl V (by rw [sV]; omega)⟩
        have := one V (S3 ++ [MO.lst (V.map .str), MO.lst (Ls.map ll2)]) (by rw [sV]; omega)
        show mJoin (.str (Str.ofString " ")) [.ref S3.length] _ = _
        rw [← this]
        have e1 : sq (S3 ++ [MO.lst (V.map D.str), MO.lst (Ls.map ll2)]) (.ref S3.length) = some (V.map .str) := sq_ref hs
        show (match sq (S3 ++ [MO.lst (V.map D.str), MO.lst (Ls.map ll2)]) (.ref S3.length) with
          | some ds => _
          | none => _) = _
        rw [e1]
        rfl
    have fa : ∀ (a b : List Str) (S : Store), a.length + b.length ≤ 16777216 → dAdd' false (.lst (a.map .str)) (.lst (b.map .str)) S = .ok (.lst ((a ++ b).map .str)) S := fun a b S h => by
      rw [List.map_append]
      exact if_pos (fit_le.mpr (by rw [List.length_map, List.length_map]; exact h))
    have g1 : ∀ S : Store, dAdd' false (.lst ((L.take n).map .str)) (.lst [.str J]) S = .ok (.lst ((L.take n ++ [J]).map .str)) S := fun S => fa (L.take n) [J] S (by simp only [List.length_singleton]; omega)
    have g2 : ∀ S : Store, dAdd' false (.lst ((L.take n ++ [J]).map .str)) (.lst ((L.drop (n + 1)).map .str)) S = .ok (.lst ((L.take n ++ [J] ++ L.drop (n + 1)).map .str)) S := fun S => fa (L.take n ++ [J]) (L.drop (n + 1)) S (by rw [List.length_append, List.length_singleton]; omega)
    have n1 : ∀ S : Store, dSl false (.lst (L.map .str)) none (some (n : Int)) S = .ok (.lst ((L.take n).map .str)) S := fun S => by rw [dSl_lst, k1]; rfl
    have n2 : ∀ S : Store, dSl false (.lst (L.map .str)) (some ((n : Int) + 1)) none S = .ok (.lst ((L.drop (n + 1)).map .str)) S := fun S => by rw [dSl_lst, k2]; rfl
    have lsl : Ls.length ≤ 16777215 := by omega
    simp [-List.all_eq_true, -List.any_eq_true, -List.map_tail, -List.drop_one, -List.map_drop, -List.map_reverse, -List.map_map, -List.map_append, -List.map_take, -List.filterMap_map, -getElem?_pos, -Int.neg_ofNat_le_natCast, jn, n1, n2, g1, g2, sa0, sa1, sa2, sa3, ss0, ss1, ss2, ss3, stake, lsl]
    refine ⟨by omega, by omega, Ls ++ [L.take n ++ [J] ++ L.drop (n + 1)], fun Li hLi => ?_, ?_, ?_⟩
    · rcases List.mem_append.mp hLi with h | h
      · exact h1 Li h
      · rw [List.mem_singleton.mp h, sL_app, sL_app, sL_cons, sL_nil]
        omega
    · rw [List.length_append, List.length_singleton]
      omega
    · rw [List.map_append, List.map_cons, List.map_nil]
      unfold ll2
      simp
  · rintro e S4 ⟨Ls, h1, h2, rfl, z9, rfl⟩
    have st := (s1.trans s2).trans s3
    have g : Grow p S (S3 ++ [.lst (V.map .str), .lst (Ls.map ll2)]) := by
      have := (st.grow.push (.lst (V.map .str))).push (.lst (Ls.map ll2))
      rw [List.append_assoc] at this
      exact this
    have pl := hp.lt
    simp [-List.all_eq_true, -List.any_eq_true, -List.map_tail, -List.drop_one, -List.map_drop, -List.map_reverse, -List.map_map, -List.map_append, -List.map_take, -List.filterMap_map, -getElem?_pos, -Int.neg_ofNat_le_natCast, sa0, sa1, sa2, sa3, ss0, ss1, ss2, ss3, stake]
    have h6 : Ls.length = 6 := by simpa using h2
    refine take_wp g.pot (by omega) (by omega) fun r S5 s5 p5 r0 r1 => ?_
    have h5 : S5[S3.length + 1]? = some (.lst (Ls.map ll2)) := by
      rw [s5.other _ (by have := st.len; omega)]
      exact sa1 rfl
    simp [-List.all_eq_true, -List.any_eq_true, -List.map_tail, -List.drop_one, -List.map_drop, -List.map_reverse, -List.map_map, -List.map_append, -List.map_take, -List.filterMap_map, -getElem?_pos, -Int.neg_ofNat_le_natCast, h5]
    refine pick_q (ds := Ls.map ll2) r0 (by rw [List.length_map]; exact r1) fun d hd => ?_
    obtain ⟨Li, hLi, rfl⟩ := List.mem_map.mp hd
    have b1 := h1 Li hLi
    have b2 := sL_len Li
    have jn : ∀ S : Store, mJoin (.str (Str.ofString "\n")) [ll2 Li] S = .ok (.str (Txt.join (Str.ofString "\n") Li)) S := fun S => by
      unfold ll2
      rw [o_join, if_pos (by rw [hn]; omega)]
    have jl : (Txt.join (Str.ofString "\n") Li).length + 1 ≤ max 1 (sL Li) := joinS_len
    simp [-List.all_eq_true, -List.any_eq_true, -List.map_tail, -List.drop_one, -List.map_drop, -List.map_reverse, -List.map_map, -List.map_append, -List.map_take, -List.filterMap_map, -getElem?_pos, -Int.neg_ofNat_le_natCast, jn]
    exact wp_cut (g.step s5) pl rfl fun S6 s6 => k _ S6 s6 (by omega)
theorem spoilt_wp {S : Store} {p M : Nat} {x : Str} {Q : D → Store → Prop} {X : Xc → Store → Prop} (hp : PotS S p) (hl : x.length + M + 2 ≤ 1997) (hM : ∀ l ∈ Txt.split x nl, l.length ≤ M) (mx : M ≤ x.length) (k : ∀ y S', Step p S S' → y.length ≤ 7990 → Q (.str y) S') : @wp _ (f_law_spoilt [.ref p, .str x] S) ⟨Q, X⟩ := by
  rw [u_law_spoilt, wp_gc]
  simp [-List.all_eq_true, -List.any_eq_true, -List.map_tail, -List.drop_one, -List.map_drop, -List.map_reverse, -List.map_map, -List.map_append, -List.map_take, -List.filterMap_map, -getElem?_pos, -Int.neg_ofNat_le_natCast, b_law_spoilt]
  refine take_wp hp (by decide) (by decide) fun r S1 s1 p1 r0 r1 => ?_
  simp [-List.all_eq_true, -List.any_eq_true, -List.map_tail, -List.drop_one, -List.map_drop, -List.map_reverse, -List.map_map, -List.map_append, -List.map_take, -List.filterMap_map, -getElem?_pos, -Int.neg_ofNat_le_natCast]
  refine ⟨by omega, ?_⟩
  refine wpS_for (α := Int) (f := D.int) (fun pre e S' => Step p S S' ∧ ∃ (t : Str) (z2 : Option D), (pre.length = 0 ∧ t = x ∨ 1 ≤ pre.length ∧ t.length + 1 ≤ 1997 * 2 ^ (pre.length - 1)) ∧ e = [some (.ref p), some (.str t), z2]) ?_ ?_ ?_
  · exact ⟨s1, x, _, .inl ⟨rfl, rfl⟩, rfl⟩
  · rintro pre c post e S2 hc ⟨s2, t, z2, ht, rfl⟩
    have pl : pre.length < 3 := by
      have := congrArg List.length hc
      rw [rangeI_len, List.length_append, List.length_cons] at this
      omega
    have two : 1 ≤ pre.length → 2 * (1997 * 2 ^ (pre.length - 1)) = 1997 * 2 ^ (pre.length + 1 - 1) := fun h => by
      obtain ⟨m, hm⟩ : ∃ m, pre.length = m + 1 := ⟨pre.length - 1, by omega⟩
      rw [hm]
      show 2 * (1997 * 2 ^ m) = 1997 * 2 ^ (m + 1)
      rw [Nat.pow_succ]
      omega
    have small : t.length ≤ 100000 := by
      rcases ht with ⟨h0, rfl⟩ | ⟨h1, h2⟩
      · omega
      · have : 2 ^ (pre.length - 1) ≤ 2 ^ 2 := Nat.pow_le_pow_right (by decide) (by omega)
        omega
    have nx : ∀ y : Str, (t = x → y.length ≤ x.length + M + 1) → y.length ≤ 2 * t.length + 1 → y.length + 1 ≤ 1997 * 2 ^ (pre.length + 1 - 1) := fun y h1 h2 => by
      rcases ht with ⟨h0, rfl⟩ | ⟨h3, h4⟩
      · have := h1 rfl
        rw [h0]
        omega
      · rw [← two h3]
        omega
    simp [-List.all_eq_true, -List.any_eq_true, -List.map_tail, -List.drop_one, -List.map_drop, -List.map_reverse, -List.map_map, -List.map_append, -List.map_take, -List.filterMap_map, -getElem?_pos, -Int.neg_ofNat_le_natCast]
    refine take_wp s2.pot (by decide) (by decide) fun w S3 s3 p3 w0 w1 => ?_
    by_cases cw : w = 0
    · simp [-List.all_eq_true, -List.any_eq_true, -List.map_tail, -List.drop_one, -List.map_drop, -List.map_reverse, -List.map_map, -List.map_append, -List.map_take, -List.filterMap_map, -getElem?_pos, -Int.neg_ofNat_le_natCast, cw]
      refine sign_spoilt_wp p3 small fun y S4 s4 hy => ?_
      simp [-List.all_eq_true, -List.any_eq_true, -List.map_tail, -List.drop_one, -List.map_drop, -List.map_reverse, -List.map_map, -List.map_append, -List.map_take, -List.filterMap_map, -getElem?_pos, -Int.neg_ofNat_le_natCast]
      refine ⟨(s2.trans s3).trans s4, ?_⟩
      exact nx y (fun e => by rw [e] at hy; omega) (by omega)
    · simp [-List.all_eq_true, -List.any_eq_true, -List.map_tail, -List.drop_one, -List.map_drop, -List.map_reverse, -List.map_map, -List.map_append, -List.map_take, -List.filterMap_map, -getElem?_pos, -Int.neg_ofNat_le_natCast, cw]
      rcases ht with ⟨h0, rfl⟩ | ⟨h3, h4⟩
      · refine lines_spoilt_wp p3 small hM mx fun y S4 s4 hy => ?_
        simp [-List.all_eq_true, -List.any_eq_true, -List.map_tail, -List.drop_one, -List.map_drop, -List.map_reverse, -List.map_map, -List.map_append, -List.map_take, -List.filterMap_map, -getElem?_pos, -Int.neg_ofNat_le_natCast]
        refine ⟨(s2.trans s3).trans s4, ?_⟩
        exact nx y (fun _ => hy) (by omega)
      · refine lines_spoilt_wp p3 small (M := t.length) (fun l hl => split_mem (c := 10) hl) (Nat.le_refl _) fun y S4 s4 hy => ?_
        simp [-List.all_eq_true, -List.any_eq_true, -List.map_tail, -List.drop_one, -List.map_drop, -List.map_reverse, -List.map_map, -List.map_append, -List.map_take, -List.filterMap_map, -getElem?_pos, -Int.neg_ofNat_le_natCast]
        refine ⟨(s2.trans s3).trans s4, ?_⟩
        have e := two h3
        rw [Nat.add_sub_cancel] at e
        omega
  · rintro e S2 ⟨s2, t, z2, ht, rfl⟩
    simp [-List.all_eq_true, -List.any_eq_true, -List.map_tail, -List.drop_one, -List.map_drop, -List.map_reverse, -List.map_map, -List.map_append, -List.map_take, -List.filterMap_map, -getElem?_pos, -Int.neg_ofNat_le_natCast]
    refine wp_step s2 rfl (k t S2 s2 ?_)
    have rl : (rangeI 0 (1 + r)).length ≤ 3 := by rw [rangeI_len]; omega
    rcases ht with ⟨h0, rfl⟩ | ⟨h1, h2⟩
    · omega
    · have : 2 ^ ((rangeI 0 (1 + r)).length - 1) ≤ 2 ^ 2 := Nat.pow_le_pow_right (by decide) (by omega)
      omega
theorem tree_short {ns : List Str} {rs : List Row} {root : Str} {t : List Str} (h : IsGrown ns root rs t) : t.length + 1 = ns.length := by
  obtain ⟨gs, g1, g2, g3, rfl⟩ := h
  rw [List.length_mergeSort, List.length_map]
  exact g2
theorem wordsS_short {ws : List Str} (W : Words ws) : (wordsS ws).length + 1 ≤ 9 * ws.length := by
  have h := joinL_sum (c := 32) (ws := ws.map cpl) (by simpa using W.ne)
  rw [← wordsS_cpl, cpl_length] at h
  have key : ∀ ws : List Str, (∀ w ∈ ws, w.length ≤ 8) → sumL (ws.map cpl) ≤ 9 * ws.length := by
    intro ws
    induction ws with
    | nil => intro _; exact Nat.le_refl _
    | cons w ws ih =>
      intro k
      have k1 := ih fun v hv => k v (List.mem_cons_of_mem _ hv)
      have k2 := k w List.mem_cons_self
      unfold sumL at *
      rw [List.map_cons, List.map_cons, List.sum_cons, cpl_length, List.length_cons]
      omega
  have := key ws W.short
  omega
theorem textS_short : ∀ {wss : List (List Str)}, (∀ ws ∈ wss, Words ws) → (textS wss).length ≤ 9 * (wss.map List.length).sum
  | [], _ => Nat.le_refl _
  | ws :: wss, h => by
    have ih := textS_short (wss := wss) fun v hv => h v (List.mem_cons_of_mem _ hv)
    have h1 := wordsS_short (h ws List.mem_cons_self)
    have e : cpl (textS (ws :: wss)) = cpl (lineS ws) ++ cpl (textS wss) := by
      rw [textS_cpl, textS_cpl, List.map_cons, List.flatten_cons]
    have e2 := congrArg List.length e
    have e3 := congrArg List.length (lineS_cpl ws)
    rw [← wordsS_cpl, List.length_append] at e3
    rw [List.length_append, cpl_length, cpl_length] at e2
    rw [cpl_length, cpl_length] at e3
    rw [List.map_cons, List.sum_cons]
    simp only [List.length_cons, List.length_nil] at e3
    rw [cpl_length] at e2
    omega
theorem lines_short {wss : List (List Str)} {M : Nat} (h : ∀ ws ∈ wss, Words ws) (hM : ∀ ws ∈ wss, 9 * ws.length ≤ M) : ∀ l ∈ Txt.split (textS wss) nl, l.length ≤ M := by
  intro l hl
  rw [show Txt.split (textS wss) nl = _ from split_text h] at hl
  rcases List.mem_append.mp hl with hl | hl
  · obtain ⟨ws, hw, rfl⟩ := List.mem_map.mp hl
    have := wordsS_short (h ws hw)
    have := hM ws hw
    omega
  · rw [List.mem_singleton.mp hl]
    exact Nat.zero_le _
theorem text_ready {x : Str} {wss : List (List Str)} (hx : x = textS wss) (h : ∀ ws ∈ wss, Words ws) (h1 : ∀ ws ∈ wss, ws.length ≤ 6) (h2 : (wss.map List.length).sum ≤ 166) : ∃ M, x.length + M + 2 ≤ 1997 ∧ (∀ l ∈ Txt.split x nl, l.length ≤ M) ∧ M ≤ x.length := by
  subst hx
  have a := textS_short h
  have b := lines_short (M := 54) h fun ws hw => by have := h1 ws hw; omega
  refine ⟨min 54 (textS wss).length, by omega, fun l hl => ?_, by omega⟩
  have := b l hl
  have := split_mem (c := 10) hl
  omega
theorem short_text {S : Store} {x : Str} (h : x.length ≤ 30) : f_law_agrees [.str x] S = .ok (.bl true) S := agrees_text (by omega)
def menuD : List D := [D.non, D.int 0, D.bl true, D.lst [], D.tup [], D.dct [], D.lst [D.str (Str.ofString "tree")], D.tup [D.str (Str.ofString "places a")], D.str (Str.ofString ""), D.str (Str.ofString "\n"), D.str (Str.ofString " "), D.str (Str.ofString "tree"), D.str (Str.ofString "tree\n"), D.str (Str.ofString "tree \n"), D.str (Str.ofString "places\n"), D.str (Str.ofString "places a\n"), D.str (Str.ofString "places a"), D.str (Str.ofString "places  a\n"), D.str (Str.ofString "places a \n"), D.str (Str.ofString "places a\n\n"), D.str (Str.ofString "\nplaces a\n"), D.str (Str.ofString "tie t a b\n"), D.str (Str.ofString "places a b\ntie t a b\n"), D.str (Str.ofString "places a b\ntie t a a\n"), D.str (Str.ofString "places b a\n"), D.str (Str.ofString "places a a\n"), D.str (Str.ofString "tree a\ntree\n"), D.str (Str.ofString "tree b a\n"), D.str (Str.ofString "tree a a\n")]
theorem menu_ok : ∀ d ∈ menuD, ∀ S : Store, f_law_agrees [d] S = .ok (.bl true) S := by
  unfold menuD
  refine List.forall_mem_cons.mpr ⟨fun S => agrees_other fun S => ⟨_, rfl, by decide⟩, ?_⟩
  refine List.forall_mem_cons.mpr ⟨fun S => agrees_other fun S => ⟨_, rfl, by decide⟩, ?_⟩
  refine List.forall_mem_cons.mpr ⟨fun S => agrees_other fun S => ⟨_, rfl, by decide⟩, ?_⟩
  refine List.forall_mem_cons.mpr ⟨fun S => agrees_other fun S => ⟨_, rfl, by decide⟩, ?_⟩
  refine List.forall_mem_cons.mpr ⟨fun S => agrees_other fun S => ⟨_, rfl, by decide⟩, ?_⟩
  refine List.forall_mem_cons.mpr ⟨fun S => agrees_other fun S => ⟨_, rfl, by decide⟩, ?_⟩
  refine List.forall_mem_cons.mpr ⟨fun S => agrees_other fun S => ⟨_, rfl, by decide⟩, ?_⟩
  refine List.forall_mem_cons.mpr ⟨fun S => agrees_other fun S => ⟨_, rfl, by decide⟩, ?_⟩
  refine List.forall_mem_cons.mpr ⟨fun S => short_text (by decide), ?_⟩
  refine List.forall_mem_cons.mpr ⟨fun S => short_text (by decide), ?_⟩
  refine List.forall_mem_cons.mpr ⟨fun S => short_text (by decide), ?_⟩
  refine List.forall_mem_cons.mpr ⟨fun S => short_text (by decide), ?_⟩
  refine List.forall_mem_cons.mpr ⟨fun S => short_text (by decide), ?_⟩
  refine List.forall_mem_cons.mpr ⟨fun S => short_text (by decide), ?_⟩
  refine List.forall_mem_cons.mpr ⟨fun S => short_text (by decide), ?_⟩
  refine List.forall_mem_cons.mpr ⟨fun S => short_text (by decide), ?_⟩
  refine List.forall_mem_cons.mpr ⟨fun S => short_text (by decide), ?_⟩
  refine List.forall_mem_cons.mpr ⟨fun S => short_text (by decide), ?_⟩
  refine List.forall_mem_cons.mpr ⟨fun S => short_text (by decide), ?_⟩
  refine List.forall_mem_cons.mpr ⟨fun S => short_text (by decide), ?_⟩
  refine List.forall_mem_cons.mpr ⟨fun S => short_text (by decide), ?_⟩
  refine List.forall_mem_cons.mpr ⟨fun S => short_text (by decide), ?_⟩
  refine List.forall_mem_cons.mpr ⟨fun S => short_text (by decide), ?_⟩
  refine List.forall_mem_cons.mpr ⟨fun S => short_text (by decide), ?_⟩
  refine List.forall_mem_cons.mpr ⟨fun S => short_text (by decide), ?_⟩
  refine List.forall_mem_cons.mpr ⟨fun S => short_text (by decide), ?_⟩
  refine List.forall_mem_cons.mpr ⟨fun S => short_text (by decide), ?_⟩
  refine List.forall_mem_cons.mpr ⟨fun S => short_text (by decide), ?_⟩
  refine List.forall_mem_cons.mpr ⟨fun S => short_text (by decide), ?_⟩
  exact fun d hd => nomatch hd
theorem law_true : ∀ ns : List Int, ns.length ≤ 63 → f_law [.scr ns] [] = .ok (.bl true) [] := by
  intro ns hns
  refine wp.eq ?_
  rw [u_law, wp_gc]
  simp [-List.all_eq_true, -List.any_eq_true, -List.map_tail, -List.drop_one, -List.map_drop, -List.map_reverse, -List.map_map, -List.map_append, -List.map_take, -List.filterMap_map, -getElem?_pos, -Int.neg_ofNat_le_natCast, b_law]
  refine ⟨by omega, ?_⟩
  refine wpS_for (α := Int) (f := D.int) (fun _ e S' => ∃ Mn : List D, (∀ d ∈ Mn, ∀ S : Store, f_law_agrees [d] S = .ok (.bl true) S) ∧ 0 < Mn.length ∧ Mn.length ≤ 1000 ∧ ∃ z2 z3 z4 z5 z6 z7 z8, e = [some (.scr ns), some (.lst Mn), z2, z3, z4, z5, z6, z7, z8]) ?_ ?_ ?_
  · exact ⟨menuD, menu_ok, by decide, by decide, _, _, _, _, _, _, _, rfl⟩
  · rintro _ c _ e S1 hx ⟨Mn, mn1, mn2, mn3, z2, z3, z4, z5, z6, z7, z8, rfl⟩
    have hx0 : 0 ≤ c := by
      have : c ∈ rangeI 0 (max 1 (min (ns.length : Int) 8)) := by rw [hx]; simp
      exact (rangeI_mem.mp this).1
    simp [-List.all_eq_true, -List.any_eq_true, -List.map_tail, -List.drop_one, -List.map_drop, -List.map_reverse, -List.map_map, -List.map_append, -List.map_take, -List.filterMap_map, -getElem?_pos, -Int.neg_ofNat_le_natCast]
    refine pot_wp hx0 fun a b a0 b0 b1 => ?_
    have hp : PotS (S1 ++ [MO.lst [D.int a, D.int b]]) S1.length := ⟨a, b, st_at0, a0, b0, b1⟩
    simp [-List.all_eq_true, -List.any_eq_true, -List.map_tail, -List.drop_one, -List.map_drop, -List.map_reverse, -List.map_map, -List.map_append, -List.map_take, -List.filterMap_map, -getElem?_pos, -Int.neg_ofNat_le_natCast]
    refine web_wpB hp (by omega) (by omega) (by omega) (by omega) fun pl rs root trees S2 s2 W w1 w2 w3 w4 w5 => ?_
    have T : TreesOk trees := ⟨by omega, fun t ht => grown_trees W (w4 t ht) (by omega)⟩
    have tf : (trees.map fun t => D.tup (t.map .str)) = trees.map tts := rfl
    have t1 := fun S : Store => law_web_text_ok (S := S) W (show pl.length ≤ 499 by omega)
    have t2 : ∀ S : Store, f_law_trees_text [.lst (trees.map fun t => D.tup (t.map .str))] S = .ok (.str (textS (treeLines trees))) S := fun S => law_trees_text_ok T
    have r1 : ∃ M, (textS (webLines pl rs)).length + M + 2 ≤ 1997 ∧ (∀ l ∈ Txt.split (textS (webLines pl rs)) nl, l.length ≤ M) ∧ M ≤ (textS (webLines pl rs)).length := by
      refine text_ready rfl (webLines_ok W (by omega)) (fun ws hw => ?_) ?_
      · rcases List.mem_cons.mp hw with e | hw
        · rw [e, List.length_cons]; omega
        · obtain ⟨r, _, rfl⟩ := List.mem_map.mp hw
          simp
      · unfold webLines
        rw [List.map_cons, List.sum_cons, List.length_cons, List.map_map]
        have : ∀ rs : List Row, (rs.map (List.length ∘ fun r => [Str.ofString "tie", r.1, r.2.1, r.2.2])).sum = 4 * rs.length := by
          intro rs
          induction rs with
          | nil => rfl
          | cons r rs ih =>
            rw [List.map_cons, List.sum_cons, ih, List.length_cons]
            show 4 + _ = _
            omega
        rw [this]
        omega
    have r2 : ∃ M, (textS (treeLines trees)).length + M + 2 ≤ 1997 ∧ (∀ l ∈ Txt.split (textS (treeLines trees)) nl, l.length ≤ M) ∧ M ≤ (textS (treeLines trees)).length := by
      refine text_ready rfl (treeLines_ok T) (fun ws hw => ?_) ?_
      · obtain ⟨t, ht, rfl⟩ := List.mem_map.mp hw
        have := tree_short (w4 t ht)
        rw [List.length_cons]
        omega
      · have : ∀ ts : List (List Str), (∀ t ∈ ts, t.length ≤ 5) → ((treeLines ts).map List.length).sum ≤ 6 * ts.length := by
          intro ts
          induction ts with
          | nil => intro _; exact Nat.le_refl _
          | cons t ts ih =>
            intro h
            have h1 := ih fun u hu => h u (List.mem_cons_of_mem _ hu)
            have h2 := h t List.mem_cons_self
            unfold treeLines at *
            rw [List.map_cons, List.map_cons, List.sum_cons, List.length_cons, List.length_cons]
            omega
        have := this trees fun t ht => by have := tree_short (w4 t ht); omega
        omega
    have g1 : ∀ S : Store, f_law_agrees [.str (textS (webLines pl rs))] S = .ok (.bl true) S := fun S => agrees_text (by obtain ⟨M, h, _⟩ := r1; omega)
    have g2 : ∀ S : Store, f_law_agrees [.str (textS (treeLines trees))] S = .ok (.bl true) S := fun S => agrees_text (by obtain ⟨M, h, _⟩ := r2; omega)
    simp [-List.all_eq_true, -List.any_eq_true, -List.map_tail, -List.drop_one, -List.map_drop, -List.map_reverse, -List.map_map, -List.map_append, -List.map_take, -List.filterMap_map, -getElem?_pos, -Int.neg_ofNat_le_natCast, t1, t2]
    generalize textS (webLines pl rs) = x1 at *
    generalize textS (treeLines trees) = x2 at *
    refine wpS_for (α := Int) (f := D.int) (fun _ e S' => Step S1.length S2 S' ∧ ∃ z2 z4 z5 z6 z8, e = [some (.scr ns), some (.lst Mn), z2, some (.ref S1.length), z4, z5, z6, some (.lst [.str x1, .str x2]), z8]) ?_ ?_ ?_
    · exact ⟨Step.refl s2.pot, _, _, _, _, _, rfl⟩
    · rintro _ v _ e S3 _ ⟨s3, y2, y4, y5, y6, y8, rfl⟩
      simp [-List.all_eq_true, -List.any_eq_true, -List.map_tail, -List.drop_one, -List.map_drop, -List.map_reverse, -List.map_map, -List.map_append, -List.map_take, -List.filterMap_map, -getElem?_pos, -Int.neg_ofNat_le_natCast]
      refine take_wp s3.pot (by decide) (by decide) fun r S4 s4 p4 q0 q1 => ?_
      refine pick_s (ds := [.str x1, .str x2]) q0 (by show r < 2; exact q1) fun d hd => ?_
      simp only [List.mem_cons, List.not_mem_nil, or_false] at hd
      rcases hd with rfl | rfl
      · obtain ⟨M, m1, m2, m3⟩ := r1
        simp [-List.all_eq_true, -List.any_eq_true, -List.map_tail, -List.drop_one, -List.map_drop, -List.map_reverse, -List.map_map, -List.map_append, -List.map_take, -List.filterMap_map, -getElem?_pos, -Int.neg_ofNat_le_natCast]
        refine spoilt_wp p4 m1 m2 m3 fun y S5 s5 hy => ?_
        have ag := fun S : Store => agrees_text (S := S) hy
        simp [-List.all_eq_true, -List.any_eq_true, -List.map_tail, -List.drop_one, -List.map_drop, -List.map_reverse, -List.map_map, -List.map_append, -List.map_take, -List.filterMap_map, -getElem?_pos, -Int.neg_ofNat_le_natCast, ag]
        exact (s3.trans s4).trans s5
      · obtain ⟨M, m1, m2, m3⟩ := r2
        simp [-List.all_eq_true, -List.any_eq_true, -List.map_tail, -List.drop_one, -List.map_drop, -List.map_reverse, -List.map_map, -List.map_append, -List.map_take, -List.filterMap_map, -getElem?_pos, -Int.neg_ofNat_le_natCast]
        refine spoilt_wp p4 m1 m2 m3 fun y S5 s5 hy => ?_
        have ag := fun S : Store => agrees_text (S := S) hy
        simp [-List.all_eq_true, -List.any_eq_true, -List.map_tail, -List.drop_one, -List.map_drop, -List.map_reverse, -List.map_map, -List.map_append, -List.map_take, -List.filterMap_map, -getElem?_pos, -Int.neg_ofNat_le_natCast, ag]
        exact (s3.trans s4).trans s5
    · rintro e S3 ⟨s3, y2, y4, y5, y6, y8, rfl⟩
      simp [-List.all_eq_true, -List.any_eq_true, -List.map_tail, -List.drop_one, -List.map_drop, -List.map_reverse, -List.map_map, -List.map_append, -List.map_take, -List.filterMap_map, -getElem?_pos, -Int.neg_ofNat_le_natCast, g1, g2]
      refine take_wp s3.pot (by omega) (by omega) fun r S4 s4 p4 q0 q1 => ?_
      refine pick_s (ds := Mn) q0 q1 fun d hd => ?_
      have ag := mn1 d hd
      simp [-List.all_eq_true, -List.any_eq_true, -List.map_tail, -List.drop_one, -List.map_drop, -List.map_reverse, -List.map_map, -List.map_append, -List.map_take, -List.filterMap_map, -getElem?_pos, -Int.neg_ofNat_le_natCast, ag]
      exact ⟨Mn, mn1, mn2, mn3, rfl⟩
  · rintro e S1 ⟨Mn, mn1, mn2, mn3, z2, z3, z4, z5, z6, z7, z8, rfl⟩
    simp [-List.all_eq_true, -List.any_eq_true, -List.map_tail, -List.drop_one, -List.map_drop, -List.map_reverse, -List.map_map, -List.map_append, -List.map_take, -List.filterMap_map, -getElem?_pos, -Int.neg_ofNat_le_natCast]
    refine wp_low ⟨Nat.zero_le _, fun i m m' h => by simp at h⟩ (by simp [-List.all_eq_true, -List.any_eq_true, -List.map_tail, -List.drop_one, -List.map_drop, -List.map_reverse, -List.map_map, -List.map_append, -List.map_take, -List.filterMap_map, -getElem?_pos, -Int.neg_ofNat_le_natCast]) ?_
    simp [-List.all_eq_true, -List.any_eq_true, -List.map_tail, -List.drop_one, -List.map_drop, -List.map_reverse, -List.map_map, -List.map_append, -List.map_take, -List.filterMap_map, -getElem?_pos, -Int.neg_ofNat_le_natCast]
end FL

open PySem PySem.W PySem.Spec PyProof.Rows
set_option maxHeartbeats 0 in
theorem PySem.Challenge.cw_rootshares_k16_texts_refused_holds : PySem.Challenge.rw_rootshares_k16_texts_refused.Holds := by
  w_on; o_law; k_head; (case hw => w_witness2)
  k_fill
  refine FL.walkG (l := PySem.Challenge.rw_rootshares_k16_texts_refused) (k := 7) (x := "_law_script") (F := fun _ _ => FL.f_law) rfl (by decide) rfl ⟨rfl, by decide, by decide⟩ (fun w h Y => PySem.W.kIn_of Y) ?F
  case F =>
    intro w mg fa h KX G hmg
    refine' FL.mk_all (l := PySem.Challenge.rw_rootshares_k16_texts_refused) FL.law_true KX G hmg ?a0 ?l0 ?c0 ?k0 ?a1 ?l1 ?c1 ?k1 ?a2 ?l2 ?c2 ?k2 ?a3 ?l3 ?c3 ?k3 ?a4 ?l4 ?c4 ?k4 ?a5 ?l5 ?c5 ?k5 ?a6 ?l6 ?c6 ?k6 ?a7 ?l7 ?c7 ?k7 ?a8 ?l8 ?c8 ?k8 ?a9 ?l9 ?c9 ?k9 ?a10 ?l10 ?c10 ?k10 ?a11 ?l11 ?c11 ?k11 ?a12 ?l12 ?c12 ?k12 ?a13 ?l13 ?c13 ?k13 ?a14 ?l14 ?c14 ?k14 ?a15 ?l15 ?c15 ?k15 ?a16 ?l16 ?c16 ?k16 ?a17 ?l17 ?c17 ?k17 ?a18 ?l18 ?c18 ?k18 ?a19 ?l19 ?c19 ?k19 ?a20 ?l20 ?c20 ?k20 ?a21 ?l21 ?c21 ?k21 ?a22 ?l22 ?c22 ?k22 ?a23 ?l23 ?c23 ?k23 ?a24 ?l24 ?c24 ?k24 ?a25 ?l25 ?c25 ?k25 ?a26 ?l26 ?c26 ?k26 ?a27 ?l27 ?c27 ?k27 ?u0 ?u1 ?u2 ?u3 ?u4 ?z0 ?z1 ?z2 ?z3 ?z4 ?z5 ?z6 ?z7 ?z8 ?z9 ?z10 ?z11 ?z12 ?z13 ?z14 ?xn0 ?xk0 ?xb0 ?xt0 ?xd0 ?xn1 ?xk1 ?xb1 ?xt1 ?xd1 ?xn2 ?xk2 ?xb2 ?xt2 ?xd2 ?xn3 ?xk3 ?xb3 ?xt3 ?xd3 ?xn4 ?xk4 ?xb4 ?xt4 ?xd4 ?xn5 ?xk5 ?xb5 ?xt5 ?xd5 ?xn6 ?xk6 ?xb6 ?xt6 ?xd6 ?xn7 ?xk7 ?xb7 ?xt7 ?xd7 ?xn8 ?xk8 ?xb8 ?xt8 ?xd8 ?xn9 ?xk9 ?xb9 ?xt9 ?xd9 ?xn10 ?xk10 ?xb10 ?xt10 ?xd10 ?xn11 ?xk11 ?xb11 ?xt11 ?xd11 ?xq0 ?ya0 ?yb0 ?yc0 ?ym0 ?yv0 ?ys0 ?yp ?yt ?xx0_1 ?xx0_2 ?xx0_3 ?xx0_4 ?xx0_5 ?xx0_6 ?xx0_7 ?xx0_8 ?xx0_9 ?xx0_10 ?xx0_11 ?xx0_0
    (case a0 => k_is); (case l0 => k_is); (case c0 => k_is); (case k0 => k_is); (case a1 => k_is); (case l1 => k_is); (case c1 => k_is); (case k1 => k_is); (case a2 => k_is); (case l2 => k_is); (case c2 => k_is); (case k2 => k_is); (case a3 => k_is); (case l3 => k_is); (case c3 => k_is); (case k3 => k_is); (case a4 => k_is); (case l4 => k_is); (case c4 => k_is); (case k4 => k_is); (case a5 => k_is); (case l5 => k_is); (case c5 => k_is); (case k5 => k_is); (case a6 => k_is); (case l6 => k_is); (case c6 => k_is); (case k6 => k_is); (case a7 => k_is); (case l7 => k_is); (case c7 => k_is); (case k7 => k_is); (case a8 => k_is); (case l8 => k_is); (case c8 => k_is); (case k8 => k_is); (case a9 => k_is); (case l9 => k_is); (case c9 => k_is); (case k9 => k_is); (case a10 => k_is); (case l10 => k_is); (case c10 => k_is); (case k10 => k_is); (case a11 => k_is); (case l11 => k_is); (case c11 => k_is); (case k11 => k_is); (case a12 => k_is); (case l12 => k_is); (case c12 => k_is); (case k12 => k_is); (case a13 => k_is); (case l13 => k_is); (case c13 => k_is); (case k13 => k_is); (case a14 => k_is); (case l14 => k_is); (case c14 => k_is); (case k14 => k_is); (case a15 => k_is); (case l15 => k_is); (case c15 => k_is); (case k15 => k_is); (case a16 => k_is); (case l16 => k_is); (case c16 => k_is); (case k16 => k_is); (case a17 => k_is); (case l17 => k_is); (case c17 => k_is); (case k17 => k_is); (case a18 => k_is); (case l18 => k_is); (case c18 => k_is); (case k18 => k_is); (case a19 => k_is); (case l19 => k_is); (case c19 => k_is); (case k19 => k_is); (case a20 => k_is); (case l20 => k_is); (case c20 => k_is); (case k20 => k_is); (case a21 => k_is); (case l21 => k_is); (case c21 => k_is); (case k21 => k_is); (case a22 => k_is); (case l22 => k_is); (case c22 => k_is); (case k22 => k_is); (case a23 => k_is); (case l23 => k_is); (case c23 => k_is); (case k23 => k_is); (case a24 => k_is); (case l24 => k_is); (case c24 => k_is); (case k24 => k_is); (case a25 => k_is); (case l25 => k_is); (case c25 => k_is); (case k25 => k_is); (case a26 => k_is); (case l26 => k_is); (case c26 => k_is); (case k26 => k_is); (case a27 => k_is); (case l27 => k_is); (case c27 => k_is); (case k27 => k_is); (case u0 => k_is); (case u1 => k_is); (case u2 => k_is); (case u3 => k_is); (case u4 => k_is); (case z0 => k_is); (case z1 => k_is); (case z2 => k_is); (case z3 => k_is); (case z4 => k_is); (case z5 => k_is); (case z6 => k_is); (case z7 => k_is); (case z8 => k_is); (case z9 => k_is); (case z10 => k_is); (case z11 => k_is); (case z12 => k_is); (case z13 => k_is); (case z14 => k_is); (case xn0 => k_is); (case xk0 => k_is); (case xb0 => k_is); (case xt0 => k_is); (case xd0 => k_is); (case xn1 => k_is); (case xk1 => k_is); (case xb1 => k_is); (case xt1 => k_is); (case xd1 => k_is); (case xn2 => k_is); (case xk2 => k_is); (case xb2 => k_is); (case xt2 => k_is); (case xd2 => k_is); (case xn3 => k_is); (case xk3 => k_is); (case xb3 => k_is); (case xt3 => k_is); (case xd3 => k_is); (case xn4 => k_is); (case xk4 => k_is); (case xb4 => k_is); (case xt4 => k_is); (case xd4 => k_is); (case xn5 => k_is); (case xk5 => k_is); (case xb5 => k_is); (case xt5 => k_is); (case xd5 => k_is); (case xn6 => k_is); (case xk6 => k_is); (case xb6 => k_is); (case xt6 => k_is); (case xd6 => k_is); (case xn7 => k_is); (case xk7 => k_is); (case xb7 => k_is); (case xt7 => k_is); (case xd7 => k_is); (case xn8 => k_is); (case xk8 => k_is); (case xb8 => k_is); (case xt8 => k_is); (case xd8 => k_is); (case xn9 => k_is); (case xk9 => k_is); (case xb9 => k_is); (case xt9 => k_is); (case xd9 => k_is); (case xn10 => k_is); (case xk10 => k_is); (case xb10 => k_is); (case xt10 => k_is); (case xd10 => k_is); (case xn11 => k_is); (case xk11 => k_is); (case xb11 => k_is); (case xt11 => k_is); (case xd11 => k_is); (case xq0 => k_exc); (case ya0 => k_is); (case yb0 => k_is); (case yc0 => k_is); (case ym0 => k_is); (case yv0 => k_is); (case ys0 => k_is); (case yp => k_is); (case yt => k_is); (case xx0_1 => k_is); (case xx0_2 => k_is); (case xx0_3 => k_is); (case xx0_4 => k_is); (case xx0_5 => k_is); (case xx0_6 => k_is); (case xx0_7 => k_is); (case xx0_8 => k_is); (case xx0_9 => k_is); (case xx0_10 => k_is); (case xx0_11 => k_is); (case xx0_0 => k_is)
